import PyProof.Rows.All
import Wide.All
import OpenK.AllK
import Wide.FinOn
import HandS.ForMost
import PyProof.P3Statements
import PyProof.ReprReads
import PyProof.EqLayable
import PySem.Builtin.Str.Common
import KE.LtData
import HandS.Base
import HandS.Call
import HandS.List
import HandS.Dict
import HandS.Iter
import HandS.Words
import HandS.Comp
import HandS.Wide
import HandS.Style
import HandS.TupAny
import HandS.Text
import HandS.Deep
import PyProof.P3In
import KE.DataCmp
import KE.KDictPairs
import KE.KDictCopyH
import KE.KSortTupG
import HandS.More
import HandS.TupLen
import HandS.Conv
import HandS.Sort
import HandS.DictTup
import KE.SortCalls
import KE.KDictSum
import HandS.IsInst
import PyProof.ReprRoads
import HandS.Walk
import HandS.Replace
import HandS.Strs
import HandS.Zip
import KE.KDictZip
import KE.GoesZip
import KE.GoesEnum
import KE.GoesMore
import KE.GoesEnumKw
import HandS.DictComp
import HandS.ListItems
import KE.KItemsList
import HandS.Defaults
import HandS.Ends
import HandS.Codes
import PyProof.P3Eq
import PySem.Challenge.RW_slackweb_k54_needless_ties
set_option Elab.async false
set_option linter.all false
set_option maxRecDepth 100000
set_option maxHeartbeats 4000000
/-! DxA: data, a small heap, syntax and its meaning by a function -/
namespace Dx
open PySem

inductive D where
  | non | bl (b : Bool) | int (i : Int) | str (s : Str)
  | tup (xs : List D) | lst (xs : List D) | dct (t : Bool) (kvs : List (D × D))
  | ref (n : Nat) | scr (ns : List Int) | nms (ns : List Str)
deriving Inhabited

mutual
def D.beq : D → D → Bool
  | .non, .non => true
  | .bl a, .bl b => a == b
  | .int a, .int b => a == b
  | .str a, .str b => decide (a = b)
  | .tup a, .tup b => D.beqL a b
  | .lst a, .lst b => D.beqL a b
  | .dct t a, .dct u b => t == u && D.beqP a b
  | .ref a, .ref b => a == b
  | .scr a, .scr b => decide (a = b)
  | .nms a, .nms b => decide (a = b)
  | _, _ => false
def D.beqL : List D → List D → Bool
  | [], [] => true
  | a :: r, b :: r' => D.beq a b && D.beqL r r'
  | _, _ => false
def D.beqP : List (D × D) → List (D × D) → Bool
  | [], [] => true
  | (a, b) :: r, (c, d) :: r' => D.beq a c && D.beq b d && D.beqP r r'
  | _, _ => false
end
mutual
theorem D.beq_refl : ∀ d : D, D.beq d d = true
  | .non => by simp [D.beq]
  | .bl _ => by simp [D.beq]
  | .int _ => by simp [D.beq]
  | .str _ => by simp [D.beq]
  | .tup xs => by simp [D.beq, D.beqL_refl xs]
  | .lst xs => by simp [D.beq, D.beqL_refl xs]
  | .dct t xs => by simp [D.beq, D.beqP_refl xs]
  | .ref _ => by simp [D.beq]
  | .scr _ => by simp [D.beq]
  | .nms _ => by simp [D.beq]
theorem D.beqL_refl : ∀ d : List D, D.beqL d d = true
  | [] => by simp [D.beqL]
  | a :: r => by simp [D.beqL, D.beq_refl a, D.beqL_refl r]
theorem D.beqP_refl : ∀ d : List (D × D), D.beqP d d = true
  | [] => by simp [D.beqP]
  | (a, b) :: r => by simp [D.beqP, D.beq_refl a, D.beq_refl b, D.beqP_refl r]
end
mutual
theorem D.eq_of_beq : ∀ a b : D, D.beq a b = true → a = b
  | .non, b, h => by cases b <;> simp_all [D.beq]
  | .bl _, b, h => by cases b <;> simp_all [D.beq]
  | .int _, b, h => by cases b <;> simp_all [D.beq]
  | .str _, b, h => by cases b <;> simp_all [D.beq]
  | .tup xs, b, h => by
    cases b <;> simp [D.beq] at h
    rw [D.eq_of_beqL _ _ h]
  | .lst xs, b, h => by
    cases b <;> simp [D.beq] at h
    rw [D.eq_of_beqL _ _ h]
  | .dct t xs, b, h => by
    cases b <;> simp [D.beq] at h
    rw [h.1, D.eq_of_beqP _ _ h.2]
  | .ref _, b, h => by cases b <;> simp_all [D.beq]
  | .scr _, b, h => by cases b <;> simp_all [D.beq]
  | .nms _, b, h => by cases b <;> simp_all [D.beq]
theorem D.eq_of_beqL : ∀ a b : List D, D.beqL a b = true → a = b
  | [], b, h => by cases b <;> simp_all [D.beqL]
  | a :: r, b, h => by
    cases b with
    | nil => simp [D.beqL] at h
    | cons c q =>
      simp [D.beqL] at h
      rw [D.eq_of_beq _ _ h.1, D.eq_of_beqL _ _ h.2]
theorem D.eq_of_beqP : ∀ a b : List (D × D), D.beqP a b = true → a = b
  | [], b, h => by cases b <;> simp_all [D.beqP]
  | (a, a') :: r, b, h => by
    cases b with
    | nil => simp [D.beqP] at h
    | cons c q =>
      obtain ⟨c1, c2⟩ := c
      simp [D.beqP] at h
      rw [D.eq_of_beq _ _ h.1.1, D.eq_of_beq _ _ h.1.2, D.eq_of_beqP _ _ h.2]
end
instance : BEq D := ⟨D.beq⟩
instance : LawfulBEq D where
  rfl := D.beq_refl _
  eq_of_beq := D.eq_of_beq _ _
instance : DecidableEq D := fun a b =>
  if h : D.beq a b = true then isTrue (D.eq_of_beq _ _ h) else isFalse fun e => h (e ▸ D.beq_refl a)

mutual
/-- all references lie below k -/
def D.und (k : Nat) : D → Bool
  | .tup xs => D.undL k xs
  | .lst xs => D.undL k xs
  | .dct _ xs => D.undP k xs
  | .ref n => decide (n < k)
  | .non | .bl _ | .int _ | .str _ | .scr _ | .nms _ => true
def D.undL (k : Nat) : List D → Bool
  | [] => true
  | a :: r => D.und k a && D.undL k r
def D.undP (k : Nat) : List (D × D) → Bool
  | [] => true
  | (a, b) :: r => D.und k a && D.und k b && D.undP k r
end
mutual
/-- the data as the library's -/
def D.py : D → PyData
  | .non => .none
  | .bl b => .bool b
  | .int i => .int i
  | .str s => .str s
  | .tup xs => .tuple (D.pyL xs)
  | .lst xs => .list (D.pyL xs)
  | .dct _ _ => .none
  | .ref _ => .none
  | .scr _ => .none
  | .nms ns => .tuple (ns.map .str)
def D.pyL : List D → List PyData
  | [] => []
  | a :: r => D.py a :: D.pyL r
end
mutual
/-- no reference, no dict within -/
def D.flat : D → Bool
  | .tup xs => D.flatL xs
  | .lst xs => D.flatL xs
  | .dct _ _ => false
  | .ref _ => false
  | .scr _ => false
  | .non | .bl _ | .int _ | .str _ | .nms _ => true
def D.flatL : List D → Bool
  | [] => true
  | a :: r => D.flat a && D.flatL r
end

/-- an object -/
inductive O where
  | lst (xs : List D) | dct (t : Bool) (kvs : List (D × D)) | ins (c : Nat) (fs : List (Nat × D)) | dead
deriving DecidableEq
abbrev Hd := List O
def O.und (k : Nat) : O → Bool
  | .lst xs => D.undL k xs
  | .dct _ kvs => D.undP k kvs
  | .ins _ fs => fs.all fun p => D.und k p.2
  | .dead => true

/-- an outcome -/
inductive R (α : Type) where
  | ok (a : α) (m : Hd) | exc (c : Nat) (fs : List (Nat × D)) (m : Hd) | no
def R.bind {α β : Type} (r : R α) (f : α → Hd → R β) : R β :=
  match r with
  | .ok a m => f a m
  | .exc c fs m => .exc c fs m
  | .no => .no
@[simp] theorem R.bind_ok {α β : Type} (a : α) (m : Hd) (f : α → Hd → R β) : (R.ok a m).bind f = f a m := rfl
@[simp] theorem R.bind_exc {α β : Type} (c fs m) (f : α → Hd → R β) : (R.exc c fs m : R α).bind f = .exc c fs m := rfl
@[simp] theorem R.bind_no {α β : Type} (f : α → Hd → R β) : (R.no : R α).bind f = .no := rfl
def ifs {α : Type} (b : Bool) (r : R α) : R α := if b then r else .no
@[simp] theorem ifs_true {α : Type} (r : R α) : ifs true r = r := rfl
@[simp] theorem ifs_false {α : Type} (r : R α) : ifs false r = .no := rfl

def optB {α : Type} (o : Option α) (m : Hd) : R α := match o with
  | some a => .ok a m
  | none => .no
@[simp] theorem optB_some {α : Type} (a : α) (m : Hd) : optB (some a) m = .ok a m := rfl
@[simp] theorem optB_none {α : Type} (m : Hd) : optB (none : Option α) m = .no := rfl

/-! ### reading -/
/-- the items of a list or tuple -/
def sq (m : Hd) : D → Option (List D)
  | .scr ns => some (ns.map .int)
  | .nms ns => some (ns.map .str)
  | .tup xs => some xs
  | .lst xs => some xs
  | .ref n => match m[n]? with
    | some (.lst xs) => some xs
    | _ => none
  | _ => none
/-- a list as a value -/
def fz (m : Hd) : D → D
  | .ref n => match m[n]? with
    | some (.lst xs) => .lst xs
    | _ => .ref n
  | d => d
/-- the pairs of a dict -/
def dq (m : Hd) : D → Option (Bool × List (D × D))
  | .dct t kvs => some (t, kvs)
  | .ref n => match m[n]? with
    | some (.dct t kvs) => some (t, kvs)
    | _ => none
  | _ => none
/-- what is walked of a value: a list, a tuple, a text by its signs, a dict that stays by its keys -/
def wq (m : Hd) : D → Option (List D)
  | .str s => if s.length ≤ sizeLine then some (s.cps.toList.map fun c => .str ⟨#[c]⟩) else none
  | .dct _ kvs => some (kvs.map (·.1))
  | d => sq m d
def mkL (b : Bool) (xs : List D) (m : Hd) : R D := if b then .ok (.ref m.length) (m ++ [.lst xs]) else .ok (.lst xs) m

/-- a key: an int or a text; of a tuple-keyed dict a tuple of these -/
def isK : D → Bool
  | .int _ => true
  | .str _ => true
  | _ => false
def keyOk (t : Bool) : D → Bool
  | .tup xs => t && xs.all isK
  | d => !t && isK d
def find (kvs : List (D × D)) (k : D) : Option D := (kvs.find? fun p => D.beq p.1 k).map (·.2)
def put (kvs : List (D × D)) (k v : D) : List (D × D) :=
  if kvs.any fun p => D.beq p.1 k then kvs.map fun p => if D.beq p.1 k then (p.1, v) else p else kvs ++ [(k, v)]

/-! ### operators -/
inductive Bop where
  | add | sub | mul | fdiv | mod | pow
deriving DecidableEq
inductive Cop where
  | eq | ne | lt | le | gt | ge | is | isnot | isin | notin
deriving DecidableEq
def small (i : Int) : Bool := decide (-(2 ^ 64) < i ∧ i < 2 ^ 64)

def addD (b : Bool) (x y : D) (m : Hd) : R D :=
  match x, y with
  | .int i, .int j => .ok (.int (i + j)) m
  | .str s, .str t => ifs (decide (s.length + t.length ≤ sizeLine)) (.ok (.str (s ++ t)) m)
  | .tup s, .tup t => ifs (decide (s.length + t.length ≤ sizeLine)) (.ok (.tup (s ++ t)) m)
  | .nms s, .tup t => ifs (decide (s.length + t.length ≤ sizeLine) && !t.isEmpty) (.ok (.tup (s.map .str ++ t)) m)
  | .nms s, .nms t => ifs (decide (s.length + t.length ≤ sizeLine) && !s.isEmpty && !t.isEmpty) (.ok (.tup (s.map .str ++ t.map .str)) m)
  | x, y => match fz m x, fz m y with
    | .lst s, .lst t => ifs (decide (s.length + t.length ≤ sizeLine)) (mkL b (s ++ t) m)
    | _, _ => .no
def repS (s : Str) (k : Nat) : Str := ⟨(List.replicate k s.cps.toList).flatten.toArray⟩
def mulD (b : Bool) (x y : D) (m : Hd) : R D :=
  match x, y with
  | .int i, .int j => ifs (small i || small j) (.ok (.int (i * j)) m)
  | .str s, .int k => ifs (decide (0 ≤ k) && decide (k < 2 ^ 60) && decide (s.length * k.toNat ≤ 1000000)) (.ok (.str (repS s k.toNat)) m)
  | x, .int k => match fz m x with
    | .lst s => ifs (decide (-(2 ^ 63) ≤ k) && decide (k < 2 ^ 63) && decide (s.length * k.toNat ≤ sizeLine)) (mkL b (List.replicate k.toNat s).flatten m)
    | _ => .no
  | _, _ => .no
def bopD (b : Bool) (o : Bop) (x y : D) (m : Hd) : R D :=
  match o with
  | .add => addD b x y m
  | .mul => mulD b x y m
  | .sub => match x, y with
    | .int i, .int j => .ok (.int (i - j)) m
    | _, _ => .no
  | .fdiv => match x, y with
    | .int i, .int j => ifs (decide (0 < j) && small j) (.ok (.int (i / j)) m)
    | _, _ => .no
  | .mod => match x, y with
    | .int i, .int j => ifs (decide (0 < j)) (.ok (.int (i % j)) m)
    | _, _ => .no
  | .pow => match x, y with
    | .int i, .int j => ifs (decide (0 ≤ j) && decide (j ≤ 1000000) && small i) (.ok (.int (i ^ j.toNat)) m)
    | _, _ => .no

/-- == -/
def eqF (m : Hd) (x y : D) : Option Bool :=
  let a := fz m x
  let b := fz m y
  if D.flat a && D.flat b && SeqAt.shaped (D.py a) && SeqAt.shaped (D.py b) then some (PyData.eqv (D.py a) (D.py b)) else none
def eqD (m : Hd) (x y : D) : Option Bool := match x, y with
  | .str s, .str t => some (decide (s = t))
  | x, y => eqF m x y
/-- x == a flat item -/
def flat1 : D → Bool
  | .non | .bl _ | .int _ | .str _ => true
  | _ => false
def memD (x : D) (xs : List D) : Option Bool :=
  if D.flat x && SeqAt.shaped (D.py x) && D.flatL xs && PyData.canLayAll0 (D.pyL xs) then some ((D.pyL xs).any fun y => PyData.eqv y (D.py x)) else none
def inD (m : Hd) (x y : D) : Option Bool :=
  match y with
  | .str t => match x with
    | .str s => if s.length = 1 then some (decide (s.cps.getD 0 0 ∈ t.cps.toList)) else none
    | _ => none
  | y => match sq m y with
    | some ys => memD x ys
    | none => match dq m y with
      | some (t, kvs) => if keyOk t x then some (find kvs x).isSome else none
      | none => none
def cmpI (o : Cop) (i j : Int) : Option Bool :=
  match o with
  | .lt => some (decide (i < j)) | .le => some (decide (i ≤ j)) | .gt => some (decide (j < i)) | .ge => some (decide (j ≤ i)) | _ => none
/-- data other than numbers, place by place -/
def okG (a b : D) : Bool := D.flat a && D.flat b && PySem.W.alike (D.py a) (D.py b) && (match a with | .non => false | _ => true) && decide ((D.py a).depth ≤ 60)
def ordG (o : Cop) (p q : PyData) : Option Bool := match o with
  | .lt => some (PySem.W.dataLt p q) | .le => some (!PySem.W.dataLt q p) | .gt => some (PySem.W.dataLt q p) | .ge => some (!PySem.W.dataLt p q) | _ => none
def cmpG (m : Hd) (o : Cop) (x y : D) : Option Bool := if okG (fz m x) (fz m y) then ordG o (D.py (fz m x)) (D.py (fz m y)) else none
theorem okG_inv {a b : D} (h : okG a b = true) : D.flat a = true ∧ D.flat b = true ∧ PySem.W.alike (D.py a) (D.py b) = true ∧ D.py a ≠ .none ∧ (D.py a).depth ≤ 60 := by
  unfold okG at h
  simp only [Bool.and_eq_true, decide_eq_true_eq] at h
  obtain ⟨⟨⟨⟨c1, c2⟩, c3⟩, c4⟩, c5⟩ := h
  refine ⟨c1, c2, c3, ?_, c5⟩
  cases a with
  | non => cases c4
  | dct t kvs => cases c1
  | ref n => cases c1
  | scr ns => cases c1
  | nms ns => unfold D.py; intro z; cases z
  | _ => unfold D.py; intro z; cases z
theorem cmpG_inv {m : Hd} {o : Cop} {d e : D} {k : Bool} (h : cmpG m o d e = some k) : okG (fz m d) (fz m e) = true ∧ ordG o (D.py (fz m d)) (D.py (fz m e)) = some k := by
  unfold cmpG at h
  split at h
  next c => exact ⟨c, h⟩
  next => cases h
def cmpD (m : Hd) (o : Cop) (x y : D) : Option Bool :=
  match o with
  | .eq => eqD m x y
  | .ne => (eqD m x y).map (!·)
  | .is => match y with
    | .non => some (match x with | .non => true | _ => false)
    | .bl b => match x with
      | .bl c => some (c == b)
      | _ => none
    | _ => none
  | .isnot => match y with
    | .non => some (match x with | .non => false | _ => true)
    | .bl b => match x with
      | .bl c => some (!(c == b))
      | _ => none
    | _ => none
  | .isin => inD m x y
  | .notin => (inD m x y).map (!·)
  | o => match x, y with
    | .int i, .int j => cmpI o i j
    | x, y => cmpG m o x y
def truD (m : Hd) (x : D) : Option Bool :=
  match x with
  | .non => some false
  | .bl b => some b
  | .int i => some (i != 0)
  | .str s => if s.length ≤ sizeLine then some ((s.length : Int) != 0) else none
  | x => (sq m x).map fun xs => !xs.isEmpty
def ixNat (n : Nat) (i : Int) : Option Nat := if 0 ≤ i then (if i < n then some i.toNat else none) else if -(n : Int) ≤ i then some (i + n).toNat else none
def getD (m : Hd) (x y : D) : Option D :=
  match sq m x with
  | some xs => match y with
    | .int i => (ixNat xs.length i).bind fun j => xs[j]?
    | _ => none
  | none => match x with
    | .str s => match y with
      | .int i => if s.length ≤ sizeLine then ((ixNat s.cps.toList.length i).bind fun j => s.cps.toList[j]?).map fun c => .str ⟨#[c]⟩ else none
      | _ => none
    | x => match dq m x with
      | some (t, kvs) => if keyOk t y then find kvs y else none
      | none => none
/-- a slice's bound as a place among n -/
def sIx (n d : Nat) : Option Int → Nat
  | none => d
  | some v => if v < 0 then (v + (n : Int)).toNat else min v.toNat n
def cut {α : Type} (xs : List α) (lo hi : Option Int) : List α := (xs.drop (sIx xs.length 0 lo)).take (sIx xs.length xs.length hi - sIx xs.length 0 lo)
def part (a : Bool) (d : D) : Option (Option Int) := if a then some none else match d with
  | .int i => some (some i)
  | _ => none
def slD (b : Bool) (x : D) (lo hi : Option Int) (m : Hd) : R D :=
  match x with
  | .tup xs => .ok (.tup (cut xs lo hi)) m
  | .nms xs => if sIx xs.length 0 lo = 0 ∧ sIx xs.length xs.length hi = xs.length then .ok (.nms xs) m else .ok (.tup (cut (xs.map .str) lo hi)) m
  | .str s => ifs (decide (s.length ≤ sizeLine)) (.ok (.str ⟨(cut s.cps.toList lo hi).toArray⟩) m)
  | x => match sq m x with
    | some xs => mkL b (cut xs lo hi) m
    | none => .no
def revD (b : Bool) (x : D) (m : Hd) : R D :=
  match sq m x, x with
  | _, .tup _ => .no
  | _, .nms _ => .no
  | some xs, _ => mkL b xs.reverse m
  | _, _ => .no
def setD (x y v : D) (m : Hd) : R Unit :=
  match x with
  | .ref n => match m[n]? with
    | some (.lst xs) => match y with
      | .int i => match ixNat xs.length i with
        | some j => .ok () (m.set n (.lst (xs.set j v)))
        | none => .no
      | _ => .no
    | some (.dct t kvs) => ifs (keyOk t y && decide (kvs.length < sizeLine)) (.ok () (m.set n (.dct t (put kvs y v))))
    | _ => .no
  | _ => .no

/-! ### built-in functions -/
def newD (t : Bool) (kvs : List (D × D)) (m : Hd) : R D := .ok (.ref m.length) (m ++ [.dct t kvs])
inductive Ty where
  | int | str | bool | tuple | list | dict
deriving DecidableEq
def tyOf (m : Hd) : D → Option String
  | .non => some "NoneType" | .bl _ => some "bool" | .int _ => some "int" | .str _ => some "str" | .tup _ => some "tuple" | .lst _ => some "list" | .scr _ => some "list" | .nms _ => some "tuple"
  | .dct _ _ => none
  | .ref n => match m[n]? with
    | some (.lst _) => some "list"
    | some (.dct _ _) => some "dict"
    | _ => none
def Ty.name : Ty → String
  | .int => "int" | .str => "str" | .bool => "bool" | .tuple => "tuple" | .list => "list" | .dict => "dict"
def isTy (m : Hd) (d : D) (t : Ty) : Option Bool := (tyOf m d).map fun n => n == t.name || (n == "bool" && t.name == "int")
/-- the items of a list -/
def lq (m : Hd) (d : D) : Option (List D) := match d with
  | .tup _ => none
  | .nms _ => none
  | d => sq m d
inductive Bi where
  | len | max2 | min2 | abs | int | repr | list (b : Bool) | tuple | ntup | isinst (t : Ty) | all | any | sum | str | maxL | minL
  | dict (t : Bool) | sorted (b : Bool) | setlen
deriving DecidableEq
def intsOf : List D → Option (List Int)
  | [] => some []
  | .int i :: r => (intsOf r).map (i :: ·)
  | _ :: _ => none
def strsOf : List D → Option (List Str)
  | [] => some []
  | .str i :: r => (strsOf r).map (i :: ·)
  | _ :: _ => none
def blsOf : List D → Option (List Bool)
  | [] => some []
  | .bl i :: r => (blsOf r).map (i :: ·)
  | _ :: _ => none
/-- the pairs of a dict made of pairs -/
def pairsD (t : Bool) : List D → List (D × D) → Option (List (D × D))
  | [], acc => some acc
  | .tup [k, v] :: r, acc => if keyOk t k then pairsD t r (put acc k v) else none
  | _ :: _, _ => none
/-- the order of texts, of ints, of pairs of texts -/
def strLt (a b : Str) : Bool := decide (a.cps.toList < b.cps.toList)
def prD : D → Option (Str × Str)
  | .tup [.str a, .str b] => some (a, b)
  | _ => none
def ltPr (p q : Str × Str) : Bool := if p.1 = q.1 then strLt p.2 q.2 else strLt p.1 q.1
def lePr (p q : Str × Str) : Bool := !ltPr q p
/-- pairs of texts -/
def sortable (xs : List D) : Bool := xs.all fun x => (prD x).isSome
def sortD (xs : List D) : List D := ((xs.filterMap prD).mergeSort lePr).map fun p => .tup [.str p.1, .str p.2]
def lenD (m : Hd) (x : D) : Option Nat :=
  match x with
  | .str s => if s.length ≤ sizeLine then some s.length else none
  | x => match sq m x with
    | some xs => some xs.length
    | none => match dq m x with
      | some (_, kvs) => some kvs.length
      | none => none
def reprG (x : D) (m : Hd) : R D :=
  let d := fz m x
  ifs (D.flat d && (match d with | .tup _ => true | .lst _ => true | .nms _ => true | _ => false) && (D.py d).showable && decide ((D.py d).depth ≤ 64) && decide ((D.py d).shown.length ≤ sizeLine)) (.ok (.str (D.py d).shown) m)
def reprD (x : D) (m : Hd) : R D := match x with
  | .bl b => .ok (.str (if b then "True" else "False")) m
  | .non => .ok (.str "None") m
  | .int i => ifs (decide (i.natAbs.log2 < 1920)) (.ok (.str (toString i)) m)
  | .str s => ifs (decide ((reprText s).length ≤ sizeLine)) (.ok (.str (reprText s)) m)
  | x => reprG x m
def biD (f : Bi) (xs : List D) (m : Hd) : R D :=
  match f, xs with
  | .len, [x] => match lenD m x with
    | some n => .ok (.int n) m
    | none => .no
  | .max2, [.int i, .int j] => .ok (.int (if j > i then j else i)) m
  | .min2, [.int i, .int j] => .ok (.int (if j < i then j else i)) m
  | .abs, [.int i] => .ok (.int (if i < 0 then -i else i)) m
  | .int, [.int i] => .ok (.int i) m
  | .int, [.bl b] => .ok (.int (if b then 1 else 0)) m
  | .repr, [x] => reprD x m
  | .list b, [x] => match dq m x with
    | some (_, kvs) => mkL b (kvs.map (·.1)) m
    | none => match sq m x with
      | some xs => mkL b xs m
      | none => .no
  | .tuple, [.nms ns] => .ok (.nms ns) m
  | .tuple, [x] => match sq m x with
    | some xs => .ok (.tup xs) m
    | none => .no
  | .ntup, [.nms ns] => .ok (.nms ns) m
  | .ntup, [x] => match (lq m x).bind strsOf with
    | some ns => .ok (.nms ns) m
    | none => .no
  | .isinst t, [x] => optB ((isTy m x t).map .bl) m
  | .all, [x] => match (lq m x).bind blsOf with
    | some bs => .ok (.bl (bs.all id)) m
    | none => .no
  | .any, [x] => match (lq m x).bind blsOf with
    | some bs => .ok (.bl (bs.any id)) m
    | none => .no
  | .sum, [x] => match (lq m x).bind intsOf with
    | some ns => .ok (.int ns.sum) m
    | none => .no
  | .str, [.int i] => ifs (decide (i.natAbs.log2 < 1920)) (.ok (.str (toString i)) m)
  | .maxL, [x] => match (lq m x).bind intsOf with
    | some (n :: ns) => .ok (.int (ns.foldl max n)) m
    | _ => .no
  | .minL, [x] => match (lq m x).bind intsOf with
    | some (n :: ns) => .ok (.int (ns.foldl min n)) m
    | _ => .no
  | .dict t, [x] => match dq m x with
    | some (u, kvs) => ifs (!u && !t) (newD t kvs m)
    | none => match (lq m x).bind fun xs => if xs.length < sizeLine then pairsD t xs [] else none with
      | some kvs => newD t kvs m
      | none => .no
  | .sorted b, [x] => match dq m x with
    | some (_, kvs) => ifs (sortable (kvs.map (·.1)) && decide (kvs.length ≤ 1000)) (mkL b (sortD (kvs.map (·.1))) m)
    | none => match lq m x with
      | some xs => ifs (sortable xs && decide (xs.length ≤ 1000)) (mkL b (sortD xs) m)
      | none => .no
  | .setlen, [x] => match sq m x with
    | some xs => ifs (xs.all isK && decide (xs.length ≤ 1000)) (.ok (.int (xs.foldl (fun acc y => if acc.any (D.beq y) then acc else acc ++ [y]) []).length) m)
    | none => .no
  | _, _ => .no

/-! ### methods of built-in types -/
inductive Mt where
  | append | extend | pop | clear | get1 | get2 | join | split | sindex | tindex | popi | update
deriving DecidableEq
/-- the receiver's kind -/
def mtTy (m : Hd) (d : D) (f : Mt) : Bool := match fz m d with
  | .lst _ => (match f with | .append | .extend | .pop | .clear | .popi => true | _ => false)
  | .str _ => (match f with | .join | .split | .sindex => true | _ => false)
  | .nms _ => (match f with | .tindex => true | _ => false)
  | _ => match dq m d with
    | some _ => (match f with | .get1 | .get2 | .update => true | _ => false)
    | none => false
/-- the parts of a text between a sign -/
def splitL (c : Nat) : List Nat → List Nat → List (List Nat)
  | acc, [] => [acc]
  | acc, d :: r => if d = c then acc :: splitL c [] r else splitL c (acc ++ [d]) r
def joinS (y : Str) : List Str → Str
  | [] => ⟨#[]⟩
  | [x] => x
  | x :: r => x ++ y ++ joinS y r
def lenSum : List Str → Nat
  | [] => 0
  | x :: r => x.length + lenSum r
def putAll (kvs : List (D × D)) : List (D × D) → List (D × D)
  | [] => kvs
  | (k, v) :: r => putAll (put kvs k v) r
def mtD (f : Mt) (x : D) (xs : List D) (m : Hd) : R D :=
  match f, x, xs with
  | .append, .ref n, [v] => match m[n]? with
    | some (.lst ys) => ifs (decide (ys.length < sizeLine)) (.ok .non (m.set n (.lst (ys ++ [v]))))
    | _ => .no
  | .extend, .ref n, [v] => match m[n]?, fz m v with
    | some (.lst ys), .lst zs => ifs (decide (ys.length + zs.length ≤ sizeLine)) (.ok .non (m.set n (.lst (ys ++ zs))))
    | _, _ => .no
  | .pop, .ref n, [] => match m[n]? with
    | some (.lst ys) => match ys.getLast? with
      | some v => .ok v (m.set n (.lst ys.dropLast))
      | none => .no
    | _ => .no
  | .clear, .ref n, [] => match m[n]? with
    | some (.lst ys) => .ok .non (m.set n (.lst []))
    | _ => .no
  | .get1, x, [k] => match dq m x with
    | some (t, kvs) => ifs (keyOk t k) (.ok ((find kvs k).getD .non) m)
    | none => .no
  | .get2, x, [k, d] => match dq m x with
    | some (t, kvs) => ifs (keyOk t k) (.ok ((find kvs k).getD d) m)
    | none => .no
  | .join, .str y, [x] => match (sq m x).bind strsOf with
    | some ys => ifs (decide (lenSum ys + ys.length * y.length ≤ 1000000)) (.ok (.str (joinS y ys)) m)
    | none => .no
  | .split, .str a, [.str b] => ifs (decide (b.length = 1) && decide (b.cps.getD 0 0 < 256) && decide (a.length ≤ 1000000)) (mkL false ((splitL (b.cps.getD 0 0) [] a.cps.toList).map fun p => .str ⟨p.toArray⟩) m)
  | .sindex, .str a, [.str b] => match Builtin.Str.occurrences a b 0 a.length 1 with
    | i :: _ => .ok (.int (i : Nat)) m
    | [] => .no
  | .tindex, .nms ys, [.str z] => ifs (decide (z ∈ ys)) (.ok (.int (ys.idxOf z : Nat)) m)
  | .popi, .ref n, [.int i] => match m[n]? with
    | some (.lst ys) => ifs (decide (0 ≤ i) && decide (i < 2 ^ 63)) (match ys[i.toNat]? with
      | some v => .ok v (m.set n (.lst (ys.eraseIdx i.toNat)))
      | none => .no)
    | _ => .no
  | .update, .ref n, [x] => match m[n]?, dq m x with
    | some (.dct true kvs), some (true, zs) => ifs (!kvs.isEmpty && decide (x ≠ .ref n) && decide (kvs.length + zs.length < sizeLine)) (.ok .non (m.set n (.dct true (putAll kvs zs))))
    | _, _ => .no
  | _, _, _ => .no

/-! ### small parts -/
def negD (d : D) (m : Hd) : R D := match d with
  | .int i => .ok (.int (-i)) m
  | _ => .no
def notD (d : D) (m : Hd) : R D := match d with
  | .bl b => .ok (.bl (!b)) m
  | _ => .no
def andD (d : D) (m : Hd) (r : Hd → R D) : R D := match d with
  | .bl true => r m
  | .bl false => .ok (.bl false) m
  | _ => .no
def orD (d : D) (m : Hd) (r : Hd → R D) : R D := match d with
  | .bl false => r m
  | .bl true => .ok (.bl true) m
  | _ => .no
/-- a list or dict of one's own is told to stay -/
def fzD (d : D) (m : Hd) : R D := match d with
  | .ref n => match m[n]? with
    | some (.lst xs) => .ok (.lst xs) (m.set n .dead)
    | some (.dct t kvs) => .ok (.dct t kvs) (m.set n .dead)
    | _ => .no
  | d => .ok d m
def varD (s : List (Option D)) (i : Nat) (m : Hd) : R D := match s[i]? with
  | some (some d) => .ok d m
  | _ => .no

/-! ### syntax -/
inductive Tg where
  | name (i : Nat) | tup (ts : List Tg)
mutual
inductive Ex where
  | var (i : Nat)
  | con (d : D)
  | bin (b : Bool) (o : Bop) (x y : Ex)
  | neg (x : Ex)
  | cmp (o : Cop) (x y : Ex)
  | chain (o o' : Cop) (x y z : Ex)
  | and (x y : Ex) | or (x y : Ex) | not (x : Ex)
  | cond (c : Te) (x y : Ex)
  | tup (es : List Ex) | lst (b : Bool) (es : List Ex) | dnew (t : Bool)
  | ix (x y : Ex) | sl (b : Bool) (x lo hi : Ex) | rev (b : Bool) (x : Ex)
  | call (f : Nat) (es : List Ex) (g : List (Nat ⊕ D))
  | bi (f : Bi) (es : List Ex)
  | mt (f : Mt) (x : Ex) (es : List Ex)
  | lc (b : Bool) (own : List Nat) (tg : Tg) (it : Iw) (c : Te) (e : Ex)
  | dc (t : Bool) (own : List Nat) (tg : Tg) (it : Iw) (c : Te) (k v : Ex)
  | lw (b : Bool) (x y : Ex) | stp (b : Bool) (x st : Ex)
  | fz (x : Ex)
inductive Te where
  | cmp (o : Cop) (x y : Ex) | chain (o o' : Cop) (x y z : Ex)
  | and (a b : Te) | or (a b : Te) | not (a : Te)
  | val (x : Ex) | yes
inductive Iw where
  | seq (x : Ex) | rng (lo hi : Ex) | enum (k : Option Ex) (x : Ex) | zip (x y : Ex) | zip3 (x y z : Ex) | items (x : Ex)
end
/-- a target among several -/
inductive Tm where
  | name (i : Nat) | ix (o i : Ex)
inductive Sm where
  | asg (tg : Tg) (e : Ex)
  | asgm (ts : List Tm) (e : Ex)
  | aug (i : Nat) (o : Bop) (e : Ex)
  | setix (o i e : Ex)
  | exp (e : Ex)
  | ret (e : Ex)
  | iff (c : Te) (a b : List Sm)
  | fr (tg : Tg) (it : Iw) (body : List Sm)
  | whl (c : Te) (body : List Sm)
  | pass
  | never

/-! ### meaning -/
abbrev SD := List (Option D)
mutual
def bindTg : Tg → D → SD → Option SD
  | .name i, d, s => some (s.set i (some d))
  | .tup ts, d, s => match d with
    | .tup ds => bindTgs ts ds s
    | _ => none
def bindTgs : List Tg → List D → SD → Option SD
  | [], [], s => some s
  | t :: ts, d :: ds, s => (bindTg t d s).bind fun s' => bindTgs ts ds s'
  | _, _, _ => none
end
def wipeD (s : SD) : List Nat → SD
  | [] => s
  | v :: vs => (wipeD s vs).set v none
/-- the guard of a walk: lists that stay while it goes -/
abbrev Gu := List (Nat × List D)
def guOk (g : Gu) (m : Hd) : Bool := g.all fun p => match m[p.1]? with
  | some (.lst xs) => D.beqL xs p.2
  | _ => false
def guOf (m : Hd) : D → Gu
  | .ref n => match m[n]? with
    | some (.lst xs) => [(n, xs)]
    | _ => []
  | _ => []
def lcGo (g : Gu) (step : D → Hd → R (Option D)) : List D → Hd → R (List D)
  | [], m => ifs (guOk g m) (.ok [] m)
  | d :: ds, m => ifs (guOk g m) ((step d m).bind fun o m1 => (lcGo g step ds m1).bind fun r m2 => .ok (o.toList ++ r) m2)
def lcStep (tg : Tg) (s : SD) (c : SD → Hd → R Bool) (e : SD → Hd → R D) (d : D) (m : Hd) : R (Option D) :=
  (optB (bindTg tg d s) m).bind fun s2 m2 => (c s2 m2).bind fun k m3 => if k then (e s2 m3).bind fun x m4 => .ok (some x) m4 else .ok none m3
def dcGo (t : Bool) (g : Gu) (step : D → Hd → R (Option (D × D))) : List D → List (D × D) → Hd → R (List (D × D))
  | [], acc, m => ifs (guOk g m) (.ok acc m)
  | d :: ds, acc, m => ifs (guOk g m) ((step d m).bind fun o m1 => match o with
    | none => dcGo t g step ds acc m1
    | some kv => ifs (keyOk t kv.1) (dcGo t g step ds (put acc kv.1 kv.2) m1))
def dcStep (tg : Tg) (s : SD) (c : SD → Hd → R Bool) (k v : SD → Hd → R D) (d : D) (m : Hd) : R (Option (D × D)) :=
  (optB (bindTg tg d s) m).bind fun s2 m2 => (c s2 m2).bind fun q m3 => if q then (k s2 m3).bind fun x m4 => (v s2 m4).bind fun y m5 => .ok (some (x, y)) m5 else .ok none m3
/-- xs[::1], xs[::-1] -/
def stpD (b : Bool) (x st : D) (m : Hd) : R D := match x, st with
  | .tup _, _ => .no
  | .nms _, _ => .no
  | x, .int 1 => match sq m x with
    | some xs => mkL b xs m
    | none => .no
  | x, .int (-1) => match sq m x with
    | some xs => mkL b xs.reverse m
    | none => .no
  | _, _ => .no
def rangeD (lo hi : Int) : List D := (List.range (hi - lo).toNat).map fun i => .int (lo + (i : Nat))
def enumD (k : Int) (xs : List D) : List D := xs.zipIdx.map fun p => .tup [.int (k + (p.2 : Nat)), p.1]
def zipD (xs ys : List D) : List D := (xs.zip ys).map fun p => .tup [p.1, p.2]
def zip3D (xs ys zs : List D) : List D := (xs.zip (ys.zip zs)).map fun p => .tup [p.1, p.2.1, p.2.2]
def itemsD (kvs : List (D × D)) : List D := kvs.map fun p => .tup [p.1, p.2]
def dctD : D → Option (List (D × D))
  | .dct _ kvs => some kvs
  | _ => none
def intD : D → Option Int
  | .int i => if -(2 ^ 62) ≤ i ∧ i < 2 ^ 62 then some i else none
  | _ => none
def bigI (i : Int) : Bool := decide (-(2 ^ 62) ≤ i ∧ i < 2 ^ 62)
def rngD (d e : D) (m : Hd) : R (List D × Gu) := match d, e with
  | .int i, .int j => ifs (bigI i && bigI j) (.ok (rangeD i j, []) m)
  | _, _ => .no
/-- a part of a slice that is left out -/
def isAbs : Ex → Bool
  | .con .non => true
  | _ => false
/-- the arguments in the parameters' order -/
def arr (g : List (Nat ⊕ D)) (ds : List D) : Option (List D) := g.mapM fun x => match x with
  | .inl i => ds[i]?
  | .inr d => some d

section
variable (call : Nat → List D → Hd → R D)
mutual
def evE : Ex → SD → Hd → R D
  | .var i, s, m => varD s i m
  | .con d, _, m => .ok d m
  | .bin b o x y, s, m => (evE x s m).bind fun d m1 => (evE y s m1).bind fun e m2 => bopD b o d e m2
  | .neg x, s, m => (evE x s m).bind negD
  | .cmp o x y, s, m => (evE x s m).bind fun d m1 => (evE y s m1).bind fun e m2 => optB ((cmpD m2 o d e).map .bl) m2
  | .chain o o' x y z, s, m => (evE x s m).bind fun d m1 => (evE y s m1).bind fun e m2 => (optB (cmpD m2 o d e) m2).bind fun k m3 =>
      if k then (evE z s m3).bind fun f m4 => optB ((cmpD m4 o' e f).map .bl) m4 else .ok (.bl false) m3
  | .and x y, s, m => (evE x s m).bind fun d m1 => andD d m1 (evE y s)
  | .or x y, s, m => (evE x s m).bind fun d m1 => orD d m1 (evE y s)
  | .not x, s, m => (evE x s m).bind notD
  | .cond c x y, s, m => (evT c s m).bind fun b m1 => if b then evE x s m1 else evE y s m1
  | .tup es, s, m => (evEs es s m).bind fun ds m1 => ifs (decide (ds.length ≤ sizeLine)) (.ok (.tup ds) m1)
  | .lst b es, s, m => (evEs es s m).bind fun ds m1 => ifs (decide (ds.length ≤ sizeLine)) (mkL b ds m1)
  | .dnew t, _, m => .ok (.ref m.length) (m ++ [.dct t []])
  | .ix x y, s, m => (evE x s m).bind fun d m1 => (evE y s m1).bind fun e m2 => optB (getD m2 d e) m2
  | .sl b x lo hi, s, m => (evE x s m).bind fun d m1 => ((evE lo s m1).bind fun l m2 => optB (part (isAbs lo) l) m2).bind fun lo m2 => ((evE hi s m2).bind fun l m3 => optB (part (isAbs hi) l) m3).bind fun hi m3 => slD b d lo hi m3
  | .rev b x, s, m => (evE x s m).bind (revD b)
  | .call f es g, s, m => (evEs es s m).bind fun ds m1 => (optB (arr g ds) m1).bind fun vs m2 => call f vs m2
  | .bi f es, s, m => (evEs es s m).bind (biD f)
  | .mt f x es, s, m => (evE x s m).bind fun d m1 => (ifs (mtTy m1 d f) (.ok () m1)).bind fun _ m1 => (evEs es s m1).bind fun ds m2 => mtD f d ds m2
  | .lc b own tg it c e, s, m => (evI it s m).bind fun p m1 => ifs (decide (p.1.length ≤ sizeLine))
      ((lcGo p.2 (lcStep tg (wipeD s own) (evT c) (evE e)) p.1 m1).bind (mkL b))
  | .dc t own tg it c k v, s, m => (evI it s m).bind fun p m1 => ifs (decide (p.1.length ≤ sizeLine))
      ((dcGo t p.2 (dcStep tg (wipeD s own) (evT c) (evE k) (evE v)) p.1 [] m1).bind (newD t))
  | .lw b x y, s, m => (evE x s m).bind fun d m1 => (evE y s m1).bind fun e m2 => (optB (sq m2 d) m2).bind fun xs m3 => (optB (sq m3 e) m3).bind fun ys m4 =>
      ifs (decide (xs.length ≤ 1000) && decide (ys.length ≤ 1000)) (mkL b (zipD xs ys) m4)
  | .stp b x st, s, m => (evE x s m).bind fun d m1 => (evE st s m1).bind fun e m2 => stpD b d e m2
  | .fz x, s, m => (evE x s m).bind fzD
def evEs : List Ex → SD → Hd → R (List D)
  | [], _, m => .ok [] m
  | e :: es, s, m => (evE e s m).bind fun d m1 => (evEs es s m1).bind fun ds m2 => .ok (d :: ds) m2
def evT : Te → SD → Hd → R Bool
  | .cmp o x y, s, m => (evE x s m).bind fun d m1 => (evE y s m1).bind fun e m2 => optB (cmpD m2 o d e) m2
  | .chain o o' x y z, s, m => (evE x s m).bind fun d m1 => (evE y s m1).bind fun e m2 => (optB (cmpD m2 o d e) m2).bind fun k m3 =>
      if k then (evE z s m3).bind fun f m4 => optB (cmpD m4 o' e f) m4 else .ok false m3
  | .and a b, s, m => (evT a s m).bind fun k m1 => if k then evT b s m1 else .ok false m1
  | .or a b, s, m => (evT a s m).bind fun k m1 => if k then .ok true m1 else evT b s m1
  | .not a, s, m => (evT a s m).bind fun k m1 => .ok (!k) m1
  | .val x, s, m => (evE x s m).bind fun d m1 => optB (truD m1 d) m1
  | .yes, _, m => .ok true m
/-- what is walked: the items, and the lists that stay -/
def evI : Iw → SD → Hd → R (List D × Gu)
  | .seq x, s, m => (evE x s m).bind fun d m1 => (optB (wq m1 d) m1).bind fun xs m2 => .ok (xs, guOf m2 d) m2
  | .rng lo hi, s, m => (evE lo s m).bind fun d m1 => (evE hi s m1).bind fun e m2 => rngD d e m2
  | .enum none x, s, m => (evE x s m).bind fun d m1 => (optB (sq m1 d) m1).bind fun xs m2 => .ok (enumD 0 xs, guOf m2 d) m2
  | .enum (some k) x, s, m => (evE x s m).bind fun d m1 => (evE k s m1).bind fun e m2 => (optB (intD e) m2).bind fun i m3 => (optB (sq m3 d) m3).bind fun xs m4 => .ok (enumD i xs, guOf m4 d) m4
  | .zip x y, s, m => (evE x s m).bind fun d m1 => (evE y s m1).bind fun e m2 => (optB (sq m2 d) m2).bind fun xs m3 => (optB (sq m3 e) m3).bind fun ys m4 =>
      .ok (zipD xs ys, guOf m4 d ++ guOf m4 e) m4
  | .zip3 x y z, s, m => (evE x s m).bind fun d m1 => (evE y s m1).bind fun e m2 => (evE z s m2).bind fun f m3 => (optB (sq m3 d) m3).bind fun xs m4 => (optB (sq m4 e) m4).bind fun ys m5 => (optB (sq m5 f) m5).bind fun zs m6 =>
      .ok (zip3D xs ys zs, guOf m6 d ++ (guOf m6 e ++ guOf m6 f)) m6
  | .items x, s, m => (evE x s m).bind fun d m1 => (optB (dctD d) m1).bind fun kvs m2 => .ok (itemsD kvs, []) m2
end

/-- where a statement leads -/
inductive Fl where
  | next (s : SD) | ret (d : D)
def loopF : Nat := 2 ^ 30
def frTurn (tg : Tg) (body : SD → Hd → R Fl) (go : SD → Hd → R Fl) (d : D) (s : SD) (m : Hd) : R Fl :=
  (optB (bindTg tg d s) m).bind fun s1 m1 => (body s1 m1).bind fun f m2 => match f with
    | .next s2 => go s2 m2
    | .ret d => .ok (.ret d) m2
def frGo (g : Gu) (tg : Tg) (body : SD → Hd → R Fl) : List D → SD → Hd → R Fl
  | [], s, m => ifs (guOk g m) (.ok (.next s) m)
  | d :: ds, s, m => ifs (guOk g m) (frTurn tg body (frGo g tg body ds) d s m)
def whStep (body : SD → Hd → R Fl) (go : SD → Hd → R Fl) (s : SD) (k : Bool) (m : Hd) : R Fl :=
  if k then (body s m).bind fun f m2 => match f with
    | .next s2 => go s2 m2
    | .ret d => .ok (.ret d) m2
  else .ok (.next s) m
def whGo (c : SD → Hd → R Bool) (body : SD → Hd → R Fl) : Nat → SD → Hd → R Fl
  | 0, _, _ => .no
  | n + 1, s, m => (c s m).bind fun k m1 => whStep body (whGo c body n) s k m1
def asgD (t : Tg) (s : SD) (d : D) (m : Hd) : R Fl := match bindTg t d s with
  | some s1 => .ok (.next s1) m
  | none => .no
def seqD (g : SD → Hd → R Fl) (f : Fl) (m : Hd) : R Fl := match f with
  | .next s1 => g s1 m
  | .ret d => .ok (.ret d) m
def bindMs : List Tm → List D → SD → Hd → R SD
  | [], [], s, m => .ok s m
  | .name i :: ts, d :: ds, s, m => bindMs ts ds (s.set i (some d)) m
  | .ix o i :: ts, d :: ds, s, m => (evE call o s m).bind fun x m1 => (evE call i s m1).bind fun y m2 => (setD x y d m2).bind fun _ m3 => bindMs ts ds s m3
  | _, _, _, _ => .no
def asgM (ts : List Tm) (s : SD) (d : D) (m : Hd) : R Fl := match d with
  | .tup ds => (bindMs call ts ds s m).bind fun s1 m1 => .ok (.next s1) m1
  | _ => .no
def augI (o : Bop) (x y : D) (m : Hd) : R D := match x, y with
  | .int _, .int _ => bopD false o x y m
  | _, _ => .no
mutual
def evS : Sm → SD → Hd → R Fl
  | .asg tg e, s, m => (evE call e s m).bind (asgD tg s)
  | .asgm ts e, s, m => (evE call e s m).bind (asgM call ts s)
  | .aug i o e, s, m => (varD s i m).bind fun x m1 => (evE call e s m1).bind fun y m2 => (augI o x y m2).bind fun z m3 => .ok (.next (s.set i (some z))) m3
  | .setix o i e, s, m => (evE call e s m).bind fun v m1 => (evE call o s m1).bind fun x m2 => (evE call i s m2).bind fun y m3 => (setD x y v m3).bind fun _ m4 => .ok (.next s) m4
  | .exp e, s, m => (evE call e s m).bind fun _ m1 => .ok (.next s) m1
  | .ret e, s, m => (evE call e s m).bind fun d m1 => .ok (.ret d) m1
  | .iff c a b, s, m => (evT call c s m).bind fun k m1 => if k then evB a s m1 else evB b s m1
  | .fr tg it body, s, m => (evI call it s m).bind fun p m1 => frGo p.2 tg (evB body) p.1 s m1
  | .whl c body, s, m => whGo (evT call c) (evB body) loopF s m
  | .pass, s, m => .ok (.next s) m
  | .never, _, _ => .no
def evB : List Sm → SD → Hd → R Fl
  | [], s, m => .ok (.next s) m
  | a :: r, s, m => (evS a s m).bind (seqD (evB r))
end
end

/-! ### defs -/
structure Fn where
  slots : Nat
  pars : Nat
  gc : Bool
  body : List Sm
/-- what was laid in the call and is not told is forgotten -/
def keepOk (k : Nat) : Hd → Hd → Bool
  | [], _ => true
  | o :: r, o' :: r' => (decide (o = o') || O.und k o') && keepOk k r r'
  | _ :: _, [] => false
def leave (gc : Bool) (m0 : Hd) (r : R D) : R D :=
  match r with
  | .ok d m => if gc && D.und m0.length d && keepOk m0.length m0 m then .ok d (m.take m0.length) else .ok d m
  | r => r
def runFn (call : Nat → List D → Hd → R D) (f : Fn) (ds : List D) (m : Hd) : R D :=
  if ds.length = f.pars then
    leave f.gc m ((evB call f.body (ds.map some ++ List.replicate (f.slots - f.pars) none) m).bind fun x m1 => match x with
      | .next _ => .ok .non m1
      | .ret d => .ok d m1)
  else .no
abbrev Tb := List (Nat × Fn)
def callN (T : Tb) : Nat → Nat → List D → Hd → R D
  | 0, _, _, _ => .no
  | n + 1, i, ds, m => match T.lookup i with
    | some f => runFn (callN T n) f ds m
    | none => .no
end Dx
/-! DxB: data against the layer's values -/
namespace Dx
open PySem PySem.Spec PyProof.Rows L2
abbrev VS := List (Option V)

structure Lnk where
  K : PySem.W.Frag
  cl : Nat → Addr
  nm : Nat → Str

/-- a list that stays -/
def FrL (K : PySem.W.Frag) (H : Hp) (a : Addr) (xs : List V) : Prop :=
  (∃ o, H a = some (.frz o (.lst xs))) ∨
    ∃ (o : Obj) (its : Array Value) (n : Nat), K.lookup a = some o ∧ o.cls = .type "list" ∧ o.dict = none ∧ o.data = .seq its n ∧ its.size ≤ sizeLine ∧ Vals xs its.toList
theorem FrL.sq {K H a xs} (h : FrL K H a xs) : SqL K H a xs := h.elim (fun h => .inl (.inr h)) .inr

def kD : Key → D
  | .inl i => .int i
  | .inr s => .str s

section
variable (K : PySem.W.Frag) (H : Hp) (ρ : List Addr)
mutual
def Rv : D → V → Prop
  | .non, v => v = .non
  | .bl b, v => v = .bl b
  | .int i, v => v = .int i
  | .str s, v => v = .str s
  | .tup ds, v => ∃ a vs, v = .ref a ∧ H a = some (.tup vs) ∧ RvL ds vs
  | .lst ds, v => ∃ a o vs, v = .ref a ∧ H a = some (.frz o (.lst vs)) ∧ RvL ds vs
  | .dct t kvs, v => ∃ a o, v = .ref a ∧ ((t = false ∧ ∃ ps, H a = some (.frz o (.dK ps)) ∧ RvK kvs ps) ∨ (t = true ∧ ∃ ps, H a = some (.frz o (.dT ps)) ∧ RvT kvs ps))
  | .ref n, v => ∃ a, ρ[n]? = some a ∧ v = .ref a
  | .scr ns, v => ∃ a, v = .ref a ∧ FrL K H a (ns.map V.int)
  | .nms ns, v => ∃ a o, v = .ref a ∧ o.dict = none ∧ H a = some (.frz o (.tup (ns.map V.str)))
def RvL : List D → List V → Prop
  | [], vs => vs = []
  | d :: ds, vs => ∃ v r, vs = v :: r ∧ Rv d v ∧ RvL ds r
def RvK : List (D × D) → List (Key × V) → Prop
  | [], ps => ps = []
  | (d, e) :: r, ps => ∃ k v q, ps = (k, v) :: q ∧ d = kD k ∧ Rv e v ∧ RvK r q
def RvT : List (D × D) → List (List Key × V) → Prop
  | [], ps => ps = []
  | (d, e) :: r, ps => ∃ k v q, ps = (k, v) :: q ∧ d = .tup (k.map kD) ∧ Rv e v ∧ RvT r q
end
end

/-- fields -/
def RvF (L : Lnk) (H : Hp) (ρ : List Addr) : List (Nat × D) → List (Str × V) → Prop
  | [], gs => gs = []
  | (f, d) :: r, gs => ∃ v q, gs = (L.nm f, v) :: q ∧ Rv L.K H ρ d v ∧ RvF L H ρ r q

def OR (L : Lnk) (H : Hp) (ρ : List Addr) (a : Addr) : O → Prop
  | .lst ds => ∃ vs, H a = some (.lst vs) ∧ RvL L.K H ρ ds vs
  | .dct t kvs => (t = false ∧ ∃ ps, H a = some (.dK ps) ∧ RvK L.K H ρ kvs ps) ∨ (t = true ∧ ∃ ps, H a = some (.dT ps) ∧ RvT L.K H ρ kvs ps)
  | .ins c fs => ∃ dx gs, H a = some (.ins (L.cl c) dx gs) ∧ RvF L H ρ fs gs
  | .dead => ∃ o u, H a = some (.frz o u)

structure Sim (L : Lnk) (H : Hp) (ρ : List Addr) (m : Hd) : Prop where
  len : ρ.length = m.length
  nd : ρ.Nodup
  ob : ∀ (n : Nat) (a : Addr) (o : O), ρ[n]? = some a → m[n]? = some o → OR L H ρ a o

structure Ext (H : Hp) (ρ : List Addr) (H' : Hp) (ρ' : List Addr) : Prop where
  pre : ρ <+: ρ'
  new : ∀ a ∈ ρ', a ∈ ρ ∨ H a = none
  tup : ∀ a xs, H a = some (.tup xs) → H' a = some (.tup xs)
  frz : ∀ a o u, H a = some (.frz o u) → H' a = some (.frz o u)
  rest : ∀ a o, H a = some o → a ∉ ρ → H' a = some o

theorem Ext.refl (H : Hp) (ρ : List Addr) : Ext H ρ H ρ := ⟨List.prefix_refl _, fun _ h => .inl h, fun _ _ h => h, fun _ _ _ h => h, fun _ _ h _ => h⟩
theorem Ext.trans {H H1 H2 : Hp} {ρ ρ1 ρ2 : List Addr} (a : Ext H ρ H1 ρ1) (b : Ext H1 ρ1 H2 ρ2) : Ext H ρ H2 ρ2 where
  pre := a.pre.trans b.pre
  new := fun x hx => by
    rcases b.new x hx with h | h
    · exact a.new x h
    · by_cases hm : x ∈ ρ
      · exact .inl hm
      · refine .inr ?_
        cases e : H x with
        | none => rfl
        | some o =>
          have := a.rest x o e hm
          rw [h] at this; cases this
  tup := fun x xs h => b.tup x xs (a.tup x xs h)
  frz := fun x o u h => b.frz x o u (a.frz x o u h)
  rest := fun x o h hn => b.rest x o (a.rest x o h hn) fun hm => by
    rcases a.new x hm with z | z
    · exact hn z
    · rw [h] at z; cases z
theorem get_pre {ρ ρ' : List Addr} (h : ρ <+: ρ') {n : Nat} {a : Addr} (e : ρ[n]? = some a) : ρ'[n]? = some a := by
  obtain ⟨t, rfl⟩ := h
  rw [List.getElem?_append_left (by exact (List.getElem?_eq_some_iff.mp e).1)]
  exact e
theorem Ext.frl {K H ρ H' ρ'} (x : Ext H ρ H' ρ') {a xs} (h : FrL K H a xs) : FrL K H' a xs := h.elim (fun ⟨o, h⟩ => .inl ⟨o, x.frz _ _ _ h⟩) .inr

section
variable {K : PySem.W.Frag} {H H' : Hp} {ρ ρ' : List Addr}
mutual
theorem Rv.mono (pre : ρ <+: ρ') (ht : ∀ a xs, H a = some (.tup xs) → H' a = some (.tup xs)) (hf : ∀ a o u, H a = some (.frz o u) → H' a = some (.frz o u)) : ∀ {d : D} {v : V}, Rv K H ρ d v → Rv K H' ρ' d v
  | .non, _, h => by simpa [Rv] using h
  | .bl _, _, h => by simpa [Rv] using h
  | .int _, _, h => by simpa [Rv] using h
  | .str _, _, h => by simpa [Rv] using h
  | .tup ds, v, h => by
    unfold Rv at h ⊢
    obtain ⟨a, vs, e, q, r⟩ := h
    exact ⟨a, vs, e, ht _ _ q, RvL.mono pre ht hf r⟩
  | .lst ds, v, h => by
    unfold Rv at h ⊢
    obtain ⟨a, o, vs, e, q, r⟩ := h
    exact ⟨a, o, vs, e, hf _ _ _ q, RvL.mono pre ht hf r⟩
  | .dct t kvs, v, h => by
    unfold Rv at h ⊢
    obtain ⟨a, o, e, q⟩ := h
    refine ⟨a, o, e, ?_⟩
    rcases q with ⟨rfl, ps, q, r⟩ | ⟨rfl, ps, q, r⟩
    · exact .inl ⟨rfl, ps, hf _ _ _ q, RvK.mono pre ht hf r⟩
    · exact .inr ⟨rfl, ps, hf _ _ _ q, RvT.mono pre ht hf r⟩
  | .ref n, v, h => by
    unfold Rv at h ⊢
    obtain ⟨a, q, e⟩ := h
    exact ⟨a, get_pre pre q, e⟩
  | .scr ns, v, h => by
    unfold Rv at h ⊢
    obtain ⟨a, e, q⟩ := h
    exact ⟨a, e, q.elim (fun ⟨o, q⟩ => .inl ⟨o, hf _ _ _ q⟩) .inr⟩
  | .nms ns, v, h => by
    unfold Rv at h ⊢
    obtain ⟨a, o, e, d, q⟩ := h
    exact ⟨a, o, e, d, hf _ _ _ q⟩
theorem RvL.mono (pre : ρ <+: ρ') (ht : ∀ a xs, H a = some (.tup xs) → H' a = some (.tup xs)) (hf : ∀ a o u, H a = some (.frz o u) → H' a = some (.frz o u)) : ∀ {d : List D} {v : List V}, RvL K H ρ d v → RvL K H' ρ' d v
  | [], _, h => by simpa [RvL] using h
  | d :: ds, vs, h => by
    unfold RvL at h ⊢
    obtain ⟨v, r, e, q, z⟩ := h
    exact ⟨v, r, e, Rv.mono pre ht hf q, RvL.mono pre ht hf z⟩
theorem RvK.mono (pre : ρ <+: ρ') (ht : ∀ a xs, H a = some (.tup xs) → H' a = some (.tup xs)) (hf : ∀ a o u, H a = some (.frz o u) → H' a = some (.frz o u)) : ∀ {d : List (D × D)} {v : List (Key × V)}, RvK K H ρ d v → RvK K H' ρ' d v
  | [], _, h => by simpa [RvK] using h
  | (d, e) :: ds, vs, h => by
    unfold RvK at h ⊢
    obtain ⟨k, v, r, e, ek, q, z⟩ := h
    exact ⟨k, v, r, e, ek, Rv.mono pre ht hf q, RvK.mono pre ht hf z⟩
theorem RvT.mono (pre : ρ <+: ρ') (ht : ∀ a xs, H a = some (.tup xs) → H' a = some (.tup xs)) (hf : ∀ a o u, H a = some (.frz o u) → H' a = some (.frz o u)) : ∀ {d : List (D × D)} {v : List (List Key × V)}, RvT K H ρ d v → RvT K H' ρ' d v
  | [], _, h => by simpa [RvT] using h
  | (d, e) :: ds, vs, h => by
    unfold RvT at h ⊢
    obtain ⟨k, v, r, e, ek, q, z⟩ := h
    exact ⟨k, v, r, e, ek, Rv.mono pre ht hf q, RvT.mono pre ht hf z⟩
end
theorem Rv.ext {d : D} {v : V} (h : Rv K H ρ d v) (x : Ext H ρ H' ρ') : Rv K H' ρ' d v := Rv.mono x.pre x.tup x.frz h
theorem RvL.ext {d : List D} {v : List V} (h : RvL K H ρ d v) (x : Ext H ρ H' ρ') : RvL K H' ρ' d v := RvL.mono x.pre x.tup x.frz h

/-! ### lists -/
theorem rvl_nil : RvL K H ρ [] [] := by simp [RvL]
theorem rvl_cons {d ds v vs} (h : Rv K H ρ d v) (r : RvL K H ρ ds vs) : RvL K H ρ (d :: ds) (v :: vs) := by
  unfold RvL; exact ⟨v, vs, rfl, h, r⟩
theorem RvL.len : ∀ {ds : List D} {vs : List V}, RvL K H ρ ds vs → ds.length = vs.length
  | [], vs, h => by unfold RvL at h; subst h; rfl
  | d :: ds, vs, h => by
    unfold RvL at h
    obtain ⟨v, r, rfl, _, z⟩ := h
    simp [RvL.len z]
theorem RvL.get : ∀ {ds : List D} {vs : List V} {i : Nat} {d : D}, RvL K H ρ ds vs → ds[i]? = some d → ∃ v, vs[i]? = some v ∧ Rv K H ρ d v
  | [], vs, i, d, h, e => by simp at e
  | d :: ds, vs, 0, x, h, e => by
    unfold RvL at h
    obtain ⟨v, r, rfl, q, z⟩ := h
    simp at e; subst e
    exact ⟨v, rfl, q⟩
  | d :: ds, vs, i + 1, x, h, e => by
    unfold RvL at h
    obtain ⟨v, r, rfl, q, z⟩ := h
    simpa using RvL.get (i := i) z (by simpa using e)
theorem RvL.getV {ds : List D} {vs : List V} {i : Nat} {v : V} (h : RvL K H ρ ds vs) (e : vs[i]? = some v) : ∃ d, ds[i]? = some d ∧ Rv K H ρ d v := by
  have hl := h.len
  have hi : i < ds.length := by rw [hl]; exact (List.getElem?_eq_some_iff.mp e).1
  obtain ⟨v', e', r⟩ := h.get (List.getElem?_eq_getElem hi)
  rw [e] at e'; cases e'
  exact ⟨_, List.getElem?_eq_getElem hi, r⟩
theorem RvL.app : ∀ {ds es : List D} {vs ws : List V}, RvL K H ρ ds vs → RvL K H ρ es ws → RvL K H ρ (ds ++ es) (vs ++ ws)
  | [], es, vs, ws, h, q => by unfold RvL at h; subst h; exact q
  | d :: ds, es, vs, ws, h, q => by
    unfold RvL at h
    obtain ⟨v, r, rfl, z, y⟩ := h
    exact rvl_cons z (RvL.app y q)
theorem RvL.set {d : D} {v : V} (r : Rv K H ρ d v) : ∀ {ds : List D} {vs : List V} (i : Nat), RvL K H ρ ds vs → RvL K H ρ (ds.set i d) (vs.set i v)
  | [], vs, i, h => by unfold RvL at h; subst h; exact rvl_nil
  | e :: ds, vs, 0, h => by
    unfold RvL at h
    obtain ⟨w, q, rfl, z, y⟩ := h
    exact rvl_cons r y
  | e :: ds, vs, i + 1, h => by
    unfold RvL at h
    obtain ⟨w, q, rfl, z, y⟩ := h
    exact rvl_cons z (RvL.set r i y)
theorem RvL.take : ∀ {ds : List D} {vs : List V} (n : Nat), RvL K H ρ ds vs → RvL K H ρ (ds.take n) (vs.take n)
  | _, _, 0, _ => by simpa using rvl_nil
  | [], vs, _ + 1, h => by unfold RvL at h; subst h; exact rvl_nil
  | d :: ds, vs, n + 1, h => by
    unfold RvL at h
    obtain ⟨w, q, rfl, z, y⟩ := h
    exact rvl_cons z (RvL.take n y)
theorem RvL.drop : ∀ {ds : List D} {vs : List V} (n : Nat), RvL K H ρ ds vs → RvL K H ρ (ds.drop n) (vs.drop n)
  | _, _, 0, h => h
  | [], vs, _ + 1, h => by unfold RvL at h; subst h; exact rvl_nil
  | d :: ds, vs, n + 1, h => by
    unfold RvL at h
    obtain ⟨w, q, rfl, z, y⟩ := h
    exact RvL.drop n y
theorem RvL.rev : ∀ {ds : List D} {vs : List V}, RvL K H ρ ds vs → RvL K H ρ ds.reverse vs.reverse
  | [], vs, h => by unfold RvL at h; subst h; exact rvl_nil
  | d :: ds, vs, h => by
    unfold RvL at h
    obtain ⟨w, q, rfl, z, y⟩ := h
    rw [List.reverse_cons, List.reverse_cons]
    exact RvL.app (RvL.rev y) (rvl_cons z rvl_nil)
theorem RvL.rep {ds : List D} {vs : List V} (h : RvL K H ρ ds vs) : ∀ k : Nat, RvL K H ρ (List.replicate k ds).flatten (List.replicate k vs).flatten
  | 0 => rvl_nil
  | k + 1 => by
    rw [List.replicate_succ, List.replicate_succ, List.flatten_cons, List.flatten_cons]
    exact h.app (RvL.rep h k)
theorem RvL.emp {ds : List D} {vs : List V} (h : RvL K H ρ ds vs) : vs.isEmpty = ds.isEmpty := by
  have := h.len
  cases ds <;> cases vs <;> simp_all
theorem RvL.dropLast {ds : List D} {vs : List V} (h : RvL K H ρ ds vs) : RvL K H ρ ds.dropLast vs.dropLast := by
  rw [List.dropLast_eq_take, List.dropLast_eq_take, h.len]
  exact h.take _
end

/-! ### what an object's relation leans on -/
section
variable {L : Lnk} {H H' : Hp} {ρ ρ' : List Addr} {m : Hd}
theorem RvF.mono (pre : ρ <+: ρ') (ht : ∀ a xs, H a = some (.tup xs) → H' a = some (.tup xs)) (hf : ∀ a o u, H a = some (.frz o u) → H' a = some (.frz o u)) : ∀ {fs : List (Nat × D)} {gs : List (Str × V)}, RvF L H ρ fs gs → RvF L H' ρ' fs gs
  | [], _, h => h
  | (f, d) :: r, gs, h => by
    obtain ⟨v, q, e, z, y⟩ := h
    exact ⟨v, q, e, Rv.mono pre ht hf z, RvF.mono pre ht hf y⟩
theorem OR.mono {a : Addr} {o : O} (h : OR L H ρ a o) (pre : ρ <+: ρ') (ht : ∀ a xs, H a = some (.tup xs) → H' a = some (.tup xs)) (hf : ∀ a o u, H a = some (.frz o u) → H' a = some (.frz o u)) (ha : o ≠ .dead → H' a = H a) : OR L H' ρ' a o := by
  cases o with
  | lst ds =>
    obtain ⟨vs, e, r⟩ := h
    exact ⟨vs, (ha (by intro z; cases z)).trans e, RvL.mono pre ht hf r⟩
  | dct t kvs =>
    rcases h with ⟨z, ps, e, r⟩ | ⟨z, ps, e, r⟩
    · exact .inl ⟨z, ps, (ha (by intro z; cases z)).trans e, RvK.mono pre ht hf r⟩
    · exact .inr ⟨z, ps, (ha (by intro z; cases z)).trans e, RvT.mono pre ht hf r⟩
  | ins c fs =>
    obtain ⟨dx, gs, e, r⟩ := h
    exact ⟨dx, gs, (ha (by intro z; cases z)).trans e, RvF.mono pre ht hf r⟩
  | dead =>
    obtain ⟨o, u, e⟩ := h
    exact ⟨o, u, hf _ _ _ e⟩

theorem Sim.get (S : Sim L H ρ m) {n : Nat} {o : O} (e : m[n]? = some o) : ∃ a, ρ[n]? = some a ∧ OR L H ρ a o := by
  have hn : n < ρ.length := by rw [S.len]; exact (List.getElem?_eq_some_iff.mp e).1
  exact ⟨ρ[n], List.getElem?_eq_getElem hn, S.ob n _ o (List.getElem?_eq_getElem hn) e⟩

theorem upd_tup {H : Hp} {p : Addr} {o : HO} (hp : H p = none) {a : Addr} {u : HO} (h : H a = some u) : upd H p o a = some u := by
  rw [upd_ne (ne_of_none h hp)]; exact h
/-- a new thing is laid -/
theorem Ext.laid {p : Addr} {o : HO} (hp : H p = none) : Ext H ρ (upd H p o) ρ := ⟨List.prefix_refl _, fun _ h => .inl h, fun _ _ h => upd_tup hp h, fun _ _ _ h => upd_tup hp h, fun _ _ h _ => upd_tup hp h⟩
/-- things that stand at the known places stay -/
def Stay (L : Lnk) (H H' : Hp) (ρ : List Addr) (m : Hd) : Prop := ∀ (n : Nat) (a : Addr) (o : O), ρ[n]? = some a → m[n]? = some o → o ≠ .dead → H' a = H a
theorem Sim.keep (S : Sim L H ρ m) (ht : ∀ a xs, H a = some (.tup xs) → H' a = some (.tup xs)) (hf : ∀ a o u, H a = some (.frz o u) → H' a = some (.frz o u)) (hs : Stay L H H' ρ m) : Sim L H' ρ m :=
  ⟨S.len, S.nd, fun n a o e1 e2 => (S.ob n a o e1 e2).mono (List.prefix_refl _) ht hf fun hd => hs n a o e1 e2 hd⟩
theorem OR.there {a : Addr} {o : O} (h : OR L H ρ a o) : ∃ u, H a = some u := by
  cases o with
  | lst ds => obtain ⟨vs, e, r⟩ := h; exact ⟨_, e⟩
  | dct t kvs =>
    rcases h with ⟨z, ps, e, r⟩ | ⟨z, ps, e, r⟩
    · exact ⟨_, e⟩
    · exact ⟨_, e⟩
  | ins c fs => obtain ⟨dx, gs, e, r⟩ := h; exact ⟨_, e⟩
  | dead => obtain ⟨o, u, e⟩ := h; exact ⟨_, e⟩
theorem Sim.laid {p : Addr} {o : HO} (S : Sim L H ρ m) (hp : H p = none) : Sim L (upd H p o) ρ m := by
  refine S.keep (fun _ _ h => upd_tup hp h) (fun _ _ _ h => upd_tup hp h) fun n a o' e1 e2 hd => ?_
  obtain ⟨u, e⟩ := (S.ob n a o' e1 e2).there
  exact upd_ne (ne_of_none e hp)
theorem Sim.out {p : Addr} (S : Sim L H ρ m) (hp : H p = none) : p ∉ ρ := fun hm => by
  obtain ⟨n, hn, e⟩ := List.getElem_of_mem hm
  have hl : n < m.length := by rw [← S.len]; exact hn
  obtain ⟨u, q⟩ := (S.ob n p _ (by rw [List.getElem?_eq_getElem hn, e]) (List.getElem?_eq_getElem hl)).there
  rw [hp] at q; cases q
/-- a new object -/
theorem Sim.new {p : Addr} {u : HO} {o : O} (S : Sim L H ρ m) (hp : H p = none) (ho : OR L (upd H p u) (ρ ++ [p]) p o) : Sim L (upd H p u) (ρ ++ [p]) (m ++ [o]) := by
  refine ⟨by simp [S.len], ?_, fun n a o' e1 e2 => ?_⟩
  · rw [List.nodup_append]
    exact ⟨S.nd, by simp, fun a ha b hb => by simp at hb; subst hb; exact fun e => S.out hp (e ▸ ha)⟩
  · by_cases hlt : n < ρ.length
    · rw [List.getElem?_append_left hlt] at e1
      rw [List.getElem?_append_left (by rw [← S.len]; exact hlt)] at e2
      refine (S.ob n a o' e1 e2).mono (List.prefix_append _ _) (fun _ _ h => upd_tup hp h) (fun _ _ _ h => upd_tup hp h) fun hd => ?_
      obtain ⟨w, e⟩ := (S.ob n a o' e1 e2).there
      exact upd_ne (ne_of_none e hp)
    · rw [List.getElem?_append_right (by omega)] at e1
      rw [List.getElem?_append_right (by rw [← S.len]; omega)] at e2
      have h0 : n - ρ.length = 0 := by
        cases q : n - ρ.length with
        | zero => rfl
        | succ j => rw [q] at e1; simp at e1
      have h1 : n - m.length = 0 := by rw [← S.len]; exact h0
      rw [h0] at e1
      rw [h1] at e2
      simp at e1 e2
      subst e1 e2
      exact ho
theorem Ext.newO {p : Addr} {u : HO} (hp : H p = none) : Ext H ρ (upd H p u) (ρ ++ [p]) :=
  ⟨List.prefix_append _ _, fun a ha => by
    rcases List.mem_append.mp ha with h | h
    · exact .inl h
    · simp at h; subst h; exact .inr hp, fun _ _ h => upd_tup hp h, fun _ _ _ h => upd_tup hp h, fun _ _ h _ => upd_tup hp h⟩
/-- a known object is written -/
theorem Ext.write {n : Nat} {a : Addr} {u w : HO} (e : ρ[n]? = some a) (h0 : H a = some w) (hw : ∀ xs, w ≠ .tup xs) (hw' : ∀ o v, w ≠ .frz o v) : Ext H ρ (upd H a u) ρ := by
  have hm : a ∈ ρ := List.mem_of_getElem? e
  refine ⟨List.prefix_refl _, fun _ h => .inl h, fun b xs h => ?_, fun b o v h => ?_, fun b o h hn => ?_⟩
  · rw [upd_ne (ne_of h h0 fun z => hw xs z.symm)]; exact h
  · rw [upd_ne (ne_of h h0 fun z => hw' o v z.symm)]; exact h
  · rw [upd_ne (fun z => hn (by rw [z]; exact hm))]; exact h
theorem Sim.write {n : Nat} {a : Addr} {u w : HO} {o : O} (S : Sim L H ρ m) (e : ρ[n]? = some a) (h0 : H a = some w) (hw : ∀ xs, w ≠ .tup xs) (hw' : ∀ o v, w ≠ .frz o v) (ho : OR L (upd H a u) ρ a o) : Sim L (upd H a u) ρ (m.set n o) := by
  have x : Ext H ρ (upd H a u) ρ := Ext.write e h0 hw hw'
  refine ⟨by simp [S.len], S.nd, fun k b o' e1 e2 => ?_⟩
  by_cases hk : k = n
  · subst hk
    rw [e] at e1; cases e1
    have hl : k < m.length := by rw [← S.len]; exact (List.getElem?_eq_some_iff.mp e).1
    rw [List.getElem?_set_self hl] at e2
    cases e2
    exact ho
  · rw [List.getElem?_set_ne (Ne.symm hk)] at e2
    have hba : b ≠ a := by
      intro z; subst z
      obtain ⟨h1, q1⟩ := List.getElem?_eq_some_iff.mp e
      obtain ⟨h2, q2⟩ := List.getElem?_eq_some_iff.mp e1
      exact hk ((List.getElem_inj S.nd).mp (q2.trans q1.symm))
    exact (S.ob k b o' e1 e2).mono (List.prefix_refl _) x.tup x.frz fun _ => upd_ne hba
end

/-! ### the slots -/
def EnvR (L : Lnk) (H : Hp) (ρ : List Addr) (s : SD) (σ : VS) : Prop := s.length = σ.length ∧ ∀ (i : Nat) (d : D), s[i]? = some (some d) → ∃ v, σ[i]? = some (some v) ∧ Rv L.K H ρ d v
section
variable {L : Lnk} {H H' : Hp} {ρ ρ' : List Addr} {m : Hd} {s : SD} {σ : VS}
theorem EnvR.ext (e : EnvR L H ρ s σ) (x : Ext H ρ H' ρ') : EnvR L H' ρ' s σ := ⟨e.1, fun i d h => let ⟨v, h1, h2⟩ := e.2 i d h; ⟨v, h1, h2.ext x⟩⟩
theorem EnvR.set (e : EnvR L H ρ s σ) {i : Nat} {d : D} {v : V} (r : Rv L.K H ρ d v) : EnvR L H ρ (s.set i (some d)) (σ.set i (some v)) := by
  refine ⟨by simp [e.1], fun j x h => ?_⟩
  by_cases hj : i = j
  · subst hj
    by_cases hl : i < s.length
    · rw [List.getElem?_set_self hl] at h
      cases h
      exact ⟨v, List.getElem?_set_self (by rw [← e.1]; exact hl), r⟩
    · rw [List.getElem?_eq_none (by simpa using hl)] at h; cases h
  · rw [List.getElem?_set_ne hj] at h
    obtain ⟨w, h1, h2⟩ := e.2 j x h
    exact ⟨w, by rw [List.getElem?_set_ne hj]; exact h1, h2⟩
theorem EnvR.wipe (e : EnvR L H ρ s σ) : ∀ vs : List Nat, EnvR L H ρ (wipeD s vs) (L2.wipe σ vs)
  | [] => e
  | v :: vs => by
    have ih := EnvR.wipe e vs
    refine ⟨by simp [wipeD, L2.wipe, ih.1], fun j x h => ?_⟩
    show ∃ w, ((L2.wipe σ vs).set v none)[j]? = _ ∧ _
    change ((wipeD s vs).set v none)[j]? = _ at h
    by_cases hj : v = j
    · subst hj
      by_cases hl : v < (wipeD s vs).length
      · rw [List.getElem?_set_self hl] at h; cases h
      · rw [List.getElem?_eq_none (by simpa using hl)] at h; cases h
    · rw [List.getElem?_set_ne hj] at h
      obtain ⟨w, h1, h2⟩ := ih.2 j x h
      exact ⟨w, by rw [List.getElem?_set_ne hj]; exact h1, h2⟩
end

/-! ### outcomes -/
def OutG {α : Type} (L : Lnk) (H : Hp) (ρ : List Addr) (P : α → Hd → Hp → List Addr → Prop) : R α → Prop
  | .ok a m => ∀ H' ρ', Ext H ρ H' ρ' → Sim L H' ρ' m → P a m H' ρ'
  | _ => False
abbrev Out (L : Lnk) (H : Hp) (ρ : List Addr) (Q : VK) : R D → Prop := OutG L H ρ fun d _ H' ρ' => ∀ v, Rv L.K H' ρ' d v → Q v H'
section
variable {α β : Type} {L : Lnk} {H H' : Hp} {ρ ρ' : List Addr} {m : Hd} {P P' : α → Hd → Hp → List Addr → Prop}
theorem OutG.base {r : R α} (o : OutG L H ρ P r) (x : Ext H ρ H' ρ') : OutG L H' ρ' P r := by
  cases r with
  | ok a m => exact fun H2 ρ2 x2 S => o H2 ρ2 (x.trans x2) S
  | exc c fs m => exact o
  | no => exact o
theorem OutG.imp {r : R α} (o : OutG L H ρ P r) (h : ∀ a m H' ρ', Ext H ρ H' ρ' → Sim L H' ρ' m → P a m H' ρ' → P' a m H' ρ') : OutG L H ρ P' r := by
  cases r with
  | ok a m => exact fun H2 ρ2 x2 S => h _ _ _ _ x2 S (o H2 ρ2 x2 S)
  | exc c fs m => exact o
  | no => exact o
theorem OutG.bind {P : β → Hd → Hp → List Addr → Prop} {r : R α} {k : α → Hd → R β} (o : OutG L H ρ P (r.bind k)) : OutG L H ρ (fun a m H' ρ' => OutG L H' ρ' P (k a m)) r := by
  cases r with
  | ok a m => exact fun H2 ρ2 x2 S => OutG.base (r := k a m) o x2
  | exc c fs m => exact o
  | no => exact o
theorem OutG.here {a : α} {m : Hd} (o : OutG L H ρ P (.ok a m)) (S : Sim L H ρ m) : P a m H ρ := o H ρ (Ext.refl _ _) S
theorem OutG.ifs {b : Bool} {r : R α} (o : OutG L H ρ P (ifs b r)) : b = true ∧ OutG L H ρ P r := by
  cases b with
  | true => exact ⟨rfl, o⟩
  | false => exact o.elim
theorem OutG.optB {x : Option α} {m : Hd} (o : OutG L H ρ P (optB x m)) : ∃ a, x = some a ∧ OutG L H ρ P (.ok a m) := by
  cases x with
  | some a => exact ⟨a, rfl, o⟩
  | none => exact o.elim
end
end Dx
/-! DxC: the operators, by values -/
namespace Dx
open PySem PySem.Spec PyProof.Rows L2

section
variable {L : Lnk} {X : Cx} {H : Hp} {ρ : List Addr} {m : Hd} {pins : List (Addr × Obj)} {σ : VS} {s : Shared} {Q : VK} {b : Bool}

/-- a new mutable thing told, which may be told to stay -/
def QLk (Q : VK) : VK := fun v H => ∃ a u, v = .ref a ∧ H a = some u ∧ Mut (some u) ∧ ∀ o, Q v (upd H a (.frz o u))
theorem ep_lock {u : Value} (h : EP X pins σ (QLk Q) u s) : EP X pins σ Q u s := by
  obtain ⟨v, H', I, r, a, w, rfl, e, mu, q⟩ := h
  obtain ⟨o, I'⟩ := I.lock e mu
  exact ⟨_, _, I', r, q o⟩
/-- a new list -/
theorem mk_ok {b : Bool} {xs : List D} {vs : List V} (S : Sim L H ρ m) (r : RvL L.K H ρ xs vs) (o : Out L H ρ Q (mkL b xs m)) {p : Addr} (hp : H p = none) :
    if b = true then Q (.ref p) (upd H p (.lst vs)) else QLk Q (.ref p) (upd H p (.lst vs)) := by
  cases b with
  | true =>
    have x : Ext H ρ (upd H p (.lst vs)) (ρ ++ [p]) := Ext.newO hp
    refine o _ _ x (S.new hp ⟨vs, upd_same, r.ext x⟩) _ ?_
    unfold Rv
    exact ⟨p, by rw [← S.len]; simp, rfl⟩
  | false =>
    refine ⟨p, .lst vs, rfl, upd_same, trivial, fun ob => ?_⟩
    rw [upd_upd]
    have x : Ext H ρ (upd H p (.frz ob (.lst vs))) ρ := Ext.laid hp
    refine o _ _ x (S.laid hp) _ ?_
    unfold Rv
    exact ⟨p, ob, vs, rfl, upd_same, r.ext x⟩
/-- from «a new list, whatever its place» -/
theorem mk_fin {b : Bool} {xs : List D} {vs : List V} (S : Sim L H ρ m) (r : RvL L.K H ρ xs vs) (o : Out L H ρ Q (mkL b xs m)) {P : VK → Prop}
    (h : ∀ Q' : VK, (∀ p, H p = none → Q' (.ref p) (upd H p (.lst vs))) → P Q') : ∃ Q', P Q' ∧ (∀ u s, EP X pins σ Q' u s → EP X pins σ Q u s) := by
  cases b with
  | true => exact ⟨Q, h Q fun p hp => by simpa using mk_ok S r o hp, fun _ _ z => z⟩
  | false => exact ⟨QLk Q, h (QLk Q) fun p hp => by simpa using mk_ok S r o hp, fun _ _ z => ep_lock z⟩

theorem out_val {d : D} {v : V} (o : Out L H ρ Q (.ok d m)) (S : Sim L H ρ m) (r : Rv L.K H ρ d v) : Q v H := o _ _ (Ext.refl _ _) S _ r
/-- a new tuple -/
theorem out_tup {xs : List D} {vs : List V} (S : Sim L H ρ m) (r : RvL L.K H ρ xs vs) (o : Out L H ρ Q (.ok (.tup xs) m)) {p : Addr} (hp : H p = none) : Q (.ref p) (upd H p (.tup vs)) := by
  have x : Ext H ρ (upd H p (.tup vs)) ρ := Ext.laid hp
  refine o _ _ x (S.laid hp) _ ?_
  unfold Rv
  exact ⟨p, vs, rfl, upd_same, r.ext x⟩

/-! ### what stands at a value -/
theorem rvl_nms {K : PySem.W.Frag} {H : Hp} {ρ : List Addr} : ∀ {ys : List Str}, RvL K H ρ (ys.map D.str) (ys.map V.str)
  | [] => rvl_nil
  | _ :: _ => rvl_cons (by simp [Rv]) rvl_nms
theorem sq_ok {K : PySem.W.Frag} {d : D} {x : V} {xs : List D} (S : Sim L H ρ m) (r : Rv L.K H ρ d x) (e : sq m d = some xs) :
    ∃ a vs, x = .ref a ∧ (SqL L.K H a vs ∨ SqT L.K H a vs) ∧ RvL L.K H ρ xs vs := by
  cases d with
  | tup ds =>
    unfold Rv at r
    obtain ⟨a, vs, rfl, h, q⟩ := r
    cases e
    exact ⟨a, vs, rfl, .inr (.of h), q⟩
  | lst ds =>
    unfold Rv at r
    obtain ⟨a, o, vs, rfl, h, q⟩ := r
    cases e
    exact ⟨a, vs, rfl, .inl (.inl (.inr ⟨o, h⟩)), q⟩
  | scr ns =>
    unfold Rv at r
    obtain ⟨a, rfl, h⟩ := r
    cases e
    refine ⟨a, _, rfl, .inl h.sq, ?_⟩
    clear h
    induction ns with
    | nil => exact rvl_nil
    | cons n ns ih => exact rvl_cons (by simp [Rv]) ih
  | nms ns =>
    unfold Rv at r
    obtain ⟨a, o, rfl, _, h⟩ := r
    cases e
    exact ⟨a, _, rfl, .inr (.inl (.inr ⟨o, h⟩)), rvl_nms⟩
  | ref n =>
    unfold Rv at r
    obtain ⟨a, h, rfl⟩ := r
    simp only [sq] at e
    cases q : m[n]? with
    | none => rw [q] at e; cases e
    | some o =>
      rw [q] at e
      cases o with
      | lst ds =>
        cases e
        obtain ⟨vs, h1, h2⟩ := S.ob n a _ h q
        exact ⟨a, vs, rfl, .inl (.of h1), h2⟩
      | _ => cases e
  | _ => cases e
theorem fz_lst {d : D} {x : V} {xs : List D} (S : Sim L H ρ m) (r : Rv L.K H ρ d x) (e : fz m d = .lst xs) :
    ∃ a vs, x = .ref a ∧ Rd H a (.lst vs) ∧ RvL L.K H ρ xs vs := by
  cases d with
  | lst ds =>
    unfold Rv at r
    obtain ⟨a, o, vs, rfl, h, q⟩ := r
    cases e
    exact ⟨a, vs, rfl, .inr ⟨o, h⟩, q⟩
  | ref n =>
    unfold Rv at r
    obtain ⟨a, h, rfl⟩ := r
    simp only [fz] at e
    cases q : m[n]? with
    | none => rw [q] at e; cases e
    | some o =>
      rw [q] at e
      cases o with
      | lst ds =>
        cases e
        obtain ⟨vs, h1, h2⟩ := S.ob n a _ h q
        exact ⟨a, vs, rfl, .of h1, h2⟩
      | _ => cases e
  | _ => cases e
theorem dq_ok {d : D} {x : V} {t : Bool} {kvs : List (D × D)} (S : Sim L H ρ m) (r : Rv L.K H ρ d x) (e : dq m d = some (t, kvs)) :
    ∃ a, x = .ref a ∧ ((t = false ∧ ∃ ps, Rd H a (.dK ps) ∧ RvK L.K H ρ kvs ps) ∨ (t = true ∧ ∃ ps, Rd H a (.dT ps) ∧ RvT L.K H ρ kvs ps)) := by
  cases d with
  | dct t' ds =>
    unfold Rv at r
    obtain ⟨a, o, rfl, h⟩ := r
    cases e
    refine ⟨a, rfl, ?_⟩
    rcases h with ⟨z, ps, h1, h2⟩ | ⟨z, ps, h1, h2⟩
    · exact .inl ⟨z, ps, .inr ⟨o, h1⟩, h2⟩
    · exact .inr ⟨z, ps, .inr ⟨o, h1⟩, h2⟩
  | ref n =>
    unfold Rv at r
    obtain ⟨a, h, rfl⟩ := r
    simp only [dq] at e
    cases q : m[n]? with
    | none => rw [q] at e; cases e
    | some o =>
      rw [q] at e
      cases o with
      | dct t' ds =>
        cases e
        refine ⟨a, rfl, ?_⟩
        rcases S.ob n a _ h q with ⟨z, ps, h1, h2⟩ | ⟨z, ps, h1, h2⟩
        · exact .inl ⟨z, ps, .of h1, h2⟩
        · exact .inr ⟨z, ps, .of h1, h2⟩
      | _ => cases e
  | _ => cases e

/-! ### two-place operators -/
def rB (L : Lnk) (f : D → D → Hd → R D) : R2 := fun x y H Q => ∃ ρ m d e, Sim L H ρ m ∧ Rv L.K H ρ d x ∧ Rv L.K H ρ e y ∧ Out L H ρ Q (f d e m)

theorem rdL {a : Addr} {vs : List V} (I : Inv X pins σ H s) (h : Rd H a (.lst vs)) : vs.length ≤ sizeLine ∧ ∃ (its : List Value) (n : Nat), Vals vs its ∧ vs.length = its.length ∧ s.heap.get? a = some { cls := .type "list", data := .seq its.toArray n } := by
  obtain ⟨z, its, n, r, e⟩ := h.ok I.hok
  exact ⟨z, its, n, r, r.length, e⟩
theorem cat_ok {a b : Addr} {vs ws : List V} {Q' : VK} (I : Inv X pins σ H s) (ha : Rd H a (.lst vs)) (hb : Rd H b (.lst ws)) (hz : vs.length + ws.length ≤ sizeLine) (q : ∀ p, H p = none → Q' (.ref p) (upd H p (.lst (vs ++ ws)))) :
    wpAny (model X.prog X.w) X.A (binaryOp .Add (.ref a) (.ref b)) (EP X pins σ Q') X.xe s := by
  obtain ⟨z, its, n, r, hl, e⟩ := rdL I ha
  obtain ⟨z2, its2, n2, r2, hl2, e2⟩ := rdL I hb
  refine PySem.P.add_list e e2 ?_ (by rw [List.size_toArray, List.size_toArray]; omega)
  have ea : its.toArray ++ its2.toArray = (its ++ its2).toArray := by simp
  rw [ea]
  exact ⟨.ref _, _, I.lnew (t' := s.toks) (r.append r2) (by rw [List.length_append]; omega), rfl, q _ I.fresh⟩
theorem rep_ok {a : Addr} {vs : List V} {k : Int} {t : Tok} {Q' : VK} (I : Inv X pins σ H s) (hH : Rd H a (.lst vs)) (h1 : -(2 ^ 63) ≤ k) (h2 : k < 2 ^ 63) (hz : vs.length * k.toNat ≤ sizeLine)
    (q : ∀ p, H p = none → Q' (.ref p) (upd H p (.lst (List.replicate k.toNat vs).flatten))) : wpAny (model X.prog X.w) X.A (binaryOp .Mult (.ref a) (.int k t)) (EP X pins σ Q') X.xe s := by
  -- the rule speaks of a tracked list: unlock it for the step
  rcases hH with hH | ⟨o, hH⟩
  · exact op_rep pins s σ H (.ref a) (.int k) (.ref a) (.int k t) Q' I rfl ⟨t, rfl⟩ ⟨a, k, vs, rfl, rfl, hH, h1, h2, hz, q⟩
  · obtain ⟨z, its, n, r, hl, e⟩ := rdL I (.inr ⟨o, hH⟩)
    have hlen : its.toArray.size * k.toNat ≤ sizeLine := by rw [List.size_toArray, ← hl]; exact hz
    have hcap : ¬ its.toArray.size * k.toNat > (2 ^ 63 - 1) / 8 := by
      have : (sizeLine : Nat) ≤ (2 ^ 63 - 1) / 8 := by decide
      omega
    have hfit : ¬ (!Builtin.List.listFitsIndex k) = true := by
      rw [fitsIndex_both h1 h2]
      exact Bool.false_ne_true
    have hlong : ¬ Builtin.List.listTooLong (its.toArray.size * k.toNat) = true := by
      rw [notLongL hlen]
      exact Bool.false_ne_true
    have hnew : List.foldl (fun x1 x2 => x1 ++ x2) #[] (List.replicate (if its.toArray.isEmpty = true then 0 else k.toNat) its.toArray) = (List.replicate k.toNat its).flatten.toArray := by
      have f0 : ∀ m : Nat, List.foldl (fun x1 x2 => x1 ++ x2) #[] (List.replicate m its.toArray) = (List.replicate m its).flatten.toArray := fun m => by
        have := foldl_rep its m []
        rw [List.nil_append] at this
        exact this
      rw [f0]
      cases its with
      | nil => simp
      | cons a r' => rw [if_neg (by simp)]
    refine wpAny_binaryOp_repeat_ref (T := "list") (U := "int") (by decide) ⟨_, e, rfl⟩ (fun s' => typeIs_int s' k t) noFill_list_mul F.fills_int_mul F.slot_int_rmul repeat_list F.slot_int_index.lookup
      (call_meets F.slot_int_rmul (typeIs_int s k t) F.entry_int_rmul (F.args_int_rmul_2 _ _) (int___rmul___int_list k t a its.toArray n)
        ⟨e, rfl, ⟨_, e, rfl⟩, call_meets F.slot_list_mul ⟨_, e, rfl⟩ F.entry_list_mul (F.args_list_mul_2 _ _) (AutoListH.list___mul___list_int_3 a its.toArray n k t hfit hcap hlong) ⟨e, ?_⟩⟩)
    rw [hnew]
    exact ⟨.ref _, _, I.lnew (t' := s.toks) (r.rep k.toNat) (by rw [PyProof.Rows.lm_len_rep_flat, Nat.mul_comm]; exact hz), rfl, q _ I.fresh⟩

theorem small_or {i j : Int} (h : (small i || small j) = true) : CMul i j := by
  unfold small at h
  simp only [Bool.or_eq_true, decide_eq_true_eq] at h
  exact h
theorem small_log {i j : Int} (h0 : 0 < j) (h : small j = true) : CDivW i j := by
  unfold small at h
  simp only [decide_eq_true_eq] at h
  refine wide_div (b := 65) h0 ?_ (by decide) (by decide)
  have : j.natAbs < 2 ^ 64 := by omega
  omega

theorem op_addD (b : Bool) : OpR X (binaryOp .Add) (rB L (addD b)) := by
  intro pins s σ H x y v u Q I rx ry ⟨ρ, m, d, e, S, rd, re, o⟩
  unfold addD at o
  split at o
  next i j =>
    unfold Rv at rd re
    exact op_add pins s σ H x y v u Q I rx ry ⟨i, j, rd, re, out_val o S (by simp [Rv])⟩
  next a c =>
    unfold Rv at rd re
    obtain ⟨h, o⟩ := o.ifs
    exact op_add_str pins s σ H x y v u Q I rx ry ⟨a, c, rd, re, by simpa using h, out_val o S (by simp [Rv])⟩
  next a c =>
    have rd0 := rd
    have re0 := re
    unfold Rv at rd re
    obtain ⟨h, o⟩ := o.ifs
    have h : a.length + c.length ≤ sizeLine := by simpa using h
    obtain ⟨p, vs, rfl, hp, rp⟩ := rd
    obtain ⟨q, ws, rfl, hq, rq⟩ := re
    have e1 := rp.len
    have e2 := rq.len
    refine op_catA pins s σ H _ _ v u Q I rx ry ⟨p, q, vs, ws, rfl, rfl, .of hp, .of hq, by omega, fun z => ?_, fun z z' => ?_, fun z z' p' hp' => ?_⟩
    · have : a = [] := by cases a <;> simp_all
      subst this
      exact out_val o S re0
    · have : c = [] := by cases c <;> simp_all
      subst this
      rw [List.append_nil] at o
      exact out_val o S rd0
    · exact out_tup S (rp.app rq) o hp'
  next a c =>
    unfold Rv at rd re
    obtain ⟨h, o⟩ := o.ifs
    simp only [Bool.and_eq_true, decide_eq_true_eq, Bool.not_eq_true', List.isEmpty_eq_false_iff] at h
    obtain ⟨p, ob, rfl, _, hp⟩ := rd
    obtain ⟨q, ws, rfl, hq, rq⟩ := re
    have e2 := rq.len
    refine op_catA pins s σ H _ _ v u Q I rx ry ⟨p, q, a.map V.str, ws, rfl, rfl, .inl (.inr ⟨ob, hp⟩), .of hq, by rw [List.length_map, ← e2]; exact h.1, fun z => ?_, fun z z' => ?_, fun z z' p' hp' => ?_⟩
    · have : a = [] := by simpa using z
      subst this
      exact out_val o S (by unfold Rv; exact ⟨q, ws, rfl, hq, rq⟩)
    · subst z'
      exact absurd (List.length_eq_zero_iff.mp e2) h.2
    · exact out_tup S (rvl_nms.app rq) o hp'
  next a c =>
    unfold Rv at rd re
    obtain ⟨h, o⟩ := o.ifs
    simp only [Bool.and_eq_true, decide_eq_true_eq, Bool.not_eq_true', List.isEmpty_eq_false_iff] at h
    obtain ⟨p, ob, rfl, _, hp⟩ := rd
    obtain ⟨q, ob2, rfl, _, hq⟩ := re
    refine op_catA pins s σ H _ _ v u Q I rx ry ⟨p, q, a.map V.str, c.map V.str, rfl, rfl, .inl (.inr ⟨ob, hp⟩), .inl (.inr ⟨ob2, hq⟩), by rw [List.length_map, List.length_map]; exact h.1.1, fun z => ?_, fun z z' => ?_, fun z z' p' hp' => ?_⟩
    · exact absurd (by simpa using z) h.1.2
    · exact absurd (by simpa using z') h.2
    · exact out_tup S (rvl_nms.app rvl_nms) o hp'
  next =>
    split at o
    next a c e1 e2 =>
      obtain ⟨h, o⟩ := o.ifs
      have h : a.length + c.length ≤ sizeLine := by simpa using h
      obtain ⟨p, vs, rfl, hp, rp⟩ := fz_lst S rd e1
      obtain ⟨q, ws, rfl, hq, rq⟩ := fz_lst S re e2
      have l1 := rp.len
      have l2 := rq.len
      cases rx
      cases ry
      obtain ⟨Q', w, f⟩ := mk_fin (X := X) (pins := pins) (σ := σ) S (rp.app rq) o (P := fun Q' => wpAny (model X.prog X.w) X.A (binaryOp .Add (.ref p) (.ref q)) (EP X pins σ Q') X.xe s) fun Q' hQ => cat_ok I hp hq (by omega) hQ
      exact thn w f
    next => exact o.elim

theorem ops_one {op : Operator} {C : Int → Int → Prop} {g : Int → Int → Int} {f : D → D → Hd → R D} (h : OpR X (binaryOp op) (rI C fun i j => .int (g i j)))
    (hf : ∀ d e m H ρ Q, Out L H ρ Q (f d e m) → ∃ i j, d = .int i ∧ e = .int j ∧ C i j ∧ Out L H ρ Q (.ok (.int (g i j)) m)) : OpR X (binaryOp op) (rB L f) := by
  intro pins s σ H x y v u Q I rx ry ⟨ρ, m, d, e, S, rd, re, o⟩
  obtain ⟨i, j, rfl, rfl, c, o⟩ := hf _ _ _ _ _ _ o
  unfold Rv at rd re
  exact h pins s σ H x y v u Q I rx ry ⟨i, j, rd, re, c, out_val o S (by simp [Rv])⟩
theorem op_subD : OpR X (binaryOp .Sub) (rB L (bopD b .sub)) := by
  intro pins s σ H x y v u Q I rx ry ⟨ρ, m, d, e, S, rd, re, o⟩
  unfold bopD at o
  dsimp only at o
  split at o
  next i j =>
    unfold Rv at rd re
    exact op_sub pins s σ H x y v u Q I rx ry ⟨i, j, rd, re, out_val o S (by simp [Rv])⟩
  next => exact o.elim
theorem op_fdivD : OpR X (binaryOp .FloorDiv) (rB L (bopD b .fdiv)) := ops_one op_fdivW fun d e m H ρ Q o => by
  unfold bopD at o
  dsimp only at o
  split at o
  next i j =>
    obtain ⟨h, o⟩ := o.ifs
    simp only [Bool.and_eq_true, decide_eq_true_eq] at h
    exact ⟨i, j, rfl, rfl, small_log h.1 h.2, o⟩
  next => exact o.elim
theorem op_modD : OpR X (binaryOp .Mod) (rB L (bopD b .mod)) := ops_one op_mod fun d e m H ρ Q o => by
  unfold bopD at o
  dsimp only at o
  split at o
  next i j =>
    obtain ⟨h, o⟩ := o.ifs
    exact ⟨i, j, rfl, rfl, by simpa using h, o⟩
  next => exact o.elim
theorem op_powD : OpR X (binaryOp .Pow) (rB L (bopD b .pow)) := ops_one op_pow fun d e m H ρ Q o => by
  unfold bopD at o
  dsimp only at o
  split at o
  next i j =>
    obtain ⟨h, o⟩ := o.ifs
    simp only [Bool.and_eq_true, decide_eq_true_eq] at h
    unfold small at h
    simp only [decide_eq_true_eq] at h
    exact ⟨i, j, rfl, rfl, ⟨h.1.1, h.1.2, by omega⟩, o⟩
  next => exact o.elim
theorem foldA (c : Array Nat) : ∀ (k : Nat) (acc : Array Nat), ((List.replicate k c).foldl (· ++ ·) acc) = acc ++ (List.replicate k c.toList).flatten.toArray
  | 0, acc => by simp
  | k + 1, acc => by
    rw [List.replicate_succ, List.foldl_cons, foldA c k, List.replicate_succ, List.flatten_cons, Array.append_assoc]
    congr 1
    apply Array.ext'
    simp
theorem mulstr_ok {z : Str} {k : Int} {t t' : Tok} {Q' : VK} (I : Inv X pins σ H s) (h0 : 0 ≤ k) (h1 : k < 2 ^ 60) (h2 : z.length * k.toNat ≤ 1000000) (q : Q' (.str (repS z k.toNat)) H) :
    wpAny (model X.prog X.w) X.A (binaryOp .Mult (.str z t) (.int k t')) (EP X pins σ Q') X.xe s := by
  have e0 : ((List.replicate k.toNat z.cps).foldl (· ++ ·) #[]) = (repS z k.toNat).cps := by
    rw [foldA]
    simp [repS]
  refine P.mul_str ?_ (fun a b => ?_) (fun a b => ?_) ?_
  · have g1 : ¬ k < -(2 ^ 63) := by omega
    have g2 : ¬ k ≥ 2 ^ 63 := by omega
    rw [decide_eq_false g1, decide_eq_false g2]
    rfl
  · have l1 : ((z.length * k.toNat : Nat) : Int) ≤ 1000000 := Int.ofNat_le.mpr h2
    have l2 : ((z.length * k.toNat : Nat) : Int) = (z.length : Int) * k := by rw [Int.natCast_mul, Int.toNat_of_nonneg h0]
    rw [l2] at l1
    have l3 : (z.length : Int) ≤ (2 ^ 63 - 1) / k := by
      rw [Int.le_ediv_iff_mul_le (by omega)]
      omega
    omega
  · show decide (_ > _) = false
    have : (1000000 : Nat) ≤ sizeLine := by decide
    exact decide_eq_false (by omega)
  · by_cases g : k < 1
    · rw [if_pos g]
      have : k = 0 := by omega
      subst this
      refine ⟨by decide, .str _, H, I.tok _, ⟨_, rfl⟩, ?_⟩
      exact q
    · rw [if_neg g]
      by_cases g2 : (k == 1 || z.length == 0) = true
      · rw [if_pos g2]
        have e : repS z k.toNat = z := by
          rcases Bool.or_eq_true _ _ |>.mp g2 with c | c
          · have : k = 1 := by simpa using c
            subst this
            simp [repS]
          · have c0 : z.length = 0 := by simpa using c
            have c : z.cps.size = 0 := c0
            obtain ⟨c'⟩ := z
            have : c' = #[] := Array.eq_empty_of_size_eq_zero c
            subst this
            simp [repS]
        rw [e] at q
        exact ⟨.str _, H, I, ⟨_, rfl⟩, q⟩
      · rw [if_neg g2, e0]
        refine ⟨?_, .str _, H, I.tok _, ⟨_, rfl⟩, q⟩
        have l : (repS z k.toNat).length = z.length * k.toNat := by
          show (List.replicate k.toNat z.cps.toList).flatten.toArray.size = _
          simp [List.length_flatten, Str.length, Nat.mul_comm]
        show (repS z k.toNat).length ≤ sizeLine
        have : (1000000 : Nat) ≤ sizeLine := by decide
        omega
theorem op_mulD (b : Bool) : OpR X (binaryOp .Mult) (rB L (mulD b)) := by
  intro pins s σ H x y v u Q I rx ry ⟨ρ, m, d, e, S, rd, re, o⟩
  unfold mulD at o
  split at o
  next i j =>
    unfold Rv at rd re
    obtain ⟨h, o⟩ := o.ifs
    exact op_mul pins s σ H x y v u Q I rx ry ⟨i, j, rd, re, small_or h, out_val o S (by simp [Rv])⟩
  next z k =>
    unfold Rv at rd re
    subst rd re
    obtain ⟨t, rfl⟩ := rx
    obtain ⟨t', rfl⟩ := ry
    obtain ⟨h, o⟩ := o.ifs
    simp only [Bool.and_eq_true, decide_eq_true_eq] at h
    exact mulstr_ok I h.1.1 h.1.2 h.2 (out_val o S (by simp [Rv]))
  next k _ _ =>
    split at o
    next a e1 =>
      obtain ⟨h, o⟩ := o.ifs
      simp only [Bool.and_eq_true, decide_eq_true_eq] at h
      obtain ⟨p, vs, rfl, hp, rp⟩ := fz_lst S rd e1
      have l1 := rp.len
      unfold Rv at re
      subst re
      cases rx
      obtain ⟨t, rfl⟩ := ry
      obtain ⟨Q', w, f⟩ := mk_fin (X := X) (pins := pins) (σ := σ) S (rp.rep k.toNat) o (P := fun Q' => wpAny (model X.prog X.w) X.A (binaryOp .Mult (.ref p) (.int k t)) (EP X pins σ Q') X.xe s) fun Q' hQ => rep_ok I hp h.1.1 h.1.2 (by rw [← l1]; exact h.2) hQ
      exact thn w f
    next => exact o.elim
  next => exact o.elim
def bopE : Bop → Operator
  | .add => .Add | .sub => .Sub | .mul => .Mult | .fdiv => .FloorDiv | .mod => .Mod | .pow => .Pow
theorem op_bopD (b : Bool) (o : Bop) : OpR X (binaryOp (bopE o)) (rB L (bopD b o)) := by
  cases o with
  | add => exact op_addD b
  | sub => exact op_subD
  | mul => exact op_mulD b
  | fdiv => exact op_fdivD
  | mod => exact op_modD
  | pow => exact op_powD
end
end Dx
/-! DxD: comparisons, truth, items, slices -/
namespace Dx
open PySem PySem.Spec PyProof.Rows L2
section
variable {L : Lnk} {X : Cx} {H : Hp} {ρ : List Addr} {m : Hd} {pins : List (Addr × Obj)} {σ : VS} {s : Shared} {Q : VK} {b : Bool}

theorem strs_dp {K : PySem.W.Frag} {H : Hp} : ∀ {ns : List Str}, DpAll K H (ns.map V.str) (ns.map PyData.str)
  | [] => .nil
  | n :: ns => .cons (.str n) strs_dp
theorem pyL_strs : ∀ {ns : List Str}, D.pyL (ns.map D.str) = ns.map PyData.str
  | [] => rfl
  | n :: ns => by rw [List.map_cons, D.pyL, pyL_strs, D.py]; rfl
mutual
theorem dp_of {K : PySem.W.Frag} : ∀ {d : D} {v : V}, Rv K H ρ d v → D.flat d = true → Dp K H v (D.py d)
  | .non, v, r, _ => by unfold Rv at r; subst r; exact .non
  | .bl _, v, r, _ => by unfold Rv at r; subst r; exact .bl _
  | .int _, v, r, _ => by unfold Rv at r; subst r; exact .int _
  | .str _, v, r, _ => by unfold Rv at r; subst r; exact .str _
  | .tup ds, v, r, f => by
    unfold Rv at r
    obtain ⟨a, vs, rfl, h, q⟩ := r
    unfold D.py
    exact .tup (.of h) (dps_of q (by simpa [D.flat] using f))
  | .lst ds, v, r, f => by
    unfold Rv at r
    obtain ⟨a, o, vs, rfl, h, q⟩ := r
    unfold D.py
    exact .lst (.inl (.inr ⟨o, h⟩)) (dps_of q (by simpa [D.flat] using f))
  | .dct _ _, v, r, f => by simp [D.flat] at f
  | .ref _, v, r, f => by simp [D.flat] at f
  | .scr _, v, r, f => by simp [D.flat] at f
  | .nms ns, v, r, f => by
    unfold Rv at r
    obtain ⟨a, o, rfl, _, h⟩ := r
    unfold D.py
    exact .tup (.inl (.inr ⟨o, h⟩)) strs_dp
theorem dps_of {K : PySem.W.Frag} : ∀ {ds : List D} {vs : List V}, RvL K H ρ ds vs → D.flatL ds = true → DpAll K H vs (D.pyL ds)
  | [], vs, r, _ => by unfold RvL at r; subst r; exact .nil
  | d :: ds, vs, r, f => by
    unfold RvL at r
    obtain ⟨v, q, rfl, h, z⟩ := r
    simp only [D.flatL, Bool.and_eq_true] at f
    unfold D.pyL
    exact .cons (dp_of h f.1) (dps_of z f.2)
end
theorem dp_fz {d : D} {v : V} (S : Sim L H ρ m) (r : Rv L.K H ρ d v) (f : D.flat (fz m d) = true) : Dp L.K H v (D.py (fz m d)) := by
  cases e : fz m d with
  | lst xs =>
    obtain ⟨a, vs, rfl, h, q⟩ := fz_lst S r e
    rw [e] at f
    unfold D.py
    exact .lst (.inl h) (dps_of q (by simpa [D.flat] using f))
  | _ =>
    have : fz m d = d := by
      cases d with
      | ref n =>
        cases q : m[n]? with
        | none => simp only [fz, q]
        | some o =>
          cases o with
          | lst xs => simp [fz, q] at e
          | _ => simp only [fz, q]
      | _ => rfl
    rw [← this] at r
    rw [e] at r f
    exact dp_of r f

/-! ### keys and dicts -/
theorem kD_beq : ∀ (a b : Key), D.beq (kD a) (kD b) = decide (a = b)
  | .inl i, .inl j => by
    by_cases h : i = j
    · subst h; simp [kD, D.beq]
    · have : ¬ (Sum.inl i : Key) = Sum.inl j := fun e => h (Sum.inl.inj e)
      simp [kD, D.beq, h, this]
  | .inr i, .inr j => by
    by_cases h : i = j
    · subst h; simp [kD, D.beq]
    · have : ¬ (Sum.inr i : Key) = Sum.inr j := fun e => h (Sum.inr.inj e)
      simp [kD, D.beq, h, this]
  | .inl i, .inr j => by simp [kD, D.beq]
  | .inr i, .inl j => by simp [kD, D.beq]
theorem kDs_beq : ∀ (a b : List Key), D.beqL (a.map kD) (b.map kD) = decide (a = b)
  | [], [] => by simp [D.beqL]
  | [], _ :: _ => by simp [D.beqL]
  | _ :: _, [] => by simp [D.beqL]
  | a :: r, b :: q => by
    simp only [List.map_cons, D.beqL, kD_beq, kDs_beq r q]
    by_cases h : a = b <;> by_cases h' : r = q <;> simp [h, h']
theorem key_of1 {d : D} (h : keyOk false d = true) : ∃ k, d = kD k := by
  cases d with
  | int i => exact ⟨.inl i, rfl⟩
  | str x => exact ⟨.inr x, rfl⟩
  | _ => simp [keyOk, isK] at h
theorem isK_of : ∀ {xs : List D}, xs.all isK = true → ∃ ks : List Key, xs = ks.map kD
  | [], _ => ⟨[], rfl⟩
  | d :: r, h => by
    simp only [List.all_cons, Bool.and_eq_true] at h
    obtain ⟨ks, rfl⟩ := isK_of h.2
    cases d with
    | int i => exact ⟨.inl i :: ks, rfl⟩
    | str x => exact ⟨.inr x :: ks, rfl⟩
    | _ => exact absurd h.1 (by simp [isK])
theorem key_ofT {d : D} (h : keyOk true d = true) : ∃ ks : List Key, d = .tup (ks.map kD) := by
  cases d with
  | tup xs =>
    simp only [keyOk, Bool.true_and] at h
    obtain ⟨ks, rfl⟩ := isK_of h
    exact ⟨ks, rfl⟩
  | _ => simp [keyOk] at h
theorem rv_key {K : PySem.W.Frag} {k : Key} {v : V} (r : Rv K H ρ (kD k) v) : v = kV k := by
  cases k with
  | inl i => simpa [kD, Rv, kV] using r
  | inr i => simpa [kD, Rv, kV] using r
theorem rvl_keys {K : PySem.W.Frag} : ∀ {ks : List Key} {vs : List V}, RvL K H ρ (ks.map kD) vs → vs = ks.map kV
  | [], vs, r => by unfold RvL at r; exact r
  | k :: ks, vs, r => by
    rw [List.map_cons] at r
    unfold RvL at r
    obtain ⟨v, q, rfl, h, z⟩ := r
    rw [rv_key h, rvl_keys z, List.map_cons]
theorem rv_keyT {K : PySem.W.Frag} {ks : List Key} {v : V} (r : Rv K H ρ (.tup (ks.map kD)) v) : ∃ b, v = .ref b ∧ H b = some (.tup (ks.map kV)) := by
  unfold Rv at r
  obtain ⟨a, vs, rfl, h, q⟩ := r
  rw [rvl_keys q] at h
  exact ⟨a, rfl, h⟩
/-- what is found -/
def FoundR (L : Lnk) (H : Hp) (ρ : List Addr) : Option D → Option V → Prop
  | some d, some v => Rv L.K H ρ d v
  | none, none => True
  | _, _ => False
theorem find_k {k : Key} : ∀ {kvs : List (D × D)} {ps : List (Key × V)}, RvK L.K H ρ kvs ps → FoundR L H ρ (find kvs (kD k)) (valV ps k)
  | [], ps, r => by unfold RvK at r; subst r; simp [find, valV, FoundR]
  | (d, e) :: r, ps, h => by
    unfold RvK at h
    obtain ⟨k', v, q, rfl, rfl, z, y⟩ := h
    have ih := find_k (k := k) y
    unfold find valV at ih ⊢
    by_cases c : k' = k
    · subst c
      simp [List.find?_cons, kD_beq, FoundR, z]
    · simpa [List.find?_cons, kD_beq, c] using ih
theorem find_t {k : List Key} : ∀ {kvs : List (D × D)} {ps : List (List Key × V)}, RvT L.K H ρ kvs ps → FoundR L H ρ (find kvs (.tup (k.map kD))) (valV ps k)
  | [], ps, r => by unfold RvT at r; subst r; simp [find, valV, FoundR]
  | (d, e) :: r, ps, h => by
    unfold RvT at h
    obtain ⟨k', v, q, rfl, rfl, z, y⟩ := h
    have ih := find_t (k := k) y
    unfold find valV at ih ⊢
    have hb : D.beq (.tup (k'.map kD)) (.tup (k.map kD)) = decide (k' = k) := by
      rw [← kDs_beq]; simp [D.beq]
    by_cases c : k' = k
    · subst c
      simp [List.find?_cons, hb, FoundR, z]
    · simpa [List.find?_cons, hb, c] using ih
/-- the dict at a value, asked for a key -/
theorem dget_ok {d e : D} {x y : V} {t : Bool} {kvs : List (D × D)} (S : Sim L H ρ m) (rd : Rv L.K H ρ d x) (re : Rv L.K H ρ e y) (h : dq m d = some (t, kvs)) (hk : keyOk t e = true) :
    ∃ a o, x = .ref a ∧ DGet H a y o ∧ FoundR L H ρ (find kvs e) o := by
  obtain ⟨a, rfl, q⟩ := dq_ok S rd h
  rcases q with ⟨rfl, ps, h1, h2⟩ | ⟨rfl, ps, h1, h2⟩
  · obtain ⟨k, rfl⟩ := key_of1 hk
    obtain rfl := rv_key re
    exact ⟨a, _, rfl, .inl ⟨ps, k, h1, rfl, rfl⟩, find_k h2⟩
  · obtain ⟨ks, rfl⟩ := key_ofT hk
    obtain ⟨b, rfl, hb⟩ := rv_keyT re
    exact ⟨a, _, rfl, .inr ⟨ps, ks, b, h1, rfl, hb, rfl⟩, find_t h2⟩
theorem FoundR.isSome {o : Option D} {p : Option V} (f : FoundR L H ρ o p) : p.isSome = o.isSome := by
  cases o <;> cases p <;> simp_all [FoundR]
theorem put_k {k : Key} {d : D} {v : V} (hv : Rv L.K H ρ d v) : ∀ {kvs : List (D × D)} {ps : List (Key × V)}, RvK L.K H ρ kvs ps → RvK L.K H ρ (put kvs (kD k) d) (putK ps k v) := by
  have any : ∀ {kvs : List (D × D)} {ps : List (Key × V)}, RvK L.K H ρ kvs ps → (kvs.any fun p => D.beq p.1 (kD k)) = ps.any fun kv => decide (kv.1 = k) := by
    intro kvs
    induction kvs with
    | nil => intro ps h; unfold RvK at h; subst h; rfl
    | cons p r ih =>
      intro ps h
      obtain ⟨d', e⟩ := p
      unfold RvK at h
      obtain ⟨k', w, q, rfl, rfl, z, y⟩ := h
      simp only [List.any_cons, ih y, kD_beq]
  have mp : ∀ {kvs : List (D × D)} {ps : List (Key × V)}, RvK L.K H ρ kvs ps → RvK L.K H ρ (kvs.map fun p => if D.beq p.1 (kD k) = true then (p.1, d) else p) (ps.map fun kv => if kv.1 = k then (kv.1, v) else kv) := by
    intro kvs
    induction kvs with
    | nil => intro ps h; unfold RvK at h; subst h; simp [RvK]
    | cons p r ih =>
      intro ps h
      obtain ⟨d', e⟩ := p
      unfold RvK at h
      obtain ⟨k', w, q, rfl, rfl, z, y⟩ := h
      simp only [List.map_cons, kD_beq]
      unfold RvK
      by_cases c : k' = k
      · subst c
        simp only [decide_true, if_true]
        exact ⟨k', v, _, rfl, rfl, hv, ih y⟩
      · simp only [c, decide_false, if_false]
        exact ⟨k', w, _, rfl, rfl, z, ih y⟩
  have app : ∀ {kvs : List (D × D)} {ps : List (Key × V)}, RvK L.K H ρ kvs ps → RvK L.K H ρ (kvs ++ [(kD k, d)]) (ps ++ [(k, v)]) := by
    intro kvs
    induction kvs with
    | nil => intro ps h; unfold RvK at h; subst h; unfold RvK; exact ⟨k, v, [], rfl, rfl, hv, by simp [RvK]⟩
    | cons p r ih =>
      intro ps h
      obtain ⟨d', e⟩ := p
      unfold RvK at h
      obtain ⟨k', w, q, rfl, rfl, z, y⟩ := h
      rw [List.cons_append, List.cons_append]
      unfold RvK
      exact ⟨k', w, _, rfl, rfl, z, ih y⟩
  intro kvs ps h
  unfold put putK
  rw [any h]
  split
  · exact mp h
  · exact app h
theorem put_t {k : List Key} {d : D} {v : V} (hv : Rv L.K H ρ d v) : ∀ {kvs : List (D × D)} {ps : List (List Key × V)}, RvT L.K H ρ kvs ps → RvT L.K H ρ (put kvs (.tup (k.map kD)) d) (putK ps k v) := by
  have hb : ∀ k' : List Key, D.beq (.tup (k'.map kD)) (.tup (k.map kD)) = decide (k' = k) := fun k' => by
    rw [← kDs_beq]; simp [D.beq]
  have any : ∀ {kvs : List (D × D)} {ps : List (List Key × V)}, RvT L.K H ρ kvs ps → (kvs.any fun p => D.beq p.1 (.tup (k.map kD))) = ps.any fun kv => decide (kv.1 = k) := by
    intro kvs
    induction kvs with
    | nil => intro ps h; unfold RvT at h; subst h; rfl
    | cons p r ih =>
      intro ps h
      obtain ⟨d', e⟩ := p
      unfold RvT at h
      obtain ⟨k', w, q, rfl, rfl, z, y⟩ := h
      simp only [List.any_cons, ih y, hb]
  have mp : ∀ {kvs : List (D × D)} {ps : List (List Key × V)}, RvT L.K H ρ kvs ps → RvT L.K H ρ (kvs.map fun p => if D.beq p.1 (.tup (k.map kD)) = true then (p.1, d) else p) (ps.map fun kv => if kv.1 = k then (kv.1, v) else kv) := by
    intro kvs
    induction kvs with
    | nil => intro ps h; unfold RvT at h; subst h; simp [RvT]
    | cons p r ih =>
      intro ps h
      obtain ⟨d', e⟩ := p
      unfold RvT at h
      obtain ⟨k', w, q, rfl, rfl, z, y⟩ := h
      simp only [List.map_cons, hb]
      unfold RvT
      by_cases c : k' = k
      · subst c
        simp only [decide_true, if_true]
        exact ⟨k', v, _, rfl, rfl, hv, ih y⟩
      · simp only [c, decide_false, if_false]
        exact ⟨k', w, _, rfl, rfl, z, ih y⟩
  have app : ∀ {kvs : List (D × D)} {ps : List (List Key × V)}, RvT L.K H ρ kvs ps → RvT L.K H ρ (kvs ++ [(.tup (k.map kD), d)]) (ps ++ [(k, v)]) := by
    intro kvs
    induction kvs with
    | nil => intro ps h; unfold RvT at h; subst h; unfold RvT; exact ⟨k, v, [], rfl, rfl, hv, by simp [RvT]⟩
    | cons p r ih =>
      intro ps h
      obtain ⟨d', e⟩ := p
      unfold RvT at h
      obtain ⟨k', w, q, rfl, rfl, z, y⟩ := h
      rw [List.cons_append, List.cons_append]
      unfold RvT
      exact ⟨k', w, _, rfl, rfl, z, ih y⟩
  intro kvs ps h
  unfold put putK
  rw [any h]
  split
  · exact mp h
  · exact app h

def copE : Cop → CmpOp
  | .eq => .Eq | .ne => .NotEq | .lt => .Lt | .le => .LtE | .gt => .Gt | .ge => .GtE | .is => .Is | .isnot => .IsNot | .isin => .In | .notin => .NotIn
/-- a comparison as an operation -/
def cmpF (o : Cop) : D → D → Hd → R D := fun d e m => optB ((cmpD m o d e).map .bl) m
theorem optmap {α β : Type} {o : Option α} {f : α → β} {y : β} (h : o.map f = some y) : ∃ x, o = some x ∧ f x = y := by
  cases o with
  | none => cases h
  | some x => exact ⟨x, rfl, by simpa using h⟩

theorem eqF_inv {m : Hd} {d e : D} {k : Bool} (h : eqF m d e = some k) : D.flat (fz m d) = true ∧ D.flat (fz m e) = true ∧ SeqAt.shaped (D.py (fz m d)) = true ∧ SeqAt.shaped (D.py (fz m e)) = true ∧ k = PyData.eqv (D.py (fz m d)) (D.py (fz m e)) := by
  unfold eqF at h
  dsimp only at h
  split at h
  next c =>
    simp only [Bool.and_eq_true] at c
    cases h
    exact ⟨c.1.1.1, c.1.1.2, c.1.2, c.2, rfl⟩
  next => cases h
theorem eq_inv {m : Hd} {d e : D} {k : Bool} (h : eqD m d e = some k) : (∃ s t, d = .str s ∧ e = .str t ∧ k = decide (s = t)) ∨ eqF m d e = some k := by
  unfold eqD at h
  split at h
  next s t => cases h; exact .inl ⟨s, t, rfl, rfl, rfl⟩
  next => exact .inr h
theorem str_one {x : Str} (h : x.length = 1) : x = ⟨#[x.cps.getD 0 0]⟩ := by
  obtain ⟨c⟩ := x
  have h : c.size = 1 := h
  congr
  apply Array.ext
  · simp [h]
  · intro i h1 h2
    have : i = 0 := by omega
    subst this
    simp [Array.getD, h]
theorem ints_dp {K : PySem.W.Frag} : ∀ ns : List Int, DpAll K H (ns.map V.int) (D.pyL (ns.map D.int))
  | [] => .nil
  | n :: ns => by
    simp only [List.map_cons, D.pyL]
    exact .cons (by unfold D.py; exact .int n) (ints_dp ns)
/-- a sequence of flat items, as the library's -/
theorem dp_seq {d : D} {x : V} {xs : List D} (S : Sim L H ρ m) (r : Rv L.K H ρ d x) (e : sq m d = some xs) (f : D.flatL xs = true) : Dp L.K H x (.list (D.pyL xs)) ∨ Dp L.K H x (.tuple (D.pyL xs)) := by
  cases d with
  | tup ds =>
    cases e
    have := dp_of r (by simpa [D.flat] using f)
    exact .inr (by simpa [D.py] using this)
  | lst ds =>
    cases e
    have := dp_of r (by simpa [D.flat] using f)
    exact .inl (by simpa [D.py] using this)
  | scr ns =>
    cases e
    unfold Rv at r
    obtain ⟨a, rfl, h⟩ := r
    exact .inl (.lst h.sq (ints_dp ns))
  | nms ns =>
    cases e
    have := dp_of r rfl
    rw [show D.py (.nms ns) = .tuple (D.pyL (ns.map .str)) by unfold D.py; rw [pyL_strs]] at this
    exact .inr this
  | ref n =>
    have e2 : fz m (.ref n) = .lst xs := by
      simp only [sq] at e
      simp only [fz]
      split at e
      · cases e; rfl
      · cases e
    have := dp_fz S r (by rw [e2]; simpa [D.flat] using f)
    rw [e2] at this
    exact .inl (by simpa [D.py] using this)
  | _ => cases e
theorem in_ok {d e : D} {x y : V} {u v : Value} {k : Bool} (hK : L.K = X.K) (hu : X.A.units + 100 < cLine) (I : Inv X pins σ H s) (rx : RelV x v) (ry : RelV y u) (S : Sim L H ρ m) (rd : Rv L.K H ρ d x) (re : Rv L.K H ρ e y) (h : inD m d e = some k) :
    ∀ (n : Bool) (Q : VK), Q (.bl (if n then !k else k)) H → wpAny (model X.prog X.w) X.A (compareOp (if n then .NotIn else .In) v u) (EP X pins σ Q) X.xe s := by
  intro n Q q
  unfold inD at h
  split at h
  next t =>
    split at h
    next z =>
      split at h
      next h1 =>
        cases h
        unfold Rv at rd re
        subst rd re
        have e1 := str_one h1
        have q' : Q (.bl (if n then !decide (z.cps.getD 0 0 ∈ t.cps.toList) else decide (z.cps.getD 0 0 ∈ t.cps.toList))) H := q
        generalize z.cps.getD 0 0 = c at e1 q'
        subst e1
        cases n with
        | true => exact op_notIn_sign pins s σ H _ _ v u Q I rx ry ⟨c, t, rfl, rfl, q'⟩
        | false => exact op_in_sign pins s σ H _ _ v u Q I rx ry ⟨c, t, rfl, rfl, q'⟩
      next => cases h
    next => cases h
  next =>
    split at h
    next ys e1 =>
      unfold memD at h
      split at h
      next c =>
        simp only [Bool.and_eq_true] at c
        cases h
        have d1 := dp_of rd c.1.1.1
        rw [hK] at d1
        obtain ⟨as, r1⟩ := Dp.reads I _ _ _ d1 rx
        have hdep := SeqAt.depth_of_shaped c.1.1.2
        have hlay := SeqAt.canLay_of_shaped c.1.1.2
        have hm : min (PyData.depthAll (D.pyL ys)) (D.py d).depth ≤ (D.py d).depth := Nat.min_le_right _ _
        rcases dp_seq S re e1 c.1.2 with d2 | d2
        · rw [hK] at d2
          obtain ⟨bs, r2⟩ := Dp.reads I _ _ _ d2 ry
          cases n with
          | true => exact SeqAt.notIn_list_reads r2 r1 c.2 hlay (by omega) ⟨.bl _, H, I, rfl, q⟩
          | false => exact SeqAt.in_list_reads r2 r1 c.2 hlay (by omega) ⟨.bl _, H, I, rfl, q⟩
        · rw [hK] at d2
          obtain ⟨bs, r2⟩ := Dp.reads I _ _ _ d2 ry
          cases n with
          | true => exact SeqAt.notIn_tuple_reads r2 r1 c.2 hlay (by omega) ⟨.bl _, H, I, rfl, q⟩
          | false => exact SeqAt.in_tuple_reads r2 r1 c.2 hlay (by omega) ⟨.bl _, H, I, rfl, q⟩
      next => cases h
    next =>
      split at h
      next t kvs e2 =>
        split at h
        next hk =>
          cases h
          obtain ⟨a, o, rfl, g, f⟩ := dget_ok S re rd e2 hk
          have hs := f.isSome
          rw [← hs] at q
          cases ry
          cases n with
          | true => exact d_notIn (by omega) I g rx fun s3 I3 => ⟨.bl _, H, I3, rfl, q⟩
          | false => exact d_in (by omega) I g rx fun s3 I3 => ⟨.bl _, H, I3, rfl, q⟩
        next => cases h
      next => cases h
variable (hK : L.K = X.K) (hu : X.A.units + 100 < cLine)
include hK
theorem cmp_ord {o : CmpOp} {g : Int → Int → Bool} {r : PyData → PyData → Bool} {o' : Cop} (h : OpR X (compareOp o) (rI0 fun i j => .bl (g i j)))
    (hd : ∀ {s : Shared} {a b : Value} {da db : PyData} {as bs : List Addr} {Q : Value → Shared → Prop} {E : Value → Shared → Prop}, PySem.Reads s.heap a da as → PySem.Reads s.heap b db bs → PySem.W.alike da db = true → da ≠ .none → X.A.units + min da.depth db.depth < cLine → Q (.bool (r da db)) s →
      wpAny (model X.prog X.w) X.A (compareOp o a b) Q E s)
    (hu : X.A.units + 100 < cLine)
    (hf : ∀ m d e k, cmpD m o' d e = some k → (∃ i j, d = .int i ∧ e = .int j ∧ k = g i j) ∨ (D.flat (fz m d) = true ∧ D.flat (fz m e) = true ∧ PySem.W.alike (D.py (fz m d)) (D.py (fz m e)) = true ∧ D.py (fz m d) ≠ .none ∧ (D.py (fz m d)).depth ≤ 60 ∧ k = r (D.py (fz m d)) (D.py (fz m e)))) : OpR X (compareOp o) (rB L (cmpF o')) := by
  intro pins s σ H x y v u Q I rx ry ⟨ρ, m, d, e, S, rd, re, o⟩
  obtain ⟨k0, hk0, o1⟩ := o.optB
  obtain ⟨k, hk, e1⟩ := optmap hk0
  subst e1
  clear hk0
  rcases hf _ _ _ _ hk with ⟨i, j, rfl, rfl, rfl⟩ | ⟨f1, f2, f3, f4, f5, rfl⟩
  · unfold Rv at rd re
    exact h pins s σ H x y v u Q I rx ry ⟨i, j, rd, re, out_val o1 S (by simp [Rv])⟩
  · have d1 := dp_fz S rd f1
    have d2 := dp_fz S re f2
    rw [hK] at d1 d2
    obtain ⟨as, r1⟩ := Dp.reads I _ _ _ d1 rx
    obtain ⟨bs, r2⟩ := Dp.reads I _ _ _ d2 ry
    exact hd r1 r2 f3 f4 (by omega) ⟨.bl _, H, I, rfl, out_val o1 S (by simp [Rv])⟩
include hu
theorem op_cmpD (o : Cop) : OpR X (compareOp (copE o)) (rB L (cmpF o)) := by
  cases o with
  | eq =>
    intro pins s σ H x y v u Q I rx ry ⟨ρ, m, d, e, S, rd, re, o⟩
    obtain ⟨k0, hk0, o1⟩ := o.optB
    obtain ⟨k, hk, e1⟩ := optmap hk0
    subst e1
    clear hk0
    rcases eq_inv hk with ⟨z, z', rfl, rfl, rfl⟩ | hk
    · unfold Rv at rd re
      subst rd re
      exact op_eq pins s σ H _ _ v u Q I rx ry ⟨rfl, by rw [show decide (V.str z = V.str z') = decide (z = z') by simp]; exact out_val o1 S (by simp [Rv])⟩
    obtain ⟨f1, f2, s1, s2, rfl⟩ := eqF_inv hk
    have d1 := dp_fz S rd f1
    have d2 := dp_fz S re f2
    rw [hK] at d1 d2
    exact op_eqD (by omega) pins s σ H x y v u Q I rx ry ⟨_, _, d1, d2, s1, s2, out_val o1 S (by simp [Rv])⟩
  | ne =>
    intro pins s σ H x y v u Q I rx ry ⟨ρ, m, d, e, S, rd, re, o⟩
    obtain ⟨k0, hk0, o1⟩ := o.optB
    obtain ⟨k1, hk1, e1⟩ := optmap hk0
    subst e1
    obtain ⟨k, hk, e2⟩ := optmap hk1
    subst e2
    clear hk0 hk1
    rcases eq_inv hk with ⟨z, z', rfl, rfl, rfl⟩ | hk
    · unfold Rv at rd re
      subst rd re
      exact op_ne pins s σ H _ _ v u Q I rx ry ⟨rfl, by rw [show decide (V.str z = V.str z') = decide (z = z') by simp]; exact out_val o1 S (by simp [Rv])⟩
    obtain ⟨f1, f2, s1, s2, rfl⟩ := eqF_inv hk
    have d1 := dp_fz S rd f1
    have d2 := dp_fz S re f2
    rw [hK] at d1 d2
    exact op_neD (by omega) pins s σ H x y v u Q I rx ry ⟨_, _, d1, d2, s1, s2, out_val o1 S (by simp [Rv])⟩
  | lt =>
    refine cmp_ord hK op_lt (fun ra rb a n w q => PySem.W.lt_data ra rb a n w q) hu ?_
    intro m d e k h
    simp only [cmpD] at h
    split at h
    · next i j =>
      simp only [cmpI] at h
      exact .inl ⟨i, j, rfl, rfl, (Option.some.inj h).symm⟩
    · obtain ⟨c, a6⟩ := cmpG_inv h
      obtain ⟨a1, a2, a3, a4, a5⟩ := okG_inv c
      exact .inr ⟨a1, a2, a3, a4, a5, (Option.some.inj a6).symm⟩
  | le =>
    refine cmp_ord hK op_le (fun ra rb a n w q => PySem.W.le_data ra rb a n w q) hu ?_
    intro m d e k h
    simp only [cmpD] at h
    split at h
    · next i j =>
      simp only [cmpI] at h
      exact .inl ⟨i, j, rfl, rfl, (Option.some.inj h).symm⟩
    · obtain ⟨c, a6⟩ := cmpG_inv h
      obtain ⟨a1, a2, a3, a4, a5⟩ := okG_inv c
      exact .inr ⟨a1, a2, a3, a4, a5, (Option.some.inj a6).symm⟩
  | gt =>
    refine cmp_ord hK op_gt (fun ra rb a n w q => PySem.W.gt_data ra rb a n w q) hu ?_
    intro m d e k h
    simp only [cmpD] at h
    split at h
    · next i j =>
      simp only [cmpI] at h
      exact .inl ⟨i, j, rfl, rfl, (Option.some.inj h).symm⟩
    · obtain ⟨c, a6⟩ := cmpG_inv h
      obtain ⟨a1, a2, a3, a4, a5⟩ := okG_inv c
      exact .inr ⟨a1, a2, a3, a4, a5, (Option.some.inj a6).symm⟩
  | ge =>
    refine cmp_ord hK op_ge (fun ra rb a n w q => PySem.W.ge_data ra rb a n w q) hu ?_
    intro m d e k h
    simp only [cmpD] at h
    split at h
    · next i j =>
      simp only [cmpI] at h
      exact .inl ⟨i, j, rfl, rfl, (Option.some.inj h).symm⟩
    · obtain ⟨c, a6⟩ := cmpG_inv h
      obtain ⟨a1, a2, a3, a4, a5⟩ := okG_inv c
      exact .inr ⟨a1, a2, a3, a4, a5, (Option.some.inj a6).symm⟩
  | is =>
    intro pins s σ H x y v u Q I rx ry ⟨ρ, m, d, e, S, rd, re, o⟩
    obtain ⟨k0, hk0, o1⟩ := o.optB
    obtain ⟨k, hk, e1⟩ := optmap hk0
    subst e1
    clear hk0
    simp only [cmpD] at hk
    split at hk
    next =>
      have hk := Option.some.inj hk
      unfold Rv at re
      refine op_isN pins s σ H x y v u Q I rx ry ⟨re, ?_⟩
      have : decide (x = V.non) = k := by
        cases d <;> simp only [Rv] at rd <;> simp_all
        all_goals (obtain ⟨a, h⟩ := rd; first | (obtain ⟨rfl, _⟩ := h; simp_all) | (obtain ⟨_, rfl⟩ := h; simp_all) | (obtain ⟨_, rfl, _⟩ := h; simp_all) | (obtain ⟨_, _, rfl, _⟩ := h; simp_all))
      rw [this]
      exact out_val o1 S (by simp [Rv])
    next c =>
      split at hk
      next a =>
        unfold Rv at re rd
        cases hk
        refine op_isBl pins s σ H x y v u Q I rx ry ⟨a, c, rd, re, ?_⟩
        have : (a == c) = decide (a = c) := by cases a <;> cases c <;> rfl
        rw [← this]
        exact out_val o1 S (by simp [Rv])
      next => cases hk
    next => cases hk
  | isnot =>
    intro pins s σ H x y v u Q I rx ry ⟨ρ, m, d, e, S, rd, re, o⟩
    obtain ⟨k0, hk0, o1⟩ := o.optB
    obtain ⟨k, hk, e1⟩ := optmap hk0
    subst e1
    clear hk0
    simp only [cmpD] at hk
    split at hk
    next =>
      have hk := Option.some.inj hk
      unfold Rv at re
      refine op_notN pins s σ H x y v u Q I rx ry ⟨re, ?_⟩
      have : (!decide (x = V.non)) = k := by
        cases d <;> simp only [Rv] at rd <;> simp_all
        all_goals (obtain ⟨a, h⟩ := rd; first | (obtain ⟨rfl, _⟩ := h; simp_all) | (obtain ⟨_, rfl⟩ := h; simp_all) | (obtain ⟨_, rfl, _⟩ := h; simp_all) | (obtain ⟨_, _, rfl, _⟩ := h; simp_all))
      rw [this]
      exact out_val o1 S (by simp [Rv])
    next c =>
      split at hk
      next a =>
        unfold Rv at re rd
        cases hk
        refine op_notBl pins s σ H x y v u Q I rx ry ⟨a, c, rd, re, ?_⟩
        have : (!(a == c)) = !decide (a = c) := by cases a <;> cases c <;> rfl
        rw [← this]
        exact out_val o1 S (by simp [Rv])
      next => cases hk
    next => cases hk
  | isin =>
    intro pins s σ H x y v u Q I rx ry ⟨ρ, m, d, e, S, rd, re, o⟩
    obtain ⟨k0, hk0, o1⟩ := o.optB
    obtain ⟨k, hk, e1⟩ := optmap hk0
    subst e1
    exact in_ok hK hu I rx ry S rd re hk false Q (out_val o1 S (by simp [Rv]))
  | notin =>
    intro pins s σ H x y v u Q I rx ry ⟨ρ, m, d, e, S, rd, re, o⟩
    obtain ⟨k0, hk0, o1⟩ := o.optB
    obtain ⟨k1, hk1, e1⟩ := optmap hk0
    subst e1
    obtain ⟨k, hk, e2⟩ := optmap hk1
    subst e2
    exact in_ok hK hu I rx ry S rd re hk true Q (out_val o1 S (by simp [Rv]))
end
end Dx
/-! DxEa: dict of pairs with tuple keys, update, sorted pairs of texts -/
namespace Dx
open PySem PySem.Spec PyProof.Rows L2
abbrev TK := List Key × Addr × V
/-- later pairs win, the place is the first one's -/
def mergeT (kvs : List (List Key × V)) (more : List TK) : List (List Key × V) := more.foldl (fun acc e => putK acc e.1 e.2.2) kvs
theorem len_mergeT : ∀ (more : List TK) (kvs : List (List Key × V)), (mergeT kvs more).length ≤ kvs.length + more.length
  | [], kvs => Nat.le_refl _
  | e :: r, kvs => by
    have h1 := len_mergeT r (putK kvs e.1 e.2.2)
    have h2 := length_putK kvs e.1 e.2.2
    show (mergeT (putK kvs e.1 e.2.2) r).length ≤ _
    rw [List.length_cons]
    omega
section
variable {X : Cx} {pins : List (Addr × Obj)} {σ : VS} {H : Hp} {s : Shared}
/-- a tracked pair with a key of texts and ints -/
def PairT (H : Hp) (p : Addr) (e : TK) : Prop := H p = some (.tup [.ref e.2.1, e.2.2]) ∧ H e.2.1 = some (.tup (e.1.map kV))
theorem pairT_at (I : Inv X pins σ H s) {p : Addr} {e : TK} (h : PairT H p e) : ∃ u : Value, RelV e.2.2 u ∧ s.heap.IsTuple p #[.ref e.2.1, u] := by
  obtain ⟨_, its, r, t⟩ := I.hok _ _ h.1
  obtain ⟨x, u, rfl, r1, r2⟩ := vals2 r
  obtain rfl : x = Value.ref e.2.1 := r1
  obtain ⟨o, h1, h2, n, h3⟩ := t
  exact ⟨u, r2, o, h1, h2, n, h3⟩
theorem pairsT_at (I : Inv X pins σ H s) : ∀ {ps : List Addr} {es : List TK}, Paired (PairT H) ps es →
    ∃ us : List (List Key × Addr × Value), us.length = ps.length ∧ Paired (fun (e : TK) (u : List Key × Addr × Value) => u.1 = e.1 ∧ u.2.1 = e.2.1 ∧ RelV e.2.2 u.2.2 ∧ H e.2.1 = some (.tup (e.1.map kV))) es us ∧
      ∀ (j : Nat) (u : List Key × Addr × Value), us[j]? = some u → ∃ p, ps[j]? = some p ∧ s.heap.IsTuple p #[.ref u.2.1, u.2.2]
  | _, _, .nil => ⟨[], rfl, .nil, fun j u h => by simp at h⟩
  | _, _, .cons (a := p) (b := e) h t => by
    obtain ⟨us, l, pr, f⟩ := pairsT_at I t
    obtain ⟨u, ru, ht⟩ := pairT_at I h
    refine ⟨(e.1, e.2.1, u) :: us, by simp [l], .cons ⟨rfl, rfl, ru, h.2⟩ pr, fun j x hx => ?_⟩
    cases j with
    | zero =>
      simp at hx
      subst hx
      exact ⟨p, rfl, ht⟩
    | succ j => simpa using f j x (by simpa using hx)
theorem kt_merge {H : Hp} : ∀ {es : List TK} {us : List (List Key × Addr × Value)} {kvs : List (List Key × V)} {xs : List (List Key × Addr × Value)}, Paired (fun (e : TK) (u : List Key × Addr × Value) => u.1 = e.1 ∧ u.2.1 = e.2.1 ∧ RelV e.2.2 u.2.2 ∧ H e.2.1 = some (.tup (e.1.map kV))) es us →
    KT H kvs xs → KT H (mergeT kvs es) (storedAllH xs us)
  | _, _, kvs, xs, .nil, r => r
  | _, _, kvs, xs, .cons (a := e) (b := u) ⟨h1, h2, h3, h4⟩ t, r => by
    show KT H (mergeT (putK kvs e.1 e.2.2) _) (storedAllH (storedH xs u.1 u.2.1 u.2.2) _)
    rw [h1, h2]
    exact kt_merge t (r.put e.1 h4 h3)
theorem is_key_keep {ks : List Key} {b : Addr} {h g : Heap} (q : (tupleKind (mixKind X.prog X.w)).is h ks b) (e : ∀ o, h.get? b = some o → g.get? b = some o) : (tupleKind (mixKind X.prog X.w)).is g ks b := by
  obtain ⟨o, its, n, h1, h2, h3, h4⟩ := q
  exact ⟨o, its, n, e o h1, h2, h3, h4⟩
theorem refs_back' : ∀ {ps : List Addr} {us : List Value}, Vals (ps.map V.ref) us → us = ps.map Value.ref := refs_at
/-- dict(xs) of a list of pairs whose keys are tuples -/
theorem call_dictT (hcalm : X.calm = true) (hu : X.A.units + 100 < cLine) : CallR X (.type "dict") (fun xs H Q => ∃ (a : Addr) (ps : List Addr) (es : List TK), xs = [.ref a] ∧ SqL X.K H a (ps.map V.ref) ∧ Paired (PairT H) ps es ∧ ∀ p, H p = none → Q (.ref p) (upd H p (.dT (mergeT [] es)))) := by
  intro pins s σ H xs us Q I r ⟨a, ps, es, ex, hq, hp, q⟩
  subst ex
  obtain ⟨u, rfl, rx⟩ := vals1 r
  cases rx
  obtain ⟨its, rv, pl, hz⟩ := I.list hq
  obtain rfl := refs_at rv
  rw [List.length_map] at hz
  obtain ⟨vs, lv, pr, at'⟩ := pairsT_at I hp
  have le : es.length = vs.length := Paired.length pr
  have big : ∀ e ∈ vs, H e.2.1 = some (.tup (e.1.map kV)) := by
    have gen : ∀ {es : List TK} {us : List (List Key × Addr × Value)}, Paired (fun (e : TK) (u : List Key × Addr × Value) => u.1 = e.1 ∧ u.2.1 = e.2.1 ∧ RelV e.2.2 u.2.2 ∧ H e.2.1 = some (.tup (e.1.map kV))) es us → ∀ e ∈ us, H e.2.1 = some (.tup (e.1.map kV)) := by
      intro es us h
      induction h with
      | nil => intro e he; exact nomatch he
      | cons h t ih =>
        intro e he
        rcases List.mem_cons.mp he with rfl | he
        · rw [h.1, h.2.1]; exact h.2.2.2
        · exact ih e he
    exact gen pr
  have keys : ∀ e ∈ vs, (tupleKind (mixKind X.prog X.w)).is s.heap e.1 e.2.1 := fun e he => key_of I.hok (big e he)
  have klt : ∀ e ∈ vs, e.2.1 < s.heap.objs.size := fun e he => by
    obtain ⟨o, _, _, h1, _⟩ := keys e he
    exact Heap.lt_size h1
  let prs : List (Value × Value) := vs.map fun e => (.ref e.2.1, e.2.2)
  have prl : prs.length = vs.length := List.length_map ..
  let P := PairArg.list (prog := X.prog) (w := X.w) a (ps.map Value.ref).toArray (fun j => (ps[j]?).getD 0) prs
  have items : PairItems s.heap (ps.map Value.ref).toArray (fun j => (ps[j]?).getD 0) prs := by
    refine ⟨by simp [prs, lv], fun j k v hj => ?_⟩
    rw [List.getElem?_map] at hj
    obtain ⟨e, he, e2⟩ := Option.map_eq_some_iff.mp hj
    cases e2
    obtain ⟨p, g1, g2⟩ := at' j e he
    refine ⟨by simp [g1], ?_⟩
    show PairAt s.heap ((ps[j]?).getD 0) _ _
    rw [g1]
    exact .inl g2
  refine call_dict_pairsH (knd := tupleKind (mixKind X.prog X.w)) (ps := vs) P (I.ok.hd hcalm) (show X.A.in1.in1.units < cLine from by show X.A.units + 2 < cLine; omega) ⟨pl, items⟩ ⟨prl.symm, fun i key v hr => ?_⟩ (fun g hk x hx => ?_) (by rw [prl, lv]; exact hz) fun g tk hd' hk => ?_
  · have hr : prs[i]? = some (key, v) := hr
    rw [List.getElem?_map] at hr
    obtain ⟨e, he, e2⟩ := Option.map_eq_some_iff.mp hr
    cases e2
    exact ⟨e.1, e.2.1, he, rfl⟩
  · exact is_key_keep (keys x hx) fun o e => hk _ o (Nat.ne_of_lt (klt x hx)) (by simp) e
  · have lo : (s.heap.objs.size == sysModules) = false := beq_eq_false_iff_ne.mpr (Nat.ne_of_gt I.big)
    have nH : H s.heap.objs.size = none := I.hok.fresh (Nat.le_refl _)
    obtain ⟨o, en, ep, h1, h2, h3, h4, h5, h6⟩ := hd'
    have kt : KT (upd H s.heap.objs.size (.dT (mergeT [] es))) (mergeT [] es) (storedAllH [] vs) := (kt_merge pr .nil).keeps fun b ys e => upd_tup nH e
    have ml := len_mergeT es []
    have hl : (mergeT [] es).length ≤ sizeLine := by rw [List.length_nil] at ml; omega
    exact ⟨.ref s.heap.objs.size, _, I.laid (t' := tk) (fun b ob e => hk b ob (by simp) e) (Nat.le_refl _) (show ObjOk X.prog X.w _ _ _ (.dT (mergeT [] es)) from ⟨hl, lo, _, kt, o, en, ep, h1, h2, h3, h4, h6⟩), rfl, q _ nH⟩
/-- d.update(e), both with tuple keys, d not empty -/
theorem mt_updateT (hu : X.A.units + 100 < cLine) : MtR X "dict.update" (fun x xs H Q => ∃ (d o : Addr) (kvs more : List (List Key × V)), x = .ref d ∧ xs = [.ref o] ∧ d ≠ o ∧ H d = some (.dT kvs) ∧ Rd H o (.dT more) ∧ kvs ≠ [] ∧ kvs.length + more.length ≤ sizeLine ∧
    Q .non (upd H d (.dT (more.foldl (fun acc e => putK acc e.1 e.2) kvs)))) := by
  intro pins s σ H x xs v us Q I rx rs ⟨d, o, kvs, more, ex, exs, hne, hd, ho, hn, hz, q⟩
  subst ex exs
  obtain rfl : v = Value.ref d := rx
  obtain ⟨u, rfl, ru⟩ := vals1 rs
  obtain rfl : u = Value.ref o := ru
  obtain ⟨z1, lo1, ys, r1, d1⟩ := dt_of I.hok hd
  obtain ⟨z2, lo2, zs, r2, d2⟩ := dt_rd I.hok ho
  have l1 : kvs.length = ys.length := Paired.length r1
  have l2 : more.length = zs.length := Paired.length r2
  have hy : ys ≠ [] := fun e => by
    subst e
    exact hn (List.length_eq_zero_iff.mp l1)
  refine call_update_dictH (knd := tupleKind (mixKind X.prog X.w)) (show X.A.in1.units < cLine from by show X.A.units + 1 < cLine; omega) hne lo2 d1 d2 (.inl hy) (by omega) fun g hd' _ hs => ?_
  obtain ⟨ob, en, ep, h1, h2, h3, h4, h5, h6⟩ := hd'
  have kt0 : ∀ {more : List (List Key × V)} {zs : List (List Key × Addr × Value)} {kvs : List (List Key × V)} {ys : List (List Key × Addr × Value)}, KT H more zs → KT H kvs ys → KT H (more.foldl (fun acc e => putK acc e.1 e.2) kvs) (storedAllH ys zs) := by
    intro more zs kvs ys r2
    induction r2 generalizing kvs ys with
    | nil => exact fun r => r
    | @cons e u es us h t ih =>
      intro r
      obtain ⟨e1, e2, e3⟩ := h
      show KT H (es.foldl _ (putK kvs e.1 e.2)) (storedAllH (storedH ys u.1 u.2.1 u.2.2) us)
      rw [← e1]
      exact ih (r.put e.1 e2 e3)
  have len : ∀ (more kvs : List (List Key × V)), (more.foldl (fun acc e => putK acc e.1 e.2) kvs).length ≤ kvs.length + more.length := by
    intro more
    induction more with
    | nil => intro kvs; exact Nat.le_refl _
    | cons e es ih =>
      intro kvs
      have a := ih (putK kvs e.1 e.2)
      have b := length_putK kvs e.1 e.2
      rw [List.length_cons]
      show (es.foldl _ (putK kvs e.1 e.2)).length ≤ _
      omega
  have ml := len more kvs
  have ok : ObjOk X.prog X.w (upd H d (.dT (more.foldl (fun acc e => putK acc e.1 e.2) kvs))) g d (.dT (more.foldl (fun acc e => putK acc e.1 e.2) kvs)) :=
    ⟨by omega, lo1, _, (kt0 r2 r1).keeps fun c ws ec => by rw [upd_ne (ne_of ec hd (fun z => by cases z))]; exact ec, ob, en, ep, h1, h2, h3, h4, h6⟩
  exact ⟨.non, _, d_write (t' := s.toks) I (by rw [hd]; exact True.intro) hs ⟨ob, h1⟩ ok, rfl, q⟩

/-! ### sorted pairs of texts -/
def shp : Nat → Bool := fun _ => true
/-- the pair that a value shows -/
def prV (h : Heap) (v : Value) : Str × Str := match PyProof.Rows.G.tupKeyC h shp v with
  | some [Sum.inr a, Sum.inr b] => (⟨a.toArray⟩, ⟨b.toArray⟩)
  | _ => (⟨#[]⟩, ⟨#[]⟩)
theorem key_pr {h : Heap} {t : Addr} {a b : Str} {u v : Tok} (ht : h.IsTuple t #[.str a u, .str b v]) : PyProof.Rows.G.tupKeyC h shp (.ref t) = some [Sum.inr a.cps.toList, Sum.inr b.cps.toList] := by
  obtain ⟨o, h1, h2, n, h3⟩ := ht
  unfold PyProof.Rows.G.tupKeyC
  rw [if_pos (by simp [PyProof.Rows.G.isTupObj, h1, h2])]
  simp only [PyProof.Rows.tupKey, h1, h3]
  rfl
theorem prV_eq {h : Heap} {t : Addr} {a b : Str} {u v : Tok} (ht : h.IsTuple t #[.str a u, .str b v]) : prV h (.ref t) = (a, b) := by
  unfold prV
  rw [key_pr ht]
theorem lt_pr {h : Heap} {t t' : Addr} {a b a' b' : Str} {u v u' v' : Tok} (ht : h.IsTuple t #[.str a u, .str b v]) (ht' : h.IsTuple t' #[.str a' u', .str b' v']) {k k' : List (Int ⊕ List Nat)} (e : PyProof.Rows.G.tupKeyC h shp (.ref t) = some k) (e' : PyProof.Rows.G.tupKeyC h shp (.ref t') = some k')
    (hl : (PyProof.Rows.listOrd PyProof.Rows.itemOrd).blt k' k = false) : lePr (a, b) (a', b') = true := by
  rw [key_pr ht] at e
  rw [key_pr ht'] at e'
  cases e
  cases e'
  have hl : PyProof.Rows.lexLt PyProof.Rows.itemOrd [Sum.inr a'.cps.toList, Sum.inr b'.cps.toList] [Sum.inr a.cps.toList, Sum.inr b.cps.toList] = false := hl
  rw [PyProof.Rows.lex_false] at hl
  obtain ⟨h1, h2⟩ := hl
  have h1 : decide (a'.cps.toList < a.cps.toList) = false := h1
  unfold lePr ltPr
  by_cases c : a' = a
  · subst c
    rw [if_pos rfl]
    rcases h2 with h2 | h2
    · have h2 : decide (a'.cps.toList < a'.cps.toList) = true := h2
      rw [h1] at h2; cases h2
    · rw [PyProof.Rows.lex_false] at h2
      have h3 : decide (b'.cps.toList < b.cps.toList) = false := h2.1
      unfold strLt
      rw [h3]
      rfl
  · rw [if_neg c]
    unfold strLt
    rw [h1]
    rfl
theorem sorted_run {prog : Program} {w : World} {A : Around} {E : Value → Shared → Prop} {s : Shared} {l : Addr} {its : List Value} {n : Nat} {prs : List (Str × Str)} {P : PySem.Fin → Shared → Prop} (ho : s.heap.get? l = some (seqObj "list" its.toArray n)) (hL : its.length ≤ sizeLine)
    (at' : ∀ (j : Nat) (v : Value), its[j]? = some v → ∃ t a b u u', v = .ref t ∧ s.heap.IsTuple t #[.str a u, .str b u'] ∧ prs[j]? = some (a, b)) (hpl : prs.length = its.length)
    (h : ∀ out : List Value, out.Perm its → (out.map (prV s.heap)).Perm prs → (out.map (prV s.heap)).Pairwise (fun x y => lePr x y = true) → P (.done (.ret .none)) { s with heap := sortedHeap s.heap l its out.toArray }) :
    wpAny (model prog w) A (Builtin.«list.sort» ⟨[.ref l], []⟩) P E s := by
  have mem : ∀ v ∈ its, ∃ t a b u u', v = .ref t ∧ s.heap.IsTuple t #[.str a u, .str b u'] := fun v hv => by
    obtain ⟨j, hj, e⟩ := List.getElem_of_mem hv
    obtain ⟨t, a, b, u, u', e1, e2, _⟩ := at' j v (by rw [List.getElem?_eq_getElem hj, e])
    exact ⟨t, a, b, u, u', e1, e2⟩
  have ft : ∀ vs : List Value, (∀ v ∈ vs, ∃ t a b u u', v = .ref t ∧ s.heap.IsTuple t #[.str a u, .str b u']) → ∃ fs, TupsOf s.heap shp vs fs := by
    intro vs
    induction vs with
    | nil => intro _; exact ⟨[], .nil⟩
    | cons v vs ih =>
      intro hv
      obtain ⟨fs, tf⟩ := ih fun x hx => hv x (List.mem_cons_of_mem _ hx)
      obtain ⟨t, a, b, u, u', rfl, o, h1, h2, n, h3⟩ := hv v (by simp)
      exact ⟨_, .cons ⟨t, o, _, n, rfl, h1, h2, h3, rfl, fun e => (by cases e), fun _ => ⟨a, u, rfl⟩⟩ tf⟩
  obtain ⟨fs, tf⟩ := ft its mem
  have keys : ∀ v, v ∈ its → ∃ k, PyProof.Rows.G.tupKeyC s.heap shp v = some k := fun v hv => by
    obtain ⟨t, a, b, u, u', rfl, ht⟩ := mem v hv
    exact ⟨_, key_pr ht⟩
  refine PyProof.Rows.G.list_sort_tups ho tf keys hL fun st' hp hs _ => ?_
  have hpl' : (arrOf st').toList.Perm (its.zip its) := by
    have e := Array.perm_iff_toList_perm.mp hp
    rwa [pairsOf_toList] at e
  have same : ∀ p ∈ (arrOf st').toList, p.1 = p.2 ∧ p.2 ∈ its := fun p hp => by
    have hz := hpl'.mem_iff.mp hp
    obtain ⟨i, hi, e⟩ := List.getElem_of_mem hz
    rw [List.getElem_zip] at e
    subst e
    exact ⟨rfl, List.getElem_mem _⟩
  have ko : KeysOf (PyProof.Rows.G.tupKindC s.heap shp) (arrOf st') := fun p hp => by
    obtain ⟨e, hm⟩ := same p hp
    obtain ⟨k, hk⟩ := keys _ hm
    exact ⟨k, by rw [e]; exact hk⟩
  have sz : (pairsOf its).size = (arrOf st').size := by
    have := hpl'.length_eq
    rw [Array.length_toList] at this
    rw [this, ← pairsOf_toList, Array.length_toList]
  have pw := keyLe_of_sorted ko (by rw [← sz]; exact hs)
  have eout : (arrOf st').map (·.2) = (((arrOf st').toList.map (·.2)).toArray) := Array.ext' (by rw [Array.toList_map])
  rw [eout]
  refine h _ ?_ ?_ ?_
  · have := hpl'.map (·.2)
    rwa [List.map_snd_zip (by omega)] at this
  · have e : its.map (prV s.heap) = prs := by
      apply List.ext_getElem?
      intro j
      rw [List.getElem?_map]
      cases hj : its[j]? with
      | none =>
        have := List.getElem?_eq_none_iff.mp hj
        rw [List.getElem?_eq_none (by omega)]
        rfl
      | some v =>
        obtain ⟨t, a, b, u, u', rfl, ht, e⟩ := at' j v hj
        rw [e, Option.map_some, prV_eq ht]
    rw [← e]
    have := hpl'.map (·.2)
    rw [List.map_snd_zip (by omega)] at this
    exact this.map _
  · rw [List.map_map, List.pairwise_map]
    refine pw.imp_of_mem fun {p q} hp hq hle => ?_
    obtain ⟨e1, m1⟩ := same p hp
    obtain ⟨e2, m2⟩ := same q hq
    obtain ⟨k, k', h1, h2, h3⟩ := hle
    obtain ⟨t, a, b, u, u', e3, ht⟩ := mem _ m1
    obtain ⟨t', a', b', u2, u2', e4, ht'⟩ := mem _ m2
    have h1 : PyProof.Rows.G.tupKeyC s.heap shp p.1 = some k := h1
    have h2 : PyProof.Rows.G.tupKeyC s.heap shp q.1 = some k' := h2
    rw [e1, e3] at h1
    rw [e2, e4] at h2
    show lePr (prV s.heap p.2) (prV s.heap q.2) = true
    rw [e3, e4, prV_eq ht, prV_eq ht']
    exact lt_pr ht ht' h1 h2 h3
end
/-! the order of pairs of texts -/
theorem str_ext {a b : Str} (h : a.cps.toList = b.cps.toList) : a = b := Str.ext' (Array.toList_inj.mp h)
theorem strLt_irrefl (a : Str) : strLt a a = false := strKind.irrefl a.cps.toList
theorem strLt_trans {a b c : Str} (h : strLt a b = true) (h' : strLt b c = true) : strLt a c = true := strKind.trans _ _ _ h h'
theorem strLt_total {a b : Str} (h : strLt a b = false) (h' : strLt b a = false) : a = b := str_ext (strKind.total _ _ h h')
theorem strLt_asymm {a b : Str} (h : strLt a b = true) : strLt b a = false := by
  cases h' : strLt b a with
  | false => rfl
  | true =>
    have t := strLt_trans h h'
    rw [strLt_irrefl] at t
    cases t
theorem lePr_total (p q : Str × Str) : (lePr p q || lePr q p) = true := by
  unfold lePr ltPr
  by_cases c : p.1 = q.1
  · rw [if_pos c.symm, if_pos c]
    cases h : strLt q.2 p.2 with
    | false => rfl
    | true => rw [strLt_asymm h]; rfl
  · rw [if_neg (fun e => c e.symm), if_neg c]
    cases h : strLt q.1 p.1 with
    | false => rfl
    | true => rw [strLt_asymm h]; rfl
theorem lePr_iff {p q : Str × Str} : lePr p q = true ↔ ltPr q p = false := by unfold lePr; cases ltPr q p <;> simp
theorem ltPr_trans {p q r : Str × Str} (h : ltPr p q = true) (h' : ltPr q r = true) : ltPr p r = true := by
  unfold ltPr at *
  by_cases c : p.1 = q.1
  · rw [if_pos c] at h
    by_cases c' : q.1 = r.1
    · rw [if_pos c'] at h'
      rw [if_pos (c.trans c')]
      exact strLt_trans h h'
    · rw [if_neg c'] at h'
      rw [if_neg (fun e => c' (c.symm.trans e)), c]
      exact h'
  · rw [if_neg c] at h
    by_cases c' : q.1 = r.1
    · rw [if_neg (fun e => c (e.trans c'.symm)), ← c']
      exact h
    · rw [if_neg c'] at h'
      have t := strLt_trans h h'
      by_cases e : p.1 = r.1
      · rw [e] at t
        rw [strLt_irrefl] at t
        cases t
      · rw [if_neg e]
        exact t
theorem ltPr_total {p q : Str × Str} (h : ltPr p q = false) (h' : ltPr q p = false) : p = q := by
  unfold ltPr at *
  by_cases c : p.1 = q.1
  · rw [if_pos c] at h
    rw [if_pos c.symm] at h'
    exact Prod.ext c (strLt_total h h')
  · rw [if_neg c] at h
    rw [if_neg (fun e => c e.symm)] at h'
    exact absurd (strLt_total h h') c
theorem ltPr_irrefl (p : Str × Str) : ltPr p p = false := by unfold ltPr; rw [if_pos rfl]; exact strLt_irrefl _
theorem lePr_trans {p q r : Str × Str} (h : lePr p q = true) (h' : lePr q r = true) : lePr p r = true := by
  rw [lePr_iff] at *
  cases c : ltPr r p with
  | false => rfl
  | true =>
    cases d : ltPr p q with
    | true =>
      rw [ltPr_trans c d] at h'
      cases h'
    | false =>
      obtain rfl := ltPr_total d h
      rw [c] at h'
      cases h'
theorem lePr_anti {p q : Str × Str} (h : lePr p q = true) (h' : lePr q p = true) : p = q := ltPr_total (lePr_iff.mp h') (lePr_iff.mp h)
theorem perm_sorted_eq {α : Type} {le : α → α → Bool} (anti : ∀ a b, le a b = true → le b a = true → a = b) : ∀ {l m : List α}, l.Perm m → l.Pairwise (fun a b => le a b = true) → m.Pairwise (fun a b => le a b = true) → l = m
  | [], m, p, _, _ => (List.Perm.eq_nil p.symm).symm
  | a :: l, [], p, _, _ => absurd p.length_eq (by simp)
  | a :: l, b :: m, p, h1, h2 => by
    rw [List.pairwise_cons] at h1 h2
    have e : a = b := by
      rcases List.mem_cons.mp (p.mem_iff.mp (List.mem_cons_self (a := a) (l := l))) with e | ha
      · exact e
      · rcases List.mem_cons.mp (p.mem_iff.mpr (List.mem_cons_self (a := b) (l := m))) with e | hb
        · exact e.symm
        · exact anti _ _ (h1.1 b hb) (h2.1 a ha)
    subst e
    rw [perm_sorted_eq anti p.cons_inv h1.2 h2.2]
theorem sorted_is {l prs : List (Str × Str)} (p : l.Perm prs) (h : l.Pairwise (fun a b => lePr a b = true)) : l = prs.mergeSort lePr :=
  perm_sorted_eq (fun _ _ => lePr_anti) (p.trans (List.mergeSort_perm _ _).symm) h (List.pairwise_mergeSort (le := lePr) (fun _ _ _ => lePr_trans) lePr_total prs)
section
variable {X : Cx} {pins : List (Addr × Obj)} {σ : VS} {H : Hp} {s : Shared}
/-- the values of tracked pairs of texts -/
def PrsAt (H : Hp) (ws : List V) (prs : List (Str × Str)) : Prop := ws.length = prs.length ∧ ∀ (j : Nat) (w : V), ws[j]? = some w → ∃ t a b, w = .ref t ∧ H t = some (.tup [.str a, .str b]) ∧ prs[j]? = some (a, b)
theorem prs_vals (I : Inv X pins σ H s) {ws : List V} {its : List Value} {prs : List (Str × Str)} (rv : Vals ws its) (h : PrsAt H ws prs) (j : Nat) (v : Value) (e : its[j]? = some v) :
    ∃ t a b u u', v = .ref t ∧ H t = some (.tup [.str a, .str b]) ∧ s.heap.IsTuple t #[.str a u, .str b u'] ∧ prs[j]? = some (a, b) := by
  have hj : j < ws.length := by rw [rv.length]; exact (List.getElem?_eq_some_iff.mp e).1
  obtain ⟨t, a, b, e1, ht, e2⟩ := h.2 j _ (List.getElem?_eq_getElem hj)
  obtain ⟨x, g1, g2⟩ := rv.get (List.getElem?_eq_getElem hj)
  rw [e] at g1
  cases g1
  rw [e1] at g2
  obtain rfl : v = Value.ref t := g2
  obtain ⟨_, i2, r2, o, h1, h2, n, h3⟩ := I.hok t _ ht
  obtain ⟨y, z, rfl, r3, r4⟩ := vals2 r2
  obtain ⟨u, rfl⟩ := r3
  obtain ⟨u', rfl⟩ := r4
  exact ⟨t, a, b, u, u', rfl, ht, ⟨o, h1, h2, n, h3⟩, e2⟩
/-- a new list of these is sorted -/
theorem sort_there {A : Around} {E : Value → Shared → Prop} {l : Addr} {ws : List V} {its : List Value} {prs : List (Str × Str)} {P : PySem.Fin → Shared → Prop} (I : Inv X pins σ H s) (rv : Vals ws its) (hp : PrsAt H ws prs) (hz : its.length ≤ sizeLine)
    (nl : H l = none) (ho : ∀ b o, H b = some o → b ≠ l) (hl : s.heap.get? l = some (seqObj "list" its.toArray 0)) (hbig : ∀ (b : Addr) (o : HO), H b = some o → b < s.heap.objs.size)
    (h : ∀ (ys : List V) (out : List Value) (c : Nat) (g : Heap), Vals ys out → PrsAt H ys (prs.mergeSort lePr) → g.get? l = some (seqObj "list" out.toArray c) → (∀ b o, b ≠ l → s.heap.get? b = some o → g.get? b = some o) → P (.done (.ret .none)) { s with heap := g }) :
    wpAny (model X.prog X.w) A (Builtin.«list.sort» ⟨[.ref l], []⟩) P E s := by
  have lt : prs.length = its.length := by rw [← hp.1, rv.length]
  refine sorted_run hl hz (fun j v e => ?_) lt fun out p1 p2 p3 => ?_
  · obtain ⟨t, a, b, u, u', e1, _, e2, e3⟩ := prs_vals I rv hp j v e
    exact ⟨t, a, b, u, u', e1, e2, e3⟩
  · have eq := sorted_is p2 p3
    obtain ⟨c, hc⟩ := sortedHeap_at (vs := its) (out := out.toArray) hl
    have facts : ∀ v ∈ out, ∃ t a b, v = .ref t ∧ H t = some (.tup [.str a, .str b]) ∧ prV s.heap v = (a, b) := fun v hv => by
      obtain ⟨j, hj, e⟩ := List.getElem_of_mem (p1.mem_iff.mp hv)
      obtain ⟨t, a, b, u, u', rfl, h1, h2, _⟩ := prs_vals I rv hp j v (by rw [List.getElem?_eq_getElem hj, e])
      exact ⟨t, a, b, rfl, h1, prV_eq h2⟩
    refine h (out.map backV) out c _ ?_ ⟨by rw [List.length_map, ← eq, List.length_map], fun j w e => ?_⟩ hc fun b o hb e => ?_
    · exact vals_back fun v hv => by
        obtain ⟨t, a, b, e, _⟩ := facts v hv
        exact ⟨t, e⟩
    · rw [List.getElem?_map] at e
      obtain ⟨v, e1, e2⟩ := Option.map_eq_some_iff.mp e
      obtain ⟨t, a, b, rfl, h1, h2⟩ := facts v (List.mem_of_getElem? e1)
      refine ⟨t, a, b, e2.symm, h1, ?_⟩
      rw [← eq, List.getElem?_map, e1, Option.map_some, h2]
    · rw [sortedHeap_old hb (Heap.lt_size e)]
      exact e
/-- sorted(xs), pairs of texts -/
theorem cr_sortedPr (hc : X.calm = true) : CallR X (.builtin "sorted") (fun xs H Q => ∃ (a : Addr) (ws : List V) (prs : List (Str × Str)), xs = [.ref a] ∧ SqL X.K H a ws ∧ PrsAt H ws prs ∧ ∀ ys p, PrsAt H ys (prs.mergeSort lePr) → ys.length ≤ sizeLine → H p = none → Q (.ref p) (upd H p (.lst ys))) := by
  intro pins s σ H xs us Q I r ⟨a, ws, prs, ex, hq, hp, q⟩
  subst ex
  obtain ⟨u, rfl, rx⟩ := vals1 r
  cases rx
  obtain ⟨its, rv, pl, hz⟩ := I.list hq
  rw [rv.length] at hz
  have I1 : Inv X pins σ H { s with heap := PySem.W.copyHeap s.heap its } := I.kept (t' := s.toks) fun b o e => PySem.W.copyHeap_old e
  have nH : H (s.heap.objs.size + 1) = none := I.hok.fresh (Nat.le_succ _)
  refine PySem.W.sorted_of_sort pl.isList hz (args_sorted1 _) (fun _ => args_list_sort _) fun E' => ?_
  refine sort_there (s := { s with heap := PySem.W.copyHeap s.heap its }) I1 rv hp hz nH (fun b o e => ne_of_none e nH) (PySem.W.copyHeap_at s.heap its) (fun b o e => I1.hok.lt e) fun ys out c g rv' hp' hl hk => ⟨rfl, ?_⟩
  have len : ys.length ≤ sizeLine := by rw [hp'.1, List.length_mergeSort, ← hp.1, rv.length]; exact hz
  exact ⟨.ref (s.heap.objs.size + 1), _, I.laid (t' := s.toks) (fun b o e => hk b o (Nat.ne_of_lt (Nat.lt_succ_of_lt (Heap.lt_size e))) (PySem.W.copyHeap_old e)) (Nat.le_succ _) (show ObjOk X.prog X.w _ _ _ (.lst ys) from ⟨len, out, c, rv', hl⟩), rfl, q ys _ hp' len nH⟩
/-- sorted(d), its keys pairs of texts -/
theorem cr_sortedKey (hc : X.calm = true) : CallR X (.builtin "sorted") (fun xs H Q => ∃ (a : Addr) (kvs : List (List Key × V)) (prs : List (Str × Str)), xs = [.ref a] ∧ Rd H a (.dT kvs) ∧ kvs.map (·.1) = prs.map (fun p => [Sum.inr p.1, Sum.inr p.2]) ∧ ∀ ys p, PrsAt H ys (prs.mergeSort lePr) → ys.length ≤ sizeLine → H p = none → Q (.ref p) (upd H p (.lst ys))) := by
  intro pins s σ H xs us Q I r ⟨d, kvs, prs, ex, hd, hks, q⟩
  subst ex
  obtain ⟨u, rfl, rx⟩ := vals1 r
  cases rx
  obtain ⟨z, hs, ks, pr, o, es, ep, ho, hx, hdt, he, hn⟩ := (show ObjOk X.prog X.w H s.heap d (.dT kvs) from hd.ok I.hok)
  have l1 : es.size = ks.length := size_of_entries he
  have l2 : kvs.length = ks.length := Paired.length pr
  have l3 : kvs.length = prs.length := by have := congrArg List.length hks; simpa using this
  refine Calls.call_function_entry PyProof.Rows.kind_sorted PyProof.Rows.plain_sorted PyProof.Rows.entry_sorted (PyProof.Rows.args_sorted1 _) ?_
  unfold Builtin.«sorted»
  refine wpAny_bind (m := checkCount "sorted" 1 1 _) (wpAny_pure ?_)
  refine wpAny_bind (PySem.W.kdu_collect (A := X.A.in1) (kdl_raw hs hx hdt) (I.ok.hd hc) ho (by omega) fun g tk acc hk it => ?_)
  have I1 : Inv X pins σ H { s with heap := g, toks := tk } := I.kept hk
  have ent : ∀ (j : Nat) (v : Value), acc.toList[j]? = some v → ∃ (t : Addr) (k : List Key) (x : V), v = .ref t ∧ kvs[j]? = some (k, x) ∧ H t = some (.tup (k.map kV)) := fun j v e => by
    obtain ⟨en, hen, hv⟩ := it.2 j v (by rw [← Array.getElem?_toList]; exact e)
    have qe := entry_at he j
    rw [hen] at qe
    obtain ⟨b, hb, e2⟩ := Option.map_eq_some_iff.mp qe.symm
    obtain ⟨p, hp, e3, e4, _⟩ := DX.pget pr hb
    exact ⟨b.2.1, p.1, p.2, by rw [hv, ← e2]; rfl, hp, e4⟩
  have la : acc.toList.length = kvs.length := by rw [Array.length_toList, it.1]; omega
  have rv : Vals (acc.toList.map backV) acc.toList := vals_back fun v hv => by
    obtain ⟨j, hj, e⟩ := List.getElem_of_mem hv
    obtain ⟨t, _, _, e1, _⟩ := ent j v (by rw [List.getElem?_eq_getElem hj, e])
    exact ⟨t, e1⟩
  have hp : PrsAt H (acc.toList.map backV) prs := by
    refine ⟨by rw [List.length_map, la, l3], fun j w e => ?_⟩
    rw [List.getElem?_map] at e
    obtain ⟨v, e1, e2⟩ := Option.map_eq_some_iff.mp e
    obtain ⟨t, k, x, rfl, h1, h2⟩ := ent j v e1
    have e3 : (kvs.map (·.1))[j]? = some k := by rw [List.getElem?_map, h1]; rfl
    rw [hks, List.getElem?_map] at e3
    obtain ⟨p, g1, g2⟩ := Option.map_eq_some_iff.mp e3
    subst g2
    exact ⟨t, p.1, p.2, e2.symm, h2, g1⟩
  have hz : acc.toList.length ≤ sizeLine := by rw [la]; exact z
  refine wpAny_bind (wpAny_newList ?_ hz)
  have hoL : (g.push (seqObj "list" acc.toList.toArray 0)).get? g.objs.size = some (seqObj "list" acc.toList.toArray 0) := Heap.get?_push_size _ rfl
  show wpAny _ _ _ _ _ { s with heap := g.push (seqObj "list" acc.toList.toArray 0), toks := tk }
  have I2 : Inv X pins σ H { s with heap := g.push (seqObj "list" acc.toList.toArray 0), toks := tk } := I1.kept (t' := tk) fun b o e => Heap.get?_push_of_some _ e
  have nH : H g.objs.size = none := I1.hok.fresh (Nat.le_refl _)
  refine wpAny_bind (wpAny_holding (wpAny_call_entry PyProof.Rows.slot_list_sort ⟨_, hoL, rfl⟩ PyProof.Rows.entry_list_sort
    (sort_there (s := { s with heap := g.push (seqObj "list" acc.toList.toArray 0), toks := tk }) I2 rv hp hz nH (fun b o e => ne_of_none e nH) hoL (fun b o e => I2.hok.lt e) fun ys out c f rv' hp' hl hk' => ⟨_, rfl, ?_⟩) (PyProof.Rows.args_list_sort _)))
  have len : ys.length ≤ sizeLine := by rw [hp'.1, List.length_mergeSort, ← l3]; exact z
  exact wpAny_pure ⟨_, rfl, .ref g.objs.size, _, I1.laid (t' := tk) (fun b u e => hk' b u (Nat.ne_of_lt (Heap.lt_size e)) (Heap.get?_push_of_some _ e)) (Nat.le_refl _) (show ObjOk X.prog X.w _ _ _ (.lst ys) from ⟨len, out, c, rv', hl⟩), rfl, q ys _ hp' len nH⟩
end
end Dx
/-! DxE: truth, items, slices, stores, built-in functions, methods -/
namespace Dx
open PySem PySem.Spec PyProof.Rows L2
section
variable {L : Lnk} {X : Cx} {H : Hp} {ρ : List Addr} {m : Hd} {pins : List (Addr × Obj)} {σ : VS} {s : Shared} {Q : VK} {b : Bool}

theorem sq_len {d : D} {x : V} {xs : List D} (S : Sim L H ρ m) (r : Rv L.K H ρ d x) (e : sq m d = some xs) :
    ∃ a vs, x = .ref a ∧ (SqL L.K H a vs ∨ SqT L.K H a vs) ∧ RvL L.K H ρ xs vs ∧ xs.length = vs.length :=
  let ⟨a, vs, h1, h2, h3⟩ := sq_ok (K := L.K) S r e
  ⟨a, vs, h1, h2, h3, h3.len⟩
theorem tru_okD {d : D} {x : V} {k : Bool} (hK : L.K = X.K) (S : Sim L H ρ m) (r : Rv L.K H ρ d x) (h : truD m d = some k) : TruV X.K x H k := by
  unfold truD at h
  split at h
  next => unfold Rv at r; subst r; cases h; rfl
  next b => unfold Rv at r; subst r; cases h; rfl
  next i => unfold Rv at r; subst r; cases h; rfl
  next z =>
    split at h
    next c => unfold Rv at r; subst r; cases h; exact ⟨c, rfl⟩
    next => cases h
  next =>
    obtain ⟨xs, e, rfl⟩ := optmap h
    obtain ⟨a, vs, rfl, h2, h3⟩ := sq_ok (K := L.K) S r e
    rw [hK] at h2
    rcases h2 with h2 | h2
    · exact .inl ⟨vs, h2, by rw [h3.emp]⟩
    · exact .inr (.inl ⟨vs, h2, by rw [h3.emp]⟩)

/-! ### a subscript -/
theorem ixNat_at {α : Type} {xs : List α} {i : Int} {v : α} (h : ((ixNat xs.length i).bind fun j => xs[j]?) = some v) : atI xs i = some v := h
theorem tail_ok {value slice : Expr} {o i : Value} {T id : String} {Q : Value → Shared → Prop} {E : Value → Shared → Prop} {A : Around} {prog : Program} {w : World} (hT : s.TypeIs o T)
    (hl : typeLookup (.type T) "__getitem__" = pure (some (.builtin id))) (h : wpAny (model prog w) A (getItem o i) Q E s)
    (hs : subscripted slice false o i = operate [o, i] (getItem o i)) :
    wpAny (model prog w) A (subscriptTail value slice o i) Q E s := by
  unfold subscriptTail
  refine wpAny_bind ?_
  rw [getitemInPython_of_ne hT.not_modules]
  refine wpAny_bind (wpAny_specialOf hT hl ?_)
  have fin : wpAny (model prog w) A (subscripted slice false o i) (fun r s₃ => wpAny (model prog w) A (letTemporaryGo value o r >>= fun _ => pure r) Q E s₃) E s := by
    rw [hs]
    exact wpAny_operating (wpAny_mono h (fun r s₃ h₃ => wpAny_bind (wpAny_letTemporaryGo (wpAny_pure h₃))) fun _ _ x => x)
  first
    | exact wpAny_pure (wpAny_bind fin)
    | exact wpAny_bind (wpAny_pure (wpAny_bind fin))
    | exact wpAny_bind fin
theorem sq_lst {d : D} {x : V} {xs : List D} (S : Sim L H ρ m) (r : Rv L.K H ρ d x) (e : sq m d = some xs) (n : ∀ ys, d ≠ .tup ys) (n2 : ∀ ys, d ≠ .nms ys) :
    ∃ a vs, x = .ref a ∧ SqL L.K H a vs ∧ RvL L.K H ρ xs vs := by
  cases d with
  | tup ds => exact absurd rfl (n ds)
  | nms ds => exact absurd rfl (n2 ds)
  | lst ds =>
    unfold Rv at r
    obtain ⟨a, o, vs, rfl, h, q⟩ := r
    cases e
    exact ⟨a, vs, rfl, .inl (.inr ⟨o, h⟩), q⟩
  | scr ns =>
    unfold Rv at r
    obtain ⟨a, rfl, h⟩ := r
    cases e
    refine ⟨a, _, rfl, h.sq, ?_⟩
    clear h n n2
    induction ns with
    | nil => exact rvl_nil
    | cons n ns ih => exact rvl_cons (by simp [Rv]) ih
  | ref k =>
    unfold Rv at r
    obtain ⟨a, h, rfl⟩ := r
    simp only [sq] at e
    cases q : m[k]? with
    | none => rw [q] at e; cases e
    | some o =>
      rw [q] at e
      cases o with
      | lst ds =>
        cases e
        obtain ⟨vs, h1, h2⟩ := S.ob k a _ h q
        exact ⟨a, vs, rfl, .of h1, h2⟩
      | _ => cases e
  | _ => cases e
theorem ix_dict (hu : X.A.units + 1 < cLine) : IxR X (fun x y H Q => ∃ a v, x = .ref a ∧ DGet H a y (some v) ∧ Q v H) := by
  intro value slice pins s σ H x y v u Q I rx ry h hs
  obtain ⟨a, z, rfl, g, q⟩ := h
  cases rx
  exact tail_ok (dict_typeIs I g) PySem.F.slot_dict_getitem.lookup (d_getItem hu I g ry fun w' s3 I3 rw' => ⟨z, H, I3, rw', q⟩) hs
theorem ix_D (hK : L.K = X.K) (hu : X.A.units + 100 < cLine) : IxR X (rB L fun d e m => optB (getD m d e) m) := by
  intro value slice pins s σ H x y v u Q I rx ry ⟨ρ, m, d, e, S, rd, re, o⟩ hs
  obtain ⟨z, h, o1⟩ := o.optB
  clear o
  unfold getD at h
  split at h
  next xs e1 =>
    split at h
    next i =>
      obtain ⟨a, vs, rfl, h2, h3, hl⟩ := sq_len S rd e1
      unfold Rv at re
      subst re
      cases q : ixNat xs.length i with
      | none => rw [q] at h; cases h
      | some j =>
        rw [q] at h
        obtain ⟨w, g1, g2⟩ := h3.get (show xs[j]? = some z from h)
        have at_ : atI vs i = some w := by
          show ((ixNat vs.length i).bind fun j => vs[j]?) = some w
          rw [← hl, q]
          exact g1
        rw [hK] at h2
        refine ix_seq value slice pins s σ H _ _ v u Q I rx ry ?_ hs
        rcases h2 with h2 | h2
        · exact .inl ⟨a, vs, i, w, rfl, rfl, h2, at_, out_val o1 S g2⟩
        · exact .inr (.inl ⟨a, vs, i, w, rfl, rfl, h2, at_, out_val o1 S g2⟩)
    next => cases h
  next =>
    split at h
    next t _ =>
      split at h
      next i =>
        split at h
        next hz =>
          obtain ⟨c, hc, rfl⟩ := optmap h
          unfold Rv at rd re
          subst rd re
          exact ix_seq value slice pins s σ H _ _ v u Q I rx ry (.inr (.inr ⟨t, i, c, rfl, rfl, hz, hc, out_val o1 S (by simp [Rv])⟩)) hs
        next => cases h
      next => cases h
    next =>
      split at h
      next t kvs e2 =>
        split at h
        next hk =>
          obtain ⟨a, p, rfl, g, f⟩ := dget_ok S rd re e2 hk
          rw [h] at f
          cases p with
          | none => exact f.elim
          | some w => exact ix_dict (by omega) value slice pins s σ H _ _ v u Q I rx ry ⟨a, w, rfl, g, out_val o1 S f⟩ hs
        next => cases h
      next => cases h

/-! ### slices -/
theorem rvl_cut {K : PySem.W.Frag} {xs : List D} {vs : List V} (r : RvL K H ρ xs vs) (lo hi : Option Int) : RvL K H ρ (cut xs lo hi) (cutV vs lo hi) := by
  show RvL K H ρ ((xs.drop (sIx xs.length 0 lo)).take (sIx xs.length xs.length hi - sIx xs.length 0 lo)) ((vs.drop (sIx vs.length 0 lo)).take (sIx vs.length vs.length hi - sIx vs.length 0 lo))
  rw [r.len]
  exact (r.drop _).take _
/-- a slice's reading -/
def rSl (L : Lnk) (b : Bool) : V → Option Int → Option Int → Hp → VK → Prop := fun x lo hi H Q => ∃ ρ m d, Sim L H ρ m ∧ Rv L.K H ρ d x ∧ Out L H ρ Q (slD b d lo hi m)
theorem sl_D (hK : L.K = X.K) (b : Bool) : SlR X (rSl L b) := by
  intro pins s σ H x v vl vu lo hi sl Q I rx hs pl pu ⟨ρ, m, d, S, rd, o⟩
  unfold slD at o
  split at o
  next xs =>
    have rd0 := rd
    unfold Rv at rd
    obtain ⟨a, vs, rfl, hp, rp⟩ := rd
    refine sl_tupA pins s σ H _ v vl vu lo hi sl Q I rx hs pl pu ⟨a, vs, rfl, .of hp, fun c => ?_, fun c p' hp' => out_tup S (rvl_cut rp lo hi) o hp'⟩
    have ec : cut xs lo hi = xs := by
      have hl := rp.len
      obtain ⟨c1, c2⟩ := c
      show (xs.drop (HT.sIx xs.length 0 lo)).take (HT.sIx xs.length xs.length hi - HT.sIx xs.length 0 lo) = xs
      rw [hl, c1, c2, ← hl]
      simp
    rw [ec] at o
    exact out_val o S rd0
  next xs =>
    have rd0 := rd
    unfold Rv at rd
    obtain ⟨a, ob, rfl, _, hp⟩ := rd
    refine sl_tupA pins s σ H _ v vl vu lo hi sl Q I rx hs pl pu ⟨a, xs.map V.str, rfl, .inl (.inr ⟨ob, hp⟩), fun c => ?_, fun c p' hp' => ?_⟩
    · rw [List.length_map] at c
      rw [if_pos (show sIx xs.length 0 lo = 0 ∧ sIx xs.length xs.length hi = xs.length from c)] at o
      exact out_val o S rd0
    · rw [List.length_map] at c
      rw [if_neg (show ¬ (sIx xs.length 0 lo = 0 ∧ sIx xs.length xs.length hi = xs.length) from c)] at o
      exact out_tup S (rvl_cut rvl_nms lo hi) o hp'
  next z =>
    obtain ⟨h, o⟩ := o.ifs
    unfold Rv at rd
    subst rd
    exact sl_str pins s σ H _ v vl vu lo hi sl Q I rx hs pl pu ⟨z, rfl, by simpa using h, out_val o S (by simp [Rv]; rfl)⟩
  next n n2 _ =>
    split at o
    next xs e1 =>
      obtain ⟨a, vs, rfl, h2, h3⟩ := sq_lst S rd e1 (fun ys z => n ys z) fun ys z => n2 ys z
      rw [hK] at h2
      cases b with
      | true => exact sl_list pins s σ H _ v vl vu lo hi sl Q I rx hs pl pu ⟨a, vs, rfl, h2, fun p hp => by simpa using mk_ok S (rvl_cut h3 lo hi) o hp⟩
      | false =>
        obtain ⟨T, id, t1, t2, t3⟩ := sl_list pins s σ H _ v vl vu lo hi sl (QLk Q) I rx hs pl pu ⟨a, vs, rfl, h2, fun p hp => by simpa using mk_ok S (rvl_cut h3 lo hi) o hp⟩
        exact ⟨T, id, t1, t2, thn t3 fun _ _ z => ep_lock z⟩
    next => exact o.elim

/-! ### o[i] = v -/
theorem putK_len {κ : Type} [DecidableEq κ] (kvs : List (κ × V)) : kvs.length = kvs.length := rfl
theorem rvk_len {K : PySem.W.Frag} : ∀ {kvs : List (D × D)} {ps : List (Key × V)}, RvK K H ρ kvs ps → kvs.length = ps.length
  | [], ps, h => by unfold RvK at h; subst h; rfl
  | (d, e) :: r, ps, h => by
    unfold RvK at h
    obtain ⟨k, v, q, rfl, _, _, y⟩ := h
    simp [rvk_len y]
theorem rvt_len {K : PySem.W.Frag} : ∀ {kvs : List (D × D)} {ps : List (List Key × V)}, RvT K H ρ kvs ps → kvs.length = ps.length
  | [], ps, h => by unfold RvT at h; subst h; rfl
  | (d, e) :: r, ps, h => by
    unfold RvT at h
    obtain ⟨k, v, q, rfl, _, _, y⟩ := h
    simp [rvt_len y]
def rSet (L : Lnk) : V → V → V → Hp → (Hp → Prop) → Prop := fun o i v H Q => ∃ ρ m d e f, Sim L H ρ m ∧ Rv L.K H ρ d o ∧ Rv L.K H ρ e i ∧ Rv L.K H ρ f v ∧ OutG L H ρ (fun _ _ H' _ => Q H') (setD d e f m)
def RvX (K : PySem.W.Frag) (H : Hp) (ρ : List Addr) (t : Bool) (kvs : List (D × D)) (u : HO) : Prop :=
  (t = false ∧ ∃ ps, u = .dK ps ∧ RvK K H ρ kvs ps) ∨ (t = true ∧ ∃ ps, u = .dT ps ∧ RvT K H ρ kvs ps)
theorem RvX.mono {H' : Hp} {ρ' : List Addr} {K : PySem.W.Frag} {t : Bool} {kvs : List (D × D)} {u : HO} (r : RvX K H ρ t kvs u) (pre : ρ <+: ρ') (ht : ∀ a xs, H a = some (.tup xs) → H' a = some (.tup xs)) (hf : ∀ a o u, H a = some (.frz o u) → H' a = some (.frz o u)) : RvX K H' ρ' t kvs u := by
  rcases r with ⟨rfl, ps, rfl, r⟩ | ⟨rfl, ps, rfl, r⟩
  · exact .inl ⟨rfl, ps, rfl, RvK.mono pre ht hf r⟩
  · exact .inr ⟨rfl, ps, rfl, RvT.mono pre ht hf r⟩
theorem RvX.mut {K : PySem.W.Frag} {t : Bool} {kvs : List (D × D)} {u : HO} (r : RvX K H ρ t kvs u) : (∀ xs, u ≠ .tup xs) ∧ ∀ o v, u ≠ .frz o v := by
  rcases r with ⟨_, ps, rfl, _⟩ | ⟨_, ps, rfl, _⟩ <;> exact ⟨fun xs h => (by cases h), fun o v h => (by cases h)⟩
theorem rvx_put {t : Bool} {kvs : List (D × D)} {u : HO} {d e : D} {y z : V} {D0 : Addr} (r : RvX L.K H ρ t kvs u) (hD : H D0 = some u) (rd : Rv L.K H ρ d y) (re : Rv L.K H ρ e z) (hk : keyOk t d = true) (hl : kvs.length < sizeLine) :
    ∃ u', DPut H D0 y z (upd H D0 u') ∧ RvX L.K H ρ t (put kvs d e) u' := by
  rcases r with ⟨rfl, ps, rfl, r⟩ | ⟨rfl, ps, rfl, r⟩
  · obtain ⟨k, rfl⟩ := key_of1 hk
    obtain rfl := rv_key rd
    exact ⟨_, DPut.k (k := k) (v := z) hD (by rw [← rvk_len r]; exact hl), .inl ⟨rfl, _, rfl, put_k re r⟩⟩
  · obtain ⟨ks, rfl⟩ := key_ofT hk
    obtain ⟨b, rfl, hb⟩ := rv_keyT rd
    exact ⟨_, DPut.t (k := ks) (v := z) hD hb (by rw [← rvt_len r]; exact hl), .inr ⟨rfl, _, rfl, put_t re r⟩⟩
theorem put_len (kvs : List (D × D)) (k v : D) : (put kvs k v).length ≤ kvs.length + 1 := by
  unfold put
  split <;> simp
theorem rvx_or {t : Bool} {kvs : List (D × D)} {u : HO} {a : Addr} (h : H a = some u) (r : RvX L.K H ρ t kvs u) : OR L H ρ a (.dct t kvs) := by
  rcases r with ⟨rfl, ps, rfl, r⟩ | ⟨rfl, ps, rfl, r⟩
  · exact .inl ⟨rfl, ps, h, r⟩
  · exact .inr ⟨rfl, ps, h, r⟩
/-- a new dict -/
theorem newD_ok {t : Bool} {kvs : List (D × D)} {u : HO} {D0 : Addr} {Q : VK} (S : Sim L H ρ m) (hD : H D0 = none) (r : RvX L.K H ρ t kvs u) (o : Out L H ρ Q (newD t kvs m)) : Q (.ref D0) (upd H D0 u) := by
  have r' : RvX L.K (upd H D0 u) (ρ ++ [D0]) t kvs u := r.mono (List.prefix_append _ _) (fun _ _ h => upd_tup hD h) fun _ _ _ h => upd_tup hD h
  have S' : Sim L (upd H D0 u) (ρ ++ [D0]) (m ++ [.dct t kvs]) := S.new hD (rvx_or upd_same r')
  refine o _ _ (Ext.newO hD) S' _ ?_
  unfold Rv
  refine ⟨D0, ?_, rfl⟩
  rw [← S.len, List.getElem?_append_right (Nat.le_refl _), Nat.sub_self]
  rfl
theorem set_D (hu : X.A.units + 100 < cLine) : PSet X (rSet L) := by
  intro pins s σ H o i v ov iv u Q I ro ri rv ⟨ρ, m, d, e, f, S, rd, re, rf, out⟩
  unfold setD at out
  split at out
  next n =>
    unfold Rv at rd
    obtain ⟨a, ha, rfl⟩ := rd
    split at out
    next xs e1 =>
      split at out
      next k =>
        split at out
        next j hj =>
          obtain ⟨vs, h1, h2⟩ := S.ob n a _ ha e1
          unfold Rv at re
          subst re
          have hl := h2.len
          refine set_list pins s σ H _ _ _ ov iv u Q I ro ri rv ⟨a, vs, k, j, rfl, rfl, h1, by rw [← hl]; exact hj, ?_⟩
          have x : Ext H ρ (upd H a (.lst (vs.set j v))) ρ := Ext.write ha h1 (by simp) (by simp)
          exact out _ _ x (S.write ha h1 (by simp) (by simp) ⟨_, upd_same, (RvL.set rf j h2).ext x⟩)
        next => exact out.elim
      next => exact out.elim
    next t kvs e1 =>
      obtain ⟨h, out⟩ := out.ifs
      simp only [Bool.and_eq_true, decide_eq_true_eq] at h
      cases ro
      rcases S.ob n a _ ha e1 with ⟨rfl, ps, h1, h2⟩ | ⟨rfl, ps, h1, h2⟩
      · obtain ⟨k, rfl⟩ := key_of1 h.1
        obtain rfl := rv_key re
        have hl := rvk_len h2
        refine d_setItem (by omega) I (DPut.k (k := k) (v := v) h1 (by omega)) ri rv fun s' I' => ⟨_, I', ?_⟩
        have x : Ext H ρ (upd H a (.dK (putK ps k v))) ρ := Ext.write ha h1 (by simp) (by simp)
        exact out _ _ x (S.write ha h1 (by simp) (by simp) (.inl ⟨rfl, _, upd_same, RvK.mono x.pre x.tup x.frz (put_k rf h2)⟩))
      · obtain ⟨ks, rfl⟩ := key_ofT h.1
        obtain ⟨b, rfl, hb⟩ := rv_keyT re
        have hl := rvt_len h2
        refine d_setItem (by omega) I (DPut.t (k := ks) (v := v) h1 hb (by omega)) ri rv fun s' I' => ⟨_, I', ?_⟩
        have x : Ext H ρ (upd H a (.dT (putK ps ks v))) ρ := Ext.write ha h1 (by simp) (by simp)
        exact out _ _ x (S.write ha h1 (by simp) (by simp) (.inr ⟨rfl, _, upd_same, RvT.mono x.pre x.tup x.frz (put_t rf h2)⟩))
    next => exact out.elim
  next => exact out.elim

/-! ### built-in functions -/
def rC (L : Lnk) (f : List D → Hd → R D) : List V → Hp → VK → Prop := fun vs H Q => ∃ ρ m ds, Sim L H ρ m ∧ RvL L.K H ρ ds vs ∧ Out L H ρ Q (f ds m)
theorem rvl1 {K : PySem.W.Frag} {d : D} {vs : List V} (r : RvL K H ρ [d] vs) : ∃ v, vs = [v] ∧ Rv K H ρ d v := by
  unfold RvL at r
  obtain ⟨v, q, rfl, h, z⟩ := r
  unfold RvL at z
  subst z
  exact ⟨v, rfl, h⟩
theorem rvl2 {K : PySem.W.Frag} {d e : D} {vs : List V} (r : RvL K H ρ [d, e] vs) : ∃ v w, vs = [v, w] ∧ Rv K H ρ d v ∧ Rv K H ρ e w := by
  unfold RvL at r
  obtain ⟨v, q, rfl, h, z⟩ := r
  obtain ⟨w, rfl, z'⟩ := rvl1 z
  exact ⟨v, w, rfl, h, z'⟩
theorem ints_of {K : PySem.W.Frag} : ∀ {ds : List D} {ns : List Int} {vs : List V}, intsOf ds = some ns → RvL K H ρ ds vs → vs = ns.map V.int
  | [], ns, vs, h, r => by unfold RvL at r; subst r; cases h; rfl
  | d :: ds, ns, vs, h, r => by
    unfold RvL at r
    obtain ⟨v, q, rfl, z, y⟩ := r
    cases d with
    | int i =>
      obtain ⟨ms, h1, rfl⟩ := optmap h
      unfold Rv at z
      rw [z, ints_of h1 y, List.map_cons]
    | _ => cases h
theorem bls_of {K : PySem.W.Frag} : ∀ {ds : List D} {ns : List Bool} {vs : List V}, blsOf ds = some ns → RvL K H ρ ds vs → vs = ns.map V.bl
  | [], ns, vs, h, r => by unfold RvL at r; subst r; cases h; rfl
  | d :: ds, ns, vs, h, r => by
    unfold RvL at r
    obtain ⟨v, q, rfl, z, y⟩ := r
    cases d with
    | bl i =>
      obtain ⟨ms, h1, rfl⟩ := optmap h
      unfold Rv at z
      rw [z, bls_of h1 y, List.map_cons]
    | _ => cases h
def biE : Bi → Option Value
  | .len => some (.builtin "len") | .max2 => some (.builtin "max") | .min2 => some (.builtin "min") | .abs => some (.builtin "abs") | .int => some (.type "int")
  | .repr => some (.builtin "repr") | .list _ => some (.type "list") | .tuple => some (.type "tuple") | .ntup => some (.type "tuple") | .all => some (.builtin "all") | .any => some (.builtin "any")
  | .sum => some (.builtin "sum") | .str => some (.type "str") | .maxL => some (.builtin "max") | .minL => some (.builtin "min") | .isinst _ => none
  | .dict _ => some (.type "dict") | .sorted _ => some (.builtin "sorted") | .setlen => none

def isTp : D → Bool
  | .tup _ => true
  | .nms _ => true
  | _ => false
theorem tp_sq {K : PySem.W.Frag} {d : D} {x : V} {xs : List D} (h : isTp d = true) (r : Rv K H ρ d x) (e : sq m d = some xs) : ∃ a vs, x = .ref a ∧ SqT K H a vs ∧ RvL K H ρ xs vs := by
  cases d with
  | tup ys =>
    cases e
    unfold Rv at r
    obtain ⟨a, vs, rfl, h1, h2⟩ := r
    exact ⟨a, vs, rfl, .of h1, h2⟩
  | nms ys =>
    cases e
    unfold Rv at r
    obtain ⟨a, o, rfl, _, h1⟩ := r
    exact ⟨a, _, rfl, .inl (.inr ⟨o, h1⟩), rvl_nms⟩
  | _ => cases h
theorem sq_lstN {d : D} {x : V} {xs : List D} (S : Sim L H ρ m) (r : Rv L.K H ρ d x) (e : sq m d = some xs) (n : ¬ isTp d = true) : ∃ a vs, x = .ref a ∧ SqL L.K H a vs ∧ RvL L.K H ρ xs vs :=
  sq_lst S r e (fun ys z => n (by rw [z]; rfl)) fun ys z => n (by rw [z]; rfl)
theorem tp_same {d : D} (h : isTp d = true) (m m' : Hd) : sq m d = sq m' d := by
  cases d <;> first | rfl | cases h
theorem lq_ok {d : D} {x : V} {xs : List D} (S : Sim L H ρ m) (r : Rv L.K H ρ d x) (e : lq m d = some xs) : ∃ a vs, x = .ref a ∧ SqL L.K H a vs ∧ RvL L.K H ρ xs vs := by
  unfold lq at e
  split at e
  · cases e
  · cases e
  · next n n2 => exact sq_lst S r e (fun ys z => n ys z) fun ys z => n2 ys z
theorem max_one {n : Int} : ∀ {ns : List Int} {k : Int}, k ∈ n :: ns → (∀ y ∈ n :: ns, y ≤ k) → k = ns.foldl max n := by
  intro ns
  induction ns generalizing n with
  | nil => intro k h _; simpa using h
  | cons a r ih =>
    intro k h g
    rw [List.foldl_cons]
    refine ih ?_ ?_
    · rcases List.mem_cons.mp h with rfl | h
      · have := g a (by simp)
        rw [show max k a = k by omega]
        simp
      · rcases List.mem_cons.mp h with rfl | h
        · have := g n (by simp)
          rw [show max n k = k by omega]
          simp
        · exact List.mem_cons_of_mem _ h
    · intro y hy
      rcases List.mem_cons.mp hy with rfl | hy
      · have h1 := g n (by simp)
        have h2 := g a (by simp)
        omega
      · exact g y (by simp [hy])
theorem min_one {n : Int} : ∀ {ns : List Int} {k : Int}, k ∈ n :: ns → (∀ y ∈ n :: ns, k ≤ y) → k = ns.foldl min n := by
  intro ns
  induction ns generalizing n with
  | nil => intro k h _; simpa using h
  | cons a r ih =>
    intro k h g
    rw [List.foldl_cons]
    refine ih ?_ ?_
    · rcases List.mem_cons.mp h with rfl | h
      · have := g a (by simp)
        rw [show min k a = k by omega]
        simp
      · rcases List.mem_cons.mp h with rfl | h
        · have := g n (by simp)
          rw [show min n k = k by omega]
          simp
        · exact List.mem_cons_of_mem _ h
    · intro y hy
      rcases List.mem_cons.mp hy with rfl | hy
      · have h1 := g n (by simp)
        have h2 := g a (by simp)
        omega
      · exact g y (by simp [hy])
theorem len_okD {d : D} {x : V} {n : Nat} (hK : L.K = X.K) (S : Sim L H ρ m) (r : Rv L.K H ρ d x) (h : lenD m d = some n) : LenV X.K x H n ∨ (∃ (p : Addr) (kvs : List (List Key × V)), x = .ref p ∧ Rd H p (.dT kvs) ∧ kvs.length = n) ∨ ∃ (p : Addr) (kvs : List (Key × V)), x = .ref p ∧ Rd H p (.dK kvs) ∧ kvs.length = n := by
  unfold lenD at h
  split at h
  next z =>
    split at h
    next c => unfold Rv at r; subst r; cases h; exact .inl ⟨c, rfl⟩
    next => cases h
  next =>
    split at h
    next xs e =>
      cases h
      obtain ⟨a, vs, rfl, h2, h3, hl⟩ := sq_len S r e
      rw [hK] at h2
      rcases h2 with h2 | h2
      · exact .inl (.inl ⟨vs, h2, hl⟩)
      · exact .inl (.inr ⟨vs, h2, hl⟩)
    next =>
      split at h
      next t kvs e =>
        cases h
        obtain ⟨a, rfl, hd⟩ := dq_ok S r e
        rcases hd with ⟨_, ps, h1, h2⟩ | ⟨_, ps, h1, h2⟩
        · exact .inr (.inr ⟨a, ps, rfl, h1, (rvk_len h2).symm⟩)
        · exact .inr (.inl ⟨a, ps, rfl, h1, (rvt_len h2).symm⟩)
      next => cases h
theorem call_len_dTR : CallR X (.builtin "len") (fun xs H Q => ∃ (p : Addr) (kvs : List (List Key × V)), xs = [V.ref p] ∧ Rd H p (.dT kvs) ∧ Q (.int kvs.length) H) := by
  intro pins s σ H xs us Q I r h
  obtain ⟨p, kvs, rfl, hp, q⟩ := h
  obtain ⟨u, rfl, rx⟩ := vals1 r
  obtain rfl : u = .ref p := rx
  obtain ⟨z, hd, ys, rel, dd⟩ := dt_rd I.hok hp
  have hl : kvs.length = ys.length := Paired.length rel
  refine call_len_dictH hd dd (by rw [← hl]; rw [sizeLine_eq] at z; omega) ?_
  rw [← hl]
  exact ⟨.int ((kvs.length : Nat) : Int), H, I.tok _, ⟨_, rfl⟩, q⟩
theorem call_len_dKR : CallR X (.builtin "len") (fun xs H Q => ∃ (p : Addr) (kvs : List (Key × V)), xs = [V.ref p] ∧ Rd H p (.dK kvs) ∧ Q (.int kvs.length) H) := by
  intro pins s σ H xs us Q I r h
  obtain ⟨p, kvs, rfl, hp, q⟩ := h
  obtain ⟨u, rfl, rx⟩ := vals1 r
  obtain rfl : u = .ref p := rx
  exact d_len I hp fun t s' I' => ⟨.int ((kvs.length : Nat) : Int), H, I', ⟨_, rfl⟩, q⟩
theorem ty_okD {d : D} {x : V} {n : String} (S : Sim L H ρ m) (r : Rv L.K H ρ d x) (h : tyOf m d = some n) (hK : L.K = X.K) : TyX X.K H x (.type n) := by
  cases d with
  | non => unfold Rv at r; subst r; cases h; exact .base .non
  | bl b => unfold Rv at r; subst r; cases h; exact .base (.bl b)
  | int b => unfold Rv at r; subst r; cases h; exact .base (.int b)
  | str b => unfold Rv at r; subst r; cases h; exact .base (.str b)
  | tup ds => unfold Rv at r; obtain ⟨a, vs, rfl, q, _⟩ := r; cases h; exact .base (.tup q)
  | lst ds => unfold Rv at r; obtain ⟨a, o, vs, rfl, q, _⟩ := r; cases h; exact .base (.frz q)
  | nms ds => unfold Rv at r; obtain ⟨a, o, rfl, _, q⟩ := r; cases h; exact .fTuple q
  | scr ns =>
    unfold Rv at r
    obtain ⟨a, rfl, q⟩ := r
    cases h
    rw [hK] at q
    rcases q with ⟨o, q⟩ | ⟨o, _, _, q, c, _⟩
    · exact .base (.frz q)
    · exact .kList q c
  | dct t kvs => cases h
  | ref n =>
    unfold Rv at r
    obtain ⟨a, q, rfl⟩ := r
    simp only [tyOf] at h
    split at h
    next ds e =>
      cases h
      obtain ⟨vs, h1, _⟩ := S.ob n a _ q e
      exact .base (.lst h1)
    next t kvs e =>
      cases h
      rcases S.ob n a _ q e with ⟨_, ps, h1, _⟩ | ⟨_, ps, h1, _⟩
      · exact .base (.dK h1)
      · exact .base (.dT h1)
    next => cases h
theorem kit_tyD {K : PySem.W.Frag} {n : String} (hn : n ∈ ["NoneType", "bool", "int", "str", "tuple", "list", "dict"]) (t : Ty) : PySem.W.kitOne K (.type n) (.type t.name) = some (n == t.name || (n == "bool" && t.name == "int")) := by
  refine kit_ty ?_
  simp only [List.mem_cons, List.not_mem_nil, or_false] at hn
  rcases hn with rfl | rfl | rfl | rfl | rfl | rfl | rfl <;> cases t <;> decide +kernel
theorem tyOf_mem {d : D} {n : String} (h : tyOf m d = some n) : n ∈ ["NoneType", "bool", "int", "str", "tuple", "list", "dict"] := by
  cases d <;> simp only [tyOf] at h
  all_goals first | (cases h; done) | (cases h; decide) | (split at h <;> first | (cases h; done) | (cases h; decide))
/-- isinstance(x, T) -/
theorem call_isinstD (hK : L.K = X.K) (t : Ty) : CallR X (.builtin "isinstance") (fun vs H Q => ∃ ρ m d v, vs = [v, .ty t.name] ∧ Sim L H ρ m ∧ Rv L.K H ρ d v ∧ Out L H ρ Q (biD (.isinst t) [d] m)) := by
  intro pins s σ H xs us Q I r ⟨ρ, m, d, v, e, S, rd, o⟩
  subst e
  have o : Out L H ρ Q (optB ((isTy m d t).map .bl) m) := o
  obtain ⟨k0, hk0, o1⟩ := o.optB
  obtain ⟨k, hk, e1⟩ := optmap hk0
  subst e1
  obtain ⟨n, hn, e2⟩ := optmap hk
  subst e2
  exact call_isi pins s σ H _ us Q I r ⟨v, .ty t.name, .type n, .type t.name, _, rfl, .ty _, ty_okD S rd hn hK, kit_tyD (tyOf_mem hn) t, out_val o1 S (by simp [Rv])⟩
theorem nodict_strs : ∀ {ns : List Str}, PyData.hasDictAll (ns.map PyData.str) = false
  | [] => rfl
  | n :: ns => by rw [List.map_cons, PyData.hasDictAll, nodict_strs]; rfl
mutual
theorem nodict : ∀ {d : D}, D.flat d = true → (D.py d).hasDict = false
  | .non, _ => rfl
  | .bl _, _ => rfl
  | .int _, _ => rfl
  | .str _, _ => rfl
  | .tup xs, h => by unfold D.py PyData.hasDict; exact nodictL (by simpa [D.flat] using h)
  | .lst xs, h => by unfold D.py PyData.hasDict; exact nodictL (by simpa [D.flat] using h)
  | .dct _ _, h => by simp [D.flat] at h
  | .ref _, h => by simp [D.flat] at h
  | .scr _, h => by simp [D.flat] at h
  | .nms ns, _ => by unfold D.py PyData.hasDict; exact nodict_strs
theorem nodictL : ∀ {d : List D}, D.flatL d = true → PyData.hasDictAll (D.pyL d) = false
  | [], _ => rfl
  | d :: ds, h => by
    simp only [D.flatL, Bool.and_eq_true] at h
    unfold D.pyL PyData.hasDictAll
    rw [nodict h.1, nodictL h.2]
    rfl
end
theorem reprG_ok {d : D} {x : V} {u : Value} (hK : L.K = X.K) (hu : X.A.units + 100 < cLine) (hg : X.A.guards = some []) (I : Inv X pins σ H s) (S : Sim L H ρ m) (rd : Rv L.K H ρ d x) (rx : RelV x u)
    (o : Out L H ρ Q (reprG d m)) : wpAny (model X.prog X.w) X.A (call (.builtin "repr") [u]) (EP X pins σ Q) X.xe s := by
  have o : Out L H ρ Q (ifs (D.flat (fz m d) && (match fz m d with | .tup _ => true | .lst _ => true | .nms _ => true | _ => false) && (D.py (fz m d)).showable && decide ((D.py (fz m d)).depth ≤ 64) && decide ((D.py (fz m d)).shown.length ≤ sizeLine)) (.ok (.str (D.py (fz m d)).shown) m)) := o
  obtain ⟨h, o1⟩ := o.ifs
  simp only [Bool.and_eq_true, decide_eq_true_eq] at h
  obtain ⟨⟨⟨⟨h1, h2⟩, h3⟩, h4⟩, h5⟩ := h
  have d1 := dp_fz S rd h1
  rw [hK] at d1
  obtain ⟨as, r1⟩ := Dp.reads I _ _ _ d1 rx
  have nd : (D.py (fz m d)).hasDict = true → sysModules ∉ as := PyData.noDict_hsm (nodict h1)
  have hr : ∃ a, u = .ref a := by
    cases e : fz m d with
    | tup xs => rw [e] at r1; unfold D.py at r1; cases r1; exact ⟨_, rfl⟩
    | lst xs => rw [e] at r1; unfold D.py at r1; cases r1; exact ⟨_, rfl⟩
    | nms xs => rw [e] at r1; unfold D.py at r1; cases r1; exact ⟨_, rfl⟩
    | _ => rw [e] at h2; cases h2
  obtain ⟨a, rfl⟩ := hr
  exact repr_of_reads' r1 h3 nd hg (by omega) (fun _ _ q => q) (fun h' t tk hk => ⟨.str _, H, I.kept hk, ⟨t, rfl⟩, out_val o1 S (by simp [Rv])⟩) h5

theorem repr_ok {d : D} {x : V} {u : Value} (hK : L.K = X.K) (hu : X.A.units + 100 < cLine) (hg : X.A.guards = some []) (I : Inv X pins σ H s) (S : Sim L H ρ m) (rd : Rv L.K H ρ d x) (rx : RelV x u)
    (o : Out L H ρ Q (biD .repr [d] m)) : wpAny (model X.prog X.w) X.A (call (.builtin "repr") [u]) (EP X pins σ Q) X.xe s := by
  replace o : Out L H ρ Q (reprD d m) := o
  unfold reprD at o
  split at o
  next b =>
    unfold Rv at rd
    subst rd
    obtain rfl : u = Value.bool b := rx
    exact PySem.P.repr_of_bool ⟨.str _, H, I.tok _, ⟨_, rfl⟩, out_val o S (by simp [Rv])⟩
  next =>
    unfold Rv at rd
    subst rd
    obtain rfl : u = Value.none := rx
    exact PySem.P.repr_of_none ⟨.str _, H, I.tok _, ⟨_, rfl⟩, out_val o S (by simp [Rv])⟩
  next i =>
    unfold Rv at rd
    subst rd
    obtain ⟨t, rfl⟩ := rx
    obtain ⟨h, o⟩ := o.ifs
    exact PySem.P.repr_of_int (by simpa using h) ⟨.str _, H, I.tok _, ⟨_, rfl⟩, out_val o S (by simp [Rv])⟩
  next z =>
    unfold Rv at rd
    subst rd
    obtain ⟨t, rfl⟩ := rx
    obtain ⟨h, o⟩ := o.ifs
    exact PySem.P.repr_of_str ⟨.str _, H, I.tok _, ⟨_, rfl⟩, out_val o S (by simp [Rv])⟩ (by simpa using h)
  next => exact reprG_ok hK hu hg I S rd rx o

/-- a new list, whatever stands in it -/
theorem mk_anyv {xs : List D} (S : Sim L H ρ m) (o : Out L H ρ Q (mkL b xs m)) : ∃ Q' : VK, (∀ p vs, RvL L.K H ρ xs vs → H p = none → Q' (.ref p) (upd H p (.lst vs))) ∧ (∀ u s, EP X pins σ Q' u s → EP X pins σ Q u s) := by
  cases b with
  | true => exact ⟨Q, fun p vs r hp => by simpa using mk_ok S r o hp, fun _ _ z => z⟩
  | false => exact ⟨QLk Q, fun p vs r hp => by simpa using mk_ok S r o hp, fun _ _ z => ep_lock z⟩
theorem rvk_keys {K : PySem.W.Frag} : ∀ {kvs : List (D × D)} {ps : List (Key × V)}, RvK K H ρ kvs ps → RvL K H ρ (kvs.map (·.1)) (ps.map fun kv => kV kv.1)
  | [], ps, h => by unfold RvK at h; subst h; exact rvl_nil
  | (d, e) :: r, ps, h => by
    unfold RvK at h
    obtain ⟨k, v, q, rfl, rfl, h1, h2⟩ := h
    exact rvl_cons (by cases k <;> simp [kD, kV, Rv]) (rvk_keys h2)
theorem rvl_key {K : PySem.W.Frag} : ∀ {k : List Key}, RvL K H ρ (k.map kD) (k.map kV)
  | [] => rvl_nil
  | k :: r => rvl_cons (by cases k <;> simp [kD, kV, Rv]) rvl_key
theorem rvt_keys {K : PySem.W.Frag} : ∀ {kvs : List (D × D)} {ps : List (List Key × V)} {bs : List Addr}, RvT K H ρ kvs ps → IsKeys H ps bs → RvL K H ρ (kvs.map (·.1)) (bs.map V.ref)
  | [], ps, bs, h, q => by
    unfold RvT at h
    subst h
    cases q
    exact rvl_nil
  | (d, e) :: r, ps, bs, h, q => by
    unfold RvT at h
    obtain ⟨k, v, q', rfl, rfl, h1, h2⟩ := h
    cases q with
    | cons hb t => exact rvl_cons (by unfold Rv; exact ⟨_, _, rfl, hb, rvl_key⟩) (rvt_keys h2 t)
theorem pairsK_ok : ∀ {xs : List D} {vs : List V} {acc kvs : List (D × D)} {vacc : List (Key × V)}, RvL L.K H ρ xs vs → RvK L.K H ρ acc vacc → pairsD false xs acc = some kvs →
    ∃ (ps : List Addr) (es : List (Key × V)), vs = ps.map V.ref ∧ Paired (fun p kv => SqT X.K H p [kV kv.1, kv.2]) ps es ∧ RvK L.K H ρ kvs (mergeK vacc es)
  | [], vs, acc, kvs, vacc, h, ra, e => by
    unfold RvL at h
    subst h
    cases e
    exact ⟨[], [], rfl, .nil, ra⟩
  | d :: xs, vs, acc, kvs, vacc, h, ra, e => by
    unfold RvL at h
    obtain ⟨v, r, rfl, h1, h2⟩ := h
    unfold pairsD at e
    split at e
    next => contradiction
    next k z r' e0 =>
      cases e0
      split at e
      next hk =>
        unfold Rv at h1
        obtain ⟨a, ws, rfl, h3, h4⟩ := h1
        obtain ⟨y, u, rfl, r1, r2⟩ := rvl2 h4
        obtain ⟨k, rfl⟩ := key_of1 hk
        obtain rfl := rv_key r1
        obtain ⟨ps, es, e1, e2, e3⟩ := pairsK_ok h2 (put_k r2 ra) e
        exact ⟨a :: ps, (k, u) :: es, by rw [e1]; rfl, .cons (.of h3) e2, e3⟩
      next => cases e
    next => cases e
theorem pairsT_ok : ∀ {xs : List D} {vs : List V} {acc kvs : List (D × D)} {vacc : List (List Key × V)}, RvL L.K H ρ xs vs → RvT L.K H ρ acc vacc → pairsD true xs acc = some kvs →
    ∃ (ps : List Addr) (es : List TK), vs = ps.map V.ref ∧ Paired (PairT H) ps es ∧ RvT L.K H ρ kvs (mergeT vacc es)
  | [], vs, acc, kvs, vacc, h, ra, e => by
    unfold RvL at h
    subst h
    cases e
    exact ⟨[], [], rfl, .nil, ra⟩
  | d :: xs, vs, acc, kvs, vacc, h, ra, e => by
    unfold RvL at h
    obtain ⟨v, r, rfl, h1, h2⟩ := h
    unfold pairsD at e
    split at e
    next => contradiction
    next k z r' e0 =>
      cases e0
      split at e
      next hk =>
        unfold Rv at h1
        obtain ⟨a, ws, rfl, h3, h4⟩ := h1
        obtain ⟨y, u, rfl, r1, r2⟩ := rvl2 h4
        obtain ⟨k, rfl⟩ := key_ofT hk
        obtain ⟨q, rfl, hq⟩ := rv_keyT r1
        obtain ⟨ps, es, e1, e2, e3⟩ := pairsT_ok h2 (put_t r2 ra) e
        exact ⟨a :: ps, (k, q, u) :: es, by rw [e1]; rfl, .cons ⟨h3, hq⟩ e2, e3⟩
      next => cases e
    next => cases e
theorem prD_of {d : D} (h : (prD d).isSome = true) : ∃ a b, d = .tup [.str a, .str b] ∧ prD d = some (a, b) := by
  unfold prD at h ⊢
  split at h
  next a b => exact ⟨a, b, rfl, rfl⟩
  next => cases h
/-- what is sorted, by its pairs -/
theorem sort_vals : ∀ {xs : List D} {vs : List V}, RvL L.K H ρ xs vs → sortable xs = true → ∃ prs, PrsAt H vs prs ∧ xs.filterMap prD = prs
  | [], vs, h, _ => by
    unfold RvL at h
    subst h
    exact ⟨[], ⟨rfl, fun j w e => by simp at e⟩, rfl⟩
  | d :: xs, vs, h, q => by
    unfold RvL at h
    obtain ⟨v, r, rfl, h1, h2⟩ := h
    simp only [sortable, List.all_cons, Bool.and_eq_true] at q
    obtain ⟨prs, ⟨l, p⟩, e⟩ := sort_vals h2 q.2
    obtain ⟨a, b, rfl, e1⟩ := prD_of q.1
    refine ⟨(a, b) :: prs, ⟨by simp [l], fun j w hw => ?_⟩, by rw [List.filterMap_cons, e1, e]⟩
    cases j with
    | zero =>
      simp at hw
      subst hw
      unfold Rv at h1
      obtain ⟨t, ws, rfl, h3, h4⟩ := h1
      obtain ⟨y, u, rfl, r1, r2⟩ := rvl2 h4
      unfold Rv at r1 r2
      subst r1 r2
      exact ⟨t, a, b, rfl, h3, rfl⟩
    | succ j => simpa using p j w (by simpa using hw)
theorem sort_keys : ∀ {kvs : List (D × D)} {ps : List (List Key × V)}, RvT L.K H ρ kvs ps → sortable (kvs.map (·.1)) = true → ∃ prs : List (Str × Str), ps.map (·.1) = prs.map (fun p => [Sum.inr p.1, Sum.inr p.2]) ∧ (kvs.map (·.1)).filterMap prD = prs
  | [], ps, h, _ => by
    unfold RvT at h
    subst h
    exact ⟨[], rfl, rfl⟩
  | (d, e) :: r, ps, h, q => by
    unfold RvT at h
    obtain ⟨k, v, q', rfl, rfl, h1, h2⟩ := h
    simp only [sortable, List.map_cons, List.all_cons, Bool.and_eq_true] at q
    obtain ⟨prs, e1, e2⟩ := sort_keys h2 q.2
    obtain ⟨a, b, e3, e4⟩ := prD_of q.1
    refine ⟨(a, b) :: prs, ?_, by rw [List.map_cons, List.filterMap_cons, e4, e2]⟩
    have : k = [Sum.inr a, Sum.inr b] := by
      match k, e3 with
      | [Sum.inr x, Sum.inr y], e3 => simp [kD] at e3; rw [e3.1, e3.2]
      | [Sum.inl x, _], e3 => simp [kD] at e3
      | [Sum.inr x, Sum.inl y], e3 => simp [kD] at e3
      | [], e3 => simp at e3
      | [_], e3 => simp at e3
      | _ :: _ :: _ :: _, e3 => simp at e3
    rw [List.map_cons, List.map_cons, e1, this]
theorem rvl_prs : ∀ {prs : List (Str × Str)} {ys : List V}, PrsAt H ys prs → RvL L.K H ρ (prs.map fun p => D.tup [.str p.1, .str p.2]) ys
  | [], ys, h => by
    rw [List.length_eq_zero_iff.mp h.1]
    exact rvl_nil
  | p :: prs, ys, h => by
    match ys, h with
    | [], h => exact absurd h.1 (by simp)
    | y :: ys, h =>
      obtain ⟨t, a, b, rfl, ht, e⟩ := h.2 0 y rfl
      cases e
      exact rvl_cons (by unfold Rv; exact ⟨t, _, rfl, ht, rvl_cons (by simp [Rv]) (rvl_cons (by simp [Rv]) rvl_nil)⟩) (rvl_prs ⟨by have := h.1; simpa using this, fun j w hw => by simpa using h.2 (j + 1) w (by simpa using hw)⟩)
theorem strs_ok {K : PySem.W.Frag} {H : Hp} {ρ : List Addr} : ∀ {ds : List D} {ys : List Str} {vs : List V}, strsOf ds = some ys → RvL K H ρ ds vs → vs = ys.map V.str
  | [], ys, vs, e, h => by
    cases e
    unfold RvL at h
    exact h
  | d :: ds, ys, vs, e, h => by
    unfold RvL at h
    obtain ⟨v, r, rfl, h1, h2⟩ := h
    cases d <;> simp only [strsOf, Option.map_eq_some_iff, reduceCtorEq] at e
    obtain ⟨zs, e1, rfl⟩ := e
    unfold Rv at h1
    rw [h1, strs_ok e1 h2]
    rfl
theorem out_nms {ns : List Str} {Q : VK} (S : Sim L H ρ m) {ob : Obj} (hd : ob.dict = none) (o : Out L H ρ Q (.ok (.nms ns) m)) {p : Addr} (hp : H p = none) : Q (.ref p) (upd H p (.frz ob (.tup (ns.map V.str)))) := by
  have x : Ext H ρ (upd H p (.frz ob (.tup (ns.map V.str)))) ρ := Ext.laid hp
  refine o _ _ x (S.laid hp) _ ?_
  unfold Rv
  exact ⟨p, ob, rfl, hd, upd_same⟩
theorem call_ntuple_of : CallR X (.type "tuple") (fun xs H Q => ∃ p ys, xs = [.ref p] ∧ SqL X.K H p ys ∧ ∀ (l : Addr) (ob : Obj), ob.dict = none → H l = none → Q (.ref l) (upd H l (.frz ob (.tup ys)))) := by
  intro pins s σ H xs us Q I r h
  obtain ⟨p, ys, rfl, hq, q⟩ := h
  obtain ⟨u, rfl, rx⟩ := vals1 r
  cases rx
  obtain ⟨its, r', pl, hz⟩ := I.list hq
  have hlen := r'.length
  refine call_tuple_list pl.isList (fun h' kp => ?_) (by simp only [List.size_toArray] <;> omega)
  have I1 : Inv X pins σ H { s with heap := h' } := I.kept (t' := s.toks) kp
  have I2 : Inv X pins σ (upd H h'.objs.size (.frz { cls := .type "tuple", data := .seq its.toArray } (.tup ys))) { s with heap := h'.push { cls := .type "tuple", data := .seq its.toArray } } :=
    I1.laid (t' := s.toks) (fun b o e => Heap.get?_push_of_some _ e) (Nat.le_refl _) (show ObjOk X.prog X.w _ _ _ (.frz _ (.tup ys)) from ⟨Heap.get?_push_size _ rfl, hz, its, r', IsTup.new _ _⟩)
  exact ⟨.ref h'.objs.size, _, I2, rfl, q _ _ rfl (I1.hok.fresh (Nat.le_refl _))⟩
theorem bi_ok (hK : L.K = X.K) (hu : X.A.units + 100 < cLine) (hg : X.A.guards = some []) (hc : X.calm = true) (f : Bi) (v : Value) (hv : biE f = some v) : CallR X v (rC L (biD f)) := by
  intro pins s σ H vs us Q I r ⟨ρ, m, ds, S, rd, o⟩
  unfold biD at o
  split at o
  next x =>
    cases hv
    obtain ⟨w, rfl, rw'⟩ := rvl1 rd
    split at o
    next n e =>
      rcases len_okD hK S rw' e with h | ⟨p, kvs, rfl, h1, rfl⟩ | ⟨p, kvs, rfl, h1, rfl⟩
      · exact call_len pins s σ H _ us Q I r ⟨w, n, rfl, h, out_val o S (by simp [Rv])⟩
      · exact call_len_dTR pins s σ H _ us Q I r ⟨p, kvs, rfl, h1, out_val o S (by simp [Rv])⟩
      · exact call_len_dKR pins s σ H _ us Q I r ⟨p, kvs, rfl, h1, out_val o S (by simp [Rv])⟩
    next => exact o.elim
  next i j =>
    cases hv
    obtain ⟨w, w2, rfl, r1, r2⟩ := rvl2 rd
    unfold Rv at r1 r2
    subst r1 r2
    exact call_max2 hc pins s σ H _ us Q I r ⟨i, j, rfl, out_val o S (by simp [Rv])⟩
  next i j =>
    cases hv
    obtain ⟨w, w2, rfl, r1, r2⟩ := rvl2 rd
    unfold Rv at r1 r2
    subst r1 r2
    exact call_min2 hc pins s σ H _ us Q I r ⟨i, j, rfl, out_val o S (by simp [Rv])⟩
  next i =>
    cases hv
    obtain ⟨w, rfl, rw'⟩ := rvl1 rd
    unfold Rv at rw'
    subst rw'
    exact call_abs pins s σ H _ us Q I r ⟨i, rfl, out_val o S (by simp [Rv])⟩
  next i =>
    cases hv
    obtain ⟨w, rfl, rw'⟩ := rvl1 rd
    unfold Rv at rw'
    subst rw'
    exact call_int1 pins s σ H _ us Q I r (.inl ⟨i, rfl, out_val o S (by simp [Rv])⟩)
  next k =>
    cases hv
    obtain ⟨w, rfl, rw'⟩ := rvl1 rd
    unfold Rv at rw'
    subst rw'
    exact call_int1 pins s σ H _ us Q I r (.inr ⟨k, rfl, out_val o S (by simp [Rv])⟩)
  next x =>
    cases hv
    obtain ⟨w, rfl, rw'⟩ := rvl1 rd
    obtain ⟨u, rfl, rx⟩ := vals1 r
    exact repr_ok hK hu hg I S rw' rx o
  next b x =>
    cases hv
    obtain ⟨w, rfl, rw'⟩ := rvl1 rd
    split at o
    next t kvs e =>
      obtain ⟨Q', hQ, f⟩ := mk_anyv (X := X) (pins := pins) (σ := σ) S o
      obtain ⟨a, rfl, hd⟩ := dq_ok S rw' e
      rcases hd with ⟨_, ps, h1, h2⟩ | ⟨_, ps, h1, h2⟩
      · exact thn (call_listD hc pins s σ H _ us Q' I r ⟨a, ps, rfl, h1, fun p hp => hQ p _ (rvk_keys h2) hp⟩) f
      · exact thn (call_list_dT hc pins s σ H _ us Q' I r ⟨a, ps, rfl, h1, fun p bs hp hk => hQ p _ (rvt_keys h2 hk) hp⟩) f
    next =>
      split at o
      next xs e =>
        obtain ⟨a, ys, rfl, h2, h3⟩ := sq_ok (K := L.K) S rw' e
        rw [hK] at h2
        obtain ⟨Q', w, f⟩ := mk_fin (X := X) (pins := pins) (σ := σ) S h3 o (P := fun Q' => wpAny (model X.prog X.w) X.A (call (.type "list") us) (EP X pins σ Q') X.xe s) fun Q' hQ =>
          call_list_of pins s σ H _ us Q' I r ⟨a, ys, rfl, h2, hQ⟩
        exact thn w f
      next => exact o.elim
  next ns =>
    cases hv
    obtain ⟨w, rfl, rw'⟩ := rvl1 rd
    have rw0 := rw'
    unfold Rv at rw'
    obtain ⟨a, ob, rfl, _, h1⟩ := rw'
    exact call_tuple_of pins s σ H _ us Q I r ⟨a, _, rfl, .inr ⟨.inl (.inr ⟨ob, h1⟩), out_val o S rw0⟩⟩
  next x n2 =>
    cases hv
    obtain ⟨w, rfl, rw'⟩ := rvl1 rd
    split at o
    next xs e =>
      by_cases ht : ∃ ys, x = .tup ys
      · obtain ⟨ys, rfl⟩ := ht
        cases e
        have rw0 := rw'
        unfold Rv at rw'
        obtain ⟨a, vs, rfl, h1, h2⟩ := rw'
        exact call_tuple_of pins s σ H _ us Q I r ⟨a, vs, rfl, .inr ⟨.of h1, out_val o S rw0⟩⟩
      · obtain ⟨a, ys, rfl, h2, h3⟩ := sq_lst S rw' e (fun ys z => ht ⟨ys, z⟩) fun ys z => n2 ys z
        rw [hK] at h2
        exact call_tuple_of pins s σ H _ us Q I r ⟨a, ys, rfl, .inl ⟨h2, fun l hl => out_tup S h3 o hl⟩⟩
    next => exact o.elim
  next ns =>
    cases hv
    obtain ⟨w, rfl, rw'⟩ := rvl1 rd
    have rw0 := rw'
    unfold Rv at rw'
    obtain ⟨a, ob, rfl, _, h1⟩ := rw'
    exact call_tuple_of pins s σ H _ us Q I r ⟨a, _, rfl, .inr ⟨.inl (.inr ⟨ob, h1⟩), out_val o S rw0⟩⟩
  next x n2 =>
    cases hv
    obtain ⟨w, rfl, rw'⟩ := rvl1 rd
    split at o
    next ns e =>
      obtain ⟨xs, e1, e2⟩ := Option.bind_eq_some_iff.mp e
      obtain ⟨a, ys, rfl, h2, h3⟩ := lq_ok S rw' e1
      rw [hK] at h2
      obtain rfl := strs_ok e2 h3
      exact call_ntuple_of pins s σ H _ us Q I r ⟨a, _, rfl, h2, fun l ob hd hl => out_nms S hd o hl⟩
    next => exact o.elim
  next => cases hv
  next x =>
    cases hv
    obtain ⟨w, rfl, rw'⟩ := rvl1 rd
    split at o
    next bs e =>
      cases q : lq m x with
      | none => rw [q] at e; cases e
      | some xs =>
        rw [q] at e
        obtain ⟨a, ys, rfl, h2, h3⟩ := lq_ok S rw' q
        rw [hK] at h2
        rw [bls_of (show blsOf xs = some bs from e) h3] at h2
        exact cr_all hc pins s σ H _ us Q I r ⟨a, bs, rfl, h2, out_val o S (by simp [Rv])⟩
    next => exact o.elim
  next x =>
    cases hv
    obtain ⟨w, rfl, rw'⟩ := rvl1 rd
    split at o
    next bs e =>
      cases q : lq m x with
      | none => rw [q] at e; cases e
      | some xs =>
        rw [q] at e
        obtain ⟨a, ys, rfl, h2, h3⟩ := lq_ok S rw' q
        rw [hK] at h2
        rw [bls_of (show blsOf xs = some bs from e) h3] at h2
        exact cr_any hc pins s σ H _ us Q I r ⟨a, bs, rfl, h2, out_val o S (by simp [Rv])⟩
    next => exact o.elim
  next x =>
    cases hv
    obtain ⟨w, rfl, rw'⟩ := rvl1 rd
    split at o
    next bs e =>
      cases q : lq m x with
      | none => rw [q] at e; cases e
      | some xs =>
        rw [q] at e
        obtain ⟨a, ys, rfl, h2, h3⟩ := lq_ok S rw' q
        rw [hK] at h2
        rw [ints_of (show intsOf xs = some bs from e) h3] at h2
        exact cr_sum hc pins s σ H _ us Q I r ⟨a, bs, rfl, h2, out_val o S (by simp [Rv])⟩
    next => exact o.elim
  next i =>
    cases hv
    obtain ⟨h, o⟩ := o.ifs
    obtain ⟨w, rfl, rw'⟩ := rvl1 rd
    unfold Rv at rw'
    subst rw'
    exact call_str_int pins s σ H _ us Q I r ⟨i, rfl, by simpa using h, out_val o S (by simp [Rv])⟩
  next x =>
    cases hv
    obtain ⟨w, rfl, rw'⟩ := rvl1 rd
    split at o
    next n ns e =>
      cases q : lq m x with
      | none => rw [q] at e; cases e
      | some xs =>
        rw [q] at e
        obtain ⟨a, ys, rfl, h2, h3⟩ := lq_ok S rw' q
        rw [hK] at h2
        rw [ints_of (show intsOf xs = some (n :: ns) from e) h3] at h2
        refine cr_max hc pins s σ H _ us Q I r ⟨a, n :: ns, rfl, h2, by simp, fun k hk hy => ?_⟩
        rw [max_one hk hy]
        exact out_val o S (by simp [Rv])
    next => exact o.elim
  next x =>
    cases hv
    obtain ⟨w, rfl, rw'⟩ := rvl1 rd
    split at o
    next n ns e =>
      cases q : lq m x with
      | none => rw [q] at e; cases e
      | some xs =>
        rw [q] at e
        obtain ⟨a, ys, rfl, h2, h3⟩ := lq_ok S rw' q
        rw [hK] at h2
        rw [ints_of (show intsOf xs = some (n :: ns) from e) h3] at h2
        refine cr_min hc pins s σ H _ us Q I r ⟨a, n :: ns, rfl, h2, by simp, fun k hk hy => ?_⟩
        rw [min_one hk hy]
        exact out_val o S (by simp [Rv])
    next => exact o.elim
  next t x =>
    cases hv
    obtain ⟨w, rfl, rw'⟩ := rvl1 rd
    split at o
    next u kvs e =>
      obtain ⟨h, o⟩ := o.ifs
      simp only [Bool.and_eq_true, Bool.not_eq_true'] at h
      obtain ⟨rfl, rfl⟩ := h
      obtain ⟨a, rfl, hd⟩ := dq_ok S rw' e
      rcases hd with ⟨_, ps, h1, h2⟩ | ⟨z, _⟩
      · exact call_dictD pins s σ H _ us Q I r ⟨a, ps, rfl, h1, fun p hp => newD_ok S hp (.inl ⟨rfl, ps, rfl, h2⟩) o⟩
      · cases z
    next =>
      split at o
      next kvs e =>
        obtain ⟨xs, e1, e2⟩ := Option.bind_eq_some_iff.mp e
        split at e2
        next hl =>
          obtain ⟨a, ys, rfl, h2, h3⟩ := lq_ok S rw' e1
          rw [hK] at h2
          cases t with
          | false =>
            obtain ⟨ps, kvs', rfl, p1, p2⟩ := pairsK_ok (acc := []) (vacc := []) h3 (by simp [RvK]) e2
            exact call_dictP hc pins s σ H _ us Q I r ⟨a, ps, kvs', rfl, h2, p1, fun p hp => newD_ok S hp (.inl ⟨rfl, _, rfl, p2⟩) o⟩
          | true =>
            obtain ⟨ps, es, rfl, p1, p2⟩ := pairsT_ok (acc := []) (vacc := []) h3 (by simp [RvT]) e2
            exact call_dictT hc hu pins s σ H _ us Q I r ⟨a, ps, es, rfl, h2, p1, fun p hp => newD_ok S hp (.inr ⟨rfl, _, rfl, p2⟩) o⟩
        next => cases e2
      next => exact o.elim
  next b x =>
    cases hv
    obtain ⟨w, rfl, rw'⟩ := rvl1 rd
    split at o
    next t kvs e =>
      obtain ⟨h, o⟩ := o.ifs
      simp only [Bool.and_eq_true] at h
      obtain ⟨Q', hQ, f⟩ := mk_anyv (X := X) (pins := pins) (σ := σ) S o
      obtain ⟨a, rfl, hd⟩ := dq_ok S rw' e
      rcases hd with ⟨_, ps, h1, h2⟩ | ⟨_, ps, h1, h2⟩
      · cases kvs with
        | nil =>
          unfold RvK at h2
          subst h2
          exact thn (call_sortedD hc pins s σ H _ us Q' I r ⟨a, [], [], rfl, h1, rfl, by decide, fun ys p hy _ hp => by
            rw [List.Perm.eq_nil hy]
            exact hQ p _ (by simpa [sortD] using rvl_nil) hp⟩) f
        | cons kv r' =>
          exfalso
          unfold RvK at h2
          obtain ⟨k, v, q, rfl, e1, _⟩ := h2
          have h0 := h.1
          simp only [sortable, List.map_cons, List.all_cons, Bool.and_eq_true] at h0
          obtain ⟨d, dd⟩ := kv
          simp only at e1
          subst e1
          cases k <;> simp [kD, prD] at h0
      · obtain ⟨prs, e1, e2⟩ := sort_keys h2 h.1
        exact thn (cr_sortedKey hc pins s σ H _ us Q' I r ⟨a, ps, prs, rfl, h1, e1, fun ys p hp _ hn => hQ p ys (by rw [sortD, e2]; exact rvl_prs hp) hn⟩) f
    next =>
      split at o
      next xs e =>
        obtain ⟨h, o⟩ := o.ifs
        simp only [Bool.and_eq_true] at h
        obtain ⟨Q', hQ, f⟩ := mk_anyv (X := X) (pins := pins) (σ := σ) S o
        obtain ⟨a, ys, rfl, h2, h3⟩ := lq_ok S rw' e
        rw [hK] at h2
        obtain ⟨prs, e1, e2⟩ := sort_vals h3 h.1
        exact thn (cr_sortedPr hc pins s σ H _ us Q' I r ⟨a, ys, prs, rfl, h2, e1, fun zs p hp _ hn => hQ p zs (by rw [sortD, e2]; exact rvl_prs hp) hn⟩) f
      next => exact o.elim
  next => cases hv
  next => exact o.elim

/-! ### methods -/
def mtE : Mt → String × String × String
  | .append => ("list", "append", "list.append") | .extend => ("list", "extend", "list.extend") | .pop => ("list", "pop", "list.pop") | .clear => ("list", "clear", "list.clear")
  | .get1 => ("dict", "get", "dict.get") | .get2 => ("dict", "get", "dict.get")
  | .join => ("str", "join", "str.join") | .split => ("str", "split", "str.split") | .sindex => ("str", "index", "str.index") | .tindex => ("tuple", "index", "tuple.index") | .popi => ("list", "pop", "list.pop") | .update => ("dict", "update", "dict.update")
def rM (L : Lnk) (f : D → List D → Hd → R D) : V → List V → Hp → VK → Prop := fun x vs H Q => ∃ ρ m d ds, Sim L H ρ m ∧ Rv L.K H ρ d x ∧ RvL L.K H ρ ds vs ∧ Out L H ρ Q (f d ds m)
theorem rvl0 {K : PySem.W.Frag} {vs : List V} (r : RvL K H ρ [] vs) : vs = [] := by unfold RvL at r; exact r
end
end Dx
/-! DxF: expressions -/
namespace Dx
open PySem PySem.Spec PyProof.Rows L2
section
variable {L : Lnk} {X : Cx}
abbrev ME := SD → Hd → R D
def tE (L : Lnk) (f : ME) : TE := fun σ H Q => ∃ ρ m s, Sim L H ρ m ∧ EnvR L H ρ s σ ∧ Out L H ρ Q (f s m)
def tT (L : Lnk) (f : SD → Hd → R Bool) : TT := fun σ H Q => ∃ ρ m s, Sim L H ρ m ∧ EnvR L H ρ s σ ∧ OutG L H ρ (fun b _ H' _ => Q b H') (f s m)
def tA (L : Lnk) (f : SD → Hd → R (List D)) : TA := fun σ H Q => ∃ ρ m s, Sim L H ρ m ∧ EnvR L H ρ s σ ∧ OutG L H ρ (fun ds _ H' ρ' => ∀ vs, RvL L.K H' ρ' ds vs → Q vs H') (f s m)
theorem PE.weak {e : Expr} {t t' : TE} (h : PE X e t) (w : ∀ σ H Q, t' σ H Q → t σ H Q) : PE X e t' := ⟨fun pins s σ H Q I q => h.run pins s σ H Q I (w σ H Q q)⟩
theorem PT.weak {e : Expr} {t t' : TT} (h : PT X e t) (w : ∀ σ H Q, t' σ H Q → t σ H Q) : PT X e t' := ⟨fun pins s σ H Q I q => h.run pins s σ H Q I (w σ H Q q)⟩
theorem PA.weak {e : List Expr} {t t' : TA} (h : PA X e t) (w : ∀ σ H Q, t' σ H Q → t σ H Q) : PA X e t' := ⟨fun pos pins s σ H Q I q => h.run pos pins s σ H Q I (w σ H Q q)⟩
/-- one part, then the rest -/
theorem tE_then {α : Type} {f : ME} {σ : VS} {H : Hp} {k : SD → D → Hd → R α} {ρ : List Addr} {m : Hd} {s : SD} {P : α → Hd → Hp → List Addr → Prop} (S : Sim L H ρ m) (E : EnvR L H ρ s σ) (o : OutG L H ρ P ((f s m).bind (k s))) {Q : VK}
    (h : ∀ v H1 ρ1 d m1, Ext H ρ H1 ρ1 → Sim L H1 ρ1 m1 → EnvR L H1 ρ1 s σ → Rv L.K H1 ρ1 d v → OutG L H1 ρ1 P (k s d m1) → Q v H1) : tE L f σ H Q :=
  ⟨ρ, m, s, S, E, o.bind.imp fun d m1 H1 ρ1 x S1 o1 v r => h v H1 ρ1 d m1 x S1 (E.ext x) r o1⟩
theorem tT_then {α : Type} {f : SD → Hd → R Bool} {σ : VS} {H : Hp} {k : SD → Bool → Hd → R α} {ρ : List Addr} {m : Hd} {s : SD} {P : α → Hd → Hp → List Addr → Prop} (S : Sim L H ρ m) (E : EnvR L H ρ s σ) (o : OutG L H ρ P ((f s m).bind (k s))) {Q : Bool → Hp → Prop}
    (h : ∀ b H1 ρ1 m1, Ext H ρ H1 ρ1 → Sim L H1 ρ1 m1 → EnvR L H1 ρ1 s σ → OutG L H1 ρ1 P (k s b m1) → Q b H1) : tT L f σ H Q :=
  ⟨ρ, m, s, S, E, o.bind.imp fun b m1 H1 ρ1 x S1 o1 => h b H1 ρ1 m1 x S1 (E.ext x) o1⟩
theorem tA_then {α : Type} {f : SD → Hd → R (List D)} {σ : VS} {H : Hp} {k : SD → List D → Hd → R α} {ρ : List Addr} {m : Hd} {s : SD} {P : α → Hd → Hp → List Addr → Prop} (S : Sim L H ρ m) (E : EnvR L H ρ s σ) (o : OutG L H ρ P ((f s m).bind (k s))) {Q : List V → Hp → Prop}
    (h : ∀ vs H1 ρ1 ds m1, Ext H ρ H1 ρ1 → Sim L H1 ρ1 m1 → EnvR L H1 ρ1 s σ → RvL L.K H1 ρ1 ds vs → OutG L H1 ρ1 P (k s ds m1) → Q vs H1) : tA L f σ H Q :=
  ⟨ρ, m, s, S, E, o.bind.imp fun d m1 H1 ρ1 x S1 o1 v r => h v H1 ρ1 d m1 x S1 (E.ext x) r o1⟩

/-! ### names, constants -/
theorem de_var {i : Nat} {x : Str} {pos : Pos} (hN : X.N[i]? = some x) (hv : Vis X.env.scope x) (hd : (x == ("__debug__" : Str)) = false) (hcd : (x == ("__classdict__" : Str)) = false) :
    PE X (.Name x pos) (tE L fun s m => varD s i m) := by
  refine PE.weak (pe_var hN hv hd hcd) fun σ H Q ⟨ρ, m, s, S, E, o⟩ => ?_
  unfold varD at o
  dsimp only at o
  split at o
  next d e =>
    obtain ⟨v, e2, r⟩ := E.2 i d e
    exact ⟨v, e2, out_val o S r⟩
  next => exact o.elim
/-- a constant without a place -/
def constD : Const → Option D
  | .int i => some (.int i)
  | .bool b => some (.bl b)
  | .none => some .non
  | .str x => some (.str x)
  | _ => none
theorem de_con {c : Const} {k : Nat} {pos : Pos} {d : D} (h : constD c = some d) : PE X (.Constant c k pos) (tE L fun _ m => .ok d m) := by
  cases c with
  | int i => cases h; exact PE.weak pe_int fun σ H Q ⟨ρ, m, s, S, E, o⟩ => out_val o S (by simp [Rv])
  | bool i => cases h; exact PE.weak pe_bl fun σ H Q ⟨ρ, m, s, S, E, o⟩ => out_val o S (by simp [Rv])
  | none => cases h; exact PE.weak pe_non fun σ H Q ⟨ρ, m, s, S, E, o⟩ => out_val o S (by simp [Rv])
  | str i => cases h; exact PE.weak pe_str fun σ H Q ⟨ρ, m, s, S, E, o⟩ => out_val o S (by simp [Rv])
  | _ => cases h
/-- scalars, as the library's values -/
def scalV : D → Option V
  | .non => some .non | .bl b => some (.bl b) | .int i => some (.int i) | .str x => some (.str x)
  | _ => none
theorem scal_rv {K : PySem.W.Frag} {H : Hp} {ρ : List Addr} {d : D} {v : V} (h : scalV d = some v) : Rv K H ρ d v := by
  cases d <;> cases h <;> simp [Rv]
theorem de_glob {x : Str} {pos : Pos} {d : D} {v : V} {u : Value} (hs : scalV d = some v) (hg : Gl X x) (hm : X.mg x = some u) (r : RelV v u) (hd : (x == ("__debug__" : Str)) = false) : PE X (.Name x pos) (tE L fun _ m => .ok d m) :=
  PE.weak (pe_glob hg hm r hd) fun σ H Q ⟨ρ, m, s, S, E, o⟩ => out_val o S (scal_rv hs)

/-! ### operators -/
theorem tE_op {f g : ME} {k : D → D → Hd → R D} {σ : VS} {H : Hp} {Q : VK} (h : tE L (fun s m => (f s m).bind fun d m1 => (g s m1).bind fun e m2 => k d e m2) σ H Q) : tOp (rB L k) (tE L f) (tE L g) σ H Q := by
  obtain ⟨ρ, m, s, S, E, o⟩ := h
  refine tE_then (k := fun s d m1 => (g s m1).bind fun e m2 => k d e m2) S E o fun x H1 ρ1 d m1 x1 S1 E1 rx o1 => ?_
  refine tE_then (k := fun s e m2 => k d e m2) S1 E1 o1 fun y H2 ρ2 e m2 x2 S2 E2 ry o2 => ?_
  exact ⟨ρ2, m2, d, e, S2, rx.ext x2, ry, o2⟩
theorem de_bin {a c : Expr} {f g : ME} {pos : Pos} (b : Bool) (o : Bop) (ha : PE X a (tE L f)) (hc : PE X c (tE L g)) : PE X (.BinOp a (bopE o) c pos) (tE L fun s m => (f s m).bind fun d m1 => (g s m1).bind fun e m2 => bopD b o d e m2) :=
  PE.weak (pe_op (op_bopD b o) ha hc) fun _ _ _ h => tE_op h
theorem de_neg {a : Expr} {f : ME} {pos : Pos} (ha : PE X a (tE L f)) : PE X (.UnaryOp .USub a pos) (tE L fun s m => (f s m).bind negD) := by
  refine PE.weak (pe_un un_neg ha) fun σ H Q ⟨ρ, m, s, S, E, o⟩ => ?_
  refine tE_then (k := fun s => negD) S E o fun x H1 ρ1 d m1 x1 S1 E1 rx o1 => ?_
  unfold negD at o1
  split at o1
  next i =>
    unfold Rv at rx
    exact ⟨i, rx, out_val o1 S1 (by simp [Rv])⟩
  next => exact o1.elim
def notSet : Expr → Bool
  | .Set .. => false
  | _ => true
theorem OutG.congr {α β γ : Type} {H : Hp} {ρ : List Addr} {P : β → Hd → Hp → List Addr → Prop} {P' : γ → Hd → Hp → List Addr → Prop} {r : R α} {k : α → Hd → R β} {k' : α → Hd → R γ} (o : OutG L H ρ P (r.bind k)) (h : ∀ a m, OutG L H ρ P (k a m) → OutG L H ρ P' (k' a m)) : OutG L H ρ P' (r.bind k') := by
  cases r with
  | ok a m => exact h a m o
  | exc c fs m => exact o.elim
  | no => exact o.elim
theorem out_bool {H : Hp} {ρ : List Addr} {m : Hd} {q : Option Bool} {Q : Bool → Hp → Prop} (o : OutG L H ρ (fun b _ H' _ => Q b H') (optB q m)) : Out L H ρ (fun v H' => ∃ k, v = .bl k ∧ Q k H') (optB (q.map .bl) m) := by
  cases q with
  | none => exact o.elim
  | some k => exact fun H' ρ' x S' v r => ⟨k, by simpa [Rv] using r, o H' ρ' x S'⟩
theorem nomarkB (b : Expr) {op : CmpOp} (h : notSet b = true) : behindInMarks op b = false := by
  cases b <;> first | rfl | cases h
theorem de_cmp {a c : Expr} {f g : ME} {pos : Pos} (hK : L.K = X.K) (hu : X.A.units + 100 < cLine) (o : Cop) (ha : PE X a (tE L f)) (hc : PE X c (tE L g)) (hm : notSet c = true) :
    PE X (.Compare a [copE o] [c] pos) (tE L fun s m => (f s m).bind fun d m1 => (g s m1).bind fun e m2 => optB ((cmpD m2 o d e).map .bl) m2) :=
  PE.weak (pe_cmpR (op_cmpD hK hu o) ha hc (nomarkB c hm)) fun _ _ _ h => tE_op h
theorem dt_cmp {a c : Expr} {f g : ME} {pos : Pos} (hK : L.K = X.K) (hu : X.A.units + 100 < cLine) (o : Cop) (ha : PE X a (tE L f)) (hc : PE X c (tE L g)) (hm : notSet c = true) :
    PT X (.Compare a [copE o] [c] pos) (tT L fun s m => (f s m).bind fun d m1 => (g s m1).bind fun e m2 => optB (cmpD m2 o d e) m2) := by
  refine PT.weak (pt_cmpR (op_cmpD hK hu o) ha hc (nomarkB c hm)) fun σ H Q ⟨ρ, m, s, S, E, w⟩ => ?_
  show tOp (rB L (cmpF o)) (tE L f) (tE L g) σ H _
  exact tE_op ⟨ρ, m, s, S, E, OutG.congr w fun d m1 w => OutG.congr w fun e m2 w => out_bool w⟩
theorem lastMarksB {op op' : CmpOp} {b c : Expr} (h : notSet c = true) : lastMarks [op, op'] [b, c] = false := nomarkB c h
theorem de_chain {a b c : Expr} {f g k : ME} {pos : Pos} (hK : L.K = X.K) (hu : X.A.units + 100 < cLine) (o o' : Cop) (ha : PE X a (tE L f)) (hb : PE X b (tE L g)) (hc : PE X c (tE L k)) (hm : notSet c = true) :
    PE X (.Compare a [copE o, copE o'] [b, c] pos) (tE L fun s m => (f s m).bind fun d m1 => (g s m1).bind fun e m2 => (optB (cmpD m2 o d e) m2).bind fun q m3 =>
      if q then (k s m3).bind fun z m4 => optB ((cmpD m4 o' e z).map .bl) m4 else .ok (.bl false) m3) := by
  refine PE.weak (pe_chain (op_cmpD hK hu o) (op_cmpD hK hu o') ha hb hc (lastMarksB hm)) fun σ H Q ⟨ρ, m, s, S, E, w⟩ => ?_
  refine tE_then (k := fun s d m1 => (g s m1).bind fun e m2 => (optB (cmpD m2 o d e) m2).bind fun q m3 => if q then (k s m3).bind fun z m4 => optB ((cmpD m4 o' e z).map D.bl) m4 else R.ok (D.bl false) m3) S E w fun x H1 ρ1 d m1 x1 S1 E1 rx o1 => ?_
  refine tE_then (k := fun s e m2 => (optB (cmpD m2 o d e) m2).bind fun q m3 => if q then (k s m3).bind fun z m4 => optB ((cmpD m4 o' e z).map D.bl) m4 else R.ok (D.bl false) m3) S1 E1 o1 fun y H2 ρ2 e m2 x2 S2 E2 ry o2 => ?_
  cases hq : cmpD m2 o d e with
  | none => rw [hq] at o2; exact o2.elim
  | some q =>
    rw [hq] at o2
    simp only [optB_some, R.bind_ok] at o2
    refine ⟨ρ2, m2, d, e, S2, rx.ext x2, ry, ?_⟩
    show Out L H2 ρ2 _ (optB ((cmpD m2 o d e).map .bl) m2)
    rw [hq]
    intro H3 ρ3 x3 S3 v r
    unfold Rv at r
    refine ⟨q, r, ?_⟩
    cases q with
    | false => exact o2 H3 ρ3 x3 S3 _ (by simp [Rv])
    | true =>
      simp only [if_true] at o2 ⊢
      refine tE_then (k := fun s z m4 => optB ((cmpD m4 o' e z).map D.bl) m4) S3 (E2.ext x3) (o2.base x3) fun z H4 ρ4 f4 m4 x4 S4 E4 rz o4 => ?_
      exact ⟨ρ4, m4, e, f4, S4, (ry.ext x3).ext x4, rz, o4⟩
theorem dt_chain {a b c : Expr} {f g k : ME} {pos : Pos} (hK : L.K = X.K) (hu : X.A.units + 100 < cLine) (o o' : Cop) (ha : PE X a (tE L f)) (hb : PE X b (tE L g)) (hc : PE X c (tE L k)) (hm : notSet c = true) :
    PT X (.Compare a [copE o, copE o'] [b, c] pos) (tT L fun s m => (f s m).bind fun d m1 => (g s m1).bind fun e m2 => (optB (cmpD m2 o d e) m2).bind fun q m3 =>
      if q then (k s m3).bind fun z m4 => optB (cmpD m4 o' e z) m4 else .ok false m3) := by
  refine PT.weak (pt_chain (op_cmpD hK hu o) (op_cmpD hK hu o') ha hb hc (lastMarksB hm)) fun σ H Q ⟨ρ, m, s, S, E, w⟩ => ?_
  show tChain (rB L (cmpF o)) (rB L (cmpF o')) (tE L f) (tE L g) (tE L k) σ H _
  refine tE_then (k := fun s d m1 => (g s m1).bind fun e m2 => (optB (cmpD m2 o d e) m2).bind fun q m3 => if q then (k s m3).bind fun z m4 => optB (cmpD m4 o' e z) m4 else .ok false m3) S E w fun x H1 ρ1 d m1 x1 S1 E1 rx o1 => ?_
  refine tE_then (k := fun s e m2 => (optB (cmpD m2 o d e) m2).bind fun q m3 => if q then (k s m3).bind fun z m4 => optB (cmpD m4 o' e z) m4 else .ok false m3) S1 E1 o1 fun y H2 ρ2 e m2 x2 S2 E2 ry o2 => ?_
  cases hq : cmpD m2 o d e with
  | none => rw [hq] at o2; exact o2.elim
  | some q =>
    rw [hq] at o2
    simp only [optB_some, R.bind_ok] at o2
    refine ⟨ρ2, m2, d, e, S2, rx.ext x2, ry, ?_⟩
    show Out L H2 ρ2 _ (optB ((cmpD m2 o d e).map .bl) m2)
    rw [hq]
    intro H3 ρ3 x3 S3 v r
    unfold Rv at r
    refine ⟨q, r, ?_⟩
    cases q with
    | false => exact ⟨false, rfl, o2 H3 ρ3 x3 S3⟩
    | true =>
      simp only [if_true] at o2 ⊢
      refine tE_then (k := fun s z m4 => optB (cmpD m4 o' e z) m4) S3 (E2.ext x3) (o2.base x3) fun z H4 ρ4 f4 m4 x4 S4 E4 rz o4 => ?_
      exact ⟨ρ4, m4, e, f4, S4, (ry.ext x3).ext x4, rz, out_bool o4⟩

/-! ### and, or, not, if -/
theorem de_and {a b : Expr} {rest : List Expr} {f g : ME} {pos : Pos} (ha : PE X a (tE L f)) (hb : PE X (.BoolOp .And (b :: rest) pos) (tE L g)) : PE X (.BoolOp .And (a :: b :: rest) pos) (tE L fun s m => (f s m).bind fun d m1 => andD d m1 (g s)) := by
  refine PE.weak (pe_and ha hb) fun σ H Q ⟨ρ, m, s, S, E, o⟩ => ?_
  refine tE_then (k := fun s d m1 => andD d m1 (g s)) S E o fun x H1 ρ1 d m1 x1 S1 E1 rx o1 => ?_
  unfold andD at o1
  split at o1
  next =>
    unfold Rv at rx
    exact ⟨true, rx, by rw [if_pos rfl]; exact ⟨ρ1, m1, s, S1, E1, o1⟩⟩
  next =>
    unfold Rv at rx
    exact ⟨false, rx, by rw [if_neg (by decide)]; exact out_val o1 S1 (by simp [Rv])⟩
  next => exact o1.elim
theorem de_or {a b : Expr} {rest : List Expr} {f g : ME} {pos : Pos} (ha : PE X a (tE L f)) (hb : PE X (.BoolOp .Or (b :: rest) pos) (tE L g)) : PE X (.BoolOp .Or (a :: b :: rest) pos) (tE L fun s m => (f s m).bind fun d m1 => orD d m1 (g s)) := by
  refine PE.weak (pe_or ha hb) fun σ H Q ⟨ρ, m, s, S, E, o⟩ => ?_
  refine tE_then (k := fun s d m1 => orD d m1 (g s)) S E o fun x H1 ρ1 d m1 x1 S1 E1 rx o1 => ?_
  unfold orD at o1
  split at o1
  next =>
    unfold Rv at rx
    exact ⟨false, rx, by rw [if_neg (by decide)]; exact ⟨ρ1, m1, s, S1, E1, o1⟩⟩
  next =>
    unfold Rv at rx
    exact ⟨true, rx, by rw [if_pos rfl]; exact out_val o1 S1 (by simp [Rv])⟩
  next => exact o1.elim
theorem de_not {a : Expr} {f : ME} {pos : Pos} (ha : PE X a (tE L f)) : PE X (.UnaryOp .Not a pos) (tE L fun s m => (f s m).bind notD) := by
  refine PE.weak (pe_not ha) fun σ H Q ⟨ρ, m, s, S, E, o⟩ => ?_
  refine tE_then (k := fun s => notD) S E o fun x H1 ρ1 d m1 x1 S1 E1 rx o1 => ?_
  unfold notD at o1
  split at o1
  next b =>
    unfold Rv at rx
    exact ⟨b, rx, out_val o1 S1 (by simp [Rv])⟩
  next => exact o1.elim
theorem de_cond {c a b : Expr} {t : SD → Hd → R Bool} {f g : ME} {pos : Pos} (hc : PT X c (tT L t)) (ha : PE X a (tE L f)) (hb : PE X b (tE L g)) : PE X (.IfExp c a b pos) (tE L fun s m => (t s m).bind fun k m1 => if k then f s m1 else g s m1) := by
  refine PE.weak (pe_ifExp hc ha hb) fun σ H Q ⟨ρ, m, s, S, E, o⟩ => ?_
  refine tT_then (k := fun s k m1 => if k then f s m1 else g s m1) S E o fun k H1 ρ1 m1 x1 S1 E1 o1 => ?_
  cases k with
  | true => exact ⟨ρ1, m1, s, S1, E1, o1⟩
  | false => exact ⟨ρ1, m1, s, S1, E1, o1⟩
theorem dt_and {a b : Expr} {rest : List Expr} {f g : SD → Hd → R Bool} {pos : Pos} (ha : PT X a (tT L f)) (hb : PW X (.BoolOp .And (b :: rest) pos) (tT L g)) : PW X (.BoolOp .And (a :: b :: rest) pos) (tT L fun s m => (f s m).bind fun k m1 => if k then g s m1 else .ok false m1) := by
  refine ⟨fun wh pins s σ H Q I h => (pw_and ha hb).run wh pins s σ H Q I ?_⟩
  obtain ⟨ρ, m, s, S, E, o⟩ := h
  refine tT_then (k := fun s k m1 => if k then g s m1 else .ok false m1) S E o fun k H1 ρ1 m1 x1 S1 E1 o1 => ?_
  cases k with
  | true => exact ⟨ρ1, m1, s, S1, E1, o1⟩
  | false => exact o1.here S1
theorem dt_or {a b : Expr} {rest : List Expr} {f g : SD → Hd → R Bool} {pos : Pos} (ha : PT X a (tT L f)) (hb : PW X (.BoolOp .Or (b :: rest) pos) (tT L g)) : PW X (.BoolOp .Or (a :: b :: rest) pos) (tT L fun s m => (f s m).bind fun k m1 => if k then .ok true m1 else g s m1) := by
  refine ⟨fun wh pins s σ H Q I h => (pw_or ha hb).run wh pins s σ H Q I ?_⟩
  obtain ⟨ρ, m, s, S, E, o⟩ := h
  refine tT_then (k := fun s k m1 => if k then .ok true m1 else g s m1) S E o fun k H1 ρ1 m1 x1 S1 E1 o1 => ?_
  cases k with
  | true => exact o1.here S1
  | false => exact ⟨ρ1, m1, s, S1, E1, o1⟩
theorem dt_not {a : Expr} {f : SD → Hd → R Bool} {pos : Pos} (ha : PT X a (tT L f)) : PT X (.UnaryOp .Not a pos) (tT L fun s m => (f s m).bind fun k m1 => .ok (!k) m1) := by
  refine PT.weak (pt_not ha) fun σ H Q ⟨ρ, m, s, S, E, o⟩ => ?_
  exact tT_then (k := fun s k m1 => .ok (!k) m1) S E o fun k H1 ρ1 m1 x1 S1 E1 o1 => o1.here S1
/-- an expression whose test is its value's truth -/
def plainTest : Expr → Bool
  | .UnaryOp .Not .. => false
  | .BoolOp .. => false
  | .IfExp .. => false
  | .Compare .. => false
  | _ => true
theorem dt_val {a : Expr} {f : ME} (hK : L.K = X.K) (h : plainTest a = true) (ha : PE X a (tE L f)) : PT X a (tT L fun s m => (f s m).bind fun d m1 => optB (truD m1 d) m1) := by
  have he : ∀ whole, isTrue a X.env whole = (do let v ← whole; standAt a.pos; holding [v] (truthy v)) := by
    intro whole
    cases a
    case UnaryOp op x p => cases op <;> first | rfl | cases h
    all_goals first | rfl | cases h
  refine PT.weak (pt_truth ha he) fun σ H Q ⟨ρ, m, s, S, E, o⟩ => ?_
  refine tE_then (k := fun s d m1 => optB (truD m1 d) m1) S E o fun x H1 ρ1 d m1 x1 S1 E1 rx o1 => ?_
  obtain ⟨k, hk, o2⟩ := o1.optB
  exact ⟨k, tru_okD hK S1 rx hk, o2.here S1⟩

/-! ### argument lists, displays -/
def nostar : Expr → Bool
  | .Starred .. => false
  | _ => true
theorem star_cons {e : Expr} {es : List Expr} {env : Env} (h : nostar e = true) : starEach (e :: es) env = (false, eval e env) :: starEach es env := by
  cases e <;> first | rfl | cases h
theorem star_plain {env : Env} {pos : Pos} : ∀ {es : List Expr}, es.all nostar = true → (backTo pos (starEach es env)).any (·.1) = false
  | [], _ => rfl
  | e :: es, h => by
    simp only [List.all_cons, Bool.and_eq_true] at h
    rw [star_cons h.1]
    show (false || (backTo pos (starEach es env)).any (·.1)) = false
    rw [star_plain h.2]
    rfl
theorem da_nil : PA X [] (tA L fun _ m => .ok [] m) := PA.weak pa_nil fun σ H Q ⟨ρ, m, s, S, E, o⟩ => o.here S [] rvl_nil
theorem da_cons {e : Expr} {es : List Expr} {f : ME} {g : SD → Hd → R (List D)} (hn : nostar e = true) (he : PE X e (tE L f)) (hes : PA X es (tA L g)) : PA X (e :: es) (tA L fun s m => (f s m).bind fun d m1 => (g s m1).bind fun ds m2 => .ok (d :: ds) m2) := by
  refine PA.weak (pa_cons he hes (star_cons hn)) fun σ H Q ⟨ρ, m, s, S, E, o⟩ => ?_
  refine tE_then (k := fun s d m1 => (g s m1).bind fun ds m2 => .ok (d :: ds) m2) S E o fun x H1 ρ1 d m1 x1 S1 E1 rx o1 => ?_
  refine tA_then (k := fun s ds m2 => .ok (d :: ds) m2) S1 E1 o1 fun vs H2 ρ2 ds m2 x2 S2 E2 rs o2 => ?_
  exact o2.here S2 _ (rvl_cons (rx.ext x2) rs)
theorem de_tup {es : List Expr} {k : Nat} {pos : Pos} {g : SD → Hd → R (List D)} (h : PA X es (tA L g)) : PE X (.Tuple es k pos) (tE L fun s m => (g s m).bind fun ds m1 => ifs (decide (ds.length ≤ sizeLine)) (.ok (.tup ds) m1)) := by
  refine PE.weak (pe_tup h) fun σ H Q ⟨ρ, m, s, S, E, o⟩ => ?_
  refine tA_then (k := fun s ds m1 => ifs (decide (ds.length ≤ sizeLine)) (R.ok (D.tup ds) m1)) S E o fun vs H1 ρ1 ds m1 x1 S1 E1 rs o1 => ?_
  obtain ⟨h, o2⟩ := o1.ifs
  have hl := rs.len
  exact ⟨by rw [← hl]; simpa using h, fun p hp => out_tup S1 rs o2 hp⟩
/-- a new thing that may be told to stay -/
def tFz (b : Bool) (t : TE) : TE := fun σ H Q => t σ H (if b = true then Q else QLk Q)
theorem PE.fz {e : Expr} {t : TE} (b : Bool) (h : PE X e t) : PE X e (tFz b t) := by
  refine ⟨fun pins s σ H Q I q => ?_⟩
  cases b with
  | true => exact h.run pins s σ H Q I q
  | false => exact thn (h.run pins s σ H (QLk Q) I q) fun _ _ z => ep_lock z
theorem mk_ok' {b : Bool} {xs : List D} {vs : List V} {H : Hp} {ρ : List Addr} {m : Hd} {Q : VK} (S : Sim L H ρ m) (r : RvL L.K H ρ xs vs) (o : Out L H ρ Q (mkL b xs m)) {p : Addr} (hp : H p = none) : (if b = true then Q else QLk Q) (.ref p) (upd H p (.lst vs)) := by
  have := mk_ok S r o hp
  cases b with
  | true => simpa using this
  | false => simpa using this
theorem de_lst {es : List Expr} {pos : Pos} {g : SD → Hd → R (List D)} (b : Bool) (h : PA X es (tA L g)) : PE X (.List es pos) (tE L fun s m => (g s m).bind fun ds m1 => ifs (decide (ds.length ≤ sizeLine)) (mkL b ds m1)) := by
  refine PE.weak (PE.fz b (pe_lst h)) fun σ H Q ⟨ρ, m, s, S, E, o⟩ => ?_
  refine tA_then (k := fun s ds m1 => ifs (decide (ds.length ≤ sizeLine)) (mkL b ds m1)) S E o fun vs H1 ρ1 ds m1 x1 S1 E1 rs o1 => ?_
  obtain ⟨h, o2⟩ := o1.ifs
  have hl := rs.len
  exact ⟨by rw [← hl]; simpa using h, fun p hp => mk_ok' S1 rs o2 hp⟩
theorem de_dnew {pos : Pos} (t : Bool) : PE X (.Dict [] [] pos) (tE L fun _ m => .ok (.ref m.length) (m ++ [.dct t []])) := by
  cases t with
  | false =>
    refine PE.weak pe_dnewK fun σ H Q ⟨ρ, m, s, S, E, o⟩ => fun p hp => ?_
    have x : Ext H ρ (upd H p (.dK [])) (ρ ++ [p]) := Ext.newO hp
    exact o _ _ x (S.new hp (.inl ⟨rfl, [], upd_same, by simp [RvK]⟩)) _ (by unfold Rv; exact ⟨p, by rw [← S.len]; simp, rfl⟩)
  | true =>
    refine PE.weak pe_dnewT fun σ H Q ⟨ρ, m, s, S, E, o⟩ => fun p hp => ?_
    have x : Ext H ρ (upd H p (.dT [])) (ρ ++ [p]) := Ext.newO hp
    exact o _ _ x (S.new hp (.inr ⟨rfl, [], upd_same, by simp [RvT]⟩)) _ (by unfold Rv; exact ⟨p, by rw [← S.len]; simp, rfl⟩)

/-! ### subscripts, slices -/
def plainIx : Expr → Bool
  | .Slice _ _ none _ => false
  | _ => true
theorem plainIx_ok {b : Expr} (h : plainIx b = true) : PlainIx b := fun o i => by
  cases b
  case Slice lo hi st p => cases st <;> first | rfl | cases h
  all_goals rfl
theorem de_ix {a c : Expr} {f g : ME} {pos : Pos} (hK : L.K = X.K) (hu : X.A.units + 100 < cLine) (hp : plainIx c = true) (ha : PE X a (tE L f)) (hc : PE X c (tE L g)) : PE X (.Subscript a c pos) (tE L fun s m => (f s m).bind fun d m1 => (g s m1).bind fun e m2 => optB (getD m2 d e) m2) :=
  PE.weak (pe_ix (ix_D hK hu) ha hc (plainIx_ok hp)) fun _ _ _ h => tE_op h
/-- a slice's part -/
def tO (L : Lnk) (f : SD → Hd → R (Option Int)) : TO := fun σ H Q => ∃ ρ m s, Sim L H ρ m ∧ EnvR L H ρ s σ ∧ OutG L H ρ (fun o _ H' _ => Q o H') (f s m)
theorem do_none : PO X none (tO L fun s m => ((R.ok .non m : R D)).bind fun l m2 => optB (part true l) m2) := ⟨fun pins s σ H Q I ⟨ρ, m, sd, S, E, o⟩ => po_none.run pins s σ H Q I (OutG.here (a := none) o S)⟩
theorem do_some {e : Expr} {f : ME} (h : PE X e (tE L f)) : PO X (some e) (tO L fun s m => (f s m).bind fun l m2 => optB (part false l) m2) := by
  refine ⟨fun pins s σ H Q I ⟨ρ, m, sd, S, E, o⟩ => (po_some h).run pins s σ H Q I ?_⟩
  refine tE_then (k := fun _ l m2 => optB (part false l) m2) S E o fun x H1 ρ1 d m1 x1 S1 E1 rx o1 => ?_
  obtain ⟨k, hk, o2⟩ := o1.optB
  cases d <;> simp only [part] at hk <;> cases hk
  unfold Rv at rx
  exact ⟨_, rx, o2.here S1⟩
theorem tO_then {α : Type} {f : SD → Hd → R (Option Int)} {σ : VS} {H : Hp} {k : SD → Option Int → Hd → R α} {ρ : List Addr} {m : Hd} {s : SD} {P : α → Hd → Hp → List Addr → Prop} (S : Sim L H ρ m) (E : EnvR L H ρ s σ) (o : OutG L H ρ P ((f s m).bind (k s))) {Q : Option Int → Hp → Prop}
    (h : ∀ b H1 ρ1 m1, Ext H ρ H1 ρ1 → Sim L H1 ρ1 m1 → EnvR L H1 ρ1 s σ → OutG L H1 ρ1 P (k s b m1) → Q b H1) : tO L f σ H Q :=
  ⟨ρ, m, s, S, E, o.bind.imp fun b m1 H1 ρ1 x S1 o1 => h b H1 ρ1 m1 x S1 (E.ext x) o1⟩
theorem de_sl {a : Expr} {lo hi : Option Expr} {f : ME} {g k : SD → Hd → R (Option Int)} {p2 pos : Pos} (hK : L.K = X.K) (b : Bool) (ha : PE X a (tE L f)) (hl : PO X lo (tO L g)) (hh : PO X hi (tO L k)) :
    PE X (.Subscript a (.Slice lo hi none p2) pos) (tE L fun s m => (f s m).bind fun d m1 => (g s m1).bind fun lo m2 => (k s m2).bind fun hi m3 => slD b d lo hi m3) := by
  refine PE.weak (pe_slice (sl_D hK b) ha hl hh) fun σ H Q ⟨ρ, m, s, S, E, o⟩ => ?_
  refine tE_then (k := fun s d m1 => (g s m1).bind fun lo m2 => (k s m2).bind fun hi m3 => slD b d lo hi m3) S E o fun x H1 ρ1 d m1 x1 S1 E1 rx o1 => ?_
  refine tO_then (k := fun s lo m2 => (k s m2).bind fun hi m3 => slD b d lo hi m3) S1 E1 o1 fun l H2 ρ2 m2 x2 S2 E2 o2 => ?_
  refine tO_then (k := fun s hi m3 => slD b d l hi m3) S2 E2 o2 fun h H3 ρ3 m3 x3 S3 E3 o3 => ?_
  exact ⟨ρ3, m3, d, S3, (rx.ext x2).ext x3, o3⟩
theorem de_rev {a : Expr} {f : ME} {k : Nat} {p1 p2 p3 pos : Pos} (hK : L.K = X.K) (b : Bool) (ha : PE X a (tE L f)) : PE X (.Subscript a (.Slice none none (some (.UnaryOp .USub (.Constant (.int 1) k p1) p2)) p3) pos) (tE L fun s m => (f s m).bind (revD b)) := by
  refine PE.weak (PE.fz b (pe_revL ha)) fun σ H Q ⟨ρ, m, s, S, E, o⟩ => ?_
  refine tE_then (k := fun _ => revD b) S E o fun x H1 ρ1 d m1 x1 S1 E1 rx o1 => ?_
  unfold revD at o1
  split at o1
  next => exact o1.elim
  next => exact o1.elim
  next xs n n2 e =>
    obtain ⟨a, vs, rfl, h2, h3⟩ := sq_lst S1 rx e (fun ys z => n ys z) fun ys z => n2 ys z
    rw [hK] at h2
    exact ⟨a, vs, rfl, h2, fun p hp => mk_ok' S1 h3.rev o1 hp⟩
  next => exact o1.elim
end
end Dx
/-! DxG: calls, methods, comprehensions -/
namespace Dx
open PySem PySem.Spec PyProof.Rows L2 TL
section
variable {L : Lnk} {X : Cx}

/-! ### built-in functions -/
theorem de_bi {x : Str} {p pos : Pos} {es : List Expr} {g : SD → Hd → R (List D)} {f : Bi} {v : Value} (hK : L.K = X.K) (hu : X.A.units + 100 < cLine) (hgd : X.A.guards = some []) (hc : X.calm = true)
    (hv : biE f = some v) (hg : Gl X x) (hm : X.mg x = none) (hb : bootBuiltins x = some v) (hn : x ≠ "__name__") (hdb : (x == ("__debug__" : Str)) = false) (hs : es.all nostar = true) (he : es ≠ [])
    (ha : PA X es (tA L g)) : PE X (.Call (.Name x p) es [] pos) (tE L fun s m => (g s m).bind (biD f)) := by
  cases es with
  | nil => exact absurd rfl he
  | cons e es =>
    simp only [List.all_cons, Bool.and_eq_true] at hs
    have hC := bi_ok (X := X) hK hu hgd hc f v hv
    have w : ∀ σ H Q, tE L (fun s m => (g s m).bind (biD f)) σ H Q → tCB (rC L (biD f)) (tA L g) σ H Q := fun σ H Q ⟨ρ, m, s, S, E, o⟩ =>
      tA_then (k := fun _ => biD f) S E o fun vs H1 ρ1 ds m1 x1 S1 E1 rs o1 => ⟨ρ1, m1, ds, S1, rs, o1⟩
    cases v with
    | builtin id => exact PE.weak (pe_callB hC hg hm hb ha hn hdb (star_cons hs.1) (star_plain hs.2)) w
    | type T => exact PE.weak (pe_callTy hC hg hm hb ha hn hdb (star_cons hs.1) (star_plain hs.2)) w
    | _ => cases f <;> simp [biE] at hv
/-- isinstance(x, T) -/
theorem de_isinst {y : Str} {e : Expr} {p p2 pos : Pos} {f : ME} {t : Ty} (hK : L.K = X.K) (hg : Gl X "isinstance") (hm : X.mg "isinstance" = none) (hg2 : Gl X y) (hm2 : X.mg y = none) (hb2 : bootBuiltins y = some (.type t.name))
    (hn : y ≠ "__name__") (hdb : (y == ("__debug__" : Str)) = false) (hs : nostar e = true) (he : PE X e (tE L f)) : PE X (.Call (.Name "isinstance" p) [e, .Name y p2] [] pos) (tE L fun s m => (f s m).bind fun d m1 => biD (.isinst t) [d] m1) := by
  have h2 : PE X (.Name y p2) (tC (.ty t.name)) := pe_bltn hg2 hm2 hb2 rfl hn hdb
  refine PE.weak (pe_callB (call_isinstD hK t) hg hm (by decide +kernel) (pa_cons he (pa_cons h2 pa_nil) (star_cons hs)) (by decide) (by decide) (star_cons hs) rfl) fun σ H Q ⟨ρ, m, s, S, E, o⟩ => ?_
  refine tE_then (k := fun _ d m1 => biD (.isinst t) [d] m1) S E o fun x H1 ρ1 d m1 x1 S1 E1 rx o1 => ?_
  exact ⟨ρ1, m1, d, x, rfl, S1, rx, o1⟩

/-! ### methods of built-in types -/
def TyM (K : PySem.W.Frag) (T : String) (x : V) (H : Hp) : Prop := tyV K T x H ∨ (T = "dict" ∧ ∃ a, x = .ref a ∧ IsD H a) ∨ (T = "tuple" ∧ ∃ a o xs, x = .ref a ∧ o.dict = none ∧ H a = some (.frz o (.tup xs)))
theorem tyM_is {pins : List (Addr × Obj)} {σ : VS} {H : Hp} {s : Shared} {T : String} {x : V} {v : Value} (I : Inv X pins σ H s) (r : RelV x v) (ty : TyM X.K T x H) :
    s.TypeIs v T ∧ ∀ a, v = .ref a → ∃ ob, s.heap.get? a = some ob ∧ ob.dict = none := by
  rcases ty with ty | ⟨rfl, a, rfl, d⟩ | ⟨rfl, a, o, xs, rfl, hd, h⟩
  · exact tyV_is I r ty
  · cases r
    exact ⟨(isD_at I d).1, (isD_at I d).2.1⟩
  · cases r
    obtain ⟨e, _, its, _, t⟩ := I.hok a _ h
    refine ⟨t.typeIs, fun b z => ?_⟩
    cases z
    exact ⟨o, e, hd⟩
def tMt (K : PySem.W.Frag) (T : String) (r : V → List V → Hp → VK → Prop) (to : TE) (t : TA) : TE := fun σ H Q => to σ H fun x H1 => TyM K T x H1 ∧ t σ H1 fun xs H2 => r x xs H2 Q
def plainBase : Expr → Bool
  | .Call (.Name id _) [] [] _ => id != "super"
  | _ => true
theorem plainBase_ok {o : Expr} {attr : Str} {env : Env} {whole : Sem Value} (h : plainBase o = true) : attributeBase o attr env whole = whole := by
  unfold attributeBase
  split
  next id p pos =>
    have : (id != ("super" : Str)) = true := h
    simp [this]
  next => rfl
theorem few_ok {env : Env} {pos : Pos} : ∀ {es : List Expr}, es.all nostar = true → ((backTo pos (starEach es env)).all fun x => !x.1) = true
  | [], _ => rfl
  | e :: es, h => by
    simp only [List.all_cons, Bool.and_eq_true] at h
    rw [star_cons h.1]
    show (true && (backTo pos (starEach es env)).all fun x => !x.1) = true
    rw [few_ok h.2]
    rfl
section
variable {o : Expr} {e : Expr} {es : List Expr} {to : TE} {t : TA} {name : Str} {apos cpos : Pos} {T id : String} {r : V → List V → Hp → VK → Prop}
theorem pe_mt0 (pa : PlainAttrs T) (slot : Slot T name id) (hty : typeOf (.builtin id) = pure (.type "method_descriptor"))
    (hm : MtR X id r) (ho : PE X o to) (hbase : plainBase o = true) (hline : (apos.endLine == cpos.line) = true) :
    PE X (.Call (.Attribute o name apos) [] [] cpos) (fun σ H Q => to σ H fun x H1 => TyM X.K T x H1 ∧ r x [] H1 Q) := by
  refine ⟨fun pins s σ H Q I h => ?_⟩
  refine wpAny_Call_method0_late (plainBase_ok hbase) hline (thn (ho.run pins s σ H _ I h) fun v s1 ⟨x, H1, I1, r1, ty, q1⟩ => ?_)
  obtain ⟨h1, h2⟩ := tyM_is I1 r1 ty
  exact ⟨T, id, pa, slot, hty, h1, h2, Calls.callWith_builtin rfl (PySem.evalArgs_none (hm pins s1 σ H1 x [] v [] Q I1 r1 .nil q1))⟩
theorem pe_mt (pa : PlainAttrs T) (slot : Slot T name id) (hty : typeOf (.builtin id) = pure (.type "method_descriptor"))
    (hm : MtR X id r) (ho : PE X o to) (ha : PA X (e :: es) t) (hbase : plainBase o = true) (hs0 : (e :: es).all nostar = true) (hlen : (e :: es).length < 30) (hline : (apos.endLine == cpos.line) = true) :
    PE X (.Call (.Attribute o name apos) (e :: es) [] cpos) (tMt X.K T r to t) := by
  refine ⟨fun pins s σ H Q I h => ?_⟩
  have hs := hs0
  simp only [List.all_cons, Bool.and_eq_true] at hs
  refine wpAny_Call_method_late (plainBase_ok hbase) (by
    rw [few_ok hs0]
    show (true && decide ((e :: es).length + 0 + 0 < 30)) = true
    simpa using hlen) hline rfl (thn (ho.run pins s σ H _ I h) fun v s1 ⟨x, H1, I1, r1, ty, q1⟩ => ?_)
  obtain ⟨h1, h2⟩ := tyM_is I1 r1 ty
  refine ⟨T, id, pa, slot, hty, h1, h2, ?_⟩
  have hA := ha.run cpos pins s1 σ H1 _ I1 q1
  rw [star_cons hs.1] at hA ⊢
  refine Calls.callWith_builtin (by show (false || (backTo cpos (starEach es X.env)).any (·.1)) = false; rw [star_plain hs.2] <;> rfl) (Calls.evalArgs_plain ?_)
  exact thn hA fun us s2 ⟨vs, H2, I2, r2, q2⟩ => hm pins s2 σ H2 x vs v us Q I2 r1 r2 q2
end
/-! the methods, by values -/
theorem ref_lst {H : Hp} {ρ : List Addr} {m : Hd} {n : Nat} {ys : List D} {x : V} (S : Sim L H ρ m) (r : Rv L.K H ρ (.ref n) x) (e : m[n]? = some (.lst ys)) : ∃ a vs, ρ[n]? = some a ∧ x = .ref a ∧ H a = some (.lst vs) ∧ RvL L.K H ρ ys vs := by
  unfold Rv at r
  obtain ⟨a, h, rfl⟩ := r
  obtain ⟨vs, h1, h2⟩ := S.ob n a _ h e
  exact ⟨a, vs, h, rfl, h1, h2⟩
/-- a list is written -/
theorem out_write {H : Hp} {ρ : List Addr} {m : Hd} {n : Nat} {a : Addr} {vs ws : List V} {zs : List D} {d : D} {v : V} {Q : VK} (S : Sim L H ρ m) (e : ρ[n]? = some a) (h : H a = some (.lst vs)) (r : RvL L.K H ρ zs ws) (rd : Rv L.K H ρ d v) (o : Out L H ρ Q (.ok d (m.set n (.lst zs)))) :
    Q v (upd H a (.lst ws)) := by
  have x : Ext H ρ (upd H a (.lst ws)) ρ := Ext.write e h (by simp) (by simp)
  exact o _ _ x (S.write e h (by simp) (by simp) ⟨_, upd_same, r.ext x⟩) _ (rd.ext x)
theorem sq_skV {H : Hp} {ρ : List Addr} {m : Hd} {d : D} {x : V} {xs : List D} (S : Sim L H ρ m) (r : Rv L.K H ρ d x) (e : sq m d = some xs) : ∃ (_ : Unit) (a : Addr) (vs : List V), x = .ref a ∧ (SqL L.K H a vs ∨ SqT L.K H a vs) ∧ RvL L.K H ρ xs vs := by
  obtain ⟨a, vs, h1, h2, h3, _⟩ := sq_len S r e
  exact ⟨(), a, vs, h1, h2, h3⟩
theorem tl_joinS (y : Str) : ∀ parts : List Str, tl (joinS y parts) = joinL (tl y) (parts.map tl)
  | [] => rfl
  | [x] => by simp [joinS, joinL]
  | x :: z :: r => by
    have ih := tl_joinS y (z :: r)
    show tl (x ++ y ++ joinS y (z :: r)) = _
    rw [tl_append, tl_append, ih]
    simp [joinL]
theorem join_is (y : Str) (parts : List Str) : Txt.join y parts = joinS y parts := by
  rw [join_eq]
  exact ext_tl ((tl_join y parts).trans (tl_joinS y parts).symm)
theorem lenSum_eq : ∀ ys : List Str, (ys.map (·.length)).sum = lenSum ys
  | [] => rfl
  | y :: r => by rw [List.map_cons, List.sum_cons, lenSum_eq r]; rfl
theorem spl_one (c : Nat) : ∀ (l acc : List Nat), spl [c] 0 acc l = splitL c acc l
  | [], acc => by rw [spl_nil]; rfl
  | d :: r, acc => by
    unfold splitL
    by_cases h : d = c
    · subst h
      rw [spl_hit (by simp [pre]), if_pos rfl]
      show acc :: spl [d] 0 [] r = _
      rw [spl_one]
    · rw [spl_miss (by simp [pre]; exact h), if_neg h, spl_one]
theorem split_is {a b : Str} {c : Nat} (hb : b = ⟨#[c]⟩) (hc : c < 256) : Txt.split a b = (splitL c [] a.cps.toList).map fun p => ⟨p.toArray⟩ := by
  subst hb
  have e := split_spl a ⟨#[c]⟩ (by simp [tl]) (kind_ok (by simp; omega))
  have e2 : tl (⟨#[c]⟩ : Str) = [c] := rfl
  rw [e2, spl_one] at e
  apply map_tl_inj
  rw [e, List.map_map]
  have : (tl ∘ fun p : List Nat => (⟨p.toArray⟩ : Str)) = id := rfl
  rw [this, List.map_id]
theorem rvl_strs {K : PySem.W.Frag} {H : Hp} {ρ : List Addr} : ∀ {ys : List Str}, RvL K H ρ (ys.map D.str) (ys.map V.str)
  | [] => rvl_nil
  | _ :: _ => rvl_cons (by simp [Rv]) rvl_strs
theorem RvL.eraseIdx {K : PySem.W.Frag} {H : Hp} {ρ : List Addr} : ∀ {ds : List D} {vs : List V} (i : Nat), RvL K H ρ ds vs → RvL K H ρ (ds.eraseIdx i) (vs.eraseIdx i)
  | [], vs, i, h => by unfold RvL at h; subst h; exact rvl_nil
  | d :: ds, vs, 0, h => by
    unfold RvL at h
    obtain ⟨v, r, rfl, h1, h2⟩ := h
    exact h2
  | d :: ds, vs, i + 1, h => by
    unfold RvL at h
    obtain ⟨v, r, rfl, h1, h2⟩ := h
    exact rvl_cons h1 (RvL.eraseIdx i h2)
theorem rvt_putAll {H : Hp} {ρ : List Addr} {L : Lnk} : ∀ {zs kvs : List (D × D)} {more ps : List (List Key × V)}, RvT L.K H ρ zs more → RvT L.K H ρ kvs ps → RvT L.K H ρ (putAll kvs zs) (more.foldl (fun acc e => putK acc e.1 e.2) ps)
  | [], kvs, more, ps, h, r => by unfold RvT at h; subst h; exact r
  | (d, e) :: zs, kvs, more, ps, h, r => by
    unfold RvT at h
    obtain ⟨k, v, q, rfl, rfl, h1, h2⟩ := h
    show RvT L.K H ρ (putAll (put kvs (.tup (k.map kD)) e) zs) (q.foldl (fun acc e => putK acc e.1 e.2) (putK ps k v))
    exact rvt_putAll h2 (put_t h1 r)
theorem mt_ok (hK : L.K = X.K) (hu : X.A.units + 100 < cLine) (f : Mt) : MtR X (mtE f).2.2 (rM L (mtD f)) := by
  intro pins s σ H x xs v us Q I rx rs ⟨ρ, m, d, ds, S, rd, rds, o⟩
  unfold mtD at o
  split at o
  next n w =>
    split at o
    next ys e =>
      obtain ⟨h, o⟩ := o.ifs
      obtain ⟨a, vs, ha, rfl, h1, h2⟩ := ref_lst S rd e
      obtain ⟨y, rfl, ry⟩ := rvl1 rds
      have hl := h2.len
      refine mt_append pins s σ H _ _ v us Q I rx rs ⟨a, vs, y, rfl, rfl, h1, by rw [← hl]; simpa using h, ?_⟩
      exact out_write S ha h1 (h2.app (rvl_cons ry rvl_nil)) (by simp [Rv]) o
    next => exact o.elim
  next n w =>
    split at o
    next ys zs e1 e2 =>
      obtain ⟨h, o⟩ := o.ifs
      have h : ys.length + zs.length ≤ sizeLine := by simpa using h
      obtain ⟨a, vs, ha, rfl, h1, h2⟩ := ref_lst S rd e1
      obtain ⟨y, rfl, ry⟩ := rvl1 rds
      obtain ⟨b, ws, rfl, h3, h4⟩ := fz_lst S ry e2
      have l1 := h2.len
      have l2 := h4.len
      cases rx
      obtain ⟨u, rfl, ru⟩ := vals1 rs
      cases ru
      obtain ⟨z, its, n', r, hl, e⟩ := I.lstM h1
      obtain ⟨z2, its2, n2, r2, hl2, e2'⟩ := rdL I h3
      have hsz : its.toArray.size + its2.toArray.size ≤ sizeLine := by rw [List.size_toArray, List.size_toArray]; omega
      have hlong : ¬ (!its.toArray.isEmpty && Builtin.List.listTooLong (its.toArray.size + its2.toArray.size)) = true := by
        rw [notLongL hsz, Bool.and_false]
        exact Bool.false_ne_true
      refine call_meets F.slot_list_extend ⟨_, e, rfl⟩ F.entry_list_extend (F.args_list_extend_2 _ _)
        (AutoSeq1.list_extend_list_list_0 a its.toArray n' b its2.toArray n2 hlong (by rw [List.size_toArray]; omega) (by omega)) ⟨e, e2', ?_⟩
      refine ⟨.non, _, I.lset (its' := its ++ its2) h1 e (by simp) (r.append r2) ?_, rfl, out_write S ha h1 (h2.app h4) (by simp [Rv]) o⟩
      rw [List.length_append]
      omega
    next => exact o.elim
  next n =>
    split at o
    next ys e =>
      split at o
      next z hz =>
        obtain ⟨a, vs, ha, rfl, h1, h2⟩ := ref_lst S rd e
        obtain rfl := rvl0 rds
        rw [List.getLast?_eq_getElem?] at hz
        obtain ⟨y, g1, g2⟩ := h2.get hz
        have hl := h2.len
        refine mt_pop pins s σ H _ _ v us Q I rx rs ⟨a, vs, y, rfl, rfl, h1, by rw [← hl]; exact g1, ?_⟩
        exact out_write S ha h1 h2.dropLast g2 o
      next => exact o.elim
    next => exact o.elim
  next n =>
    split at o
    next ys e =>
      obtain ⟨a, vs, ha, rfl, h1, h2⟩ := ref_lst S rd e
      obtain rfl := rvl0 rds
      refine mt_clear pins s σ H _ _ v us Q I rx rs ⟨a, vs, rfl, rfl, h1, ?_⟩
      exact out_write S ha h1 rvl_nil (by simp [Rv]) o
    next => exact o.elim
  next k =>
    split at o
    next t kvs e =>
      obtain ⟨h, o⟩ := o.ifs
      obtain ⟨y, rfl, ry⟩ := rvl1 rds
      obtain ⟨u, rfl, ru⟩ := vals1 rs
      obtain ⟨a, p, rfl, g, fr⟩ := dget_ok S rd ry e h
      cases rx
      refine d_get1 (by omega) I g ru fun w' s' I' r' => ⟨_, H, I', r', ?_⟩
      cases q : find kvs k with
      | none =>
        rw [q] at fr o
        cases p with
        | none => exact out_val o S (by simp [Rv])
        | some w => exact fr.elim
      | some w =>
        rw [q] at fr o
        cases p with
        | none => exact fr.elim
        | some w => exact out_val o S fr
    next => exact o.elim
  next k z =>
    split at o
    next t kvs e =>
      obtain ⟨h, o⟩ := o.ifs
      obtain ⟨y, w2, rfl, ry, rz⟩ := rvl2 rds
      obtain ⟨u, u2, rfl, ru, ru2⟩ := vals2 rs
      obtain ⟨a, p, rfl, g, fr⟩ := dget_ok S rd ry e h
      cases rx
      refine d_get2 (by omega) I g ru ru2 fun w' s' I' r' => ⟨_, H, I', r', ?_⟩
      cases q : find kvs k with
      | none =>
        rw [q] at fr o
        cases p with
        | none => exact out_val o S rz
        | some w => exact fr.elim
      | some w =>
        rw [q] at fr o
        cases p with
        | none => exact fr.elim
        | some w => exact out_val o S fr
    next => exact o.elim
  next y x =>
    split at o
    next ys e =>
      obtain ⟨h, o⟩ := o.ifs
      have h : lenSum ys + ys.length * y.length ≤ 1000000 := by simpa using h
      obtain ⟨xs, e1, e2⟩ := Option.bind_eq_some_iff.mp e
      obtain ⟨w, rfl, rw'⟩ := rvl1 rds
      obtain ⟨c, a, ws, rfl, h1, h2⟩ := sq_skV S rw' e1
      obtain rfl := strs_ok e2 h2
      unfold Rv at rd
      subst rd
      refine mt_join pins s σ H _ _ v us Q I rx rs ⟨y, a, ys, rfl, rfl, by rw [← hK]; exact h1, by rw [lenSum_eq]; omega, ?_⟩
      rw [join_is]
      exact out_val o S (by simp [Rv])
    next => exact o.elim
  next a b =>
    obtain ⟨h, o⟩ := o.ifs
    simp only [Bool.and_eq_true, decide_eq_true_eq] at h
    obtain ⟨w, rfl, rw'⟩ := rvl1 rds
    unfold Rv at rd rw'
    subst rd rw'
    obtain ⟨Q', hQ, f⟩ := mk_anyv (X := X) (pins := pins) (σ := σ) S o
    refine thn (mt_split pins s σ H _ _ v us Q' I rx rs ⟨a, b, rfl, rfl, by rw [h.1.1]; rfl, ?_, fun p hp => ?_⟩) f
    · have : (1000002 : Nat) ≤ sizeLine := by decide
      omega
    · rw [split_is (str_one h.1.1) h.1.2]
      refine hQ p _ ?_ hp
      have := rvl_strs (K := L.K) (H := H) (ρ := ρ) (ys := (splitL (b.cps.getD 0 0) [] a.cps.toList).map fun p => ⟨p.toArray⟩)
      rw [List.map_map] at this
      exact this
  next a b =>
    split at o
    next i r e =>
      obtain ⟨w, rfl, rw'⟩ := rvl1 rds
      unfold Rv at rd rw'
      subst rd rw'
      exact mt_sindex pins s σ H _ _ v us Q I rx rs ⟨a, b, i, r, rfl, rfl, e, out_val o S (by simp [Rv])⟩
    next => exact o.elim
  next ys z =>
    obtain ⟨h, o⟩ := o.ifs
    have h : z ∈ ys := by simpa using h
    obtain ⟨w, rfl, rw'⟩ := rvl1 rds
    unfold Rv at rd rw'
    subst rw'
    obtain ⟨a, ob, rfl, _, h1⟩ := rd
    have hl : ys.idxOf z < ys.length := List.idxOf_lt_length_iff.mpr h
    refine mt_tup_index pins s σ H _ _ v us Q I rx rs ⟨a, ys, z, ys.idxOf z, rfl, rfl, .inl (.inr ⟨ob, h1⟩), ?_, fun k hk => ?_, out_val o S (by simp [Rv])⟩
    · rw [List.getElem?_eq_getElem hl, List.getElem_idxOf hl]
    · intro e'
      have hk' : k < ys.length := by omega
      rw [List.getElem?_eq_getElem hk'] at e'
      exact absurd (Option.some.inj e') (by
        have := List.not_of_lt_findIdx (p := (· == z)) (xs := ys) (i := k) (by simpa [List.idxOf] using hk)
        simpa using this)
  next n i =>
    split at o
    next ys e =>
      obtain ⟨h, o⟩ := o.ifs
      simp only [Bool.and_eq_true, decide_eq_true_eq] at h
      split at o
      next z hz =>
        obtain ⟨a, vs, ha, rfl, h1, h2⟩ := ref_lst S rd e
        obtain ⟨w, rfl, rw'⟩ := rvl1 rds
        unfold Rv at rw'
        subst rw'
        obtain ⟨y, g1, g2⟩ := h2.get hz
        have hl := h2.len
        have lt : i.toNat < vs.length := (List.getElem?_eq_some_iff.mp g1).1
        refine mt_popAt pins s σ H _ _ v us Q I rx rs ⟨a, vs, i, i.toNat, y, rfl, rfl, h1, by omega, h.2, ?_, g1, ?_⟩
        · unfold seqIndex?
          split <;> simp <;> omega
        · exact out_write S ha h1 (h2.eraseIdx _) g2 o
      next => exact o.elim
    next => exact o.elim
  next n x =>
    split at o
    next kvs zs e1 e2 =>
      obtain ⟨h, o⟩ := o.ifs
      simp only [Bool.and_eq_true, decide_eq_true_eq, Bool.not_eq_true', List.isEmpty_eq_false_iff] at h
      obtain ⟨w, rfl, rw'⟩ := rvl1 rds
      unfold Rv at rd
      obtain ⟨a, ha, rfl⟩ := rd
      obtain ⟨b, rfl, hd⟩ := dq_ok S rw' e2
      rcases S.ob n a _ ha e1 with ⟨z, _⟩ | ⟨_, ps, h1, h2⟩
      · cases z
      rcases hd with ⟨z, _⟩ | ⟨_, qs, h3, h4⟩
      · cases z
      have l1 := rvt_len h2
      have l2 := rvt_len h4
      have ne : a ≠ b := by
        rintro rfl
        cases x with
        | ref k =>
          unfold Rv at rw'
          obtain ⟨c, hk, e⟩ := rw'
          cases e
          have i1 := (List.getElem?_eq_some_iff.mp ha)
          have i2 := (List.getElem?_eq_some_iff.mp hk)
          obtain ⟨j1, g1⟩ := i1
          obtain ⟨j2, g2⟩ := i2
          have : k = n := (List.getElem_inj S.nd).mp (g2.trans g1.symm)
          exact h.1.2 (by rw [this])
        | dct t ks =>
          unfold Rv at rw'
          obtain ⟨c, o', e, hd⟩ := rw'
          cases e
          rcases hd with ⟨_, _, hd, _⟩ | ⟨_, _, hd, _⟩ <;> (rw [h1] at hd; cases hd)
        | _ => simp [dq] at e2
      refine mt_updateT hu pins s σ H _ _ v us Q I rx rs ⟨a, b, ps, qs, rfl, rfl, ne, h1, h3, ?_, by omega, ?_⟩
      · intro z
        subst z
        have := h.1.1
        cases kvs with
        | nil => exact this rfl
        | cons kv r => rw [List.length_cons, List.length_nil] at l1; omega
      · have x1 : Ext H ρ (upd H a (.dT (qs.foldl (fun acc e => putK acc e.1 e.2) ps))) ρ := Ext.write ha h1 (by simp) (by simp)
        exact o _ _ x1 (S.write ha h1 (by simp) (by simp) (.inr ⟨rfl, _, upd_same, RvT.mono x1.pre x1.tup x1.frz (rvt_putAll h4 h2)⟩)) _ (by simp [Rv])
    next => exact o.elim
  next => exact o.elim
theorem fz_nms {m : Hd} {d : D} {ns : List Str} (e : fz m d = .nms ns) : d = .nms ns := by
  cases d with
  | nms ds => exact e
  | ref n =>
    simp only [fz] at e
    cases q : m[n]? with
    | none => rw [q] at e; cases e
    | some ob => rw [q] at e; cases ob <;> cases e
  | _ => simp [fz] at e
theorem de_mt {o e : Expr} {es : List Expr} {apos cpos : Pos} {fo : ME} {g : SD → Hd → R (List D)} (hK : L.K = X.K) (hu : X.A.units + 100 < cLine) (f : Mt) (ho : PE X o (tE L fo)) (ha : PA X (e :: es) (tA L g)) (hbase : plainBase o = true)
    (hs : (e :: es).all nostar = true) (hlen : (e :: es).length < 30) (hline : (apos.endLine == cpos.line) = true) :
    PE X (.Call (.Attribute o (mtE f).2.1 apos) (e :: es) [] cpos) (tE L fun s m => (fo s m).bind fun d m1 => (ifs (mtTy m1 d f) (.ok () m1)).bind fun _ m1 => (g s m1).bind fun ds m2 => mtD f d ds m2) := by
  have w : ∀ σ H Q, tE L (fun s m => (fo s m).bind fun d m1 => (ifs (mtTy m1 d f) (R.ok () m1)).bind fun _ m1 => (g s m1).bind fun ds m2 => mtD f d ds m2) σ H Q → tMt X.K (mtE f).1 (rM L (mtD f)) (tE L fo) (tA L g) σ H Q := fun σ H Q ⟨ρ, m, s, S, E, o⟩ => by
    refine tE_then (k := fun s d m1 => (ifs (mtTy m1 d f) (R.ok () m1)).bind fun _ m1 => (g s m1).bind fun ds m2 => mtD f d ds m2) S E o fun x H1 ρ1 d m1 x1 S1 E1 rx o1 => ?_
    cases ht : mtTy m1 d f with
    | false => rw [ht] at o1; exact o1.elim
    | true =>
      rw [ht] at o1
      refine ⟨?_, tA_then (k := fun _ ds m2 => mtD f d ds m2) S1 E1 o1 fun vs H2 ρ2 ds m2 x2 S2 E2 rs o2 => ⟨ρ2, m2, d, ds, S2, rx.ext x2, rs, o2⟩⟩
      unfold mtTy at ht
      split at ht
      next xs e1 =>
        obtain ⟨a, vs, rfl, h2, h3⟩ := fz_lst S1 rx e1
        have hf : (mtE f).1 = "list" := by cases f <;> first | rfl | cases ht
        rw [hf]
        exact .inl (.inl ⟨rfl, vs, .inl h2⟩)
      next z e1 =>
        have hf : (mtE f).1 = "str" := by cases f <;> first | rfl | cases ht
        rw [hf]
        refine .inl ?_
        cases d with
        | str y =>
          unfold Rv at rx
          subst rx
          exact rfl
        | ref n =>
          simp only [fz] at e1
          cases q : m1[n]? with
          | none => rw [q] at e1; cases e1
          | some ob => rw [q] at e1; cases ob <;> cases e1
        | _ => simp [fz] at e1
      next ns e1 =>
        have hf : (mtE f).1 = "tuple" := by cases f <;> first | rfl | cases ht
        rw [hf]
        have e3 := fz_nms e1
        subst e3
        unfold Rv at rx
        obtain ⟨a, o, rfl, hd, h⟩ := rx
        exact .inr (.inr ⟨rfl, a, o, _, rfl, hd, h⟩)
      next =>
        split at ht
        next q e2 =>
          obtain ⟨t, kvs⟩ := q
          obtain ⟨a, rfl, hd⟩ := dq_ok S1 rx e2
          have hf : (mtE f).1 = "dict" := by cases f <;> first | rfl | cases ht
          rw [hf]
          refine .inr (.inl ⟨rfl, a, rfl, ?_⟩)
          rcases hd with ⟨_, ps, h1, _⟩ | ⟨_, ps, h1, _⟩
          · exact .inl ⟨ps, h1⟩
          · exact .inr ⟨ps, h1⟩
        next => cases ht
  have hm := mt_ok (L := L) (X := X) hK hu f
  cases f with
  | append => exact PE.weak (pe_mt PySem.F.plainAttrs_list PySem.F.slot_list_append PySem.F.type_list_append hm ho ha hbase hs hlen hline) w
  | extend => exact PE.weak (pe_mt PySem.F.plainAttrs_list PySem.F.slot_list_extend PySem.F.type_list_extend hm ho ha hbase hs hlen hline) w
  | pop => exact PE.weak (pe_mt PySem.F.plainAttrs_list PySem.F.slot_list_pop PySem.F.type_list_pop hm ho ha hbase hs hlen hline) w
  | join => exact PE.weak (pe_mt PySem.F.plainAttrs_str PySem.F.slot_str_join PySem.F.type_str_join hm ho ha hbase hs hlen hline) w
  | split => exact PE.weak (pe_mt PySem.F.plainAttrs_str PySem.F.slot_str_split PySem.F.type_str_split hm ho ha hbase hs hlen hline) w
  | sindex => exact PE.weak (pe_mt PySem.F.plainAttrs_str PySem.F.slot_str_index PySem.F.type_str_index hm ho ha hbase hs hlen hline) w
  | tindex => exact PE.weak (pe_mt PySem.F.plainAttrs_tuple PySem.F.slot_tuple_index PySem.F.type_tuple_index hm ho ha hbase hs hlen hline) w
  | popi => exact PE.weak (pe_mt PySem.F.plainAttrs_list PySem.F.slot_list_pop PySem.F.type_list_pop hm ho ha hbase hs hlen hline) w
  | update => exact PE.weak (pe_mt PySem.F.plainAttrs_dict PySem.F.slot_dict_update PySem.F.type_dict_update hm ho ha hbase hs hlen hline) w
  | clear => exact PE.weak (pe_mt PySem.F.plainAttrs_list PySem.F.slot_list_clear PySem.F.type_list_clear hm ho ha hbase hs hlen hline) w
  | get1 => exact PE.weak (pe_mt PySem.F.plainAttrs_dict PySem.F.slot_dict_get PySem.F.type_dict_get hm ho ha hbase hs hlen hline) w
  | get2 => exact PE.weak (pe_mt PySem.F.plainAttrs_dict PySem.F.slot_dict_get PySem.F.type_dict_get hm ho ha hbase hs hlen hline) w
end
end Dx
/-! DxGa: methods without arguments -/
namespace Dx
open PySem PySem.Spec PyProof.Rows L2
section
variable {L : Lnk} {X : Cx}
def isNul : Mt → Bool
  | .pop => true
  | .clear => true
  | _ => false
theorem de_mt0 {o : Expr} {apos cpos : Pos} {fo : ME} (hK : L.K = X.K) (hu : X.A.units + 100 < cLine) (f : Mt) (hf : isNul f = true) (ho : PE X o (tE L fo)) (hbase : plainBase o = true) (hline : (apos.endLine == cpos.line) = true) :
    PE X (.Call (.Attribute o (mtE f).2.1 apos) [] [] cpos) (tE L fun s m => (fo s m).bind fun d m1 => (ifs (mtTy m1 d f) (.ok () m1)).bind fun _ m1 => mtD f d [] m1) := by
  have w : ∀ σ H Q, tE L (fun s m => (fo s m).bind fun d m1 => (ifs (mtTy m1 d f) (R.ok () m1)).bind fun _ m1 => mtD f d [] m1) σ H Q → tBM0 X.K "list" (rM L (mtD f)) (tE L fo) σ H Q := fun σ H Q ⟨ρ, m, s, S, E, o⟩ => by
    refine tE_then (k := fun s d m1 => (ifs (mtTy m1 d f) (R.ok () m1)).bind fun _ m1 => mtD f d [] m1) S E o fun x H1 ρ1 d m1 x1 S1 E1 rx o1 => ?_
    cases ht : mtTy m1 d f with
    | false => rw [ht] at o1; exact o1.elim
    | true =>
      rw [ht] at o1
      refine ⟨?_, ρ1, m1, d, [], S1, rx, rvl_nil, o1⟩
      unfold mtTy at ht
      split at ht
      next xs e1 =>
        obtain ⟨a, vs, rfl, h2, h3⟩ := fz_lst S1 rx e1
        exact .inl ⟨rfl, vs, .inl h2⟩
      next z e1 => cases f <;> first | (cases hf; done) | (cases ht; done)
      next z e1 => cases f <;> first | (cases hf; done) | (cases ht; done)
      next =>
        split at ht
        next => cases f <;> first | (cases hf; done) | (cases ht; done)
        next => cases ht
  have hm := mt_ok (L := L) (X := X) hK hu f
  cases f with
  | pop => exact PE.weak (pe_bm0 PySem.F.plainAttrs_list PySem.F.slot_list_pop PySem.F.type_list_pop hm ho (plainBase_ok hbase) hline) w
  | clear => exact PE.weak (pe_bm0 PySem.F.plainAttrs_list PySem.F.slot_list_clear PySem.F.type_list_clear hm ho (plainBase_ok hbase) hline) w
  | _ => cases hf
end
end Dx
/-! DxH: targets, walks, comprehensions -/
namespace Dx
open PySem PySem.Spec PyProof.Rows L2
section
variable {L : Lnk} {X : Cx}

/-! ### targets -/
mutual
def Tg.slots : Tg → List Nat
  | .name i => [i]
  | .tup ts => Tg.slotsL ts
def Tg.slotsL : List Tg → List Nat
  | [] => []
  | t :: ts => Tg.slots t ++ Tg.slotsL ts
end
def gD (L : Lnk) (tg : Tg) : TG := fun v σ H Q => ∃ ρ m s d s', Sim L H ρ m ∧ EnvR L H ρ s σ ∧ Rv L.K H ρ d v ∧ bindTg tg d s = some s' ∧
  ∀ σ', EnvR L H ρ s' σ' → (∀ vs : List Nat, (∀ i ∈ tg.slots, i ∈ vs) → L2.wipe σ' vs = L2.wipe σ vs) → Q σ' H
def gsD (L : Lnk) (ts : List Tg) : TGs := fun vs σ H Q => ∃ ρ m s ds s', Sim L H ρ m ∧ EnvR L H ρ s σ ∧ RvL L.K H ρ ds vs ∧ bindTgs ts ds s = some s' ∧
  ∀ σ', EnvR L H ρ s' σ' → (∀ ws : List Nat, (∀ i ∈ Tg.slotsL ts, i ∈ ws) → L2.wipe σ' ws = L2.wipe σ ws) → Q σ' H
theorem wipe_set {σ : VS} {i : Nat} {x : Option V} : ∀ {vs : List Nat}, i ∈ vs → L2.wipe (σ.set i x) vs = L2.wipe σ vs
  | v :: vs, h => by
    show (L2.wipe (σ.set i x) vs).set v none = (L2.wipe σ vs).set v none
    by_cases hv : i ∈ vs
    · rw [wipe_set hv]
    · rcases List.mem_cons.mp h with rfl | h
      · have key : ∀ {us : List Nat}, i ∉ us → L2.wipe (σ.set i x) us = (L2.wipe σ us).set i x := by
          intro us
          induction us with
          | nil => intro _; rfl
          | cons u us ih =>
            intro hu
            show (L2.wipe (σ.set i x) us).set u none = ((L2.wipe σ us).set u none).set i x
            rw [ih (fun z => hu (List.mem_cons_of_mem _ z)), List.set_comm]
            intro z; subst z; exact hu (by simp)
        rw [key hv, List.set_set]
      · exact absurd h hv
theorem wipe_get {σ : VS} {i : Nat} : ∀ {vs : List Nat}, (L2.wipe σ vs)[i]? = if i ∈ vs then (if i < σ.length then some none else none) else σ[i]?
  | [] => by simp [L2.wipe]
  | v :: vs => by
    show ((L2.wipe σ vs).set v none)[i]? = _
    by_cases h : v = i
    · subst h
      by_cases hl : v < σ.length
      · rw [List.getElem?_set_self (by rw [L2.wipe_length]; exact hl)]
        simp [hl]
      · rw [List.getElem?_eq_none (by rw [List.length_set, L2.wipe_length]; omega)]
        simp [hl]
    · rw [List.getElem?_set_ne h, wipe_get]
      have : i ≠ v := fun z => h z.symm
      simp [this]
theorem wipe_wipe {σ : VS} {vs : List Nat} : L2.wipe (L2.wipe σ vs) vs = L2.wipe σ vs := by
  apply List.ext_getElem?
  intro i
  rw [wipe_get, wipe_get, L2.wipe_length]
  by_cases h : i ∈ vs <;> simp [h]
theorem dg_name {i : Nat} {x : Str} {pos : Pos} (hN : X.N.Nodup) (hi : X.N[i]? = some x) (hx : Loc X.env.scope x) (hf : X.fn x = true ∨ X.env.scope.names.lookup x = some .local) : PG X (.Name x pos) (gD L (.name i)) := by
  refine ⟨fun pins s σ H v u Q I r ⟨ρ, m, sd, d, s', S, E, rd, hb, q⟩ => (pg_name hN hi hx hf).run pins s σ H v u Q I r ?_⟩
  unfold bindTg at hb
  cases hb
  exact q _ (E.set rd) fun vs h => wipe_set (h i (by simp [Tg.slots]))
theorem dgs_nil : PGs X [] (gsD L []) := by
  refine ⟨fun pins s σ H vs us Q I r ⟨ρ, m, sd, ds, s', S, E, rd, hb, q⟩ => pgs_nil.run pins s σ H vs us Q I r ?_⟩
  cases ds with
  | cons d ds => unfold bindTgs at hb; cases hb
  | nil =>
    unfold bindTgs at hb
    cases hb
    exact ⟨rvl0 rd, q σ E fun _ _ => rfl⟩
theorem each_cons {e : Expr} {es : List Expr} {env : Env} (h : nostar e = true) : (assignEach (e :: es) env).map (·.2) = assign e env :: (assignEach es env).map (·.2) := by
  cases e <;> first | rfl | cases h
theorem each_plain {env : Env} : ∀ {es : List Expr}, es.all nostar = true → (assignEach es env).length = es.length ∧ (assignEach es env).findIdx? (·.1) = none
  | [], _ => ⟨rfl, rfl⟩
  | e :: es, h => by
    simp only [List.all_cons, Bool.and_eq_true] at h
    have ih := each_plain (env := env) h.2
    have hc : assignEach (e :: es) env = (false, assign e env) :: assignEach es env := by
      have h1 := h.1
      cases e <;> first | rfl | cases h1
    rw [hc]
    refine ⟨by simp [ih.1], ?_⟩
    rw [List.findIdx?_cons]
    simp [ih.2]
theorem dgs_cons {e : Expr} {es : List Expr} {t : Tg} {ts : List Tg} (hn : nostar e = true) (h1 : PG X e (gD L t)) (h2 : PGs X es (gsD L ts)) : PGs X (e :: es) (gsD L (t :: ts)) := by
  refine ⟨fun pins s σ H vs us Q I r ⟨ρ, m, sd, ds, s', S, E, rd, hb, q⟩ => (pgs_cons h1 h2 (each_cons hn)).run pins s σ H vs us Q I r ?_⟩
  cases ds with
  | nil => unfold bindTgs at hb; cases hb
  | cons d ds =>
    unfold RvL at rd
    obtain ⟨v, w, rfl, r1, r2⟩ := rd
    unfold bindTgs at hb
    cases hb1 : bindTg t d sd with
    | none => rw [hb1] at hb; cases hb
    | some s1 =>
      rw [hb1] at hb
      refine ⟨v, w, rfl, ρ, m, sd, d, s1, S, E, r1, hb1, fun σ1 E1 w1 => ?_⟩
      refine ⟨ρ, m, s1, ds, s', S, E1, r2, hb, fun σ2 E2 w2 => q σ2 E2 fun ws hw => ?_⟩
      have hw : ∀ i ∈ Tg.slots t ++ Tg.slotsL ts, i ∈ ws := by simpa [Tg.slotsL] using hw
      rw [w2 ws fun i hi => hw i (List.mem_append_right _ hi), w1 ws fun i hi => hw i (List.mem_append_left _ hi)]
theorem dg_tup {es : List Expr} {k : Nat} {pos : Pos} {ts : List Tg} (hc : X.calm = true) (hs : es.all nostar = true) (hl : es.length = ts.length) (h : PGs X es (gsD L ts)) : PG X (.Tuple es k pos) (gD L (.tup ts)) := by
  have hp := each_plain (env := X.env) hs
  refine ⟨fun pins s σ H v u Q I r ⟨ρ, m, sd, d, s', S, E, rd, hb, q⟩ => (pg_tup (n := ts.length) hc h (hp.1.trans hl) hp.2).run pins s σ H v u Q I r ?_⟩
  unfold bindTg at hb
  split at hb
  next ds =>
    unfold Rv at rd
    obtain ⟨a, vs, rfl, h1, h2⟩ := rd
    have hlen : ∀ (ts : List Tg) (ds : List D) (s : SD) (s' : SD), bindTgs ts ds s = some s' → ds.length = ts.length := by
      intro ts
      induction ts with
      | nil => intro ds s s' h; cases ds <;> simp_all [bindTgs]
      | cons t ts ih =>
        intro ds s s' h
        cases ds with
        | nil => simp [bindTgs] at h
        | cons d ds =>
          unfold bindTgs at h
          cases h1 : bindTg t d s with
          | none => rw [h1] at h; cases h
          | some s1 =>
            rw [h1] at h
            simp [ih _ _ _ h]
    exact ⟨a, vs, rfl, .of h1, by rw [← h2.len]; exact hlen _ _ _ _ hb, ρ, m, sd, ds, s', S, E, h2, hb, fun σ' E' w => q σ' E' fun ws hw => w ws (by simpa [Tg.slots] using hw)⟩
  next => cases hb

/-! ### walks -/
structure WalkD (L : Lnk) (J : It) (xs : List D) (g : Gu) (H1 : Hp) (ρ1 : List Addr) : Prop where
  goes : ∀ i H ρ m, i < xs.length → Ext H1 ρ1 H ρ → Sim L H ρ m → guOk g m = true → J.go i H
  stops : ∀ H ρ m, Ext H1 ρ1 H ρ → Sim L H ρ m → guOk g m = true → J.stop xs.length H
  yields : ∀ i H ρ m x H', i < xs.length → Ext H1 ρ1 H ρ → Sim L H ρ m → guOk g m = true → J.yld i H x H' → ∃ d, xs[i]? = some d ∧ Ext H ρ H' ρ ∧ Sim L H' ρ m ∧ Rv L.K H' ρ d x
def tI (L : Lnk) (f : SD → Hd → R (List D × Gu)) : TI := fun σ H R => ∃ ρ m s, Sim L H ρ m ∧ EnvR L H ρ s σ ∧ OutG L H ρ (fun p _ H' ρ' => ∀ J, WalkD L J p.1 p.2 H' ρ' → R J H') (f s m)
theorem tI_then {α : Type} {f : SD → Hd → R (List D × Gu)} {σ : VS} {H : Hp} {k : SD → (List D × Gu) → Hd → R α} {ρ : List Addr} {m : Hd} {s : SD} {P : α → Hd → Hp → List Addr → Prop} (S : Sim L H ρ m) (E : EnvR L H ρ s σ) (o : OutG L H ρ P ((f s m).bind (k s))) {Q : It → Hp → Prop}
    (h : ∀ p H1 ρ1 m1, Ext H ρ H1 ρ1 → Sim L H1 ρ1 m1 → EnvR L H1 ρ1 s σ → OutG L H1 ρ1 P (k s p m1) → ∀ J, WalkD L J p.1 p.2 H1 ρ1 → Q J H1) : tI L f σ H Q :=
  ⟨ρ, m, s, S, E, o.bind.imp fun b m1 H1 ρ1 x S1 o1 => h b H1 ρ1 m1 x S1 (E.ext x) o1⟩
theorem gu_lst {m : Hd} {n : Nat} {xs : List D} {g : Gu} (h : guOk ((n, xs) :: g) m = true) : m[n]? = some (.lst xs) ∧ guOk g m = true := by
  unfold guOk at h
  simp only [List.all_cons, Bool.and_eq_true] at h
  refine ⟨?_, h.2⟩
  have h1 := h.1
  split at h1
  next ys e => rw [e, D.eq_of_beqL _ _ h1]
  next => cases h1
/-- a sequence that stays -/
theorem sq_stay {d : D} {xs : List D} {m1 m : Hd} (e : sq m1 d = some xs) (g : guOk (guOf m1 d) m = true) : sq m d = some xs := by
  cases d with
  | ref n =>
    simp only [sq] at e
    split at e
    next ys h =>
      cases e
      have : guOf m1 (.ref n) = [(n, xs)] := by simp [guOf, h]
      rw [this] at g
      simp [sq, (gu_lst g).1]
    next => cases e
  | _ => exact e
/-- the walk over a sequence's own iterator -/
theorem walk_seqL {a : Addr} {xs : List D} {H1 : Hp} {ρ1 : List Addr} {d : D} {m1 : Hd} {g0 : Gu} (hK : L.K = X.K) (rd : Rv L.K H1 ρ1 d (.ref a)) (e : sq m1 d = some xs) (nt : ¬ isTp d = true) (hg : ∀ m, guOk g0 m = true → guOk (guOf m1 d) m = true) : WalkD L (Itl X.K a) xs g0 H1 ρ1 := by
  have key : ∀ H ρ m, Ext H1 ρ1 H ρ → Sim L H ρ m → guOk g0 m = true → ∃ ws, SqL X.K H a ws ∧ RvL L.K H ρ xs ws := by
    intro H ρ m x S g
    obtain ⟨a', ws, h1, h2, h3⟩ := sq_lstN S (rd.ext x) (sq_stay e (hg m g)) nt
    cases h1
    rw [hK] at h2
    exact ⟨ws, h2, h3⟩
  refine ⟨fun i H ρ m hi x S g => ?_, fun H ρ m x S g => ?_, fun i H ρ m y H' hi x S g hy => ?_⟩
  · obtain ⟨ws, h1, h2⟩ := key H ρ m x S g
    obtain ⟨w, g1, _⟩ := h2.get (List.getElem?_eq_getElem hi)
    exact ⟨ws, w, h1, g1⟩
  · obtain ⟨ws, h1, h2⟩ := key H ρ m x S g
    exact ⟨ws, h1, by rw [h2.len]; exact Nat.le_refl _⟩
  · obtain ⟨ws, h1, h2⟩ := key H ρ m x S g
    obtain ⟨rfl, f⟩ := hy
    obtain ⟨d', g1, g2⟩ := h2.getV (f ws h1)
    exact ⟨d', g1, Ext.refl _ _, S, g2⟩
theorem walk_seqT {a : Addr} {xs : List D} {H1 : Hp} {ρ1 : List Addr} {g0 : Gu} {d : D} {m1 : Hd} (hK : L.K = X.K) (ht : isTp d = true) (rd : Rv L.K H1 ρ1 d (.ref a)) (e : sq m1 d = some xs) : WalkD L (Itt X.K a) xs g0 H1 ρ1 := by
  have key : ∀ H ρ, Ext H1 ρ1 H ρ → ∃ ws, SqT X.K H a ws ∧ RvL L.K H ρ xs ws := by
    intro H ρ x
    obtain ⟨a', ws, h1, h2, h3⟩ := tp_sq ht (rd.ext x) e
    cases h1
    rw [hK] at h2
    exact ⟨ws, h2, h3⟩
  refine ⟨fun i H ρ m hi x S g => ?_, fun H ρ m x S g => ?_, fun i H ρ m y H' hi x S g hy => ?_⟩
  · obtain ⟨ws, h1, h2⟩ := key H ρ x
    obtain ⟨w, g1, _⟩ := h2.get (List.getElem?_eq_getElem hi)
    exact ⟨ws, w, h1, g1⟩
  · obtain ⟨ws, h1, h2⟩ := key H ρ x
    exact ⟨ws, h1, by rw [h2.len]; exact Nat.le_refl _⟩
  · obtain ⟨ws, h1, h2⟩ := key H ρ x
    obtain ⟨rfl, f⟩ := hy
    obtain ⟨d', g1, g2⟩ := h2.getV (f ws h1)
    exact ⟨d', g1, Ext.refl _ _, S, g2⟩
/-- for .. in a list, a tuple -/
theorem di_seq {tg l : Expr} {f : ME} (hK : L.K = X.K) (hl : PE X l (tE L f)) : PI X tg l (tI L fun s m => (f s m).bind fun d m1 => (optB (sq m1 d) m1).bind fun xs m2 => .ok (xs, guOf m2 d) m2) := by
  refine ⟨fun pins s σ H RR I ⟨ρ, m, sd, S, E, o⟩ => ?_⟩
  have hE : tE L f σ H fun x H1 => ∃ ρ1 m1 d xs, Ext H ρ H1 ρ1 ∧ Sim L H1 ρ1 m1 ∧ Rv L.K H1 ρ1 d x ∧ sq m1 d = some xs ∧ ∀ J, WalkD L J xs (guOf m1 d) H1 ρ1 → RR J H1 := by
    refine tE_then (k := fun _ d m1 => (optB (sq m1 d) m1).bind fun xs m2 => .ok (xs, guOf m2 d) m2) S E o fun x H1 ρ1 d m1 x1 S1 E1 rx o1 => ?_
    cases hq : sq m1 d with
    | none => rw [hq] at o1; exact o1.elim
    | some xs =>
      rw [hq] at o1
      simp only [optB_some, R.bind_ok] at o1
      exact ⟨ρ1, m1, d, xs, x1, S1, rx, hq, fun J w => o1.here S1 J w⟩
  refine thn (hl.run pins s σ H _ I hE) fun v s1 ⟨x, H1, I1, r1, ρ1, m1, d, xs, x1, S1, rx, hq, q⟩ => ?_
  by_cases ht : isTp d = true
  · have rx0 := rx
    obtain ⟨a, vs, rfl, h1, h2⟩ := tp_sq ht rx hq
    rw [hK] at h1
    cases r1
    obtain ⟨its, rv, p, hz⟩ := I1.tuple h1
    refine wpAny_pyIter_tuple (show s1.heap.IsTuple a its.toArray from p) ?_
    refine ⟨s1.heap.objs.size, [s1.heap.objs.size], _, _, H1, rfl, I1.kept (t' := s1.toks) fun b o e => Heap.get?_push_of_some _ e, turn_tuple a _, ⟨_, Heap.get?_push_size _ rfl, rfl, rfl⟩, fun b hb => ?_, q _ (walk_seqT hK ht rx0 hq)⟩
    have e : b = s1.heap.objs.size := by simpa using hb
    subst e
    exact I1.fpOk (Nat.le_refl _) (I1.hok.fresh (Nat.le_refl _))
  · obtain ⟨a, vs, rfl, h1, h2⟩ := sq_lstN S1 rx hq ht
    rw [hK] at h1
    cases r1
    obtain ⟨its, rv, p, hz⟩ := I1.list h1
    refine wpAny_pyIter_list p.isList ?_
    refine ⟨s1.heap.objs.size, [s1.heap.objs.size], _, _, H1, rfl, I1.kept (t' := s1.toks) fun b o e => Heap.get?_push_of_some _ e, turn_list a _, ⟨_, Heap.get?_push_size _ rfl, rfl, rfl⟩, fun b hb => ?_, q _ (walk_seqL hK rx hq ht fun _ h => h)⟩
    have e : b = s1.heap.objs.size := by simpa using hb
    subst e
    exact I1.fpOk (Nat.le_refl _) (I1.hok.fresh (Nat.le_refl _))
theorem walk_rng {lo hi : Int} {H1 : Hp} {ρ1 : List Addr} {g0 : Gu} : WalkD L (Itr lo (hi - lo).toNat) (rangeD lo hi) g0 H1 ρ1 := by
  have hl : (rangeD lo hi).length = (hi - lo).toNat := by simp [rangeD]
  refine ⟨fun i H ρ m hi' x S g => by rw [hl] at hi'; exact hi', fun H ρ m x S g => by rw [hl]; exact Nat.le_refl _, fun i H ρ m y H' hi' x S g hy => ?_⟩
  rw [hl] at hi'
  obtain ⟨rfl, rfl⟩ := hy
  refine ⟨.int (lo + i), ?_, Ext.refl _ _, S, by simp [Rv]⟩
  simp [rangeD, List.getElem?_map, List.getElem?_range hi']
theorem bigI_ok {i : Int} (h : bigI i = true) : -(2 ^ 62) ≤ i ∧ i < 2 ^ 62 := by simpa [bigI] using h
/-- range(a), range(a, b) -/
theorem di_rng1 {tg a : Expr} {p pos : Pos} {f : ME} (hg : Gl X "range") (hm : X.mg "range" = none) (hs : nostar a = true) (ha : PE X a (tE L f)) :
    PI X tg (.Call (.Name "range" p) [a] [] pos) (tI L fun s m => ((R.ok (.int 0) m : R D)).bind fun d m1 => (f s m1).bind fun e m2 => rngD d e m2) := by
  refine ⟨fun pins s σ H R I ⟨ρ, m, sd, S, E, o⟩ => (pi_range1 hg hm (pa_cons ha pa_nil (star_cons hs)) (star_cons hs)).run pins s σ H R I ?_⟩
  have o : OutG L H ρ _ ((f sd m).bind fun e m2 => rngD (.int 0) e m2) := o
  refine tE_then (k := fun _ e m2 => rngD (.int 0) e m2) S E o fun x H1 ρ1 d m1 x1 S1 E1 rx o1 => ?_
  unfold rngD at o1
  split at o1
  next i j e1 =>
    cases e1
    obtain ⟨h, o2⟩ := o1.ifs
    simp only [Bool.and_eq_true] at h
    unfold Rv at rx
    subst rx
    exact ⟨j, rfl, (bigI_ok h.2).1, (bigI_ok h.2).2, by simpa using o2.here S1 _ walk_rng⟩
  next => exact o1.elim
theorem di_rng2 {tg a b : Expr} {p pos : Pos} {f g : ME} (hg : Gl X "range") (hm : X.mg "range" = none) (hs : nostar a = true) (hs2 : nostar b = true) (ha : PE X a (tE L f)) (hb : PE X b (tE L g)) :
    PI X tg (.Call (.Name "range" p) [a, b] [] pos) (tI L fun s m => (f s m).bind fun d m1 => (g s m1).bind fun e m2 => rngD d e m2) := by
  refine ⟨fun pins s σ H R I ⟨ρ, m, sd, S, E, o⟩ => (pi_range2 hg hm (pa_cons ha (pa_cons hb pa_nil (star_cons hs2)) (star_cons hs)) (by rw [star_cons hs, star_cons hs2] <;> rfl) (star_cons hs2)).run pins s σ H R I ?_⟩
  refine tE_then (k := fun s d m1 => (g s m1).bind fun e m2 => rngD d e m2) S E o fun x H1 ρ1 d m1 x1 S1 E1 rx o1 => ?_
  refine tE_then (k := fun _ e m2 => rngD d e m2) S1 E1 o1 fun y H2 ρ2 e m2 x2 S2 E2 ry o2 => ?_
  unfold rngD at o2
  split at o2
  next i j =>
    obtain ⟨h, o3⟩ := o2.ifs
    simp only [Bool.and_eq_true] at h
    unfold Rv at rx ry
    subst rx ry
    exact ⟨i, j, rfl, ⟨(bigI_ok h.1).1, (bigI_ok h.1).2, (bigI_ok h.2).1, (bigI_ok h.2).2⟩, o3.here S2 _ walk_rng⟩
  next => exact o2.elim

/-! ### comprehensions -/
/-- the heap without one thing -/
def del (H : Hp) (d : Addr) : Hp := fun a => if a = d then none else H a
theorem del_same {H : Hp} {d : Addr} : del H d d = none := if_pos rfl
theorem del_ne {H : Hp} {d a : Addr} (h : a ≠ d) : del H d a = H a := if_neg h
theorem upd_del {H : Hp} {d : Addr} {o : HO} (h : H d = some o) : upd (del H d) d o = H := by
  funext a
  by_cases e : a = d
  · subst e; rw [upd_same, h]
  · rw [upd_ne e, del_ne e]
theorem del_tup {H : Hp} {d a : Addr} {vs : List V} {u : HO} (h : H d = some (.lst vs)) (e : H a = some u) (n : ∀ ws, u ≠ .lst ws) : del H d a = some u := by
  rw [del_ne (ne_of e h fun z => n vs z)]; exact e
theorem lc_run {tg iter elt : Expr} {ifs' : List Expr} {scope : Scope} {own : List (Str × Nat)} {fi : SD → Hd → R (List D × Gu)} {tgD : Tg} {c : SD → Hd → R Bool} {fe : ME} (b : Bool)
    (hc : X.calm = true) (hN : X.N.Nodup) (hi : PI X tg iter (tI L fi)) (ok : BlkOk X.N X.env.scope scope own)
    (hg : ∀ (s : Shared) (H : Hp) (C : Addr) (cl : List (Str × Addr)) (fp : List Addr), PG (X.blk s H scope (compEnvC scope cl C X.env) fp) tg (gD L tgD))
    (ht : ∀ (s : Shared) (H : Hp) (C : Addr) (cl : List (Str × Addr)) (fp : List Addr), PTs (X.blk s H scope (compEnvC scope cl C X.env) fp) ifs' (tT L c))
    (he : ∀ (s : Shared) (H : Hp) (C : Addr) (cl : List (Str × Addr)) (fp : List Addr), PE (X.blk s H scope (compEnvC scope cl C X.env) fp) elt (tE L fe))
    (hsl : ∀ i ∈ tgD.slots, i ∈ own.map (·.2)) {σ : VS} {H : Hp} {Q : VK}
    (h : tE L (fun s m => (fi s m).bind fun p m1 => ifs (decide (p.1.length ≤ sizeLine)) ((lcGo p.2 (lcStep tgD (wipeD s (own.map (·.2))) c fe) p.1 m1).bind (mkL b))) σ H Q) :
    tLc (tI L fi) (gD L tgD) (tT L c) (tE L fe) (own.map (·.2)) σ H (if b = true then Q else QLk Q) := by
  obtain ⟨ρ, m, sd, S, E, o⟩ := h
  refine tI_then (k := fun s p m1 => ifs (decide (p.1.length ≤ sizeLine)) ((lcGo p.2 (lcStep tgD (wipeD s (own.map (·.2))) c fe) p.1 m1).bind (mkL b))) S E o fun p H1 ρ1 m1 x1 S1 E1 o1 J w => ?_
  obtain ⟨xs, g⟩ := p
  obtain ⟨hz, o1⟩ := o1.ifs
  have hz : xs.length ≤ sizeLine := by simpa using hz
  intro D0 hD0
  refine ⟨fun i k H2 => ∃ H0 ρ m acc vs, i + k = xs.length ∧ H0 D0 = none ∧ H2 = upd H0 D0 (.lst vs) ∧ Ext H1 ρ1 H0 ρ ∧ Sim L H0 ρ m ∧ RvL L.K H0 ρ acc vs ∧ acc.length ≤ i ∧
    OutG L H0 ρ (fun r m' H' ρ' => Out L H' ρ' Q (mkL b (acc ++ r) m')) (lcGo g (lcStep tgD (wipeD sd (own.map (·.2))) c fe) (xs.drop i) m),
    ⟨xs.length, H1, ρ1, m1, [], [], by omega, hD0, rfl, Ext.refl _ _, S1, rvl_nil, Nat.le_refl _, ?_⟩, fun i k H2 ⟨H0, ρ2, m2, acc, vs, e1, n0, e2, x2, S2, ra, la, o2⟩ => ?_⟩
  · rw [List.drop_zero]
    exact o1.bind.imp fun r m' H' ρ' _ _ o3 => by simpa using o3
  · subst e2
    have x3 : Ext H0 ρ2 (upd H0 D0 (.lst vs)) ρ2 := Ext.laid n0
    have S3 : Sim L (upd H0 D0 (.lst vs)) ρ2 m2 := S2.laid n0
    have nD : D0 ∉ ρ2 := S2.out n0
    by_cases hlt : i < xs.length
    · rw [List.drop_eq_getElem_cons hlt] at o2
      unfold lcGo at o2
      obtain ⟨hgu, o2⟩ := o2.ifs
      refine .inr ⟨w.goes i _ ρ2 m2 hlt (x2.trans x3) S3 hgu, fun H' => ∃ k', k' < k ∧ ∃ H0 ρ m acc vs, (i + 1) + k' = xs.length ∧ H0 D0 = none ∧ H' = upd H0 D0 (.lst vs) ∧ Ext H1 ρ1 H0 ρ ∧ Sim L H0 ρ m ∧ RvL L.K H0 ρ acc vs ∧ acc.length ≤ i + 1 ∧
        OutG L H0 ρ (fun r m' H' ρ' => Out L H' ρ' Q (mkL b (acc ++ r) m')) (lcGo g (lcStep tgD (wipeD sd (own.map (·.2))) c fe) (xs.drop (i + 1)) m), fun H' h => h, fun x H' hy => ?_⟩
      obtain ⟨d, hd, x4, S4, rd⟩ := w.yields i _ ρ2 m2 x H' hlt (x2.trans x3) S3 hgu hy
      have hd : d = xs[i] := by rw [List.getElem?_eq_getElem hlt] at hd; exact (Option.some.inj hd).symm
      subst hd
      unfold lcStep at o2
      cases hb : bindTg tgD xs[i] (wipeD sd (own.map (·.2))) with
      | none => rw [hb] at o2; exact o2.elim
      | some s2 =>
        rw [hb] at o2
        simp only [optB_some, R.bind_ok] at o2
        have E4 : EnvR L H' ρ2 (wipeD sd (own.map (·.2))) (L2.wipe σ (own.map (·.2))) := ((E1.wipe _).ext ((x2.trans x3).trans x4))
        have hD4 : H' D0 = some (.lst vs) := x4.rest D0 _ upd_same nD
        refine ⟨ρ2, m2, _, xs[i], s2, S4, E4, rd, hb, fun σ2 E5 w2 => ⟨(w2 _ hsl).trans wipe_wipe, ?_⟩⟩
        -- behind the tests and the element
        have back : ∀ (H5 : Hp) (ρ5 : List Addr) (m5 : Hd) (more : Option D) (ys : List V), Ext H' ρ2 H5 ρ5 → Sim L H5 ρ5 m5 → RvL L.K H5 ρ5 more.toList ys →
            OutG L H0 ρ2 (fun r m' H' ρ' => Out L H' ρ' Q (mkL b (acc ++ r) m')) ((lcGo g (lcStep tgD (wipeD sd (own.map (·.2))) c fe) (xs.drop (i + 1)) m5).bind fun r m2 => R.ok (more.toList ++ r) m2) →
            H5 D0 = some (.lst vs) ∧ ∃ k', k' < k ∧ ∃ H0 ρ m acc vs', (i + 1) + k' = xs.length ∧ H0 D0 = none ∧ upd H5 D0 (.lst (vs ++ ys)) = upd H0 D0 (.lst vs') ∧ Ext H1 ρ1 H0 ρ ∧ Sim L H0 ρ m ∧ RvL L.K H0 ρ acc vs' ∧ acc.length ≤ i + 1 ∧
              OutG L H0 ρ (fun r m' H' ρ' => Out L H' ρ' Q (mkL b (acc ++ r) m')) (lcGo g (lcStep tgD (wipeD sd (own.map (·.2))) c fe) (xs.drop (i + 1)) m) := by
          intro H5 ρ5 m5 more ys x5 S5 ry o5
          have hl5 : more.toList.length ≤ 1 := by cases more <;> simp
          have h5 : H5 D0 = some (.lst vs) := x5.rest D0 _ hD4 nD
          refine ⟨h5, ?_⟩
          have nD5 : D0 ∉ ρ5 := fun hm => by
            rcases x5.new _ hm with z | z
            · exact nD z
            · rw [hD4] at z; cases z
          have t5 : ∀ a ws, H5 a = some (.tup ws) → del H5 D0 a = some (.tup ws) := fun a ws e => del_tup h5 e (by simp)
          have f5 : ∀ a o u, H5 a = some (.frz o u) → del H5 D0 a = some (.frz o u) := fun a o u e => del_tup h5 e (by simp)
          have stay : Stay L H5 (del H5 D0) ρ5 m5 := fun n a o' e1 _ _ => del_ne fun z => nD5 (by rw [← z]; exact List.mem_of_getElem? e1)
          have S6 : Sim L (del H5 D0) ρ5 m5 := S5.keep t5 f5 stay
          have x05 : Ext H0 ρ2 H5 ρ5 := (x3.trans x4).trans x5
          have x6 : Ext H0 ρ2 (del H5 D0) ρ5 := ⟨x05.pre, x05.new, fun a ws e => t5 _ _ (x05.tup a ws e), fun a o u e => f5 _ _ _ (x05.frz a o u e), fun a o e hn => by
              rw [del_ne (ne_of_none e n0)]; exact x05.rest a o e hn⟩
          have ra5 : RvL L.K (del H5 D0) ρ5 acc vs := ra.ext x6
          have ry5 : RvL L.K (del H5 D0) ρ5 more.toList ys := RvL.mono (List.prefix_refl _) t5 f5 ry
          refine ⟨k - 1, by omega, del H5 D0, ρ5, m5, acc ++ more.toList, vs ++ ys, by omega, del_same, ?_, x2.trans x6, S6, ra5.app ry5, by rw [List.length_append]; omega, ?_⟩
          · funext a
            by_cases e : a = D0
            · subst e; rw [upd_same, upd_same]
            · rw [upd_ne e, upd_ne e, del_ne e]
          · refine (o5.bind.base x6).imp fun r m' H' ρ' _ S' q => ?_
            have q' := q.here S'
            rw [List.append_assoc]
            exact q'
        have hsz : vs.length < sizeLine := by rw [← ra.len]; omega
        cases hcc : c s2 m2 with
        | exc => rw [hcc] at o2; exact o2.elim
        | no => rw [hcc] at o2; exact o2.elim
        | ok kc m3 =>
          rw [hcc] at o2
          simp only [R.bind_ok] at o2
          refine ⟨ρ2, m2, s2, S4, E5, ?_⟩
          rw [hcc]
          intro H5 ρ5 x5 S5
          cases kc with
          | false =>
            simp only [Bool.false_eq_true, if_false, R.bind_ok] at o2 ⊢
            obtain ⟨h5, q⟩ := back H5 ρ5 m3 none [] x5 S5 rvl_nil o2
            rw [List.append_nil] at q
            have : upd H5 D0 (.lst vs) = H5 := by
              funext a
              by_cases e : a = D0
              · subst e; rw [upd_same, h5]
              · rw [upd_ne e]
            rw [this] at q
            exact q
          | true =>
            simp only [if_true] at o2 ⊢
            refine ⟨ρ5, m3, s2, S5, E5.ext x5, ?_⟩
            cases hff : fe s2 m3 with
            | exc => rw [hff] at o2; exact o2.elim
            | no => rw [hff] at o2; exact o2.elim
            | ok y m4 =>
              rw [hff] at o2
              simp only [R.bind_ok] at o2
              intro H6 ρ6 x6 S6 v rv
              obtain ⟨h6, q⟩ := back H6 ρ6 m4 (some y) [v] (x5.trans x6) S6 (rvl_cons rv rvl_nil) o2
              exact ⟨vs, h6, hsz, q⟩
    · have hi' : i = xs.length := by omega
      subst hi'
      rw [List.drop_length] at o2
      unfold lcGo at o2
      obtain ⟨hgu, o2⟩ := o2.ifs
      refine .inl ⟨w.stops _ ρ2 m2 (x2.trans x3) S3 hgu, ?_⟩
      have o3 : Out L H0 ρ2 Q (mkL b acc m2) := by simpa using o2.here S2
      exact mk_ok' S2 ra o3 n0
end
end Dx
/-! DxS: iterators over a list or a tuple, and zip of two of them, at the library's level -/
namespace Dx
open PySem PySem.Spec PyProof.Rows
inductive Sk where
  | l | t
namespace Sk
def itr : Sk → Heap → Addr → Addr → Nat → Prop
  | .l, h, i, a, k => h.IsListIter i a k
  | .t, h, i, a, k => h.IsTupleIter i a k
def seq : Sk → Heap → Addr → Array Value → Prop
  | .l, h, a, xs => h.IsList a xs
  | .t, h, a, xs => h.IsTuple a xs
def cls : Sk → String
  | .l => "list_iterator"
  | .t => "tuple_iterator"
def obj (c : Sk) (a : Addr) : Obj := { cls := .type c.cls, data := .fields #[.ref a, .int 0 0] }
variable {c c1 c2 : Sk} {h h' : Heap} {i a : Addr} {k : Nat} {xs : Array Value}
theorem itr_at (q : c.itr h i a k) (g : ∀ o, h.get? i = some o → h'.get? i = some o) : c.itr h' i a k := by
  cases c with
  | l => exact Heap.IsListIter.at q g
  | t => exact Heap.IsTupleIter.at q g
theorem seq_at (q : c.seq h a xs) (g : ∀ o, h.get? a = some o → h'.get? a = some o) : c.seq h' a xs := by
  cases c with
  | l => exact Heap.IsList.at q g
  | t => exact Heap.IsTuple.at q g
theorem itr_there (q : c.itr h i a k) : ∃ o vs, h.get? i = some o ∧ o.data = .fields vs := by
  cases c with
  | l => obtain ⟨o, e, _, d⟩ := q; exact ⟨o, _, e, d⟩
  | t => obtain ⟨o, e, _, d⟩ := q; exact ⟨o, _, e, d⟩
theorem seq_there (q : c.seq h a xs) : ∃ o n, h.get? a = some o ∧ o.data = .seq xs n := by
  cases c with
  | l => obtain ⟨o, e, _, n, d⟩ := q; exact ⟨o, n, e, d⟩
  | t => obtain ⟨o, e, _, n, d⟩ := q; exact ⟨o, n, e, d⟩
theorem itr_new (a : Addr) : c.itr (h.push (c.obj a)) h.objs.size a 0 := by
  cases c with
  | l => exact ⟨_, Heap.get?_push_size _ rfl, rfl, rfl⟩
  | t => exact ⟨_, Heap.get?_push_size _ rfl, rfl, rfl⟩
section
variable {prog : Program} {w : World} {A : Around} {E : Value → Shared → Prop} {s : Shared} {P : Value → Shared → Prop}
theorem py_iter (q : c.seq s.heap a xs) (f : P (.ref s.heap.objs.size) { s with heap := s.heap.push (c.obj a) }) : wpAny (model prog w) A (pyIter (.ref a)) P E s := by
  cases c with
  | l => exact wpAny_pyIter_list q f
  | t => exact wpAny_pyIter_tuple q f
theorem nxt {x : Value} (q : c.itr s.heap i a k) (r : c.seq s.heap a xs) (e : xs[k]? = some x) (f : ∀ g, c.itr g i a (k + 1) → Heap.SameBut i s.heap g → P x { s with heap := g }) :
    wpAny (model prog w) A (Builtin.SmallTypes.nextOf (.ref i)) P E s := by
  cases c with
  | l => exact wpAny_nextOf_list_item q r e f
  | t => exact RZ.nextOf_tuple_item q r e f
theorem fin (hh : A.handled = none) (q : c.itr s.heap i a k) (r : c.seq s.heap a xs) (e : xs[k]? = none)
    (f : ∀ g b, Heap.ExtBut i s.heap g → (∃ o, g.get? b = some o ∧ o.cls = .type "StopIteration") → E (.ref b) { s with heap := g }) : wpAny (model prog w) A (Builtin.SmallTypes.nextOf (.ref i)) P E s := by
  cases c with
  | l => exact wpAny_nextOf_list_end hh q r e f
  | t => exact RZ.nextOf_tuple_end hh q r e f
theorem draws (hh : A.handled = none) (i a : Addr) (hne : a ≠ i) (xs : Array Value) : Draws prog w A i [i, a] xs.size (fun j v => xs[j]? = some v) (fun j h => c.itr h i a j ∧ c.seq h a xs) where
  live := fun j h st => by obtain ⟨o, vs, e, _⟩ := itr_there st.1; exact ⟨o, e⟩
  frame := fun j h g st hk => ⟨itr_at st.1 fun o e => hk i (by simp) o e, seq_at st.2 fun o e => hk a (by simp) o e⟩
  item := fun j s Q E hj st hQ => nxt st.1 st.2 (x := xs[j]) (by simp [hj]) fun g q hs => hQ _ g s.toks (by simp [hj]) ⟨q, seq_at st.2 fun o e => hs.extBut _ o hne e⟩ hs
  done := fun s Q E st hE => fin hh st.1 st.2 (by simp) hE
end
end Sk
/-- the cells of a zip of two -/
structure ZS (z ti tu j1 j2 a1 a2 : Addr) : Prop where
  nd : [z, ti, tu, j1, j2].Nodup
  z1 : a1 ∉ [z, ti, tu, j1, j2]
  z2 : a2 ∉ [z, ti, tu, j1, j2]
def ZSt (z ti tu j1 j2 : Addr) (h : Heap) : Prop := IsPair h ti (.ref j1) (.ref j2) ∧ ((IsZip h z ti tu .none ∧ ∃ u v, IsPair h tu u v) ∨ ∃ T b oT, IsZipHeld h z ti tu T b ∧ h.get? T = some oT ∧ T ∉ [z, ti, tu, j1, j2])
section
variable {prog : Program} {w : World} {A : Around} {E : Value → Shared → Prop} {s : Shared} {z ti tu j1 j2 a1 a2 T : Addr} {c1 c2 : Sk} {k1 k2 : Nat} {as bs : Array Value} {x y : Value}
def Kp (cs : List Addr) (h g : Heap) : Prop := ∀ b o, b ∉ cs → h.get? b = some o → g.get? b = some o
theorem Kp.of {cs : List Addr} {b : Addr} {h g : Heap} (q : Heap.SameBut b h g) (hb : b ∈ cs) : Kp cs h g := fun c o hc e => q.extBut c o (fun z => hc (z ▸ hb)) e
theorem Kp.ex {cs : List Addr} {b : Addr} {h g : Heap} (q : Heap.ExtBut b h g) (hb : b ∈ cs) : Kp cs h g := fun c o hc e => q c o (fun z => hc (z ▸ hb)) e
theorem Kp.trans {cs : List Addr} {h g f : Heap} (q : Kp cs h g) (r : Kp cs g f) : Kp cs h f := fun c o hc e => r c o hc (q c o hc e)
theorem Kp.push {cs : List Addr} {h : Heap} (o : Obj) : Kp cs h (h.push o) := fun c u _ e => Heap.get?_push_of_some o e
/-- held: the pair is made anew -/
theorem zip_item_h {b : Bool} {oT : Obj} {Q : Value → Shared → Prop} (D : ZS z ti tu j1 j2 a1 a2) (kz : IsZipHeld s.heap z ti tu T b) (kT : s.heap.get? T = some oT) (kti : IsPair s.heap ti (.ref j1) (.ref j2))
    (q1 : c1.itr s.heap j1 a1 k1) (q2 : c2.itr s.heap j2 a2 k2) (r1 : c1.seq s.heap a1 as) (r2 : c2.seq s.heap a2 bs) (ex : as[k1]? = some x) (ey : bs[k2]? = some y)
    (f : ∀ g, IsZipHeld g z ti tu T true → c1.itr g j1 a1 (k1 + 1) → c2.itr g j2 a2 (k2 + 1) → IsPair g s.heap.objs.size x y → g.objs.size = s.heap.objs.size + 1 → Kp [z, j1, j2] s.heap g → Q (.ref s.heap.objs.size) { s with heap := g }) :
    wpAny (model prog w) A (Builtin.«zip.__next__» ⟨[.ref z], []⟩) (fun fin s' => ∃ v, fin = .done (.ret v) ∧ Q v s') E s := by
  obtain ⟨nd, z1, z2⟩ := D
  simp at nd z1 z2
  show wpAny _ _ (field (Value.ref z) 2 >>= _) _ _ _
  refine wpAny_bind (wpAny_field kz rfl (x := .bool false) rfl ?_); show wpAny _ _ (field (Value.ref z) 3 >>= _) _ _ _
  refine wpAny_bind (wpAny_field kz rfl (x := .ref ti) rfl ?_); refine wpAny_bind (wpAny_seqItems kti rfl ?_)
  show wpAny _ _ (Builtin.SmallTypes.ownedTupleIsFree (Value.ref z) >>= _) _ _ _
  refine wpAny_bind (wpAny_tupleHeld_zip kz kT fun g1 kz1 e1 => ?_)
  simp only [Bool.false_eq_true, if_false]; refine wpAny_bind ?_
  rw [← Array.forIn_toList]; simp only [List.forIn_cons, List.forIn_nil]; refine wpAny_bind (wpAny_bind (wpAny_holding ?_))
  show wpAny _ _ (Builtin.SmallTypes.nextOf (Value.ref j1) >>= _) _ _ _
  have p1 : Kp [z, j1, j2] s.heap g1 := Kp.of e1 (by simp)
  have i1z : j1 ≠ z := fun e => nd.1.2.2.1 e.symm
  have i2z : j2 ≠ z := fun e => nd.1.2.2.2 e.symm
  have j12 : j1 ≠ j2 := nd.2.2.2
  refine wpAny_bind (Sk.nxt (s := { s with heap := g1 }) (Sk.itr_at q1 fun o e => e1.extBut _ o i1z e) (Sk.seq_at r1 fun o e => e1.extBut _ o z1.1 e) ex fun g2 q1' e2 => wpAny_pure (wpAny_pure ?_))
  refine wpAny_bind (wpAny_bind (wpAny_holding ?_)); show wpAny _ _ (Builtin.SmallTypes.nextOf (Value.ref j2) >>= _) _ _ _
  refine wpAny_bind (Sk.nxt (s := { s with heap := g2 }) (Sk.itr_at q2 fun o e => e2.extBut _ o (Ne.symm j12) (e1.extBut _ o i2z e)) (Sk.seq_at r2 fun o e => e2.extBut _ o z2.2.2.2.1 (e1.extBut _ o z2.1 e)) ey fun g3 q2' e3 => wpAny_pure (wpAny_pure (wpAny_pure ?_)))
  show wpAny _ _ (newTuple [x, y] >>= _) _ _ _; refine wpAny_bind (wpAny_newTuple (wpAny_pure ⟨_, rfl, ?_⟩))
  have sz : g3.objs.size = s.heap.objs.size := by rw [e3.1, e2.1, e1.1]
  have kz3 : IsZipHeld g3 z ti tu T true := e3.extBut _ _ (Ne.symm i2z) (e2.extBut _ _ (Ne.symm i1z) kz1)
  have kp : Kp [z, j1, j2] s.heap g3 := (p1.trans (Kp.of e2 (by simp))).trans (Kp.of e3 (by simp))
  show Q (.ref g3.objs.size) _
  have hp : IsPair (g3.push { cls := .type "tuple", data := .seq #[x, y] }) g3.objs.size x y := Heap.get?_push_size _ rfl
  have s4 : (g3.push { cls := .type "tuple", data := .seq #[x, y] }).objs.size = g3.objs.size + 1 := Heap.size_push ..
  rw [sz] at hp s4 ⊢
  exact f _ (Heap.get?_push_of_some _ kz3) (Sk.itr_at q1' fun o e => Heap.get?_push_of_some _ (e3.extBut _ o j12 e)) (Sk.itr_at q2' fun o e => Heap.get?_push_of_some _ e) hp s4 (kp.trans (Kp.push _))
/-- free: the own pair is filled -/
theorem zip_item_f {u v : Value} {Q : Value → Shared → Prop} (D : ZS z ti tu j1 j2 a1 a2) (kz : IsZip s.heap z ti tu .none) (ktu : IsPair s.heap tu u v) (kti : IsPair s.heap ti (.ref j1) (.ref j2))
    (q1 : c1.itr s.heap j1 a1 k1) (q2 : c2.itr s.heap j2 a2 k2) (r1 : c1.seq s.heap a1 as) (r2 : c2.seq s.heap a2 bs) (ex : as[k1]? = some x) (ey : bs[k2]? = some y)
    (f : ∀ g, IsZip g z ti tu (rawInt s.heap.objs.size) → IsPair g tu x y → c1.itr g j1 a1 (k1 + 1) → c2.itr g j2 a2 (k2 + 1) → IsPair g s.heap.objs.size x y → g.objs.size = s.heap.objs.size + 1 → Kp [z, tu, j1, j2] s.heap g → Q (.ref s.heap.objs.size) { s with heap := g }) :
    wpAny (model prog w) A (Builtin.«zip.__next__» ⟨[.ref z], []⟩) (fun fin s' => ∃ v, fin = .done (.ret v) ∧ Q v s') E s := by
  obtain ⟨nd, z1, z2⟩ := D
  simp at nd z1 z2
  have i1z : j1 ≠ z := fun e => nd.1.2.2.1 e.symm
  have i2z : j2 ≠ z := fun e => nd.1.2.2.2 e.symm
  have j12 : j1 ≠ j2 := nd.2.2.2
  have tz : tu ≠ z := fun e => nd.1.2.1 e.symm
  have t1 : tu ≠ j1 := nd.2.2.1.1
  have t2 : tu ≠ j2 := nd.2.2.1.2
  show wpAny _ _ (field (Value.ref z) 2 >>= _) _ _ _
  refine wpAny_bind (wpAny_field kz rfl (x := .bool false) rfl ?_); show wpAny _ _ (field (Value.ref z) 3 >>= _) _ _ _
  refine wpAny_bind (wpAny_field kz rfl (x := .ref ti) rfl ?_); refine wpAny_bind (wpAny_seqItems kti rfl ?_)
  show wpAny _ _ (Builtin.SmallTypes.ownedTupleIsFree (Value.ref z) >>= _) _ _ _
  refine wpAny_bind ?_; unfold Builtin.SmallTypes.ownedTupleIsFree
  refine wpAny_bind (wpAny_field kz rfl (x := .none) rfl (wpAny_pure ?_)); simp only [if_true]; refine wpAny_bind (wpAny_rule ?_)
  refine wpAny_bind (wpAny_field kz rfl (x := .ref tu) rfl ?_); refine wpAny_bind (wpAny_setField_rec kz (by simp) fun g1 kz1 e1 => ?_)
  replace kz1 : IsZip g1 z ti tu .ellipsis := kz1
  refine wpAny_bind ?_; simp only [List.zipIdx_cons, List.zipIdx_nil, List.forIn_cons, List.forIn_nil]
  refine wpAny_bind (wpAny_bind (wpAny_onRaise ?_)); show wpAny _ _ (Builtin.SmallTypes.nextOf (Value.ref j1) >>= _) _ _ _
  refine wpAny_bind (Sk.nxt (Sk.itr_at q1 fun o e => e1.extBut _ o i1z e) (Sk.seq_at r1 fun o e => e1.extBut _ o z1.1 e) ex fun g2 q1' e2 => wpAny_pure ?_)
  have ktu2 : IsPair g2 tu u v := e2.extBut _ _ t1 (e1.extBut _ _ tz ktu)
  refine wpAny_bind (wpAny_seqItems ktu2 rfl ?_); refine wpAny_bind (wpAny_updateSeq_pair ktu2 fun g3 ktu3 e3 => ?_)
  replace ktu3 : IsPair g3 tu x v := ktu3
  refine wpAny_bind (wpAny_letGo (wpAny_pure ?_)); refine wpAny_bind (wpAny_bind (wpAny_onRaise ?_))
  show wpAny _ _ (Builtin.SmallTypes.nextOf (Value.ref j2) >>= _) _ _ _
  refine wpAny_bind (Sk.nxt (Sk.itr_at q2 fun o e => e3.extBut _ o (Ne.symm t2) (e2.extBut _ o (Ne.symm j12) (e1.extBut _ o i2z e)))
    (Sk.seq_at r2 fun o e => e3.extBut _ o z2.2.2.1 (e2.extBut _ o z2.2.2.2.1 (e1.extBut _ o z2.1 e))) ey fun g4 q2' e4 => wpAny_pure ?_)
  have ktu4 : IsPair g4 tu x v := e4.extBut _ _ t2 ktu3
  refine wpAny_bind (wpAny_seqItems ktu4 rfl ?_); refine wpAny_bind (wpAny_updateSeq_pair ktu4 fun g5 ktu5 e5 => ?_)
  replace ktu5 : IsPair g5 tu x y := ktu5
  refine wpAny_bind (wpAny_letGo (wpAny_pure (wpAny_pure ?_))); refine wpAny_bind (wpAny_seqItems ktu5 rfl ?_); refine wpAny_bind (wpAny_newTuple ?_)
  have sz : g5.objs.size = s.heap.objs.size := by rw [e5.1, e4.1, e3.1, e2.1, e1.1]
  have kz5 : IsZip g5 z ti tu .ellipsis := e5.extBut _ _ (Ne.symm tz) (e4.extBut _ _ (Ne.symm i2z) (e3.extBut _ _ (Ne.symm tz) (e2.extBut _ _ (Ne.symm i1z) kz1)))
  have kp : Kp [z, tu, j1, j2] s.heap g5 := ((((Kp.of e1 (by simp)).trans (Kp.of e2 (by simp))).trans (Kp.of e3 (by simp))).trans (Kp.of e4 (by simp))).trans (Kp.of e5 (by simp))
  have q15 : c1.itr g5 j1 a1 (k1 + 1) := Sk.itr_at q1' fun o e => e5.extBut _ o (Ne.symm t1) (e4.extBut _ o j12 (e3.extBut _ o (Ne.symm t1) e))
  have q25 : c2.itr g5 j2 a2 (k2 + 1) := Sk.itr_at q2' fun o e => e5.extBut _ o (Ne.symm t2) e
  have zl : z < g5.objs.size := Heap.lt_size kz5
  show wpAny _ _ (Builtin.SmallTypes.ownedTupleHandOut (Value.ref z) (Value.ref g5.objs.size) >>= _) _ _ _
  refine wpAny_bind ?_; unfold Builtin.SmallTypes.ownedTupleHandOut
  have kz6 : IsZip (g5.push { cls := .type "tuple", data := .seq #[x, y] }) z ti tu .ellipsis := Heap.get?_push_of_some _ kz5
  refine wpAny_bind (wpAny_setField_rec kz6 (by simp) fun g7 kz7 e7 => ?_)
  replace kz7 : IsZip g7 z ti tu (rawInt g5.objs.size) := kz7
  refine wpAny_setField_rec kz7 (by simp) fun g8 kz8 e8 => ?_
  replace kz8 : IsZip g8 z ti tu (rawInt g5.objs.size) := kz8
  have up : ∀ b o, b ≠ z → g5.get? b = some o → g8.get? b = some o := fun b o hb e => e8.extBut _ _ hb (e7.extBut _ _ hb (Heap.get?_push_of_some _ e))
  have kp8 : IsPair g8 g5.objs.size x y := e8.extBut _ _ (Nat.ne_of_gt zl) (e7.extBut _ _ (Nat.ne_of_gt zl) (Heap.get?_push_size _ rfl))
  have s8 : g8.objs.size = g5.objs.size + 1 := by rw [e8.1, e7.1, Heap.size_push]
  rw [sz] at kz8 kp8 s8
  refine wpAny_pure ⟨_, rfl, ?_⟩
  show Q (.ref g5.objs.size) _
  rw [sz]
  exact f g8 kz8 (up _ _ tz ktu5) (Sk.itr_at q15 fun o e => up _ o i1z e) (Sk.itr_at q25 fun o e => up _ o i2z e) kp8 s8 (kp.trans fun b o hb e => up b o (fun e' => hb (by simp [e'])) e)
theorem zip_end {Q : Fin → Shared → Prop} (hh : A.handled = none) (D : ZS z ti tu j1 j2 a1 a2) (st : ZSt z ti tu j1 j2 s.heap)
    (q1 : c1.itr s.heap j1 a1 k1) (q2 : c2.itr s.heap j2 a2 k2) (r1 : c1.seq s.heap a1 as) (r2 : c2.seq s.heap a2 bs) (en : as[k1]? = none ∨ bs[k2]? = none)
    (f : ∀ g b, Kp [z, tu, j1, j2] s.heap g → (∃ o, g.get? b = some o ∧ o.cls = .type "StopIteration") → E (.ref b) { s with heap := g }) :
    wpAny (model prog w) A (Builtin.«zip.__next__» ⟨[.ref z], []⟩) Q E s := by
  obtain ⟨nd, z1, z2⟩ := D
  simp at nd z1 z2
  have i1z : j1 ≠ z := fun e => nd.1.2.2.1 e.symm
  have i2z : j2 ≠ z := fun e => nd.1.2.2.2 e.symm
  have j12 : j1 ≠ j2 := nd.2.2.2
  have tz : tu ≠ z := fun e => nd.1.2.1 e.symm
  have t1 : tu ≠ j1 := nd.2.2.1.1
  have t2 : tu ≠ j2 := nd.2.2.1.2
  obtain ⟨kti, st⟩ := st
  rcases st with ⟨kz, u, v, ktu⟩ | ⟨T, b, oT, kz, kT, _⟩
  · show wpAny _ _ (field (Value.ref z) 2 >>= _) _ _ _
    refine wpAny_bind (wpAny_field kz rfl (x := .bool false) rfl ?_); show wpAny _ _ (field (Value.ref z) 3 >>= _) _ _ _
    refine wpAny_bind (wpAny_field kz rfl (x := .ref ti) rfl ?_); refine wpAny_bind (wpAny_seqItems kti rfl ?_)
    show wpAny _ _ (Builtin.SmallTypes.ownedTupleIsFree (Value.ref z) >>= _) _ _ _
    refine wpAny_bind ?_; unfold Builtin.SmallTypes.ownedTupleIsFree
    refine wpAny_bind (wpAny_field kz rfl (x := .none) rfl (wpAny_pure ?_)); simp only [if_true]; refine wpAny_bind (wpAny_rule ?_)
    refine wpAny_bind (wpAny_field kz rfl (x := .ref tu) rfl ?_); refine wpAny_bind (wpAny_setField_rec kz (by simp) fun g1 kz1 e1 => ?_)
    replace kz1 : IsZip g1 z ti tu .ellipsis := kz1
    refine wpAny_bind ?_; simp only [List.zipIdx_cons, List.zipIdx_nil, List.forIn_cons, List.forIn_nil]
    refine wpAny_bind (wpAny_bind (wpAny_onRaise ?_)); show wpAny _ _ (Builtin.SmallTypes.nextOf (Value.ref j1) >>= _) _ _ _
    cases ex : as[k1]? with
    | none =>
      refine wpAny_bind (Sk.fin hh (Sk.itr_at q1 fun o e => e1.extBut _ o i1z e) (Sk.seq_at r1 fun o e => e1.extBut _ o z1.1 e) ex fun g2 b e2 hb => ?_)
      obtain ⟨ob, gb, cb⟩ := hb
      have kz2 : IsZip g2 z ti tu .ellipsis := e2 _ _ (Ne.symm i1z) kz1
      have bz : b ≠ z := fun e => by subst e; rw [kz2] at gb; cases gb; simp at cb
      exact wpAny_setField_rec kz2 (by simp) fun g3 _ e3 => f g3 b (((Kp.of e1 (by simp)).trans (Kp.ex e2 (by simp))).trans (Kp.of e3 (by simp))) ⟨ob, e3.extBut _ _ bz gb, cb⟩
    | some x =>
      have ey : bs[k2]? = none := by rcases en with q | q; rw [ex] at q; cases q; exact q
      refine wpAny_bind (Sk.nxt (Sk.itr_at q1 fun o e => e1.extBut _ o i1z e) (Sk.seq_at r1 fun o e => e1.extBut _ o z1.1 e) ex fun g2 q1' e2 => wpAny_pure ?_)
      have ktu2 : IsPair g2 tu u v := e2.extBut _ _ t1 (e1.extBut _ _ tz ktu)
      refine wpAny_bind (wpAny_seqItems ktu2 rfl ?_); refine wpAny_bind (wpAny_updateSeq_pair ktu2 fun g3 ktu3 e3 => ?_)
      refine wpAny_bind (wpAny_letGo (wpAny_pure ?_)); refine wpAny_bind (wpAny_bind (wpAny_onRaise ?_))
      show wpAny _ _ (Builtin.SmallTypes.nextOf (Value.ref j2) >>= _) _ _ _
      refine wpAny_bind (Sk.fin hh (Sk.itr_at q2 fun o e => e3.extBut _ o (Ne.symm t2) (e2.extBut _ o (Ne.symm j12) (e1.extBut _ o i2z e)))
        (Sk.seq_at r2 fun o e => e3.extBut _ o z2.2.2.1 (e2.extBut _ o z2.2.2.2.1 (e1.extBut _ o z2.1 e))) ey fun g4 b e4 hb => ?_)
      obtain ⟨ob, gb, cb⟩ := hb
      have kz4 : IsZip g4 z ti tu .ellipsis := e4 _ _ (Ne.symm i2z) (e3.extBut _ _ (Ne.symm tz) (e2.extBut _ _ (Ne.symm i1z) kz1))
      have bz : b ≠ z := fun e => by subst e; rw [kz4] at gb; cases gb; simp at cb
      exact wpAny_setField_rec kz4 (by simp) fun g5 _ e5 => f g5 b (((((Kp.of e1 (by simp)).trans (Kp.of e2 (by simp))).trans (Kp.of e3 (by simp))).trans (Kp.ex e4 (by simp))).trans (Kp.of e5 (by simp))) ⟨ob, e5.extBut _ _ bz gb, cb⟩
  · show wpAny _ _ (field (Value.ref z) 2 >>= _) _ _ _
    refine wpAny_bind (wpAny_field kz rfl (x := .bool false) rfl ?_); show wpAny _ _ (field (Value.ref z) 3 >>= _) _ _ _
    refine wpAny_bind (wpAny_field kz rfl (x := .ref ti) rfl ?_); refine wpAny_bind (wpAny_seqItems kti rfl ?_)
    show wpAny _ _ (Builtin.SmallTypes.ownedTupleIsFree (Value.ref z) >>= _) _ _ _
    refine wpAny_bind (wpAny_tupleHeld_zip kz kT fun g1 kz1 e1 => ?_)
    simp only [Bool.false_eq_true, if_false]; refine wpAny_bind ?_
    rw [← Array.forIn_toList]; simp only [List.forIn_cons, List.forIn_nil]; refine wpAny_bind (wpAny_bind (wpAny_holding ?_))
    show wpAny _ _ (Builtin.SmallTypes.nextOf (Value.ref j1) >>= _) _ _ _
    cases ex : as[k1]? with
    | none =>
      refine wpAny_bind (Sk.fin (s := { s with heap := g1 }) hh (Sk.itr_at q1 fun o e => e1.extBut _ o i1z e) (Sk.seq_at r1 fun o e => e1.extBut _ o z1.1 e) ex fun g2 b e2 hb => ?_)
      exact f g2 b ((Kp.of e1 (by simp)).trans (Kp.ex e2 (by simp))) hb
    | some x =>
      have ey : bs[k2]? = none := by rcases en with q | q; rw [ex] at q; cases q; exact q
      refine wpAny_bind (Sk.nxt (s := { s with heap := g1 }) (Sk.itr_at q1 fun o e => e1.extBut _ o i1z e) (Sk.seq_at r1 fun o e => e1.extBut _ o z1.1 e) ex fun g2 q1' e2 => wpAny_pure (wpAny_pure ?_))
      refine wpAny_bind (wpAny_bind (wpAny_holding ?_)); show wpAny _ _ (Builtin.SmallTypes.nextOf (Value.ref j2) >>= _) _ _ _
      refine wpAny_bind (Sk.fin (s := { s with heap := g2 }) hh (Sk.itr_at q2 fun o e => e2.extBut _ o (Ne.symm j12) (e1.extBut _ o i2z e)) (Sk.seq_at r2 fun o e => e2.extBut _ o z2.2.2.2.1 (e1.extBut _ o z2.1 e)) ey fun g3 b e3 hb => ?_)
      exact f g3 b (((Kp.of e1 (by simp)).trans (Kp.of e2 (by simp))).trans (Kp.ex e3 (by simp))) hb
end
end Dx
/-! DxSw: enumerate and zip walked, over lists and tuples alike -/
namespace Dx
open PySem PySem.Spec PyProof.Rows L2
def Sk.sq (c : Sk) (K : PySem.W.Frag) (H : Hp) (a : Addr) (xs : List V) : Prop := match c with
  | .l => SqL K H a xs
  | .t => SqT K H a xs
section
variable {X : Cx} {pins : List (Addr × Obj)} {σ : VS} {H : Hp} {s : Shared} {c c1 c2 c3 : Sk} {a b : Addr} {xs ys : List V}
theorem inv_sk (I : Inv X pins σ H s) (q : c.sq X.K H a xs) : ∃ its : List Value, Vals xs its ∧ c.seq s.heap a its.toArray := by
  cases c with
  | l => obtain ⟨its, rv, p, _⟩ := I.list q; exact ⟨its, rv, p.isList⟩
  | t => obtain ⟨its, rv, p, _⟩ := I.tuple q; exact ⟨its, rv, p⟩
theorem sk_inj (I : Inv X pins σ H s) (q : c.sq X.K H a xs) (r : c.sq X.K H a ys) : xs = ys := by
  cases c with
  | l => exact I.list_inj q r
  | t => exact I.tuple_inj q r
theorem not_cell_itr {h : Heap} {i a : Addr} {k : Nat} (q : c.itr h i a k) : ∃ o, h.get? i = some o ∧ ∀ v, o.data ≠ .cell v := by
  obtain ⟨o, vs, e, d⟩ := Sk.itr_there q
  exact ⟨o, e, fun v z => by rw [d] at z; cases z⟩
theorem seq_lt {h : Heap} {its : Array Value} (q : c.seq h a its) : a < h.objs.size := by
  obtain ⟨o, n, e, _⟩ := Sk.seq_there q
  exact Heap.lt_size e
theorem itr_lt {h : Heap} {i : Addr} {k : Nat} (q : c.itr h i a k) : i < h.objs.size := by
  obtain ⟨o, n, e, _⟩ := Sk.itr_there q
  exact Heap.lt_size e
end
/-- the sequence at a, each item in a new pair behind its number -/
def ItE (k0 : Int) (c : Sk) (K : PySem.W.Frag) (a : Addr) : It :=
  ⟨fun i H => ∃ (xs : List V) (x : V), c.sq K H a xs ∧ xs[i]? = some x,
    fun i H v H' => ∃ T x, v = .ref T ∧ H T = none ∧ H' = upd H T (.tup [.int (k0 + (i : Nat)), x]) ∧ ∀ xs, c.sq K H a xs → xs[i]? = some x,
    fun i H => ∃ xs : List V, c.sq K H a xs ∧ xs.length ≤ i⟩
theorem turnE {k0 : Int} {c : Sk} {P : Program} {w : World} {K : PySem.W.Frag} {elts : List Expr} {kk : Nat} {tp : Pos} {a e j : Addr} (hje : e ≠ j) (hea : a ≠ e) (hja : a ≠ j) :
    Turn P w K (.Tuple elts kk tp) (ItE k0 c K a) [e, j] e (fun i h => (∃ old, IsEnum h e j (k0 + ((i : Nat) : Int)) old) ∧ c.itr h j a i) where
  mem := List.mem_cons_self ..
  obj := fun i h ⟨⟨old, he⟩, hj⟩ b hb => by
    rcases (by simpa using hb : b = e ∨ b = j) with rfl | rfl
    · exact ⟨_, he, fun v q => nomatch q⟩
    · exact not_cell_itr hj
  keep := fun i h g ⟨⟨old, he⟩, hj⟩ k => ⟨⟨old, k e (by simp) _ he⟩, Sk.itr_at hj fun o q => k j (by simp) o q⟩
  item := by
    intro X hP hw hK hc i pins s σ H E I hf ⟨⟨old, he⟩, hj⟩ ⟨xs, x, hq, hx⟩
    subst hP hw hK
    obtain ⟨its, rv, sq⟩ := inv_sk I hq
    obtain ⟨u, hu, ru⟩ := rv.get hx
    have el : e < s.heap.objs.size := Heap.lt_size he
    have jl := itr_lt hj
    have hlt : i < its.toArray.size := by rw [List.size_toArray]; exact (List.getElem?_eq_some_iff.mp hu).1
    refine wpAny_pyNext_enum_itemC (Sk.draws (prog := X.prog) (w := X.w) (A := X.A.in1) (c := c) (show X.A.in1.handled = none from I.ok.hd hc) j a hja its.toArray) he ⟨hj, sq⟩ hlt hje (by simp; exact ⟨hje, Ne.symm hea⟩) fun y g tk hy ho st hT hsz hk => ?_
    have hyu : y = u := by
      rw [List.getElem?_toArray, hu] at hy
      exact (Option.some.inj hy).symm
    subst hyu
    refine ⟨_, rfl, wpAny_letOwnedTupleGo_enum (s := { s with heap := g, toks := tk + 1 }) ho fun f he' sb => ?_⟩
    have hT2 : f.get? s.heap.objs.size = some { cls := .type "tuple", data := .seq #[.int (k0 + (i : Nat)) tk, y] } := (sb.2 _ (Nat.ne_of_gt el)).trans hT
    have new : ObjOk X.prog X.w (upd H s.heap.objs.size (.tup [.int (k0 + (i : Nat)), x])) f s.heap.objs.size (.tup [.int (k0 + (i : Nat)), x]) :=
      ⟨(by decide : 2 ≤ sizeLine), [.int (k0 + (i : Nat)) tk, y], .cons ⟨_, rfl⟩ (.cons ru .nil), ⟨_, hT2, rfl, _, rfl⟩⟩
    have I1 : Inv X pins σ (upd H s.heap.objs.size (.tup [.int (k0 + (i : Nat)), x])) { s with heap := f, toks := tk + 1 } :=
      I.turnedNew (ch := [e, j]) (fun b ob hb q => (sb.2 b (fun z => hb (by simp [z]))).trans (hk b ob (fun z => hb (by simp [z])) (fun z => hb (by simp [z])) q)) hf (Nat.le_refl _) new
    refine ⟨.ref s.heap.objs.size, _, I1, rfl, ⟨_, x, rfl, I.hok.fresh (Nat.le_refl _), rfl, fun ys hy => by rw [sk_inj I hy hq]; exact hx⟩, ⟨⟨y, ?_⟩, Sk.itr_at st.1 fun o q => (sb.2 j (Ne.symm hje)).trans q⟩, fun b hb => ?_⟩
    · rw [show k0 + ((i + 1 : Nat) : Int) = k0 + (i : Int) + 1 by omega]; exact he'
    · have hb' : b < s.heap.objs.size := by
        rcases (by simpa using hb : b = e ∨ b = j) with rfl | rfl
        · exact el
        · exact jl
      rw [upd_ne (Nat.ne_of_lt hb')]
      exact (hf b hb).1
  done := by
    intro X hP hw hK hc i pins s σ H E I hf ⟨⟨old, he⟩, hj⟩ ⟨xs, hq, hx⟩
    subst hP hw hK
    obtain ⟨its, rv, sq⟩ := inv_sk I hq
    obtain ⟨f0, f1, f2, f3, f4, f5⟩ := hf j (by simp)
    have hl := rv.length
    have hT : s.TypeIs (.ref e) "enumerate" := ⟨_, he, rfl⟩
    unfold pyNext
    refine wpAny_bind (wpAny_attempt (wpAny_callSpecial?_slot (name := Str.ofString "__next__") hT PySem.F.slot_enumerate_next
      (wpAny_call_entry PySem.F.slot_enumerate_next hT PySem.F.entry_enumerate_next ?_ (PySem.F.args_enumerate_next_1 _))))
    show wpAny _ _ (field (Value.ref e) 2 >>= _) _ _ _
    refine wpAny_bind (wpAny_field he rfl (x := .ref j) rfl ?_)
    refine wpAny_bind (Sk.fin (I.ok.hd hc) hj sq (by simp; omega) fun g b eb hb => ?_)
    obtain ⟨o, ho, hco⟩ := hb
    refine wpAny_bind (wpAny_isInstance (T := "StopIteration") (b := true) ⟨o, ho, hco⟩ isSubtype_stop (wpAny_pure ⟨rfl, ?_⟩))
    exact I.turned (t' := s.toks) (fun b ob hb q => eb b ob hb q) f0 f1 f3 f4 f5
  self := fun A i s Q E ⟨⟨_, he⟩, _⟩ h => wpAny_pyIter_enum he h

/-- the sequences at a and b, their items in new pairs -/
def ItZ (c1 c2 : Sk) (K : PySem.W.Frag) (a b : Addr) : It :=
  ⟨fun i H => ∃ (xs ys : List V) (x y : V), c1.sq K H a xs ∧ c2.sq K H b ys ∧ xs[i]? = some x ∧ ys[i]? = some y,
    fun i H v H' => ∃ T x y, v = .ref T ∧ H T = none ∧ H' = upd H T (.tup [x, y]) ∧ (∀ xs, c1.sq K H a xs → xs[i]? = some x) ∧ ∀ ys, c2.sq K H b ys → ys[i]? = some y,
    fun i H => ∃ xs ys : List V, c1.sq K H a xs ∧ c2.sq K H b ys ∧ (xs.length ≤ i ∨ ys.length ≤ i)⟩
theorem not_pair {h : Heap} {t : Addr} {u v : Value} (q : IsPair h t u v) : ∃ o, h.get? t = some o ∧ ∀ v, o.data ≠ .cell v := ⟨_, q, fun v z => nomatch z⟩
theorem turnZ {c1 c2 : Sk} {P : Program} {w : World} {K : PySem.W.Frag} {elts : List Expr} {kk : Nat} {tp : Pos} {a b z ti tu j1 j2 : Addr} (D : ZS z ti tu j1 j2 a b) :
    Turn P w K (.Tuple elts kk tp) (ItZ c1 c2 K a b) [z, ti, tu, j1, j2] z (fun i h => IsZip h z ti tu .none ∧ IsPair h ti (.ref j1) (.ref j2) ∧ (∃ x y, IsPair h tu x y) ∧ c1.itr h j1 a i ∧ c2.itr h j2 b i) where
  mem := List.mem_cons_self ..
  obj := fun i h ⟨hz, h1, ⟨x, y, h2⟩, h3, h4⟩ d hd => by
    rcases (by simpa using hd : d = z ∨ d = ti ∨ d = tu ∨ d = j1 ∨ d = j2) with rfl | rfl | rfl | rfl | rfl
    · exact ⟨_, hz, fun v q => nomatch q⟩
    · exact not_pair h1
    · exact not_pair h2
    · exact not_cell_itr h3
    · exact not_cell_itr h4
  keep := fun i h g ⟨hz, h1, ⟨x, y, h2⟩, h3, h4⟩ k => ⟨k z (by simp) _ hz, k ti (by simp) _ h1, ⟨x, y, k tu (by simp) _ h2⟩, Sk.itr_at h3 fun o q => k j1 (by simp) o q, Sk.itr_at h4 fun o q => k j2 (by simp) o q⟩
  item := by
    intro X hP hw hK hc i pins s σ H E I hf ⟨hz, h1, ⟨x0, y0, h2⟩, h3, h4⟩ ⟨xs, ys, x, y, hqx, hqy, hx, hy⟩
    subst hP hw hK
    obtain ⟨its, rv, r1⟩ := inv_sk I hqx
    obtain ⟨its2, rv2, r2⟩ := inv_sk I hqy
    obtain ⟨u, hu, ru⟩ := rv.get hx
    obtain ⟨u2, hu2, ru2⟩ := rv2.get hy
    have hzl : z < s.heap.objs.size := Heap.lt_size hz
    have hT : s.TypeIs (.ref z) "zip" := ⟨_, hz, rfl⟩
    unfold pyNext
    refine wpAny_bind (wpAny_attempt (wpAny_callSpecial?_slot (name := Str.ofString "__next__") hT PySem.F.slot_zip_next
      (wpAny_call_entry PySem.F.slot_zip_next hT PySem.F.entry_zip_next (zip_item_f D hz h2 h1 h3 h4 r1 r2 (x := u) (y := u2) (by simpa using hu) (by simpa using hu2) fun g z' t' i1' i2' hp hsz hk => wpAny_pure ?_) (PySem.F.args_zip_next_1 _))))
    refine ⟨_, rfl, wpAny_letOwnedTupleGo_zip (s := { s with heap := g }) z' fun f z'' sb => ?_⟩
    have nz : ∀ d, d ∈ [z, ti, tu, j1, j2] → d < s.heap.objs.size := fun d hd => by
      rcases (by simpa using hd : d = z ∨ d = ti ∨ d = tu ∨ d = j1 ∨ d = j2) with rfl | rfl | rfl | rfl | rfl
      · exact hzl
      · exact Heap.lt_size h1
      · exact Heap.lt_size h2
      · exact itr_lt h3
      · exact itr_lt h4
    have nd := D.nd
    simp at nd
    have hT2 : f.get? s.heap.objs.size = some { cls := .type "tuple", data := .seq #[u, u2] } := (sb.2 _ (Nat.ne_of_gt hzl)).trans hp
    have new : ObjOk X.prog X.w (upd H s.heap.objs.size (.tup [x, y])) f s.heap.objs.size (.tup [x, y]) :=
      ⟨(by decide : 2 ≤ sizeLine), [u, u2], .cons ru (.cons ru2 .nil), ⟨_, hT2, rfl, _, rfl⟩⟩
    have I1 : Inv X pins σ (upd H s.heap.objs.size (.tup [x, y])) { s with heap := f } :=
      I.turnedNew (t' := s.toks) (ch := [z, ti, tu, j1, j2]) (fun d o hb q => (sb.2 d (fun q' => hb (by simp [q']))).trans (hk d o (fun hm => hb (by
        rcases (by simpa using hm : d = z ∨ d = tu ∨ d = j1 ∨ d = j2) with rfl | rfl | rfl | rfl <;> simp)) q)) hf (Nat.le_refl _) new
    refine ⟨.ref s.heap.objs.size, _, I1, rfl, ⟨_, x, y, rfl, I.hok.fresh (Nat.le_refl _), rfl, fun l hl => by rw [sk_inj I hl hqx]; exact hx, fun l hl => by rw [sk_inj I hl hqy]; exact hy⟩, ⟨z'', ?_, ⟨u, u2, ?_⟩, ?_, ?_⟩, fun d hd => ?_⟩
    · exact (sb.2 _ (Ne.symm nd.1.1)).trans (hk _ _ (by simp; exact ⟨Ne.symm nd.1.1, nd.2.1.1, nd.2.1.2.1, nd.2.1.2.2⟩) h1)
    · exact (sb.2 _ (Ne.symm nd.1.2.1)).trans t'
    · exact Sk.itr_at i1' fun o q => (sb.2 _ (Ne.symm nd.1.2.2.1)).trans q
    · exact Sk.itr_at i2' fun o q => (sb.2 _ (Ne.symm nd.1.2.2.2)).trans q
    · rw [upd_ne (Nat.ne_of_lt (nz d hd))]
      exact (hf d hd).1
  done := by
    intro X hP hw hK hc i pins s σ H E I hf ⟨hz, h1, ⟨x0, y0, h2⟩, h3, h4⟩ ⟨xs, ys, hqx, hqy, hend⟩
    subst hP hw hK
    obtain ⟨its, rv, r1⟩ := inv_sk I hqx
    obtain ⟨its2, rv2, r2⟩ := inv_sk I hqy
    have l1 := rv.length
    have l2 := rv2.length
    have en : its.toArray[i]? = none ∨ its2.toArray[i]? = none := by
      rcases hend with q | q
      · exact .inl (by simp; omega)
      · exact .inr (by simp; omega)
    have hT : s.TypeIs (.ref z) "zip" := ⟨_, hz, rfl⟩
    unfold pyNext
    refine wpAny_bind (wpAny_attempt (wpAny_callSpecial?_slot (name := Str.ofString "__next__") hT PySem.F.slot_zip_next
      (wpAny_call_entry PySem.F.slot_zip_next hT PySem.F.entry_zip_next (zip_end (I.ok.hd hc) D ⟨h1, .inl ⟨hz, _, _, h2⟩⟩ h3 h4 r1 r2 en fun g b hk hb => ?_) (PySem.F.args_zip_next_1 _))))
    obtain ⟨o, ho, hco⟩ := hb
    refine wpAny_bind (wpAny_isInstance (T := "StopIteration") (b := true) ⟨o, ho, hco⟩ isSubtype_stop (wpAny_pure ⟨rfl, ?_⟩))
    exact I.turnedL (t' := s.toks) (ch := [z, ti, tu, j1, j2]) (fun d o hb q => hk d o (fun hm => hb (by
        rcases (by simpa using hm : d = z ∨ d = tu ∨ d = j1 ∨ d = j2) with rfl | rfl | rfl | rfl <;> simp)) q) hf
  self := fun A i s Q E st h => wpAny_pyIter_zip st.1 h
/-- three of them -/
def ItZ3 (c1 c2 c3 : Sk) (K : PySem.W.Frag) (a b d : Addr) : It :=
  ⟨fun i H => ∃ (xs ys zs : List V) (x y z : V), c1.sq K H a xs ∧ c2.sq K H b ys ∧ c3.sq K H d zs ∧ xs[i]? = some x ∧ ys[i]? = some y ∧ zs[i]? = some z,
    fun i H v H' => ∃ T x y z, v = .ref T ∧ H T = none ∧ H' = upd H T (.tup [x, y, z]) ∧ (∀ xs, c1.sq K H a xs → xs[i]? = some x) ∧ (∀ ys, c2.sq K H b ys → ys[i]? = some y) ∧ ∀ zs, c3.sq K H d zs → zs[i]? = some z,
    fun i H => ∃ xs ys zs : List V, c1.sq K H a xs ∧ c2.sq K H b ys ∧ c3.sq K H d zs ∧ i ≤ xs.length ∧ i ≤ ys.length ∧ i ≤ zs.length ∧ (i = xs.length ∨ i = ys.length ∨ i = zs.length)⟩
theorem turnZ3 {c1 c2 c3 : Sk} {P : Program} {w : World} {K : PySem.W.Frag} {elts : List Expr} {kk : Nat} {tp : Pos} {a b d z ti tu j1 j2 j3 : Addr} (nd : [z, ti, tu, j1, j2, j3].Nodup) (na : a ∉ [z, ti, tu, j1, j2, j3]) (nb : b ∉ [z, ti, tu, j1, j2, j3]) (ndd : d ∉ [z, ti, tu, j1, j2, j3]) :
    Turn P w K (.Tuple elts kk tp) (ItZ3 c1 c2 c3 K a b d) [z, ti, tu, j1, j2, j3] z
      (fun i h => IsZip h z ti tu .none ∧ IsTupOf3 h ti (.ref j1) (.ref j2) (.ref j3) ∧ (∃ x y u, IsTupOf3 h tu x y u) ∧ c1.itr h j1 a i ∧ c2.itr h j2 b i ∧ c3.itr h j3 d i) := by
  have nd' := nd
  simp at nd na nb ndd
  have S : ZipSep3 z ti tu j1 j2 j3 [j1, a] [j2, b] [j3, d] := by
    constructor <;> simp <;> grind
  have six : ∀ {x : Addr}, x ∈ [z, ti, tu, j1, j2, j3] → x = z ∨ x = ti ∨ x = tu ∨ x = j1 ∨ x = j2 ∨ x = j3 := fun h => by simpa using h
  refine ⟨List.mem_cons_self .., ?_, ?_, ?_, ?_, fun A i s Q E st h => wpAny_pyIter_zip st.1 h⟩
  · intro i h ⟨hz, h1, ⟨x, y, u, h2⟩, h3, h4, h5⟩ f hf
    rcases six hf with rfl | rfl | rfl | rfl | rfl | rfl
    · exact ⟨_, hz, fun v q => nomatch q⟩
    · exact ⟨_, h1, fun v q => nomatch q⟩
    · exact ⟨_, h2, fun v q => nomatch q⟩
    · exact not_cell_itr h3
    · exact not_cell_itr h4
    · exact not_cell_itr h5
  · intro i h g ⟨hz, h1, ⟨x, y, u, h2⟩, h3, h4, h5⟩ k
    exact ⟨k z (by simp) _ hz, k ti (by simp) _ h1, ⟨x, y, u, k tu (by simp) _ h2⟩, Sk.itr_at h3 fun o q => k j1 (by simp) o q, Sk.itr_at h4 fun o q => k j2 (by simp) o q, Sk.itr_at h5 fun o q => k j3 (by simp) o q⟩
  · intro X hP hw hK hc i pins s σ H E I hf ⟨hz, h1, ⟨x0, y0, u0, h2⟩, h3, h4, h5⟩ ⟨xs, ys, zs, x, y, u, hqx, hqy, hqz, hx, hy, hu⟩
    subst hP hw hK
    obtain ⟨i1, v1, r1⟩ := inv_sk I hqx
    obtain ⟨i2, v2, r2⟩ := inv_sk I hqy
    obtain ⟨i3, v3, r3⟩ := inv_sk I hqz
    obtain ⟨w1, g1, e1⟩ := v1.get hx
    obtain ⟨w2, g2, e2⟩ := v2.get hy
    obtain ⟨w3, g3, e3⟩ := v3.get hu
    have hh : X.A.in1.handled = none := I.ok.hd hc
    have hzl : z < s.heap.objs.size := Heap.lt_size hz
    refine wpAny_pyNext_zipD3_item S (Sk.draws (c := c1) hh j1 a (fun e => na.2.2.2.1 e) i1.toArray) (Sk.draws (c := c2) hh j2 b (fun e => nb.2.2.2.2.1 e) i2.toArray) (Sk.draws (c := c3) hh j3 d (fun e => ndd.2.2.2.2.2 e) i3.toArray)
      hz h1 h2 ⟨h3, r1⟩ ⟨h4, r2⟩ ⟨h5, r3⟩ (by simpa using (List.getElem?_eq_some_iff.mp g1).1) (by simpa using (List.getElem?_eq_some_iff.mp g2).1) (by simpa using (List.getElem?_eq_some_iff.mp g3).1)
      fun y1 y2 y3 g tk p1 p2 p3 z' t' s1 s2 s3 hp hsz hk => ?_
    rw [List.getElem?_toArray, g1] at p1
    rw [List.getElem?_toArray, g2] at p2
    rw [List.getElem?_toArray, g3] at p3
    cases p1
    cases p2
    cases p3
    refine ⟨_, rfl, wpAny_letOwnedTupleGo_zip (s := { s with heap := g, toks := tk }) z' fun f z'' sb => ?_⟩
    have nz : ∀ x, x ∈ [z, ti, tu, j1, j2, j3] → x < s.heap.objs.size := fun x hx => by
      rcases six hx with rfl | rfl | rfl | rfl | rfl | rfl
      · exact hzl
      · exact Heap.lt_size h1
      · exact Heap.lt_size h2
      · exact itr_lt h3
      · exact itr_lt h4
      · exact itr_lt h5
    have hT2 : f.get? s.heap.objs.size = some { cls := .type "tuple", data := .seq #[w1, w2, w3] } := (sb.2 _ (Nat.ne_of_gt hzl)).trans hp
    have new : ObjOk X.prog X.w (upd H s.heap.objs.size (.tup [x, y, u])) f s.heap.objs.size (.tup [x, y, u]) :=
      ⟨(by decide : 3 ≤ sizeLine), [w1, w2, w3], .cons e1 (.cons e2 (.cons e3 .nil)), ⟨_, hT2, rfl, _, rfl⟩⟩
    have I1 : Inv X pins σ (upd H s.heap.objs.size (.tup [x, y, u])) { s with heap := f, toks := tk } :=
      I.turnedNew (ch := [z, ti, tu, j1, j2, j3]) (fun c o hb q => (sb.2 c (fun q' => hb (by simp [q']))).trans (hk c o (fun q' => hb (by simp [q'])) (fun q' => hb (by simp [q'])) (fun q' => hb (by simp [q'])) (fun q' => hb (by simp [q'])) (fun q' => hb (by simp [q'])) q)) hf (Nat.le_refl _) new
    refine ⟨.ref s.heap.objs.size, _, I1, rfl, ⟨_, x, y, u, rfl, I.hok.fresh (Nat.le_refl _), rfl, fun l hl => by rw [sk_inj I hl hqx]; exact hx, fun l hl => by rw [sk_inj I hl hqy]; exact hy, fun l hl => by rw [sk_inj I hl hqz]; exact hu⟩, ⟨z'', ?_, ⟨w1, w2, w3, ?_⟩, ?_, ?_, ?_⟩, fun c hc' => ?_⟩
    · exact (sb.2 _ (by grind)).trans (hk _ _ (by grind) (by grind) (by grind) (by grind) (by grind) h1)
    · exact (sb.2 _ (by grind)).trans t'
    · exact Sk.itr_at s1.1 fun o q => (sb.2 _ (by grind)).trans q
    · exact Sk.itr_at s2.1 fun o q => (sb.2 _ (by grind)).trans q
    · exact Sk.itr_at s3.1 fun o q => (sb.2 _ (by grind)).trans q
    · rw [upd_ne (Nat.ne_of_lt (nz c hc'))]
      exact (hf c hc').1
  · intro X hP hw hK hc i pins s σ H E I hf ⟨hz, h1, ⟨x0, y0, u0, h2⟩, h3, h4, h5⟩ ⟨xs, ys, zs, hqx, hqy, hqz, l1, l2, l3, hend⟩
    subst hP hw hK
    obtain ⟨i1, v1, r1⟩ := inv_sk I hqx
    obtain ⟨i2, v2, r2⟩ := inv_sk I hqy
    obtain ⟨i3, v3, r3⟩ := inv_sk I hqz
    have hh : X.A.in1.handled = none := I.ok.hd hc
    have n1 := v1.length
    have n2 := v2.length
    have n3 := v3.length
    refine wpAny_pyNext_zipD3_end S (Sk.draws (c := c1) hh j1 a (fun e => na.2.2.2.1 e) i1.toArray) (Sk.draws (c := c2) hh j2 b (fun e => nb.2.2.2.2.1 e) i2.toArray) (Sk.draws (c := c3) hh j3 d (fun e => ndd.2.2.2.2.2 e) i3.toArray)
      hz h1 h2 ⟨h3, r1⟩ ⟨h4, r2⟩ ⟨h5, r3⟩ (by simp; omega) (by simp; omega) (by simp; omega) (by simp; omega) fun g tk hk => ⟨rfl, ?_⟩
    exact I.turnedL (t' := tk) (ch := [z, ti, tu, j1, j2, j3]) (fun c o hb q => hk c o (fun q' => hb (by simp [q'])) (fun q' => hb (by simp [q'])) (fun q' => hb (by simp [q'])) (fun q' => hb (by simp [q'])) (fun q' => hb (by simp [q'])) q) hf
end Dx
/-! DxSx: the rules for enumerate, zip, items, texts and dicts walked -/
namespace Dx
open PySem PySem.Spec PyProof.Rows L2
theorem enum_new1 {v : Value} {o : Obj} {H : Heap → Prop} (B : Begins v o H) :
    Meets (Builtin.«enumerate.__new__» ⟨[.type "enumerate", v], []⟩) (fun _ R s => H s.heap ∧
      R (.ok (.ret (.ref (s.heap.push o).objs.size))) { s with heap := (s.heap.push o).push { cls := .type "enumerate", data := .fields #[.none, .bool false, .ref s.heap.objs.size, rawInt 0, .none, .none] } }) :=
  .of_wp fun prog w A R s h => by
    obtain ⟨hp, g, d, tk, os⟩ := s
    obtain ⟨h1, h⟩ := h
    have hsub := sub_enumerate
    have q1 : ∀ {B' : Around} {E : Value → Shared → Prop} {Q : Value → Shared → Prop}, Q (.ref hp.objs.size) ⟨hp.push o, g, d, tk, os⟩ → wpAny (model prog w) B' (pyIter v) Q E ⟨hp, g, d, tk, os⟩ :=
      fun q => B.iter prog w _ _ ⟨hp, g, d, tk, os⟩ _ h1 q
    wp_walk
    refine wpAny_stack_any fun st => wpAny_pure ?_
    split
    · rename_i c' _ _ _ _ _
      cases (c' == Value.type "enumerate")
      all_goals (wp_walk using q1; exact ⟨_, rfl, h⟩)
    · wp_walk using q1
      exact ⟨_, rfl, h⟩
section
variable {prog : Program} {w : World} {A : Around} {E : Value → Shared → Prop} {s : Shared}
theorem enum_call1 {v : Value} {o : Obj} {H : Heap → Prop} {Q : Value → Shared → Prop} (B : Begins v o H) (h1 : H s.heap)
    (h : ∀ g, IsEnum g (s.heap.objs.size + 1) s.heap.objs.size 0 .none → g.get? s.heap.objs.size = some o → (∀ b o, s.heap.get? b = some o → g.get? b = some o) → Q (.ref (s.heap.objs.size + 1)) { s with heap := g }) :
    wpAny (model prog w) A (call (.type "enumerate") [v]) Q E s := by
  refine callType_new PySem.F.called_enumerate (by decide) (PySem.F.typeCall_enumerate_1 _) (PySem.F.newCall_enumerate_1 _) (fun obj => PySem.F.args_object_init_2 obj _) PySem.F.entry_enumerate_new (enum_new1 B) ⟨h1, ?_⟩
  have sz : (s.heap.push o).objs.size = s.heap.objs.size + 1 := Heap.size_push ..
  show _ ∧ _
  rw [sz]
  have he : IsEnum ((s.heap.push o).push { cls := .type "enumerate", data := .fields #[.none, .bool false, .ref s.heap.objs.size, rawInt 0, .none, .none] }) (s.heap.objs.size + 1) s.heap.objs.size 0 .none := by
    have e := Heap.get?_push_size (s.heap.push o) (o := { cls := .type "enumerate", data := .fields #[.none, .bool false, .ref s.heap.objs.size, rawInt 0, .none, .none] }) rfl
    rw [sz] at e; exact e
  exact ⟨⟨_, he, rfl⟩, h _ he (Heap.get?_push_of_some _ (Heap.get?_push_size _ B.free)) fun b u x => Heap.get?_push_of_some _ (Heap.get?_push_of_some _ x)⟩
theorem Sk.begins (c : Sk) (a : Addr) (xs : Array Value) : Begins (.ref a) (c.obj a) (fun h => c.seq h a xs) := by
  cases c with
  | l => exact begins_list a xs
  | t => exact begins_tuple a xs
theorem Sk.itr_of {c : Sk} {h : Heap} {i a : Addr} (e : h.get? i = some (c.obj a)) : c.itr h i a 0 := by
  cases c with
  | l => exact ⟨_, e, rfl, rfl⟩
  | t => exact ⟨_, e, rfl, rfl⟩
end
section
variable {L : Lnk} {X : Cx} {H : Hp} {ρ : List Addr} {m : Hd}
theorem sq_sk {d : D} {x : V} {xs : List D} (hK : L.K = X.K) (S : Sim L H ρ m) (r : Rv L.K H ρ d x) (e : sq m d = some xs) : ∃ (c : Sk) (a : Addr) (vs : List V), x = .ref a ∧ c.sq X.K H a vs ∧ RvL L.K H ρ xs vs := by
  obtain ⟨a, vs, h1, h2, h3, _⟩ := sq_len S r e
  rw [hK] at h2
  rcases h2 with h2 | h2
  · exact ⟨.l, a, vs, h1, h2, h3⟩
  · exact ⟨.t, a, vs, h1, h2, h3⟩
/-- the sequence of a value, as it stays -/
structure Stays (L : Lnk) (c : Sk) (K : PySem.W.Frag) (a : Addr) (xs : List D) (g : Gu) (H1 : Hp) (ρ1 : List Addr) : Prop where
  st : ∀ H ρ m, Ext H1 ρ1 H ρ → Sim L H ρ m → guOk g m = true → ∃ ws, c.sq K H a ws ∧ RvL L.K H ρ xs ws
theorem stays_of {d : D} {x : V} {xs : List D} {H1 : Hp} {ρ1 : List Addr} {m1 : Hd} (hK : L.K = X.K) (S : Sim L H1 ρ1 m1) (r : Rv L.K H1 ρ1 d x) (e : sq m1 d = some xs) :
    ∃ (c : Sk) (a : Addr) (vs : List V), x = .ref a ∧ c.sq X.K H1 a vs ∧ Stays L c X.K a xs (guOf m1 d) H1 ρ1 := by
  by_cases ht : isTp d = true
  · obtain ⟨a, vs, rfl, h1, h2⟩ := tp_sq ht r e
    rw [hK] at h1
    refine ⟨.t, a, vs, rfl, h1, ⟨fun H ρ m x S g => ?_⟩⟩
    obtain ⟨a', ws, h3, h4, h5⟩ := tp_sq ht (r.ext x) e
    cases h3
    rw [hK] at h4
    exact ⟨ws, h4, h5⟩
  · obtain ⟨a, vs, rfl, h1, h2⟩ := sq_lstN S r e ht
    rw [hK] at h1
    refine ⟨.l, a, vs, rfl, h1, ⟨fun H ρ m x S g => ?_⟩⟩
    obtain ⟨a', ws, h3, h4, h5⟩ := sq_lstN S (r.ext x) (sq_stay e g) ht
    cases h3
    rw [hK] at h4
    exact ⟨ws, h4, h5⟩
theorem Stays.mono {c : Sk} {K : PySem.W.Frag} {a : Addr} {xs : List D} {g g' : Gu} {H1 : Hp} {ρ1 : List Addr} (h : Stays L c K a xs g H1 ρ1) (hg : ∀ m, guOk g' m = true → guOk g m = true) : Stays L c K a xs g' H1 ρ1 :=
  ⟨fun H ρ m x S q => h.st H ρ m x S (hg m q)⟩
theorem guOk_app {g g' : Gu} {m : Hd} (h : guOk (g ++ g') m = true) : guOk g m = true ∧ guOk g' m = true := by
  unfold guOk at h ⊢
  rw [List.all_append, Bool.and_eq_true] at h
  exact h
theorem rv_new {K : PySem.W.Frag} {H : Hp} {ρ : List Addr} {T : Addr} {ds : List D} {vs : List V} (n : H T = none) (r : RvL K H ρ ds vs) : Rv K (upd H T (.tup vs)) ρ (.tup ds) (.ref T) := by
  unfold Rv
  exact ⟨T, vs, rfl, upd_same, r.ext (Ext.laid n)⟩
theorem walkE {k0 : Int} {c : Sk} {a : Addr} {xs : List D} {g : Gu} {H1 : Hp} {ρ1 : List Addr} (h : Stays L c X.K a xs g H1 ρ1) : WalkD L (ItE k0 c X.K a) (enumD k0 xs) g H1 ρ1 := by
  have len : (enumD k0 xs).length = xs.length := by simp [enumD]
  refine ⟨fun i H ρ m hi x S q => ?_, fun H ρ m x S q => ?_, fun i H ρ m y H' hi x S q hy => ?_⟩
  · obtain ⟨ws, h1, h2⟩ := h.st H ρ m x S q
    obtain ⟨w, g1, _⟩ := h2.get (List.getElem?_eq_getElem (by rw [← len]; exact hi))
    exact ⟨ws, w, h1, g1⟩
  · obtain ⟨ws, h1, h2⟩ := h.st H ρ m x S q
    exact ⟨ws, h1, by rw [← h2.len, len]; exact Nat.le_refl _⟩
  · obtain ⟨ws, h1, h2⟩ := h.st H ρ m x S q
    obtain ⟨T, v, rfl, n, rfl, f⟩ := hy
    obtain ⟨d, g1, g2⟩ := h2.getV (f ws h1)
    refine ⟨.tup [.int (k0 + (i : Nat)), d], ?_, Ext.laid n, S.laid n, rv_new n (rvl_cons (by simp [Rv]) (rvl_cons g2 rvl_nil))⟩
    unfold enumD
    rw [List.getElem?_map, List.getElem?_zipIdx, g1]
    simp
theorem walkZ {c1 c2 : Sk} {a b : Addr} {xs ys : List D} {g : Gu} {H1 : Hp} {ρ1 : List Addr} (h : Stays L c1 X.K a xs g H1 ρ1) (h' : Stays L c2 X.K b ys g H1 ρ1) : WalkD L (ItZ c1 c2 X.K a b) (zipD xs ys) g H1 ρ1 := by
  have len : (zipD xs ys).length = min xs.length ys.length := by simp [zipD]
  refine ⟨fun i H ρ m hi x S q => ?_, fun H ρ m x S q => ?_, fun i H ρ m y H' hi x S q hy => ?_⟩
  · rw [len] at hi
    obtain ⟨ws, h1, h2⟩ := h.st H ρ m x S q
    obtain ⟨us, h3, h4⟩ := h'.st H ρ m x S q
    obtain ⟨w, g1, _⟩ := h2.get (List.getElem?_eq_getElem (show i < xs.length by omega))
    obtain ⟨u, g2, _⟩ := h4.get (List.getElem?_eq_getElem (show i < ys.length by omega))
    exact ⟨ws, us, w, u, h1, h3, g1, g2⟩
  · obtain ⟨ws, h1, h2⟩ := h.st H ρ m x S q
    obtain ⟨us, h3, h4⟩ := h'.st H ρ m x S q
    have e1 := h2.len
    have e2 := h4.len
    exact ⟨ws, us, h1, h3, by rw [len]; omega⟩
  · obtain ⟨ws, h1, h2⟩ := h.st H ρ m x S q
    obtain ⟨us, h3, h4⟩ := h'.st H ρ m x S q
    obtain ⟨T, v, u, rfl, n, rfl, f1, f2⟩ := hy
    obtain ⟨d, g1, r1⟩ := h2.getV (f1 ws h1)
    obtain ⟨e, g2, r2⟩ := h4.getV (f2 us h3)
    refine ⟨.tup [d, e], ?_, Ext.laid n, S.laid n, rv_new n (rvl_cons r1 (rvl_cons r2 rvl_nil))⟩
    unfold zipD
    rw [List.getElem?_map]
    have : (xs.zip ys)[i]? = some (d, e) := by rw [List.getElem?_zip_eq_some]; exact ⟨g1, g2⟩
    rw [this]
    rfl
theorem walkZ3 {c1 c2 c3 : Sk} {a b d : Addr} {xs ys zs : List D} {g : Gu} {H1 : Hp} {ρ1 : List Addr} (h : Stays L c1 X.K a xs g H1 ρ1) (h' : Stays L c2 X.K b ys g H1 ρ1) (h'' : Stays L c3 X.K d zs g H1 ρ1) : WalkD L (ItZ3 c1 c2 c3 X.K a b d) (zip3D xs ys zs) g H1 ρ1 := by
  have len : (zip3D xs ys zs).length = min xs.length (min ys.length zs.length) := by simp [zip3D]
  refine ⟨fun i H ρ m hi x S q => ?_, fun H ρ m x S q => ?_, fun i H ρ m y H' hi x S q hy => ?_⟩
  · rw [len] at hi
    obtain ⟨ws, h1, h2⟩ := h.st H ρ m x S q
    obtain ⟨us, h3, h4⟩ := h'.st H ρ m x S q
    obtain ⟨ts, h5, h6⟩ := h''.st H ρ m x S q
    obtain ⟨w, g1, _⟩ := h2.get (List.getElem?_eq_getElem (show i < xs.length by omega))
    obtain ⟨u, g2, _⟩ := h4.get (List.getElem?_eq_getElem (show i < ys.length by omega))
    obtain ⟨t, g3, _⟩ := h6.get (List.getElem?_eq_getElem (show i < zs.length by omega))
    exact ⟨ws, us, ts, w, u, t, h1, h3, h5, g1, g2, g3⟩
  · obtain ⟨ws, h1, h2⟩ := h.st H ρ m x S q
    obtain ⟨us, h3, h4⟩ := h'.st H ρ m x S q
    obtain ⟨ts, h5, h6⟩ := h''.st H ρ m x S q
    have e1 := h2.len
    have e2 := h4.len
    have e3 := h6.len
    exact ⟨ws, us, ts, h1, h3, h5, by omega, by omega, by omega, by omega⟩
  · obtain ⟨ws, h1, h2⟩ := h.st H ρ m x S q
    obtain ⟨us, h3, h4⟩ := h'.st H ρ m x S q
    obtain ⟨ts, h5, h6⟩ := h''.st H ρ m x S q
    obtain ⟨T, v, u, t, rfl, n, rfl, f1, f2, f3⟩ := hy
    obtain ⟨d1, g1, r1⟩ := h2.getV (f1 ws h1)
    obtain ⟨d2, g2, r2⟩ := h4.getV (f2 us h3)
    obtain ⟨d3, g3, r3⟩ := h6.getV (f3 ts h5)
    refine ⟨.tup [d1, d2, d3], ?_, Ext.laid n, S.laid n, rv_new n (rvl_cons r1 (rvl_cons r2 (rvl_cons r3 rvl_nil)))⟩
    unfold zip3D
    rw [List.getElem?_map]
    have : (xs.zip (ys.zip zs))[i]? = some (d1, d2, d3) := by rw [List.getElem?_zip_eq_some]; exact ⟨g1, by rw [List.getElem?_zip_eq_some]; exact ⟨g2, g3⟩⟩
    rw [this]
    rfl
theorem Ext.kept_fp {pins : List (Addr × Obj)} {σ : VS} {H : Hp} {s : Shared} (I : Inv X pins σ H s) {fp : List Addr} (h : ∀ b ∈ fp, s.heap.objs.size ≤ b) : ∀ b ∈ fp, FpOk X pins H b :=
  fun b hb => I.fpOk (h b hb) (I.hok.fresh (h b hb))
theorem ne_add {a n : Nat} (h : a < n) (k : Nat) : a ≠ n + k := by omega
theorem ne_all {a n : Nat} (h : a < n) {ks : List Nat} : a ∉ ks.map (n + ·) := fun hm => by
  obtain ⟨k, _, e⟩ := List.mem_map.mp hm
  exact ne_add h k e.symm
theorem fp_ge {n : Nat} {ks : List Nat} : ∀ b ∈ ks.map (n + ·), n ≤ b := fun b hb => by
  obtain ⟨k, _, rfl⟩ := List.mem_map.mp hb
  exact Nat.le_add_right _ _
theorem R.assoc {α β γ : Type} {r : R α} {f : α → Hd → R β} {g : β → Hd → R γ} : (r.bind f).bind g = r.bind fun a m => (f a m).bind g := by cases r <;> rfl
/-- enumerate(x) -/
theorem di_enum {e : Expr} {f : ME} {p pos tp : Pos} {elts : List Expr} {kk : Nat} (hK : L.K = X.K) (hg : Gl X "enumerate") (hm : X.mg "enumerate" = none) (hs : nostar e = true) (he : PE X e (tE L f)) :
    PI X (.Tuple elts kk tp) (.Call (.Name "enumerate" p) [e] [] pos) (tI L fun s m => (f s m).bind fun d m1 => (optB (sq m1 d) m1).bind fun xs m2 => .ok (enumD 0 xs, guOf m2 d) m2) := by
  refine ⟨fun pins s σ H RR I ⟨ρ, m, sd, S, E, o⟩ => ?_⟩
  have ha := da_cons hs he (da_nil (L := L) (X := X))
  refine Call_ (ld_blt I hg hm boot_enumerate (PyProof.Rows.callWith_type1 (thn (ha.run pos pins s σ H (fun vs H1 => ∃ x ρ1 m1 d xs, vs = [x] ∧ Sim L H1 ρ1 m1 ∧ Rv L.K H1 ρ1 d x ∧ sq m1 d = some xs ∧ ∀ J, WalkD L J (enumD 0 xs) (guOf m1 d) H1 ρ1 → RR J H1) I ?_) fun us s1 ⟨vs, H1, I1, r1, x, ρ1, m1, d, xs, ev, S1, rx, hq, q⟩ => ?_) (star_cons hs) rfl))
  · refine tA_then (k := fun _ ds m1 => match ds with | [d] => (optB (sq m1 d) m1).bind fun xs m2 => R.ok (enumD 0 xs, guOf m2 d) m2 | _ => R.no) S E (by simpa only [R.assoc, R.bind_ok] using o) fun vs H1 ρ1 ds m1 x1 S1 E1 rs o1 => ?_
    split at o1
    next d =>
      obtain ⟨x, rfl, rx⟩ := rvl1 rs
      obtain ⟨xs, hq, o1⟩ := (OutG.bind o1).optB
      exact ⟨x, ρ1, m1, d, xs, rfl, S1, rx, hq, fun J w => (o1.here S1).here S1 J w⟩
    next => exact o1.elim
  · subst ev
    obtain ⟨c, a, ws, rfl, h1, h2⟩ := stays_of hK S1 rx hq
    obtain ⟨u, rfl, ru⟩ := vals1 r1
    cases ru
    obtain ⟨its, rv, sq'⟩ := inv_sk I1 h1
    have al := seq_lt sq'
    refine enum_call1 (c.begins a its.toArray) sq' fun g he hit hk => wpAny_pyIter_enum he ?_
    have I2 : Inv X pins σ H1 { s1 with heap := g } := I1.kept (t' := s1.toks) hk
    refine ⟨s1.heap.objs.size + 1, [s1.heap.objs.size + 1, s1.heap.objs.size], _, _, H1, rfl, I2, turnE (k0 := 0) (c := c) (a := a) (e := s1.heap.objs.size + 1) (j := s1.heap.objs.size) (Nat.succ_ne_self _) (ne_add al 1) (ne_add al 0), ⟨⟨.none, by simpa using he⟩, Sk.itr_of hit⟩, ?_, q _ (walkE h2)⟩
    exact Ext.kept_fp I1 (fp_ge (n := s1.heap.objs.size) (ks := [1, 0]))
/-- zip(x, y) -/
theorem di_zip {e e2 : Expr} {f f2 : ME} {p pos tp : Pos} {elts : List Expr} {kk : Nat} (hK : L.K = X.K) (hg : Gl X "zip") (hm : X.mg "zip" = none) (hs : nostar e = true) (hs2 : nostar e2 = true) (he : PE X e (tE L f)) (he2 : PE X e2 (tE L f2)) :
    PI X (.Tuple elts kk tp) (.Call (.Name "zip" p) [e, e2] [] pos) (tI L fun s m => (f s m).bind fun d m1 => (f2 s m1).bind fun e m2 => (optB (sq m2 d) m2).bind fun xs m3 => (optB (sq m3 e) m3).bind fun ys m4 =>
      .ok (zipD xs ys, guOf m4 d ++ guOf m4 e) m4) := by
  refine ⟨fun pins s σ H RR I ⟨ρ, m, sd, S, E, o⟩ => ?_⟩
  have ha := da_cons hs he (da_cons hs2 he2 (da_nil (L := L) (X := X)))
  refine Call_ (ld_blt I hg hm PyProof.Rows.boot_zip (PyProof.Rows.callWith_type1 (thn (ha.run pos pins s σ H (fun vs H1 => ∃ x y ρ1 m1 d e xs ys, vs = [x, y] ∧ Sim L H1 ρ1 m1 ∧ Rv L.K H1 ρ1 d x ∧ Rv L.K H1 ρ1 e y ∧ sq m1 d = some xs ∧ sq m1 e = some ys ∧ ∀ J, WalkD L J (zipD xs ys) (guOf m1 d ++ guOf m1 e) H1 ρ1 → RR J H1) I ?_)
    fun us s1 ⟨vs, H1, I1, r1, x, y, ρ1, m1, d, e, xs, ys, ev, S1, rx, ry, hq, hq2, q⟩ => ?_) (star_cons hs) (by rw [star_cons hs2]; rfl)))
  · refine tA_then (k := fun _ ds m2 => match ds with | [d, e] => (optB (sq m2 d) m2).bind fun xs m3 => (optB (sq m3 e) m3).bind fun ys m4 => R.ok (zipD xs ys, guOf m4 d ++ guOf m4 e) m4 | _ => R.no) S E (by simpa only [R.assoc, R.bind_ok] using o) fun vs H1 ρ1 ds m1 x1 S1 E1 rs o1 => ?_
    split at o1
    next d e =>
      obtain ⟨x, y, rfl, rx, ry⟩ := rvl2 rs
      obtain ⟨xs, hq, o1⟩ := (OutG.bind o1).optB
      have o1 := o1.here S1
      obtain ⟨ys, hq2, o1⟩ := (OutG.bind o1).optB
      exact ⟨x, y, ρ1, m1, d, e, xs, ys, rfl, S1, rx, ry, hq, hq2, fun J w => (o1.here S1).here S1 J w⟩
    next => exact o1.elim
  · subst ev
    obtain ⟨c, a, ws, rfl, h1, h2⟩ := stays_of hK S1 rx hq
    obtain ⟨c', a', ws', rfl, h1', h2'⟩ := stays_of hK S1 ry hq2
    obtain ⟨u, u', rfl, ru, ru'⟩ := vals2 r1
    cases ru
    cases ru'
    obtain ⟨its, rv, sq1⟩ := inv_sk I1 h1
    obtain ⟨its', rv', sq2⟩ := inv_sk I1 h1'
    have al := seq_lt sq1
    have al' := seq_lt sq2
    refine zip_begins2 (c.begins a its.toArray) (c'.begins a' its'.toArray) sq1 sq2 fun g hz hti htu hi1 hi2 hsz hk => wpAny_pyIter_zip hz ?_
    have I2 : Inv X pins σ H1 { s1 with heap := g } := I1.kept (t' := s1.toks) hk
    refine ⟨s1.heap.objs.size + 4, [s1.heap.objs.size + 4, s1.heap.objs.size + 2, s1.heap.objs.size + 3, s1.heap.objs.size, s1.heap.objs.size + 1], _, _, H1, rfl, I2, turnZ (c1 := c) (c2 := c') (a := a) (b := a') ⟨by simp, ne_all al (ks := [4, 2, 3, 0, 1]), ne_all al' (ks := [4, 2, 3, 0, 1])⟩, ⟨hz, hti, ⟨_, _, htu⟩, Sk.itr_of hi1, Sk.itr_of hi2⟩, ?_, q _ (walkZ (h2.mono fun m h => (guOk_app h).1) (h2'.mono fun m h => (guOk_app h).2))⟩
    exact Ext.kept_fp I1 (fp_ge (n := s1.heap.objs.size) (ks := [4, 2, 3, 0, 1]))
theorem rvl3' {K : PySem.W.Frag} {H : Hp} {ρ : List Addr} {d e f : D} {vs : List V} (h : RvL K H ρ [d, e, f] vs) : ∃ u v w, vs = [u, v, w] ∧ Rv K H ρ d u ∧ Rv K H ρ e v ∧ Rv K H ρ f w := by
  unfold RvL at h
  obtain ⟨v, r, rfl, q, z⟩ := h
  obtain ⟨u, w, rfl, h2, h3⟩ := rvl2 z
  exact ⟨v, u, w, rfl, q, h2, h3⟩
theorem vals3 {u v w : V} {us : List Value} (h : Vals [u, v, w] us) : ∃ x y z, us = [x, y, z] ∧ RelV u x ∧ RelV v y ∧ RelV w z := by
  cases h with
  | cons a r =>
    obtain ⟨y, z, rfl, b, c⟩ := vals2 r
    exact ⟨_, y, z, rfl, a, b, c⟩
/-- zip(x, y, z) -/
theorem di_zip3 {e e2 e3 : Expr} {f f2 f3 : ME} {p pos tp : Pos} {elts : List Expr} {kk : Nat} (hK : L.K = X.K) (hg : Gl X "zip") (hm : X.mg "zip" = none) (hs : nostar e = true) (hs2 : nostar e2 = true) (hs3 : nostar e3 = true) (he : PE X e (tE L f)) (he2 : PE X e2 (tE L f2)) (he3 : PE X e3 (tE L f3)) :
    PI X (.Tuple elts kk tp) (.Call (.Name "zip" p) [e, e2, e3] [] pos) (tI L fun s m => (f s m).bind fun d m1 => (f2 s m1).bind fun e m2 => (f3 s m2).bind fun f m3 => (optB (sq m3 d) m3).bind fun xs m4 => (optB (sq m4 e) m4).bind fun ys m5 => (optB (sq m5 f) m5).bind fun zs m6 =>
      .ok (zip3D xs ys zs, guOf m6 d ++ (guOf m6 e ++ guOf m6 f)) m6) := by
  refine ⟨fun pins s σ H RR I ⟨ρ, m, sd, S, E, o⟩ => ?_⟩
  have ha := da_cons hs he (da_cons hs2 he2 (da_cons hs3 he3 (da_nil (L := L) (X := X))))
  refine Call_ (ld_blt I hg hm PyProof.Rows.boot_zip (PyProof.Rows.callWith_type1 (thn (ha.run pos pins s σ H (fun vs H1 => ∃ x y z ρ1 m1 d e f xs ys zs, vs = [x, y, z] ∧ Sim L H1 ρ1 m1 ∧ Rv L.K H1 ρ1 d x ∧ Rv L.K H1 ρ1 e y ∧ Rv L.K H1 ρ1 f z ∧ sq m1 d = some xs ∧ sq m1 e = some ys ∧ sq m1 f = some zs ∧ ∀ J, WalkD L J (zip3D xs ys zs) (guOf m1 d ++ (guOf m1 e ++ guOf m1 f)) H1 ρ1 → RR J H1) I ?_)
    fun us s1 ⟨vs, H1, I1, r1, x, y, z, ρ1, m1, d, e, f, xs, ys, zs, ev, S1, rx, ry, rz, hq, hq2, hq3, q⟩ => ?_) (star_cons hs) (by rw [star_cons hs2, star_cons hs3]; rfl)))
  · refine tA_then (k := fun _ ds m3 => match ds with | [d, e, f] => (optB (sq m3 d) m3).bind fun xs m4 => (optB (sq m4 e) m4).bind fun ys m5 => (optB (sq m5 f) m5).bind fun zs m6 => R.ok (zip3D xs ys zs, guOf m6 d ++ (guOf m6 e ++ guOf m6 f)) m6 | _ => R.no) S E (by simpa only [R.assoc, R.bind_ok] using o) fun vs H1 ρ1 ds m1 x1 S1 E1 rs o1 => ?_
    split at o1
    next d e f =>
      obtain ⟨x, y, z, rfl, rx, ry, rz⟩ := rvl3' rs
      obtain ⟨xs, hq, o1⟩ := (OutG.bind o1).optB
      have o1 := o1.here S1
      obtain ⟨ys, hq2, o1⟩ := (OutG.bind o1).optB
      have o1 := o1.here S1
      obtain ⟨zs, hq3, o1⟩ := (OutG.bind o1).optB
      exact ⟨x, y, z, ρ1, m1, d, e, f, xs, ys, zs, rfl, S1, rx, ry, rz, hq, hq2, hq3, fun J w => (o1.here S1).here S1 J w⟩
    next => exact o1.elim
  · subst ev
    obtain ⟨c, a, ws, rfl, h1, h2⟩ := stays_of hK S1 rx hq
    obtain ⟨c', a', ws', rfl, h1', h2'⟩ := stays_of hK S1 ry hq2
    obtain ⟨c3, a3, ws3, rfl, h13, h23⟩ := stays_of hK S1 rz hq3
    obtain ⟨u, u', u3, rfl, ru, ru', ru3⟩ := vals3 r1
    cases ru
    cases ru'
    cases ru3
    obtain ⟨its, rv, sq1⟩ := inv_sk I1 h1
    obtain ⟨its', rv', sq2⟩ := inv_sk I1 h1'
    obtain ⟨its3, rv3, sq3⟩ := inv_sk I1 h13
    have al := seq_lt sq1
    have al' := seq_lt sq2
    have al3 := seq_lt sq3
    refine zip_begins3 (c.begins a its.toArray) (c'.begins a' its'.toArray) (c3.begins a3 its3.toArray) sq1 sq2 sq3 fun g hz hti htu hi1 hi2 hi3 hsz hk => wpAny_pyIter_zip hz ?_
    have I2 : Inv X pins σ H1 { s1 with heap := g } := I1.kept (t' := s1.toks) hk
    refine ⟨s1.heap.objs.size + 5, [s1.heap.objs.size + 5, s1.heap.objs.size + 3, s1.heap.objs.size + 4, s1.heap.objs.size, s1.heap.objs.size + 1, s1.heap.objs.size + 2], _, _, H1, rfl, I2, turnZ3 (c1 := c) (c2 := c') (c3 := c3) (a := a) (b := a') (d := a3) (by simp) (ne_all al (ks := [5, 3, 4, 0, 1, 2])) (ne_all al' (ks := [5, 3, 4, 0, 1, 2])) (ne_all al3 (ks := [5, 3, 4, 0, 1, 2])), ⟨hz, hti, ⟨_, _, _, htu⟩, Sk.itr_of hi1, Sk.itr_of hi2, Sk.itr_of hi3⟩, ?_, q _ (walkZ3 (h2.mono fun m h => (guOk_app h).1) (h2'.mono fun m h => (guOk_app (guOk_app h).2).1) (h23.mono fun m h => (guOk_app (guOk_app h).2).2))⟩
    exact Ext.kept_fp I1 (fp_ge (n := s1.heap.objs.size) (ks := [5, 3, 4, 0, 1, 2]))
end
end Dx
/-! DxSy: dicts that stay, by their pairs; texts and dicts walked -/
namespace Dx
open PySem PySem.Spec PyProof.Rows L2
section
variable {X : Cx} {pins : List (Addr × Obj)} {σ : VS} {H : Hp} {s : Shared} {d : Addr} {o : Obj}
/-- the entries of a tuple-keyed dict that stays -/
theorem frzT' {kvs : List (List Key × V)} (I : Inv X pins σ H s) (h : H d = some (.frz o (.dT kvs))) :
    (d == sysModules) = false ∧ ∃ (es : Array DictEntry) (ep : Nat), DT.Raw s.heap d es ep ∧ s.heap.get? d = some o ∧ o.data = .dict es ep ∧ es.size = kvs.length ∧
      ∀ (i : Nat) (hi : i < es.size), ∃ (k : List Key) (v : V) (q : Addr), kvs[i]? = some (k, v) ∧ es[i].key = .ref q ∧ H q = some (.tup (k.map kV)) ∧ RelV v es[i].val := by
  obtain ⟨hd, z, hs, xs, pr, o', es, ep, ho, hx, hdt, he, _⟩ := I.hok d _ h
  rw [hd] at ho
  cases ho
  have l1 : es.size = xs.length := size_of_entries he
  have l2 : kvs.length = xs.length := Paired.length pr
  refine ⟨hs, es, ep, ⟨o, hd, hx, hdt⟩, hd, hdt, by omega, fun i hi => ?_⟩
  have q := entry_at he i
  rw [Array.getElem?_eq_getElem hi] at q
  obtain ⟨x, hx1, hx2⟩ := Option.map_eq_some_iff.mp q.symm
  obtain ⟨p, hp, e1, e2, e3⟩ := L2.DX.pget pr hx1
  refine ⟨p.1, p.2, x.2.1, hp, ?_, e2, ?_⟩
  · rw [← hx2]; rfl
  · rw [← hx2]; exact e3
end
/-- the pairs of a tuple-keyed dict, in new pairs -/
def ItIT (d : Addr) (o : Obj) (kvs : List (List Key × V)) : It :=
  ⟨fun i H => H d = some (.frz o (.dT kvs)) ∧ i < kvs.length, fun i H x H' => ∃ T k v q, kvs[i]? = some (k, v) ∧ x = .ref T ∧ H T = none ∧ H' = upd H T (.tup [.ref q, v]) ∧ H q = some (.tup (k.map kV)), fun i H => H d = some (.frz o (.dT kvs)) ∧ kvs.length ≤ i⟩
theorem turnIT {P : Program} {w : World} {K : PySem.W.Frag} {elts : List Expr} {kk : Nat} {tp : Pos} {d j : Addr} {o : Obj} {kvs : List (List Key × V)} {es : Array DictEntry} {ep : Nat} (hod : o.data = .dict es ep) (hsz : es.size = kvs.length) :
    Turn P w K (.Tuple elts kk tp) (ItIT d o kvs) [j] j (fun i h => ∃ ok ov, IsItemIter h j d i es.size ep ok ov) where
  mem := by simp
  obj := fun i h ⟨ok, ov, e⟩ b hb => by
    obtain rfl : b = j := by simpa using hb
    exact ⟨_, e, fun v z => nomatch z⟩
  keep := fun i h g ⟨ok, ov, e⟩ k => ⟨ok, ov, k j (by simp) _ e⟩
  item := by
    intro X hP hw hK hc i pins s σ H E I hf ⟨ok, ov, he⟩ ⟨hd, hi⟩
    subst hP hw hK
    obtain ⟨hs, es', ep', raw, hgd, hdt, hsz', f⟩ := frzT' I hd
    obtain ⟨rfl, rfl⟩ := dict_ep hod hdt
    have hi' : i < es'.size := by omega
    obtain ⟨k, v, q, hkv, ek, eq, rv⟩ := f i hi'
    have jl : j < s.heap.objs.size := Heap.lt_size he
    refine DT.nextI he raw hi' fun g ho hT hz hk => ?_
    refine ⟨_, rfl, wpAny_letOwnedTupleGo_items (s := { s with heap := g }) ho fun g2 he' sb => ?_⟩
    have hT2 : g2.get? s.heap.objs.size = some { cls := .type "tuple", data := .seq #[es'[i].key, es'[i].val] } := (sb.2 _ (Nat.ne_of_gt jl)).trans hT
    have new : ObjOk X.prog X.w (upd H s.heap.objs.size (.tup [.ref q, v])) g2 s.heap.objs.size (.tup [.ref q, v]) :=
      ⟨(by decide : 2 ≤ sizeLine), [es'[i].key, es'[i].val], .cons (by rw [ek]; rfl) (.cons rv .nil), ⟨_, hT2, rfl, _, rfl⟩⟩
    have I1 : Inv X pins σ (upd H s.heap.objs.size (.tup [.ref q, v])) { s with heap := g2 } :=
      I.turnedNew (t' := s.toks) (ch := [j]) (fun b ob hb e => (sb.2 b (by simpa using hb)).trans (hk b ob (by simpa using hb) e)) hf (Nat.le_refl _) new
    refine ⟨.ref s.heap.objs.size, _, I1, rfl, ⟨_, k, v, q, hkv, rfl, I.hok.fresh (Nat.le_refl _), rfl, eq⟩, ⟨_, _, he'⟩, fun b hb => ?_⟩
    obtain rfl : b = j := by simpa using hb
    rw [upd_ne (Nat.ne_of_lt jl)]
    exact (hf b (by simp)).1
  done := by
    intro X hP hw hK hc i pins s σ H E I hf ⟨ok, ov, he⟩ ⟨hd, hi⟩
    subst hP hw hK
    obtain ⟨hs, es', ep', raw, hgd, hdt, hsz', f⟩ := frzT' I hd
    obtain ⟨rfl, rfl⟩ := dict_ep hod hdt
    obtain ⟨f0, f1, f2, f3, f4, f5⟩ := hf j (by simp)
    exact DT.endI (I.ok.hd hc) he raw (by omega) fun g eb => ⟨rfl, I.turned (t' := s.toks) (fun b ob hb e => eb b ob hb e) f0 f1 f3 f4 f5⟩
  self := fun A i s Q E ⟨_, _, e⟩ h => PySem.W.kcp_self e h
section
variable {L : Lnk} {X : Cx} {H1 : Hp} {ρ1 : List Addr}
theorem rvk_get {K : PySem.W.Frag} {H : Hp} {ρ : List Addr} : ∀ {kvs : List (D × D)} {ps : List (Key × V)} {i : Nat} {k : Key} {v : V}, RvK K H ρ kvs ps → ps[i]? = some (k, v) → ∃ e, kvs[i]? = some (kD k, e) ∧ Rv K H ρ e v
  | [], ps, i, k, v, h, e => by unfold RvK at h; subst h; simp at e
  | (d, e) :: r, ps, i, k, v, h, q => by
    unfold RvK at h
    obtain ⟨k', v', q', rfl, hk, h1, h2⟩ := h
    cases i with
    | zero => simp at q; obtain ⟨rfl, rfl⟩ := q; exact ⟨e, by simp [hk], h1⟩
    | succ i => simpa using rvk_get (i := i) h2 (by simpa using q)
theorem rvt_get {K : PySem.W.Frag} {H : Hp} {ρ : List Addr} : ∀ {kvs : List (D × D)} {ps : List (List Key × V)} {i : Nat} {k : List Key} {v : V}, RvT K H ρ kvs ps → ps[i]? = some (k, v) → ∃ e, kvs[i]? = some (.tup (k.map kD), e) ∧ Rv K H ρ e v
  | [], ps, i, k, v, h, e => by unfold RvT at h; subst h; simp at e
  | (d, e) :: r, ps, i, k, v, h, q => by
    unfold RvT at h
    obtain ⟨k', v', q', rfl, hk, h1, h2⟩ := h
    cases i with
    | zero => simp at q; obtain ⟨rfl, rfl⟩ := q; exact ⟨e, by simp [hk], h1⟩
    | succ i => simpa using rvt_get (i := i) h2 (by simpa using q)
theorem rv_kV {K : PySem.W.Frag} {H : Hp} {ρ : List Addr} {k : Key} : Rv K H ρ (kD k) (kV k) := by
  cases k <;> simp [kD, kV, Rv]
theorem rvl_kV {K : PySem.W.Frag} {H : Hp} {ρ : List Addr} : ∀ {k : List Key}, RvL K H ρ (k.map kD) (k.map kV)
  | [] => rvl_nil
  | _ :: _ => rvl_cons rv_kV rvl_kV
theorem rv_keyed {K : PySem.W.Frag} {H : Hp} {ρ : List Addr} {k : List Key} {q : Addr} (h : H q = some (.tup (k.map kV))) : Rv K H ρ (.tup (k.map kD)) (.ref q) := by
  unfold Rv
  exact ⟨q, _, rfl, h, rvl_kV⟩
theorem walkIT {d : Addr} {o : Obj} {ps : List (List Key × V)} {kvs : List (D × D)} {g : Gu} (h : H1 d = some (.frz o (.dT ps))) (r : RvT L.K H1 ρ1 kvs ps) : WalkD L (ItIT d o ps) (itemsD kvs) g H1 ρ1 := by
  have len : (itemsD kvs).length = ps.length := by simp [itemsD, rvt_len r]
  refine ⟨fun i H ρ m hi x S q => ⟨x.frz _ _ _ h, by omega⟩, fun H ρ m x S q => ⟨x.frz _ _ _ h, by omega⟩, fun i H ρ m y H' hi x S q hy => ?_⟩
  obtain ⟨T, k, v, a, e, rfl, n, rfl, ek⟩ := hy
  obtain ⟨u, g1, g2⟩ := rvt_get r e
  refine ⟨.tup [.tup (k.map kD), u], ?_, Ext.laid n, S.laid n, rv_new n (rvl_cons (rv_keyed ek) (rvl_cons (g2.ext x) rvl_nil))⟩
  unfold itemsD
  rw [List.getElem?_map, g1]
  rfl
theorem walkIK {d : Addr} {o : Obj} {ps : List (Key × V)} {kvs : List (D × D)} {g : Gu} (h : H1 d = some (.frz o (.dK ps))) (r : RvK L.K H1 ρ1 kvs ps) : WalkD L (Iti d o ps) (itemsD kvs) g H1 ρ1 := by
  have len : (itemsD kvs).length = ps.length := by simp [itemsD, rvk_len r]
  refine ⟨fun i H ρ m hi x S q => ⟨x.frz _ _ _ h, by omega⟩, fun H ρ m x S q => ⟨x.frz _ _ _ h, by omega⟩, fun i H ρ m y H' hi x S q hy => ?_⟩
  obtain ⟨T, k, v, e, rfl, n, rfl⟩ := hy
  obtain ⟨u, g1, g2⟩ := rvk_get r e
  refine ⟨.tup [kD k, u], ?_, Ext.laid n, S.laid n, rv_new n (rvl_cons rv_kV (rvl_cons (g2.ext x) rvl_nil))⟩
  unfold itemsD
  rw [List.getElem?_map, g1]
  rfl
theorem walkKT {d : Addr} {o : Obj} {ps : List (List Key × V)} {kvs : List (D × D)} {g : Gu} (h : H1 d = some (.frz o (.dT ps))) (r : RvT L.K H1 ρ1 kvs ps) : WalkD L (Itkt d o ps) (kvs.map (·.1)) g H1 ρ1 := by
  have len : (kvs.map (·.1)).length = ps.length := by simp [rvt_len r]
  refine ⟨fun i H ρ m hi x S q => ⟨x.frz _ _ _ h, by omega⟩, fun H ρ m x S q => ⟨x.frz _ _ _ h, by omega⟩, fun i H ρ m y H' hi x S q hy => ?_⟩
  obtain ⟨rfl, k, v, a, e, rfl, ek⟩ := hy
  obtain ⟨u, g1, g2⟩ := rvt_get r e
  exact ⟨.tup (k.map kD), by rw [List.getElem?_map, g1]; rfl, Ext.refl _ _, S, rv_keyed ek⟩
theorem walkKK {d : Addr} {o : Obj} {ps : List (Key × V)} {kvs : List (D × D)} {g : Gu} (h : H1 d = some (.frz o (.dK ps))) (r : RvK L.K H1 ρ1 kvs ps) : WalkD L (Itk d o ps) (kvs.map (·.1)) g H1 ρ1 := by
  have len : (kvs.map (·.1)).length = ps.length := by simp [rvk_len r]
  refine ⟨fun i H ρ m hi x S q => ⟨x.frz _ _ _ h, by omega⟩, fun H ρ m x S q => ⟨x.frz _ _ _ h, by omega⟩, fun i H ρ m y H' hi x S q hy => ?_⟩
  obtain ⟨rfl, k, v, e, rfl⟩ := hy
  obtain ⟨u, g1, g2⟩ := rvk_get r e
  exact ⟨kD k, by rw [List.getElem?_map, g1]; rfl, Ext.refl _ _, S, rv_kV⟩
theorem walkStr {z : Str} {g : Gu} : WalkD L (Its z) (z.cps.toList.map fun c => D.str ⟨#[c]⟩) g H1 ρ1 := by
  have len : (z.cps.toList.map fun c => D.str ⟨#[c]⟩).length = z.cps.size := by simp
  refine ⟨fun i H ρ m hi x S q => by rw [len] at hi; exact hi, fun H ρ m x S q => by rw [len]; exact Nat.le_refl _, fun i H ρ m y H' hi x S q hy => ?_⟩
  obtain ⟨rfl, c, e, rfl⟩ := hy
  refine ⟨.str ⟨#[c]⟩, ?_, Ext.refl _ _, S, by simp [Rv]⟩
  rw [List.getElem?_map, Array.getElem?_toList, e]
  rfl
/-- for .. in a list, a tuple, a text, a dict that stays -/
theorem di_walk {tg l : Expr} {f : ME} (hK : L.K = X.K) (hl : PE X l (tE L f)) : PI X tg l (tI L fun s m => (f s m).bind fun d m1 => (optB (wq m1 d) m1).bind fun xs m2 => .ok (xs, guOf m2 d) m2) := by
  refine ⟨fun pins s σ H RR I ⟨ρ, m, sd, S, E, o⟩ => ?_⟩
  have hE : tE L f σ H fun x H1 => ∃ ρ1 m1 d xs, Ext H ρ H1 ρ1 ∧ Sim L H1 ρ1 m1 ∧ Rv L.K H1 ρ1 d x ∧ wq m1 d = some xs ∧ ∀ J, WalkD L J xs (guOf m1 d) H1 ρ1 → RR J H1 := by
    refine tE_then (k := fun _ d m1 => (optB (wq m1 d) m1).bind fun xs m2 => .ok (xs, guOf m2 d) m2) S E o fun x H1 ρ1 d m1 x1 S1 E1 rx o1 => ?_
    obtain ⟨xs, hq, o1⟩ := (OutG.bind o1).optB
    exact ⟨ρ1, m1, d, xs, x1, S1, rx, hq, fun J w => (o1.here S1).here S1 J w⟩
  refine thn (hl.run pins s σ H _ I hE) fun v s1 ⟨x, H1, I1, r1, ρ1, m1, d, xs, x1, S1, rx, hq, q⟩ => ?_
  have seqCase : ∀ (h : sq m1 d = some xs), wpAny (model X.prog X.w) X.A (pyIter v) (PIE X pins σ tg RR) X.xe s1 := fun hq => by
    by_cases ht : isTp d = true
    · have rx0 := rx
      obtain ⟨a, vs, rfl, h3, h4⟩ := tp_sq ht rx hq
      rw [hK] at h3
      cases r1
      obtain ⟨its', rv', p, hz⟩ := I1.tuple h3
      refine wpAny_pyIter_tuple (show s1.heap.IsTuple a its'.toArray from p) ?_
      exact pi_one (tk := s1.toks) I1 _ (turn_tuple a _) ⟨_, Heap.get?_push_size _ rfl, rfl, rfl⟩ (q _ (walk_seqT hK ht rx0 hq))
    · obtain ⟨a, vs, rfl, h3, h4⟩ := sq_lstN S1 rx hq ht
      rw [hK] at h3
      cases r1
      obtain ⟨its', rv', p, hz⟩ := I1.list h3
      refine wpAny_pyIter_list p.isList ?_
      exact pi_one (tk := s1.toks) I1 _ (turn_list a _) ⟨_, Heap.get?_push_size _ rfl, rfl, rfl⟩ (q _ (walk_seqL hK rx hq ht fun _ h => h))
  cases d with
  | str z =>
    have hq : (if z.length ≤ sizeLine then some (z.cps.toList.map fun c => D.str ⟨#[c]⟩) else none) = some xs := hq
    split at hq
    next hz =>
      cases hq
      unfold Rv at rx
      subst rx
      obtain ⟨t, rfl⟩ := r1
      cases ha : z.cps.all (· < 128)
      · exact wpAny_pyIter_wide ha (pi_one (tk := s1.toks) I1 _ (turn_str _ z t "str_iterator" (.inr rfl)) ⟨_, Heap.get?_push_size _ rfl, rfl, rfl⟩ (q _ walkStr))
      · exact wpAny_pyIter_ascii ha (pi_one (tk := s1.toks) I1 _ (turn_str _ z t "str_ascii_iterator" (.inl rfl)) ⟨_, Heap.get?_push_size _ rfl, rfl, rfl⟩ (q _ walkStr))
    next => cases hq
  | dct t kvs =>
    have hq : some (kvs.map (·.1)) = some xs := hq
    cases hq
    unfold Rv at rx
    obtain ⟨a, o, rfl, hd⟩ := rx
    obtain rfl : v = Value.ref a := r1
    rcases hd with ⟨rfl, ps, hd, r⟩ | ⟨rfl, ps, hd, r⟩
    · obtain ⟨hs, hgd, hx, es, ep, vs, hdt, hsz, kv, hm⟩ := I1.frzK hd
      refine iter_keys hs hgd hx hdt (pi_one (tk := s1.toks) I1 _ (turn_keys _ hdt) ⟨_, Heap.get?_push_size _ rfl, rfl, ?_⟩ (q _ (walkKK hd r)))
      rw [hsz] <;> rfl
    · obtain ⟨hs, hgd, hx, es, ep, hdt, hsz, ent⟩ := I1.frzT hd
      refine iter_keys hs hgd hx hdt (pi_one (tk := s1.toks) I1 _ (turn_keysT _ hdt) ⟨_, Heap.get?_push_size _ rfl, rfl, ?_⟩ (q _ (walkKT hd r)))
      rw [hsz] <;> rfl
  | non => exact seqCase hq
  | bl => exact seqCase hq
  | int => exact seqCase hq
  | tup => exact seqCase hq
  | lst => exact seqCase hq
  | ref => exact seqCase hq
  | scr => exact seqCase hq
  | nms => exact seqCase hq
/-- x.items() of a dict that stays -/
theorem di_items {e : Expr} {f : ME} {apos cpos tp : Pos} {elts : List Expr} {kk : Nat} (hc : X.calm = true) (he : PE X e (tE L f)) (hbase : plainBase e = true) (hline : (apos.endLine == cpos.line) = true) :
    PI X (.Tuple elts kk tp) (.Call (.Attribute e "items" apos) [] [] cpos) (tI L fun s m => (f s m).bind fun d m1 => (optB (dctD d) m1).bind fun kvs m2 => .ok (itemsD kvs, []) m2) := by
  refine ⟨fun pins s σ H RR I ⟨ρ, m, sd, S, E, o⟩ => ?_⟩
  have hE : tE L f σ H fun x H1 => ∃ ρ1 t kvs, Rv L.K H1 ρ1 (.dct t kvs) x ∧ ∀ J, WalkD L J (itemsD kvs) [] H1 ρ1 → RR J H1 := by
    refine tE_then (k := fun _ d m1 => (optB (dctD d) m1).bind fun kvs m2 => .ok (itemsD kvs, []) m2) S E o fun x H1 ρ1 d m1 x1 S1 E1 rx o1 => ?_
    obtain ⟨kvs, hq, o1⟩ := (OutG.bind o1).optB
    unfold dctD at hq
    split at hq
    next t ks =>
      cases hq
      exact ⟨ρ1, t, _, rx, fun J w => o1.here S1 J w⟩
    next => cases hq
  refine wpAny_Call_method (T := "dict") (id := "dict.items") (plainBase_ok hbase) rfl hline PySem.F.plainAttrs_dict PySem.F.slot_dict_items PySem.F.type_dict_items (thn (he.run pins s σ H _ I hE) fun u s1 ⟨x, H1, I1, r1, ρ1, t, kvs, rx, q⟩ => ?_)
  unfold Rv at rx
  obtain ⟨a, o, rfl, hd⟩ := rx
  obtain rfl : u = Value.ref a := r1
  have I2 : Inv X pins σ H1 { s1 with heap := s1.heap.push { cls := .type "dict_items", data := .fields #[.ref a] } } := I1.kept (t' := s1.toks) fun b ob e => Heap.get?_push_of_some _ e
  rcases hd with ⟨rfl, ps, hd, r⟩ | ⟨rfl, ps, hd, r⟩
  · obtain ⟨hs, hgd, hx, es, ep, vs, hdt, hsz, kv, hm⟩ := I1.frzK hd
    have hl : ps.length = vs.length := Paired.length kv
    refine ⟨hm.dictOf.typeIs, hm.dictOf.mapOf.noDict, ?_⟩
    have fin : wpAny (model X.prog X.w) X.A (pyIter (.ref s1.heap.objs.size)) (PIE X pins σ (.Tuple elts kk tp) RR) X.xe { s1 with heap := s1.heap.push { cls := .type "dict_items", data := .fields #[.ref a] } } := by
      refine wpAny_pyIter_items (d := a) (knd := mixKind X.prog X.w) ⟨_, Heap.get?_push_size _ rfl, rfl, rfl⟩ (hm.push _) (pi_one (tk := s1.toks) I2 _ (turn_items _ hdt) ⟨.none, .none, ?_⟩ (q _ (walkIK hd r)))
      rw [hl]
      exact Heap.get?_push_size _ rfl
    show wpAny _ _ (callWith cpos (.builtin "dict.items") [.ref a] [] []) _ X.xe s1
    exact method_meetsIn PySem.F.slot_dict_items PySem.F.entry_dict_items rfl (PySem.evalArgs_none ⟨rfl, hm.dictOf.typeIs, PySem.F.args_dict_items_1 _, _, meets_dict_items (mixKind X.prog X.w) a hs, ⟨vs, hm.dictOf⟩, fin⟩)
  · obtain ⟨hs, es, ep, raw, hgd, hdt, hsz, f⟩ := frzT' I1 hd
    refine ⟨raw.typeIs, fun b hb => ?_, ?_⟩
    · cases hb
      obtain ⟨o', ho', hc', _⟩ := id raw
      exact ⟨o', ho', hc'.2.1⟩
    · have fin : wpAny (model X.prog X.w) X.A (pyIter (.ref s1.heap.objs.size)) (PIE X pins σ (.Tuple elts kk tp) RR) X.xe { s1 with heap := s1.heap.push { cls := .type "dict_items", data := .fields #[.ref a] } } := by
        refine DT.iterI (d := a) ⟨_, Heap.get?_push_size _ rfl, rfl, rfl⟩ (raw.push _) (pi_one (tk := s1.toks) I2 _ (turnIT hdt hsz) ⟨.none, .none, ?_⟩ (q _ (walkIT hd r)))
        exact Heap.get?_push_size _ rfl
      show wpAny _ _ (callWith cpos (.builtin "dict.items") [.ref a] [] []) _ X.xe s1
      exact Calls.callWith_builtin rfl (PySem.evalArgs_none (DT.callItems hs raw fin))
end
end Dx
/-! DxSz: dict comprehensions, whatever the keys are -/
namespace Dx
open PySem PySem.Spec PyProof.Rows L2
/-- an empty dict by the kind of its keys -/
def dE : Bool → HO
  | false => .dK []
  | true => .dT []
theorem dput_set {X : Cx} {pins : List (Addr × Obj)} {σ : VS} {H H' : Hp} {s : Shared} {E : Value → Shared → Prop} {D : Addr} {y v : V} {u r : Value} {Q : Unit → Shared → Prop} (hu : X.A.units + 1 < cLine) (I : Inv X pins σ H s) (g : DPut H D y v H')
    (ry : RelV y u) (rv : RelV v r) (h : ∀ s', Inv X pins σ H' s' → Q () s') : wpAny (model X.prog X.w) X.A (dictSet D u r) Q E s := by
  rcases g with ⟨kvs, k, e, rfl, l, rfl⟩ | ⟨kvs, k, b, e, rfl, eb, l, rfl⟩
  · exact d_dictSet I e l ry rv h
  · obtain rfl : u = Value.ref b := ry
    obtain ⟨z, hd, xs, rel, dd⟩ := dt_of I.hok e
    have n := length_putK kvs k v
    refine wpAny_dictSet_heap (hsz := by rw [← Paired.length rel]; exact z) (show X.A.units < cLine by omega) (key_of I.hok eb) dd fun g dd' hs => ?_
    obtain ⟨q, es, ep, hq, h2, h3, h4, _, h5⟩ := dd'
    have key : ObjOk X.prog X.w (upd H D (.dT (putK kvs k v))) g D (.dT (putK kvs k v)) := ⟨by omega, hd, _, (rel.put k eb rv).keeps fun c ys ec => by rw [upd_ne (ne_of ec e (fun z => nomatch z))]; exact ec, q, es, ep, hq, h2, h3, h4, h5⟩
    exact h _ (d_write (t' := s.toks + (tupleKind (mixKind X.prog X.w)).draws k) I (by rw [e]; exact True.intro) hs ⟨q, hq⟩ key)
/-- what is asked of {k: v for target in iter if ..} -/
def tDc2 (t : Bool) (wi : TI) (g : TG) (tt : TT) (tk tv : TE) (vs : List Nat) : TE := fun σ H Q => wi σ H fun J H1 => ∀ D, H1 D = none → ∃ W : Nat → Nat → Hp → Prop, (∃ m, W 0 m (upd H1 D (dE t))) ∧ ∀ i m H, W i m H →
  (J.stop i H ∧ Q (.ref D) H) ∨ (J.go i H ∧ ∃ Nx : Hp → Prop, (∀ H', Nx H' → ∃ m', m' < m ∧ W (i + 1) m' H') ∧ ∀ x H', J.yld i H x H' → g x (wipe σ vs) H' fun σ2 H2 => wipe σ2 vs = wipe σ vs ∧ tt σ2 H2 fun b H3 =>
    if b = true then tk σ2 H3 fun y H4 => tv σ2 H4 fun z H5 => ∃ H6, DPut H5 D y z H6 ∧ Nx H6 else Nx H3)
theorem dE_ok {P : Program} {w : World} {H : Hp} {h : Heap} (t : Bool) (big : sysModules < h.objs.size) : ObjOk P w H (h.push { cls := .type "dict", data := .dict #[] }) h.objs.size (dE t) := by
  cases t
  · exact dk_empty h big
  · exact dt_empty h big
section
variable {X : Cx} {pins : List (Addr × Obj)} {σ : VS} {H : Hp} {s : Shared} {Q : VK} {kx vx tg iter : Expr} {ifs : List Expr} {scope : Scope} {own : List (Str × Nat)} {pos p2 : Pos} {wi : TI} {g : TG} {tt : TT} {tk tv : TE}
/-- the block's part of a dict comprehension: its body at each turn, told of the block's context B -/
theorem dc_turns {B : Cx} {J : It} {it : Addr} {fp : List Addr} {tn : Nat → Heap → Prop} {D : Addr} {ce : Env} {W : Nat → Nat → Hp → Prop} {R : Result → Shared → Prop} {vs : List Nat} (hu : B.A.units + 1 < cLine) (hc : B.calm = true) (T : Turn B.prog B.w B.K tg J fp it tn)
    (stat : ∀ {σ' : VS} {H' : Hp} {s' : Shared}, L2.Inv B [] σ' H' s' → (∀ b ∈ fp, H' b = none) → ∀ b ∈ fp, FpOk B [] H' b)
    (pg : PG B tg g) (pt : PTs B ifs tt) (pk : PE B kx tk) (pv : PE B vx tv) (hce : B.env = ce) (hxe : ∀ e s', B.xe e s' → notedBy (model B.prog B.w) B.A ce (fun e s' => R (.error e) s') e s')
    (turn : ∀ i m H, W i m H → (J.stop i H ∧ Q (.ref D) H) ∨ (J.go i H ∧ ∃ Nx : Hp → Prop, (∀ H', Nx H' → ∃ m', m' < m ∧ W (i + 1) m' H') ∧ ∀ x H', J.yld i H x H' → g x (wipe σ vs) H' fun σ2 H2 => wipe σ2 vs = wipe σ vs ∧ tt σ2 H2 fun b H3 =>
      if b = true then tk σ2 H3 fun y H4 => tv σ2 H4 fun z H5 => ∃ H6, DPut H5 D y z H6 ∧ Nx H6 else Nx H3))
    (fin : ∀ (H' : Hp) (s' : Shared), L2.Inv B [] (wipe σ vs) H' s' → Q (.ref D) H' → R (.ok .next) s') (m0 : Nat) (H0 : Hp) (s0 : Shared) (w0 : W 0 m0 H0) (I0 : L2.Inv B [] (wipe σ vs) H0 s0) (n0 : ∀ b ∈ fp, H0 b = none) (t0 : tn 0 s0.heap) :
    codeAny (model B.prog B.w) B.A (.compLoop (.DictComp kx vx [⟨tg, iter, ifs, 0⟩] scope pos) 0 (.ref it) (.ref D) ce) R s0 := by
  subst hce
  refine compLoop_anyD (fun n s' => ∃ i H', L2.Inv B [] (wipe σ vs) H' s' ∧ tn i s'.heap ∧ (∀ b ∈ fp, H' b = none) ∧ W i n H') (fun n s5 ⟨i, H5, I5, st5, n5, w5⟩ => ?_) m0 ⟨0, H0, I0, t0, n0, w0⟩
  rcases turn i n H5 w5 with ⟨stop, q⟩ | ⟨go, Nx, hNx, step⟩
  · refine thnF (T.done B rfl rfl rfl hc i [] s5 _ H5 (fun _ _ => False) I5 (stat I5 n5) st5 stop) fun r s6 ⟨hr, I6⟩ => ?_
    subst hr
    exact fin H5 s6 I6 q
  · refine thnF (T.item B rfl rfl rfl hc i [] s5 _ H5 (fun _ _ => False) I5 (stat I5 n5) st5 go) fun r s6 ⟨u, hr, h6⟩ => ?_
    subst hr
    refine thnF h6 fun _ s7 ⟨x, H7, I7, r7, y7, st7, n7⟩ => ?_
    -- the iterator's cells are pinned while the turn goes
    have P7 := I7.pinned (stat I7 n7) (T.obj _ _ st7)
    have close : ∀ {σ8 : VS} {s' : Shared} {H' : Hp}, wipe σ8 vs = wipe σ vs → L2.Inv B ([] ++ pinsAt fp s7.heap) σ8 H' s' → Nx H' → ∃ m, m < n ∧ ∃ i H', L2.Inv B [] (wipe σ vs) H' s' ∧ tn i s'.heap ∧ (∀ b ∈ fp, H' b = none) ∧ W i m H' := fun {σ8 s' H'} hw I' nx => by
      obtain ⟨m', lt, w'⟩ := hNx H' nx
      have at' : ∀ b ∈ fp, ∀ o, s7.heap.get? b = some o → s'.heap.get? b = some o ∧ H' b = none := fun b hb o e => by
        obtain ⟨z1, z2, _⟩ := I'.pin (b, o) (List.mem_append_right _ (List.mem_append_right _ (mem_pinsAt hb e)))
        exact ⟨z1, z2⟩
      have len : (wipe σ vs).length = σ8.length := by rw [← hw, wipe_length]
      exact ⟨m', lt, i + 1, H', (I'.unpinned (pins := [])).weak len fun j v e => by rw [← hw] at e; exact (wipe_some e).1, T.keep _ _ _ st7 fun b hb o e => (at' b hb o e).1, fun b hb => by
        obtain ⟨o, e, _⟩ := T.obj _ _ st7 b hb
        exact (at' b hb o e).2, w'⟩
    refine wpAny_mono (pg.run _ s7 _ H7 x u _ P7 r7 (step x H7 y7)) (fun _ s8 ⟨σ8, H8, I8, hw8, q8⟩ => ?_) hxe
    refine wpAny_mono (pt.run _ s8 σ8 H8 _ I8 q8) (fun b s9 ⟨H9, I9, q9⟩ => ?_) hxe
    cases b with
    | false => exact close hw8 I9 q9
    | true =>
      refine wpAny_mono (pk.run _ s9 σ8 H9 _ I9 q9) (fun z s10 ⟨yk, H10, I10, r10, q10⟩ => ?_) hxe
      refine wpAny_mono (pv.run _ s10 σ8 H10 _ I10 q10) (fun z2 s11 ⟨yv, H11, I11, r11, H12, dp, nx⟩ => ?_) hxe
      exact dput_set hu I11 dp r10 r11 fun s12 I12 => close hw8 I12 nx
/-- {k: v for target in iter if ..}, whatever is done with it -/
theorem dc_all {use : Option (Value → Sem Unit)} {Qf : Value → Shared → Prop} (t : Bool) (I : Inv X pins σ H s) (hu : X.A.units + 1 < cLine) (hc : X.calm = true) (hN : X.N.Nodup) (hi : PI X tg iter wi) (ok : BlkOk X.N X.env.scope scope own)
    (hg : ∀ (s : Shared) (H : Hp) (C : Addr) (cl : List (Str × Addr)) (fp : List Addr), PG (X.blk s H scope (compEnvC scope cl C X.env) fp) tg g)
    (ht : ∀ (s : Shared) (H : Hp) (C : Addr) (cl : List (Str × Addr)) (fp : List Addr), PTs (X.blk s H scope (compEnvC scope cl C X.env) fp) ifs tt)
    (hk : ∀ (s : Shared) (H : Hp) (C : Addr) (cl : List (Str × Addr)) (fp : List Addr), PE (X.blk s H scope (compEnvC scope cl C X.env) fp) kx tk)
    (hv : ∀ (s : Shared) (H : Hp) (C : Addr) (cl : List (Str × Addr)) (fp : List Addr), PE (X.blk s H scope (compEnvC scope cl C X.env) fp) vx tv) (hs : ∀ x, foldedSetIterable iter X.env x = pure x)
    (h : tDc2 t wi g tt tk tv (own.map (·.2)) σ H Q) (out : ∀ D C s' m H', Inv X pins σ H' s' → Q (.ref D) H' → s'.heap.Ns C m → FpOk X pins H' C → compPost (model X.prog X.w) X.A X.xe use Qf (.ref D) C (.ok .next) s') :
    wpAny (model X.prog X.w) X.A (comprehension (.DictComp kx vx [⟨tg, iter, ifs, 0⟩] scope pos) scope X.env p2 newDict false (eval iter X.env) use) Qf X.xe s := by
  have cells : ∀ y ∈ scope.names, y.2 = .free → ∃ c, X.env.cells.lookup y.1 = some c := fun y hy e => (ok.free y hy e).elim (fun k => I.ok.has _ (.inl k)) fun k => I.ok.has _ (.inr k)
  refine wpAny_comprehension_free (use := use) rfl hs (closure_ok cells) ok.kind (fun y hy e => by rw [ok.uniq y hy, e]) (thn (hi.run pins s σ H _ I h) fun xv s1 hx => thn hx fun itv s2 ⟨it, fp, tn, J, H2, ev, I2, T, st2, f2, q⟩ => ?_)
  subst ev
  refine wpAny_newObj_type (newEnv_comp ?_)
  have hDn : H2 s2.heap.objs.size = none := I2.hok.fresh (Nat.le_refl _)
  obtain ⟨W, ⟨m0, w0⟩, turn⟩ := q _ hDn
  let S3 : Shared := { s2 with heap := s2.heap.push { cls := .type "dict", data := .dict #[] } }
  let H3 : Hp := upd H2 s2.heap.objs.size (dE t)
  have I3 : Inv X pins σ H3 S3 := I2.laid (t' := s2.toks) (fun b o e => Heap.get?_push_of_some _ e) (Nat.le_refl _) (dE_ok t I2.big)
  have low : ∀ b ∈ fp, b < s2.heap.objs.size := fun b hb => by
    obtain ⟨o, e, _⟩ := T.obj _ _ st2 b hb
    exact Heap.lt_size e
  have f3 : ∀ b ∈ fp, FpOk X pins H3 b ∧ b < S3.heap.objs.size := fun b hb =>
    ⟨⟨(upd_ne (Nat.ne_of_lt (low b hb))).trans (f2 b hb).1, (f2 b hb).2⟩, by show b < (s2.heap.push _).objs.size; rw [Heap.size_push]; exact Nat.lt_succ_of_lt (low b hb)⟩
  have st3 : tn 0 S3.heap := T.keep _ _ _ st2 fun b _ o e => Heap.get?_push_of_some _ e
  let cl := cellsFrom (S3.heap.objs.size + 1) scope.names (cloFrom X.env.cells scope.names [])
  let ce := compEnvC scope cl S3.heap.objs.size X.env
  have I4 := block_start I3 ok hN f3
  let S4 : Shared := { S3 with heap := pushCells (S3.heap.push { cls := .type "dict", data := .dict #[] }) scope.names }
  have st4 : tn 0 S4.heap := T.keep _ _ _ st3 fun b _ o e => pushCells_keeps _ _ _ _ (Heap.get?_push_of_some _ e)
  show codeAny _ _ (.compStart (.DictComp kx vx [⟨tg, iter, ifs, 0⟩] scope pos) 0 (.ref it) (.ref s2.heap.objs.size) ce) (compPost (model X.prog X.w) X.A X.xe use Qf (.ref s2.heap.objs.size) S3.heap.objs.size) S4
  have loop := dc_turns (B := X.blk S3 H3 scope ce fp) (Q := Q) (ifs := ifs) (kx := kx) (vx := vx) (scope := scope) (pos := pos) (iter := iter) (R := compPost (model X.prog X.w) X.A X.xe use Qf (.ref s2.heap.objs.size) S3.heap.objs.size) (vs := own.map (·.2)) hu hc T
    (fun {σ' H' s'} I' hn b hb => ⟨hn b hb, (I'.ok.exf b hb).1, I'.ok.exfs b hb, .inl hb, fun x c e => (I'.ok.exf b hb).2 x c e, fun p hp => absurd (show p ∈ ([] : List (Addr × Obj)) ++ [] from hp) (by simp)⟩)
    (hg S3 H3 S3.heap.objs.size cl fp) (ht S3 H3 S3.heap.objs.size cl fp) (hk S3 H3 S3.heap.objs.size cl fp) (hv S3 H3 S3.heap.objs.size cl fp) rfl (fun e s' h => h.elim) turn
    (fun H' s' I' qq => ?_) m0 H3 S4 w0 I4 (fun b hb => (f3 b hb).1.1) st4
  · exact codeAny_compStart_dict loop (T.self X.A 0 _ _ _ st4 loop)
  · -- the block is left
    have I7 : Inv X pins σ H' s' := I3.call' (ch := fp) I'.os I'.base I'.hok I'.bare fun b hb => ⟨(f3 b hb).1.2.2.2.1, (f3 b hb).1.2.1, (f3 b hb).1.2.2.2.2.1, (f3 b hb).1.2.2.2.2.2⟩
    have nC : H' S3.heap.objs.size = none := I'.free
    obtain ⟨m, hn, _⟩ := I'.loc
    exact out _ _ s' m H' I7 qq hn (I3.fpOk (Nat.le_refl _) nC)
/-- as a value -/
theorem pe_dc2 (t : Bool) (hu : X.A.units + 1 < cLine) (hc : X.calm = true) (hN : X.N.Nodup) (hi : PI X tg iter wi) (ok : BlkOk X.N X.env.scope scope own)
    (hg : ∀ (s : Shared) (H : Hp) (C : Addr) (cl : List (Str × Addr)) (fp : List Addr), PG (X.blk s H scope (compEnvC scope cl C X.env) fp) tg g)
    (ht : ∀ (s : Shared) (H : Hp) (C : Addr) (cl : List (Str × Addr)) (fp : List Addr), PTs (X.blk s H scope (compEnvC scope cl C X.env) fp) ifs tt)
    (hk : ∀ (s : Shared) (H : Hp) (C : Addr) (cl : List (Str × Addr)) (fp : List Addr), PE (X.blk s H scope (compEnvC scope cl C X.env) fp) kx tk)
    (hv : ∀ (s : Shared) (H : Hp) (C : Addr) (cl : List (Str × Addr)) (fp : List Addr), PE (X.blk s H scope (compEnvC scope cl C X.env) fp) vx tv) (hs : ∀ x, foldedSetIterable iter X.env x = pure x) :
    PE X (.DictComp kx vx [⟨tg, iter, ifs, 0⟩] scope pos) (tDc2 t wi g tt tk tv (own.map (·.2))) := by
  refine ⟨fun pins s σ H Q I h => ?_⟩
  rw [arm_eval_DictComp]
  refine dc_all t I hu hc hN hi ok hg ht hk hv hs h fun D C s' m H' I' q hn f => ⟨m, hn, fun g2 sb => ?_⟩
  obtain ⟨f0, f1, f2', f3', f4, f5⟩ := f
  exact ⟨.ref D, H', I'.turned (t' := s'.toks) (fun b o hb e => (sb.2 b hb).trans e) f0 f1 f3' f4 f5, rfl, q⟩
/-- name = {..} on one line, the name a plain local -/
theorem ps_setDc2 {i : Nat} {y : Str} {py spos : Pos} (t : Bool) (hu : X.A.units + 1 < cLine) (hc : X.calm = true) (hN : X.N.Nodup) (hy : X.N[i]? = some y) (hyl : X.env.scope.names.lookup y = some .local)
    (hsw : swapsWith (.DictComp kx vx [⟨tg, iter, ifs, 0⟩] scope pos) (some (.Name y py)) spos.line X.env = pure true) (hi : PI X tg iter wi) (ok : BlkOk X.N X.env.scope scope own)
    (hg : ∀ (s : Shared) (H : Hp) (C : Addr) (cl : List (Str × Addr)) (fp : List Addr), PG (X.blk s H scope (compEnvC scope cl C X.env) fp) tg g)
    (ht : ∀ (s : Shared) (H : Hp) (C : Addr) (cl : List (Str × Addr)) (fp : List Addr), PTs (X.blk s H scope (compEnvC scope cl C X.env) fp) ifs tt)
    (hk : ∀ (s : Shared) (H : Hp) (C : Addr) (cl : List (Str × Addr)) (fp : List Addr), PE (X.blk s H scope (compEnvC scope cl C X.env) fp) kx tk)
    (hv : ∀ (s : Shared) (H : Hp) (C : Addr) (cl : List (Str × Addr)) (fp : List Addr), PE (X.blk s H scope (compEnvC scope cl C X.env) fp) vx tv) (hs : ∀ x, foldedSetIterable iter X.env x = pure x) :
    PS X (.Assign [.Name y py] (.DictComp kx vx [⟨tg, iter, ifs, 0⟩] scope pos) spos) (tAsg (tDc2 t wi g tt tk tv (own.map (·.2))) (gName i)) := by
  refine ⟨fun pins s σ H D I h => ?_⟩
  rw [exec_Assign_Name_used _ _ _ _ hsw]; refine wpAny_bind (wpAny_standAt (wpAny_bind ?_))
  show wpAny _ X.A (do let _ ← comprehension (.DictComp kx vx [⟨tg, iter, ifs, 0⟩] scope pos) scope X.env (firstIterPos [⟨tg, iter, ifs, 0⟩] pos) newDict false (eval iter X.env) (some (assign (.Name y py) X.env))) _ _ s
  have h : tDc2 t wi g tt tk tv (own.map (·.2)) σ H (fun x H1 => gName i x σ H1 D.nx) := h
  refine wpAny_bind (thn (dc_all (Qf := fun _ s' => SP X pins D .next s') t I hu hc hN hi ok hg ht hk hv hs h fun L C s' m H' I' q hn f => ?_) fun _ s' hq => wpAny_pure (wpAny_pure hq))
  show wpAny _ _ (assign (Expr.Name y py) X.env (Value.ref L)) _ _ _
  refine wpAny_assign_Name (store_ok2 (v := V.ref L) I' hN hy (.inl hyl) rfl (fun s2 I2 ⟨a, sb, ha⟩ => ?_) (.inr hyl))
  obtain ⟨f0, f1, f2, f3, f4, f5⟩ := f
  have ne : C ≠ a := by
    rcases ha with z | z
    · exact fun e => f1 (e.trans z)
    · exact fun e => f4 y a z e.symm
  exact ⟨m, hn.sameBut sb ne, fun h3 sb3 => ⟨_, H', I2.turned (t' := s2.toks) (fun b o hb e => (sb3.2 b hb).trans e) f0 f1 f3 f4 f5, q⟩⟩
end
end Dx
/-! DxSd: dict comprehensions by the small language -/
namespace Dx
open PySem PySem.Spec PyProof.Rows L2
section
variable {L : Lnk} {X : Cx} {H H' : Hp} {ρ ρ' : List Addr} {m : Hd}
/-- what stands between the turns -/
def DcI (L : Lnk) (t : Bool) (H1 : Hp) (ρ1 : List Addr) (D0 : Addr) (n : Nat) (go : Nat → List (D × D) → Hd → R (List (D × D))) (Q : VK) (i k : Nat) (H2 : Hp) : Prop :=
  ∃ H0 ρ m acc u, i + k = n ∧ H0 D0 = none ∧ H2 = upd H0 D0 u ∧ Ext H1 ρ1 H0 ρ ∧ Sim L H0 ρ m ∧ RvX L.K H0 ρ t acc u ∧ acc.length ≤ i ∧ OutG L H0 ρ (fun r m' H' ρ' => Out L H' ρ' Q (newD t r m')) (go i acc m)
theorem dcGo_nil {t : Bool} {g : Gu} {st : D → Hd → R (Option (D × D))} {acc : List (D × D)} {m : Hd} : dcGo t g st [] acc m = ifs (guOk g m) (.ok acc m) := rfl
theorem dcGo_cons {t : Bool} {g : Gu} {st : D → Hd → R (Option (D × D))} {d : D} {ds : List D} {acc : List (D × D)} {m : Hd} : dcGo t g st (d :: ds) acc m = ifs (guOk g m) ((st d m).bind fun o m1 => match o with
    | none => dcGo t g st ds acc m1
    | some kv => ifs (keyOk t kv.1) (dcGo t g st ds (put acc kv.1 kv.2) m1)) := rfl
/-- the dict behind a turn's parts -/
theorem dc_out {t : Bool} {H0 H' H5 : Hp} {ρ2 ρ5 : List Addr} {m2 m5 : Hd} {D0 : Addr} {u : HO} {acc : List (D × D)} (n0 : H0 D0 = none) (S2 : Sim L H0 ρ2 m2) (ra : RvX L.K H0 ρ2 t acc u) (x4 : Ext (upd H0 D0 u) ρ2 H' ρ2) (x5 : Ext H' ρ2 H5 ρ5) (S5 : Sim L H5 ρ5 m5) :
    H5 D0 = some u ∧ ∃ H6 : Hp, H6 D0 = none ∧ H5 = upd H6 D0 u ∧ Ext H0 ρ2 H6 ρ5 ∧ Sim L H6 ρ5 m5 ∧ RvX L.K H6 ρ5 t acc u := by
  have nD : D0 ∉ ρ2 := S2.out n0
  have hD4 : H' D0 = some u := x4.rest D0 _ upd_same nD
  have h5 : H5 D0 = some u := x5.rest D0 _ hD4 nD
  have nD5 : D0 ∉ ρ5 := fun hm => by
    rcases x5.new _ hm with z | z
    · exact nD z
    · rw [hD4] at z; cases z
  have t5 : ∀ a ws, H5 a = some (.tup ws) → del H5 D0 a = some (.tup ws) := fun a ws e => (del_ne (ne_of e h5 fun z => ra.mut.1 ws z.symm)).trans e
  have f5 : ∀ a o v, H5 a = some (.frz o v) → del H5 D0 a = some (.frz o v) := fun a o v e => (del_ne (ne_of e h5 fun z => ra.mut.2 o v z.symm)).trans e
  have x05 : Ext H0 ρ2 H5 ρ5 := ((Ext.laid n0).trans x4).trans x5
  have x6 : Ext H0 ρ2 (del H5 D0) ρ5 := ⟨x05.pre, x05.new, fun a ws e => t5 _ _ (x05.tup a ws e), fun a o v e => f5 _ _ _ (x05.frz a o v e), fun a o e hn => (del_ne (ne_of_none e n0)).trans (x05.rest a o e hn)⟩
  exact ⟨h5, del H5 D0, del_same, (upd_del h5).symm, x6, S5.keep t5 f5 fun n a o' e1 _ _ => del_ne fun z => nD5 (by rw [← z]; exact List.mem_of_getElem? e1), ra.mono x6.pre x6.tup x6.frz⟩
theorem upd_upd {H : Hp} {a : Addr} {u v : HO} : upd (upd H a u) a v = upd H a v := by
  funext b
  by_cases e : b = a
  · subst e; rw [upd_same, upd_same]
  · rw [upd_ne e, upd_ne e, upd_ne e]
theorem dc_run {fi : SD → Hd → R (List D × Gu)} {tgD : Tg} {c : SD → Hd → R Bool} {fk fv : ME} {own : List Nat} (t : Bool) (hsl : ∀ i ∈ tgD.slots, i ∈ own) {σ : VS} {H : Hp} {Q : VK}
    (h : tE L (fun s m => (fi s m).bind fun p m1 => ifs (decide (p.1.length ≤ sizeLine)) ((dcGo t p.2 (dcStep tgD (wipeD s own) c fk fv) p.1 [] m1).bind (newD t))) σ H Q) :
    tDc2 t (tI L fi) (gD L tgD) (tT L c) (tE L fk) (tE L fv) own σ H Q := by
  obtain ⟨ρ, m, sd, S, E, o⟩ := h
  refine tI_then (k := fun s p m1 => ifs (decide (p.1.length ≤ sizeLine)) ((dcGo t p.2 (dcStep tgD (wipeD s own) c fk fv) p.1 [] m1).bind (newD t))) S E o fun p H1 ρ1 m1 x1 S1 E1 o1 J w => ?_
  obtain ⟨xs, g⟩ := p
  obtain ⟨hz, o1⟩ := o1.ifs
  have hz : xs.length ≤ sizeLine := by simpa using hz
  intro D0 hD0
  generalize hst : dcStep tgD (wipeD sd own) c fk fv = st at o1
  refine ⟨DcI L t H1 ρ1 D0 xs.length (fun i => dcGo t g st (xs.drop i)) Q, ⟨xs.length, H1, ρ1, m1, [], dE t, Nat.zero_add _, hD0, rfl, Ext.refl _ _, S1, ?_, Nat.le_refl _, ?_⟩, fun i k H2 ⟨H0, ρ2, m2, acc, u, e1, n0, e2, x2, S2, ra, la, o2⟩ => ?_⟩
  · cases t
    · exact .inl ⟨rfl, [], rfl, by simp [RvK]⟩
    · exact .inr ⟨rfl, [], rfl, by simp [RvT]⟩
  · exact o1.bind
  · subst e2
    have x3 : Ext H0 ρ2 (upd H0 D0 u) ρ2 := Ext.laid n0
    have S3 : Sim L (upd H0 D0 u) ρ2 m2 := S2.laid n0
    by_cases hlt : i < xs.length
    · have o2 : OutG L H0 ρ2 (fun r m' H' ρ' => Out L H' ρ' Q (newD t r m')) (dcGo t g st (xs[i] :: xs.drop (i + 1)) acc m2) := by rw [← List.drop_eq_getElem_cons hlt]; exact o2
      rw [dcGo_cons] at o2
      obtain ⟨hgu, o2⟩ := o2.ifs
      refine .inr ⟨w.goes i _ ρ2 m2 hlt (x2.trans x3) S3 hgu, fun H' => ∃ k', k' < k ∧ DcI L t H1 ρ1 D0 xs.length (fun i => dcGo t g st (xs.drop i)) Q (i + 1) k' H', fun H' h => h, fun x H' hy => ?_⟩
      obtain ⟨d, hd, x4, S4, rd⟩ := w.yields i _ ρ2 m2 x H' hlt (x2.trans x3) S3 hgu hy
      obtain rfl : d = xs[i] := by rw [List.getElem?_eq_getElem hlt] at hd; exact (Option.some.inj hd).symm
      have e0 : st xs[i] m2 = (optB (bindTg tgD xs[i] (wipeD sd own)) m2).bind fun s2 m2 => (c s2 m2).bind fun q m3 => if q then (fk s2 m3).bind fun x m4 => (fv s2 m4).bind fun y m5 => .ok (some (x, y)) m5 else .ok none m3 := by rw [← hst]; rfl
      rw [e0] at o2
      cases hb : bindTg tgD xs[i] (wipeD sd own) with
      | none => rw [hb] at o2; exact o2.elim
      | some s2 =>
        rw [hb] at o2
        simp only [optB_some, R.bind_ok] at o2
        have E4 : EnvR L H' ρ2 (wipeD sd own) (L2.wipe σ own) := ((E1.wipe _).ext ((x2.trans x3).trans x4))
        refine ⟨ρ2, m2, _, xs[i], s2, S4, E4, rd, hb, fun σ2 E5 w2 => ⟨(w2 _ hsl).trans wipe_wipe, ?_⟩⟩
        cases hcc : c s2 m2 with
        | exc => rw [hcc] at o2; exact o2.elim
        | no => rw [hcc] at o2; exact o2.elim
        | ok kc m3 =>
          rw [hcc] at o2
          simp only [R.bind_ok] at o2
          refine ⟨ρ2, m2, s2, S4, E5, ?_⟩
          rw [hcc]
          intro H5 ρ5 x5 S5
          cases kc with
          | false =>
            simp only [Bool.false_eq_true, if_false, R.bind_ok] at o2 ⊢
            obtain ⟨h5, H6, n6, e6, x6, S6, r6⟩ := dc_out n0 S2 ra x4 x5 S5
            exact ⟨k - 1, by omega, H6, ρ5, m3, acc, u, by omega, n6, e6, x2.trans x6, S6, r6, by omega, OutG.base o2 x6⟩
          | true =>
            simp only [if_true] at o2 ⊢
            refine ⟨ρ5, m3, s2, S5, E5.ext x5, ?_⟩
            cases hkk : fk s2 m3 with
            | exc => rw [hkk] at o2; exact o2.elim
            | no => rw [hkk] at o2; exact o2.elim
            | ok dk m4 =>
              rw [hkk] at o2
              simp only [R.bind_ok] at o2
              intro H7 ρ7 x7 S7 y rk
              refine ⟨ρ7, m4, s2, S7, (E5.ext x5).ext x7, ?_⟩
              cases hvv : fv s2 m4 with
              | exc => rw [hvv] at o2; exact o2.elim
              | no => rw [hvv] at o2; exact o2.elim
              | ok dv m5 =>
                rw [hvv] at o2
                simp only [R.bind_ok] at o2
                obtain ⟨hk, o2⟩ := o2.ifs
                intro H8 ρ8 x8 S8 z rv
                obtain ⟨h8, H6, n6, e6, x6, S6, r6⟩ := dc_out n0 S2 ra x4 ((x5.trans x7).trans x8) S8
                have r8 : RvX L.K H8 ρ8 t acc u := by
                  rw [e6]
                  exact r6.mono (List.prefix_refl _) (fun _ _ h => upd_tup n6 h) fun _ _ _ h => upd_tup n6 h
                obtain ⟨u', dp, r'⟩ := rvx_put r8 h8 (rk.ext x8) rv hk (by omega)
                have d1 : del H8 D0 = H6 := by
                  rw [e6]
                  funext a
                  by_cases e : a = D0
                  · subst e; rw [del_same, n6]
                  · rw [del_ne e, upd_ne e]
                have r2 : RvX L.K H6 ρ8 t (put acc dk dv) u' := by
                  rw [← d1]
                  exact r'.mono (List.prefix_refl _) (fun a ws e => (del_ne (ne_of e h8 fun z => ra.mut.1 ws z.symm)).trans e) fun a o v e => (del_ne (ne_of e h8 fun z => ra.mut.2 o v z.symm)).trans e
                exact ⟨_, dp, k - 1, by omega, H6, ρ8, m5, put acc dk dv, u', by omega, n6, by rw [e6, upd_upd], x2.trans x6, S6, r2, by have := put_len acc dk dv; omega, OutG.base o2 x6⟩
    · obtain rfl : i = xs.length := by omega
      have o2 : OutG L H0 ρ2 (fun r m' H' ρ' => Out L H' ρ' Q (newD t r m')) (dcGo t g st [] acc m2) := by rw [← List.drop_length (l := xs)]; exact o2
      rw [dcGo_nil] at o2
      obtain ⟨hgu, o2⟩ := o2.ifs
      exact .inl ⟨w.stops _ ρ2 m2 (x2.trans x3) S3 hgu, newD_ok S2 n0 ra (o2.here S2)⟩
end
end Dx
/-! DxSl: list(zip(x, y)) -/
namespace Dx
open PySem PySem.Spec PyProof.Rows L2
theorem zl_len : typeLookup (.type "zip") "__len__" = pure none := by rw [typeLookup_type, builtinLookup_eq_fast]; kernel_rfl
theorem zl_hint0 : typeLookup (.type "zip") "__length_hint__" = pure none := by rw [typeLookup_type, builtinLookup_eq_fast]; kernel_rfl
/-- new pairs, one behind the other -/
structure ZG (as bs : Array Value) (lo : Addr) (h : Heap) (ts : List Addr) : Prop where
  rise : ts.Pairwise (· < ·)
  above : ∀ a ∈ ts, lo ≤ a
  pairs : ∀ (j : Nat) (a : Addr), ts[j]? = some a → ∃ x y, as[j]? = some x ∧ bs[j]? = some y ∧ IsPair h a x y
theorem ZG.there {as bs : Array Value} {lo : Addr} {h : Heap} {ts : List Addr} (g : ZG as bs lo h ts) {a : Addr} (ha : a ∈ ts) : a < h.objs.size := by
  obtain ⟨j, hj⟩ := List.mem_iff_getElem?.mp ha
  obtain ⟨_, _, _, _, e⟩ := g.pairs j a hj
  exact Heap.lt_size e
section
variable {prog : Program} {w : World} {A : Around} {E : Value → Shared → Prop} {s : Shared} {R : Result → Shared → Prop} {z ti tu j1 j2 a1 a2 : Addr} {c1 c2 : Sk} {as bs : Array Value}
theorem zl_next {k : Nat} {h : Heap} {tk : Nat} {x y : Value} {Q : Option Value → Shared → Prop} (D : ZS z ti tu j1 j2 a1 a2) (st : ZSt z ti tu j1 j2 h) (q1 : c1.itr h j1 a1 k) (q2 : c2.itr h j2 a2 k) (r1 : c1.seq h a1 as) (r2 : c2.seq h a2 bs)
    (hi : ∀ b ∈ [z, ti, tu, j1, j2], b < h.objs.size) (ex : as[k]? = some x) (ey : bs[k]? = some y)
    (f : ∀ g, ZSt z ti tu j1 j2 g → c1.itr g j1 a1 (k + 1) → c2.itr g j2 a2 (k + 1) → IsPair g h.objs.size x y → g.objs.size = h.objs.size + 1 → Kp [z, tu, j1, j2] h g → Q (some (.ref h.objs.size)) { s with heap := g, toks := tk }) :
    wpAny (model prog w) A (pyNext (.ref z)) Q E { s with heap := h, toks := tk } := by
  obtain ⟨kti, st⟩ := id st
  have nd := D.nd
  simp at nd
  have new : h.objs.size ∉ [z, ti, tu, j1, j2] := fun hm => Nat.lt_irrefl _ (hi _ hm)
  rcases st with ⟨kz, u, v, ktu⟩ | ⟨T, b, oT, kz, kT, hT⟩
  · have hT : (show Shared from { s with heap := h, toks := tk }).TypeIs (.ref z) "zip" := ⟨_, kz, rfl⟩
    unfold pyNext
    refine wpAny_bind (wpAny_attempt (wpAny_callSpecial?_slot (name := Str.ofString "__next__") hT PySem.F.slot_zip_next
      (wpAny_call_entry PySem.F.slot_zip_next hT PySem.F.entry_zip_next (zip_item_f D kz ktu kti q1 q2 r1 r2 ex ey fun g z' t' i1 i2 hp hsz hk => wpAny_pure ?_) (PySem.F.args_zip_next_1 _))))
    refine f g ⟨hk _ _ (by simp; exact ⟨Ne.symm nd.1.1, nd.2.1.1, nd.2.1.2.1, nd.2.1.2.2⟩) kti, .inr ⟨h.objs.size, false, _, z', hp, new⟩⟩ i1 i2 hp hsz hk
  · have hT' : (show Shared from { s with heap := h, toks := tk }).TypeIs (.ref z) "zip" := ⟨_, kz, rfl⟩
    unfold pyNext
    refine wpAny_bind (wpAny_attempt (wpAny_callSpecial?_slot (name := Str.ofString "__next__") hT' PySem.F.slot_zip_next
      (wpAny_call_entry PySem.F.slot_zip_next hT' PySem.F.entry_zip_next (zip_item_h D kz kT kti q1 q2 r1 r2 ex ey fun g z' i1 i2 hp hsz hk => wpAny_pure ?_) (PySem.F.args_zip_next_1 _))))
    have kp : Kp [z, tu, j1, j2] h g := fun b o hb e => hk b o (fun hm => hb (by simp at hm ⊢; rcases hm with h | h | h <;> simp [h])) e
    refine f g ⟨kp _ _ (by simp; exact ⟨Ne.symm nd.1.1, nd.2.1.1, nd.2.1.2.1, nd.2.1.2.2⟩) kti, .inr ⟨T, true, oT, z', hk _ _ (fun hm => hT (by simp at hm ⊢; rcases hm with h | h | h <;> simp [h])) kT, hT⟩⟩ i1 i2 hp hsz kp
theorem zl_done {k : Nat} {h : Heap} {tk : Nat} {Q : Option Value → Shared → Prop} (hh : A.handled = none) (D : ZS z ti tu j1 j2 a1 a2) (st : ZSt z ti tu j1 j2 h) (q1 : c1.itr h j1 a1 k) (q2 : c2.itr h j2 a2 k) (r1 : c1.seq h a1 as) (r2 : c2.seq h a2 bs)
    (en : as[k]? = none ∨ bs[k]? = none) (f : ∀ g, Kp [z, tu, j1, j2] h g → Q none { s with heap := g, toks := tk }) :
    wpAny (model prog w) A (pyNext (.ref z)) Q E { s with heap := h, toks := tk } := by
  have hT : (show Shared from { s with heap := h, toks := tk }).TypeIs (.ref z) "zip" := by
    rcases st with ⟨_, ⟨kz, _⟩ | ⟨_, _, _, kz, _⟩⟩
    · exact ⟨_, kz, rfl⟩
    · exact ⟨_, kz, rfl⟩
  unfold pyNext
  refine wpAny_bind (wpAny_attempt (wpAny_callSpecial?_slot (name := Str.ofString "__next__") hT PySem.F.slot_zip_next
    (wpAny_call_entry PySem.F.slot_zip_next hT PySem.F.entry_zip_next (zip_end hh D st q1 q2 r1 r2 en fun g b hk hb => ?_) (PySem.F.args_zip_next_1 _))))
  obtain ⟨o, ho, hco⟩ := hb
  exact wpAny_bind (wpAny_isInstance (T := "StopIteration") (b := true) ⟨o, ho, hco⟩ isSubtype_stop (wpAny_pure (f g hk)))
theorem zl_loop {S : Addr} {lo n : Nat} (hh : A.handled = none) (D : ZS z ti tu j1 j2 a1 a2) (hS : S ∉ [z, ti, tu, j1, j2]) (s1 : a1 ≠ S) (s2 : a2 ≠ S) (hlo : ∀ b ∈ [S, z, ti, tu, j1, j2], b < lo) (hn : n = min as.size bs.size) (hsz : n ≤ sizeLine) (res : Value) {h₁ : Heap}
    (hR : ∀ h' tk acc c ts, (∀ b o, b ∉ [S, z, tu, j1, j2] → h₁.get? b = some o → h'.get? b = some o) → h'.get? S = some { cls := .type "list", dict := none, data := .seq acc c, slots := #[] } → ts.length = n → ZG as bs lo h' ts →
      acc.toList = ts.map Value.ref → R (.ok (.ret res)) { s with heap := h', toks := tk }) :
    ∀ (k i : Nat) (h : Heap) (tk c : Nat) (acc : Array Value) (ts : List Addr), n - i = k → i ≤ n → ZSt z ti tu j1 j2 h → c1.itr h j1 a1 i → c2.itr h j2 a2 i → c1.seq h a1 as → c2.seq h a2 bs → (∀ b o, b ∉ [S, z, tu, j1, j2] → h₁.get? b = some o → h.get? b = some o) →
      h.get? S = some { cls := .type "list", dict := none, data := .seq acc c, slots := #[] } → acc.toList = ts.map Value.ref → ts.length = i → ZG as bs lo h ts → lo ≤ h.objs.size →
      codeAny (model prog w) A (.builtin "list.extend.loop" ⟨[.ref S, .ref z, res], []⟩) R { s with heap := h, toks := tk } := by
  have hSn : S ≠ z ∧ S ≠ ti ∧ S ≠ tu ∧ S ≠ j1 ∧ S ≠ j2 := by simpa using hS
  have d1 := D.z1
  have d2 := D.z2
  simp at d1 d2
  have hSk : S ∉ [z, tu, j1, j2] := by simp; exact ⟨hSn.1, hSn.2.2.1, hSn.2.2.2.1, hSn.2.2.2.2⟩
  have sub : ∀ b, b ∉ [S, z, tu, j1, j2] → b ≠ S ∧ b ∉ [z, tu, j1, j2] := fun b hb => ⟨fun e => hb (by simp [e]), fun hm => hb (List.mem_cons_of_mem _ hm)⟩
  have lowK : ∀ b, lo ≤ b → b ∉ [z, tu, j1, j2] := fun b hb hm => Nat.not_lt.mpr hb (hlo b (by simp at hm ⊢; rcases hm with h | h | h | h <;> simp [h]))
  have lowS : ∀ b, lo ≤ b → b ≠ S := fun b hb e => Nat.not_lt.mpr hb (e ▸ hlo S (by simp))
  intro k
  induction k with
  | zero =>
    intro i h tk c acc ts hk hi st q1 q2 r1 r2 hkeep hSo hacc hal hG hIs
    have hin : i = n := by omega
    refine codeAny_builtin PySem.F.entry_extend_loop ?_
    rw [Around.under_plainId PySem.F.plain_extend_loop _]
    show wpAny _ A.in1 (pyNext (.ref z) >>= _) _ _ _
    have en : as[i]? = none ∨ bs[i]? = none := by
      rcases Nat.le_total as.size bs.size with q | q
      · exact .inl (by simp; omega)
      · exact .inr (by simp; omega)
    refine wpAny_bind (zl_done (A := A.in1) hh D st q1 q2 r1 r2 en fun g hk' => ?_)
    refine wpAny_pure (hR g tk acc c ts (fun b o hb e => hk' b o (sub b hb).2 (hkeep b o hb e)) (hk' S _ hSk hSo) (by omega) ⟨hG.rise, hG.above, fun j a hj => ?_⟩ hacc)
    obtain ⟨x, y, e1, e2, e3⟩ := hG.pairs j a hj
    exact ⟨x, y, e1, e2, hk' a _ (lowK a (hG.above a (List.mem_of_getElem? hj))) e3⟩
  | succ k ih =>
    intro i h tk c acc ts hk hi st q1 q2 r1 r2 hkeep hSo hacc hal hG hIs
    have hlt : i < n := by omega
    obtain ⟨x, hx⟩ : ∃ p, as[i]? = some p := ⟨as[i]'(by omega), Array.getElem?_eq_getElem (by omega)⟩
    obtain ⟨y, hy⟩ : ∃ p, bs[i]? = some p := ⟨bs[i]'(by omega), Array.getElem?_eq_getElem (by omega)⟩
    have hsz' : acc.size = i := by rw [← Array.length_toList, hacc, List.length_map, hal]
    refine codeAny_builtin PySem.F.entry_extend_loop ?_
    rw [Around.under_plainId PySem.F.plain_extend_loop _]
    show wpAny _ A.in1 (pyNext (.ref z) >>= _) _ _ _
    refine wpAny_bind (zl_next D st q1 q2 r1 r2 (fun b hb => Nat.lt_of_lt_of_le (hlo b (List.mem_cons_of_mem _ hb)) hIs) hx hy fun g st' i1 i2 hp hz hkp => ?_)
    have hS' := hkp S _ hSk hSo
    have up : ∀ b o, b ≠ S → g.get? b = some o → (g.update S (Obj.mapSeq (·.push (Value.ref h.objs.size)))).get? b = some o := fun b o hb e => (Heap.get?_update_other _ _ (Ne.symm hb)).trans e
    have st2 : ZSt z ti tu j1 j2 (g.update S (Obj.mapSeq (·.push (Value.ref h.objs.size)))) := by
      obtain ⟨p1, p2⟩ := st'
      refine ⟨up _ _ (Ne.symm hSn.2.1) p1, ?_⟩
      rcases p2 with ⟨kz, u, v, ktu⟩ | ⟨T, b, oT, kz, kT, hT⟩
      · exact .inl ⟨up _ _ (Ne.symm hSn.1) kz, u, v, up _ _ (Ne.symm hSn.2.2.1) ktu⟩
      · by_cases e : T = S
        · exact .inr ⟨T, b, _, up _ _ (Ne.symm hSn.1) kz, by rw [e]; exact Heap.get?_update_self _ hS' rfl, hT⟩
        · exact .inr ⟨T, b, oT, up _ _ (Ne.symm hSn.1) kz, up _ _ e kT, hT⟩
    show wpAny _ A.in1 (updateSeq S (·.push (Value.ref h.objs.size)) >>= _) _ _ _
    refine wpAny_bind ?_
    refine wpAny_updateSeq hS' rfl (wpAny_pure ⟨plainId_quiet PySem.F.plain_extend_loop _, ih (i + 1) _ tk _ (acc.push (Value.ref h.objs.size)) (ts ++ [h.objs.size]) (by omega) hlt st2 (Sk.itr_at i1 fun o e => up _ o (Ne.symm hSn.2.2.2.1) e) (Sk.itr_at i2 fun o e => up _ o (Ne.symm hSn.2.2.2.2) e)
      (Sk.seq_at r1 fun o e => up _ o s1 (hkp _ o (by simp; exact ⟨d1.1, d1.2.2.1, d1.2.2.2.1, d1.2.2.2.2⟩) e)) (Sk.seq_at r2 fun o e => up _ o s2 (hkp _ o (by simp; exact ⟨d2.1, d2.2.2.1, d2.2.2.2.1, d2.2.2.2.2⟩) e))
      (fun b o h1 e => up b o (sub b h1).1 (hkp b o (sub b h1).2 (hkeep b o h1 e))) (Heap.get?_update_self _ hS' rfl) (by rw [Array.toList_push, hacc, List.map_append]; rfl) (by rw [List.length_append, hal]; rfl) ⟨?_, ?_, ?_⟩ ?_⟩) (by rw [hsz']; omega) (by show (acc.push (Value.ref h.objs.size)).size ≤ sizeLine + 1; rw [Array.size_push, hsz']; omega)
    · refine List.pairwise_append.mpr ⟨hG.rise, List.pairwise_singleton _ _, fun a ha b hb => ?_⟩
      rw [List.mem_singleton.mp hb]
      exact hG.there ha
    · intro a ha
      rcases List.mem_append.mp ha with ha | ha
      · exact hG.above a ha
      · rw [List.mem_singleton.mp ha]; exact hIs
    · intro j b hj
      rcases Nat.lt_trichotomy j ts.length with h1 | h1 | h1
      · rw [List.getElem?_append_left h1] at hj
        obtain ⟨x', y', e1, e2, e3⟩ := hG.pairs j b hj
        have hb := hG.above b (List.mem_of_getElem? hj)
        exact ⟨x', y', e1, e2, up b _ (lowS b hb) (hkp b _ (lowK b hb) e3)⟩
      · subst h1
        have hb : h.objs.size = b := by simpa using hj
        subst hb
        exact ⟨x, y, by rw [hal]; exact hx, by rw [hal]; exact hy, up _ _ (lowS _ hIs) hp⟩
      · have hnone : (ts ++ [h.objs.size])[j]? = none := List.getElem?_eq_none (by rw [List.length_append, List.length_singleton]; omega)
        rw [hnone] at hj; cases hj
    · have e : (g.update S (Obj.mapSeq (·.push (Value.ref h.objs.size)))).get? h.objs.size = _ := up _ _ (lowS _ hIs) hp
      exact Nat.le_of_lt (Nat.lt_of_le_of_lt hIs (Heap.lt_size e))
theorem zl_hint (hT : s.TypeIs (.ref z) "zip") {Q : Bool → Shared → Prop} (h : Q true s) : wpAny (model prog w) A (Builtin.List.listLengthHint (.ref z)) Q E s := by
  unfold Builtin.List.listLengthHint
  refine wpAny_bind (wpAny_specialOf hT zl_len ?_)
  show wpAny _ A (specialOf (Value.ref z) (Str.ofString "__length_hint__") >>= _) _ _ _
  refine wpAny_bind (wpAny_specialOf hT zl_hint0 ?_)
  exact wpAny_pure h
/-- a zip that was just made -/
structure ZNew (h : Heap) (c1 c2 : Sk) (z ti tu j1 j2 a1 a2 : Addr) (as bs : Array Value) : Prop where
  D : ZS z ti tu j1 j2 a1 a2
  kz : IsZip h z ti tu .none
  kt : IsPair h ti (.ref j1) (.ref j2)
  ku : ∃ u v, IsPair h tu u v
  i1 : c1.itr h j1 a1 0
  i2 : c2.itr h j2 a2 0
  r1 : c1.seq h a1 as
  r2 : c2.seq h a2 bs
theorem ZNew.st {h : Heap} (q : ZNew h c1 c2 z ti tu j1 j2 a1 a2 as bs) : ZSt z ti tu j1 j2 h := ⟨q.kt, .inl ⟨q.kz, q.ku⟩⟩
theorem ZNew.at {h g : Heap} (q : ZNew h c1 c2 z ti tu j1 j2 a1 a2 as bs) {S : Addr} (hS : S ∉ [z, ti, tu, j1, j2]) (s1 : a1 ≠ S) (s2 : a2 ≠ S) (k : ∀ b o, b ≠ S → h.get? b = some o → g.get? b = some o) : ZNew g c1 c2 z ti tu j1 j2 a1 a2 as bs := by
  have hSn : S ≠ z ∧ S ≠ ti ∧ S ≠ tu ∧ S ≠ j1 ∧ S ≠ j2 := by simpa using hS
  obtain ⟨u, v, hu⟩ := q.ku
  exact ⟨q.D, k _ _ (Ne.symm hSn.1) q.kz, k _ _ (Ne.symm hSn.2.1) q.kt, ⟨u, v, k _ _ (Ne.symm hSn.2.2.1) hu⟩, Sk.itr_at q.i1 fun o e => k _ o (Ne.symm hSn.2.2.2.1) e, Sk.itr_at q.i2 fun o e => k _ o (Ne.symm hSn.2.2.2.2) e, Sk.seq_at q.r1 fun o e => k _ o s1 e, Sk.seq_at q.r2 fun o e => k _ o s2 e⟩
theorem zl_extend {S : Addr} {lo n : Nat} (hh : A.handled = none) (q : ZNew s.heap c1 c2 z ti tu j1 j2 a1 a2 as bs) (hS : S ∉ [z, ti, tu, j1, j2]) (s1 : a1 ≠ S) (s2 : a2 ≠ S) (hlo : ∀ b ∈ [S, z, ti, tu, j1, j2], b < lo) (hle : lo ≤ s.heap.objs.size) (hn : n = min as.size bs.size) (hsz : n ≤ sizeLine) (res : Value) (c₀ : Nat) (hS0 : s.heap.get? S = some { cls := .type "list", data := .seq #[] c₀ })
    (hR : ∀ h' tk acc c ts, (∀ b o, b ∉ [S, z, tu, j1, j2] → s.heap.get? b = some o → h'.get? b = some o) → h'.get? S = some { cls := .type "list", dict := none, data := .seq acc c, slots := #[] } → ts.length = n → ZG as bs lo h' ts →
      acc.toList = ts.map Value.ref → R (.ok (.ret res)) { s with heap := h', toks := tk }) :
    wpAny (model prog w) A.in1 (Builtin.List.listExtendWith (.ref S) (.ref z) res)
      (fun fin s' => match fin with | .done f => R (.ok f) s' | .again c' => c'.quiet = true ∧ codeAny (model prog w) A c' R s') (fun e s' => R (.error e) s') s := by
  have hSz : S ≠ z := fun e => hS (by simp [e])
  have hT : s.TypeIs (.ref z) "zip" := ⟨_, q.kz, rfl⟩
  unfold Builtin.List.listExtendWith
  refine wpAny_bind (wpAny_typeOf (T := "zip") hT ?_)
  have h1 : Builtin.List.listSameRef (.ref S) (.ref z) = false := by simp [Builtin.List.listSameRef, hSz]
  have h2 : (Value.type "zip" == Value.type "list") = false := by decide
  have h3 : (Value.type "zip" == Value.type "tuple") = false := by decide
  simp only [h1, h2, h3, Bool.or_false, Bool.false_eq_true, if_false]
  refine wpAny_bind ?_
  refine wpAny_pyIter_zip q.kz ?_
  refine wpAny_bind (wpAny_holding (zl_hint hT ?_))
  show wpAny _ A.in1 (rule "list.extend.makes-room" >>= fun _ => Builtin.List.listTouch (.ref S) >>= fun _ => again (.builtin "list.extend.loop" ⟨[.ref S, .ref z, res], []⟩)) _ _ _
  refine wpAny_bind (wpAny_rule ?_)
  refine wpAny_bind ?_
  show wpAny _ _ (updateSeq S (·.push .none) >>= fun _ => updateSeq S (·.pop)) _ _ _
  refine wpAny_bind (wpAny_updateSeq hS0 rfl ?_)
  have hS₂ := Heap.get?_update_self (Obj.mapSeq (·.push Value.none)) hS0 rfl
  refine wpAny_updateSeq (hz := by seq_fits) hS₂ rfl ?_
  have hS₃ := Heap.get?_update_self (Obj.mapSeq (·.pop)) hS₂ rfl
  have oth : ∀ b o, b ≠ S → s.heap.get? b = some o → ((s.heap.update S (Obj.mapSeq (·.push Value.none))).update S (Obj.mapSeq (·.pop))).get? b = some o :=
    fun b o hb e => (Heap.get?_update_other _ _ (Ne.symm hb)).trans ((Heap.get?_update_other _ _ (Ne.symm hb)).trans e)
  have q2 := q.at hS s1 s2 oth
  refine wpAny_pure ⟨plainId_quiet PySem.F.plain_extend_loop _, zl_loop (s := s) (h₁ := s.heap) hh q.D hS s1 s2 hlo hn hsz res (fun h' tk acc c ts hk => hR h' tk acc c ts hk) n 0 _ _ _ #[] [] (Nat.sub_zero _) (Nat.zero_le _) q2.st q2.i1 q2.i2 q2.r1 q2.r2 (fun b o hb e => oth b o (fun z => hb (by simp [z])) e) hS₃ rfl rfl
    ⟨List.Pairwise.nil, (fun _ ha => nomatch ha), (fun j a hj => by simp at hj)⟩ (by simpa using hle)⟩
theorem zl_init {S : Addr} {lo n : Nat} (hh : A.handled = none) (q : ZNew s.heap c1 c2 z ti tu j1 j2 a1 a2 as bs) (hS : S ∉ [z, ti, tu, j1, j2]) (s1 : a1 ≠ S) (s2 : a2 ≠ S) (hlo : ∀ b ∈ [S, z, ti, tu, j1, j2], b < lo) (hle : lo ≤ s.heap.objs.size) (hn : n = min as.size bs.size) (hsz : n ≤ sizeLine) (hS0 : s.heap.get? S = some { cls := .type "list", data := .seq #[] })
    (hR : ∀ h' tk acc c ts, (∀ b o, b ∉ [S, z, tu, j1, j2] → s.heap.get? b = some o → h'.get? b = some o) → h'.get? S = some { cls := .type "list", dict := none, data := .seq acc c, slots := #[] } → ts.length = n → ZG as bs lo h' ts →
      acc.toList = ts.map Value.ref → R (.ok (.ret .none)) { s with heap := h', toks := tk }) :
    wpAny (model prog w) A.in1 (Builtin.«list.__init__» ⟨[.ref S, .ref z], []⟩)
      (fun fin s' => match fin with | .done f => R (.ok f) s' | .again c' => c'.quiet = true ∧ codeAny (model prog w) A c' R s') (fun e s' => R (.error e) s') s := by
  show wpAny _ _ (do let old ← Builtin.List.listItems (.ref S); Builtin.List.listUpdate (.ref S) (fun _ => #[]); letGo old.toList.reverse; Builtin.List.listExtendWith (.ref S) (.ref z) .none) _ _ s
  refine wpAny_bind ?_
  unfold Builtin.List.listItems
  refine wpAny_bind (wpAny_seqItems hS0 rfl (wpAny_pure ?_))
  show wpAny _ _ (updateSeq S (fun _ => #[]) >>= fun _ => letGo (#[] : Array Value).toList.reverse >>= fun _ => Builtin.List.listExtendWith (.ref S) (.ref z) .none) _ _ s
  refine wpAny_bind (wpAny_updateSeq hS0 rfl ?_)
  have hS₂ := Heap.get?_update_self (Obj.mapSeq (fun _ => (#[] : Array Value))) hS0 rfl
  have oth : ∀ b o, b ≠ S → s.heap.get? b = some o → (s.heap.update S (Obj.mapSeq (fun _ => (#[] : Array Value)))).get? b = some o :=
    fun b o hb e => (Heap.get?_update_other _ _ (Ne.symm hb)).trans e
  refine wpAny_bind (wpAny_letGo ?_)
  refine zl_extend (lo := lo) hh (q.at hS s1 s2 oth) hS s1 s2 hlo (by simpa using hle) hn hsz .none _ hS₂ fun h' tk acc c ts hk hS' hl hG hacc => ?_
  exact hR h' tk acc c ts (fun b o hb e => hk b o hb (oth b o (fun z => hb (by simp [z])) e)) hS' hl hG hacc
theorem zl_call {Q : Value → Shared → Prop} {n : Nat} (hh : A.handled = none) (q : ZNew s.heap c1 c2 z ti tu j1 j2 a1 a2 as bs) (hin : ∀ b ∈ [z, ti, tu, j1, j2], b < s.heap.objs.size) (s1 : a1 < s.heap.objs.size) (s2 : a2 < s.heap.objs.size) (hn : n = min as.size bs.size) (hsz : n ≤ sizeLine)
    (hQ : ∀ h' tk acc c ts, (∀ b o, b ∉ [z, tu, j1, j2] → s.heap.get? b = some o → h'.get? b = some o) → h'.get? s.heap.objs.size = some { cls := .type "list", dict := none, data := .seq acc c, slots := #[] } → ts.length = n → ZG as bs (s.heap.objs.size + 1) h' ts →
      acc.toList = ts.map Value.ref → Q (.ref s.heap.objs.size) { s with heap := h', toks := tk }) :
    wpAny (model prog w) A (call (.type "list") [.ref z]) Q E s := by
  refine callType_codes (Q₁ := fun obj s₁ => obj = .ref s.heap.objs.size ∧ s₁ = { s with heap := s.heap.push { cls := .type "list", data := .seq #[] } }) PySem.F.called_list (PySem.F.typeCall_list_1 _) PySem.F.entry_list_init
    (code_list_new _ ⟨rfl, rfl⟩) fun obj s₁ h₁ => ?_
  obtain ⟨rfl, rfl⟩ := h₁
  have hS : (s.heap.push { cls := .type "list", data := .seq #[] }).get? s.heap.objs.size = some { cls := .type "list", data := .seq #[] } := Heap.get?_push_size _ rfl
  have hSz : s.heap.objs.size ∉ [z, ti, tu, j1, j2] := fun hm => Nat.lt_irrefl _ (hin _ hm)
  have q2 : ZNew (s.heap.push { cls := .type "list", data := .seq #[] }) c1 c2 z ti tu j1 j2 a1 a2 as bs := q.at hSz (Nat.ne_of_lt s1) (Nat.ne_of_lt s2) (fun b o _ e => Heap.get?_push_of_some _ e)
  refine ⟨⟨_, hS, rfl⟩, PySem.F.args_list_init_2 _ _, zl_init (lo := s.heap.objs.size + 1) (A := A.in1) hh q2 hSz (Nat.ne_of_lt s1) (Nat.ne_of_lt s2) (fun b hb => ?_) (by simp [Heap.size_push]) hn hsz hS (fun h' tk acc c ts hk hS' hl hG hacc => ?_)⟩
  · rcases List.mem_cons.mp hb with e | hb
    · rw [e]; exact Nat.lt_succ_self _
    · exact Nat.lt_succ_of_lt (hin b hb)
  · exact ⟨rfl, hQ h' tk acc c ts (fun b o hb e => hk b o (fun hm => by
      rcases List.mem_cons.mp hm with e' | hm
      · exact Nat.lt_irrefl _ (e' ▸ Heap.lt_size e)
      · exact hb hm) (Heap.get?_push_of_some _ e)) hS' hl hG hacc⟩
end
/-! ### as an expression -/
theorem line_1000 : (1000 : Nat) ≤ sizeLine := by decide
def putP : Hp → List Addr → List (V × V) → Hp
  | H, a :: as, p :: ps => putP (upd H a (.tup [p.1, p.2])) as ps
  | H, _, _ => H
theorem putP_off {b : Addr} : ∀ (as : List Addr) (ps : List (V × V)) (H : Hp), b ∉ as → putP H as ps b = H b
  | [], _, _, _ => rfl
  | _ :: _, [], _, _ => rfl
  | a :: as, p :: ps, H, h => by
    show putP (upd H a (.tup [p.1, p.2])) as ps b = H b
    rw [putP_off as ps _ (fun z => h (List.mem_cons_of_mem _ z)), upd_ne (fun z => h (by rw [z]; exact List.mem_cons_self))]
theorem putP_at : ∀ (as : List Addr) (ps : List (V × V)) (H : Hp), as.length = ps.length → as.Nodup → Paired (fun (t : Addr) (p : V × V) => putP H as ps t = some (.tup [p.1, p.2])) as ps
  | [], [], _, _, _ => .nil
  | [], _ :: _, _, h, _ => by cases h
  | _ :: _, [], _, h, _ => by cases h
  | a :: as, p :: ps, H, h, hn => by
    have hn' := List.nodup_cons.mp hn
    have ih := putP_at as ps (upd H a (.tup [p.1, p.2])) (Nat.succ.inj h) hn'.2
    refine .cons ?_ ih
    show putP (upd H a (.tup [p.1, p.2])) as ps a = some (.tup [p.1, p.2])
    rw [putP_off as ps _ hn'.1, upd_same]
theorem putP_ext {L : Lnk} {m : Hd} {ρ : List Addr} : ∀ (as : List Addr) (ps : List (V × V)) (H : Hp), Sim L H ρ m → (∀ t ∈ as, H t = none) → as.Nodup → Ext H ρ (putP H as ps) ρ ∧ Sim L (putP H as ps) ρ m
  | [], _, H, S, _, _ => ⟨Ext.refl _ _, S⟩
  | _ :: _, [], H, S, _, _ => ⟨Ext.refl _ _, S⟩
  | a :: as, p :: ps, H, S, hn, nd => by
    have nd' := List.nodup_cons.mp nd
    have h0 := hn a List.mem_cons_self
    obtain ⟨x, S'⟩ := putP_ext as ps (upd H a (.tup [p.1, p.2])) (S.laid h0) (fun t ht => by rw [upd_ne (fun e => nd'.1 (by rw [← e]; exact ht))]; exact hn t (List.mem_cons_of_mem _ ht)) nd'.2
    exact ⟨(Ext.laid h0).trans x, S'⟩
section
variable {X : Cx} {L : Lnk}
theorem rvl_pairs {K : PySem.W.Frag} {H H' : Hp} {ρ : List Addr} (x : Ext H ρ H' ρ) : ∀ {ts : List Addr} {xs ys : List D} {vs ws : List V}, RvL K H ρ xs vs → RvL K H ρ ys ws → Paired (fun (t : Addr) (p : V × V) => H' t = some (.tup [p.1, p.2])) ts (vs.zip ws) → RvL K H' ρ (zipD xs ys) (ts.map V.ref)
  | ts, [], ys, vs, ws, h1, h2, p => by
    unfold RvL at h1; subst h1
    cases p
    exact rvl_nil
  | ts, x0 :: xs, [], vs, ws, h1, h2, p => by
    unfold RvL at h2; subst h2
    rw [List.zip_nil_right] at p
    cases p
    exact rvl_nil
  | ts, x0 :: xs, y0 :: ys, vs, ws, h1, h2, p => by
    unfold RvL at h1 h2
    obtain ⟨v, vs', rfl, r1, z1⟩ := h1
    obtain ⟨w, ws', rfl, r2, z2⟩ := h2
    rw [List.zip_cons_cons] at p
    cases p with
    | cons q p' =>
      refine rvl_cons ?_ (rvl_pairs x z1 z2 p')
      unfold Rv
      exact ⟨_, [v, w], rfl, q, rvl_cons (r1.ext x) (rvl_cons (r2.ext x) rvl_nil)⟩
theorem pairs_laid {pins : List (Addr × Obj)} {σ : L2.St} {H : Hp} {s : Shared} {h' : Heap} {tk : Nat} {vs ws : List V} {us us' : List Value} {acc : Array Value} {c : Nat} {ts : List Addr} {T : Addr} (I : Inv X pins σ H s) (rv : Vals vs us) (rw' : Vals ws us') (hT : s.heap.objs.size ≤ T) (hl0 : ts.length ≤ sizeLine)
    (hk : ∀ b o, s.heap.get? b = some o → h'.get? b = some o) (hS : h'.get? T = some { cls := .type "list", dict := none, data := .seq acc c, slots := #[] }) (hl : ts.length = (vs.zip ws).length) (hG : ZG us.toArray us'.toArray (T + 1) h' ts) (hacc : acc.toList = ts.map Value.ref) :
    T ∉ ts ∧ ts.Nodup ∧ H T = none ∧ (∀ t ∈ ts, H t = none) ∧ Inv X pins σ (upd (putP H ts (vs.zip ws)) T (.lst (ts.map V.ref))) { s with heap := h', toks := tk } := by
  have hTn : T ∉ ts := fun z => Nat.lt_irrefl _ (hG.above _ z)
  have nd : ts.Nodup := List.Pairwise.imp (fun {a b} (h : a < b) => Nat.ne_of_lt h) hG.rise
  have new : ∀ t ∈ ts, H t = none := fun t ht => I.hok.fresh (Nat.le_trans hT (Nat.le_of_lt (hG.above t ht)))
  have newT : H T = none := I.hok.fresh hT
  have atP := putP_at ts (vs.zip ws) H hl nd
  have low : ∀ b o, s.heap.get? b = some o → b ∉ ts ∧ b ≠ T := fun b o e => ⟨fun z => absurd (Heap.lt_size e) (Nat.not_lt.mpr (Nat.le_trans hT (Nat.le_of_lt (hG.above b z)))), fun z => absurd (Heap.lt_size e) (Nat.not_lt.mpr (z ▸ hT))⟩
  have off : ∀ b, b ∉ ts → b ≠ T → (upd (putP H ts (vs.zip ws)) T (.lst (ts.map V.ref))) b = H b := fun b h1 h2 => by rw [upd_ne h2, putP_off ts _ _ h1]
  have kp : ∀ b u, H b = some u → (upd (putP H ts (vs.zip ws)) T (.lst (ts.map V.ref))) b = some u := fun b u e => by
    rw [off b (fun z => by rw [new b z] at e; cases e) (fun z => by rw [z, newT] at e; cases e)]
    exact e
  refine ⟨hTn, nd, newT, new, ?_⟩
  refine I.call' (ch := []) rfl ⟨fun b o q _ _ _ => hk b o q, fun b o q _ _ _ => ⟨o.slots, hk b o q⟩, fun b o q n _ => ?_, fun b o q _ => ⟨o, hk b o q⟩, fun b xs q => kp b _ q, fun b o u q => kp b _ q, fun b ps q => ⟨#[], by rw [kp b _ q]; simp⟩⟩ (fun b u q => ?_) I.bare fun b z => by simp at z
  · obtain ⟨z1, z2⟩ := low b o q
    rw [off b z1 z2]
    exact n
  · by_cases hb2 : b = T
    · subst hb2
      rw [upd_same] at q
      cases q
      refine ⟨by rw [List.length_map]; exact hl0, acc.toList, c, by rw [hacc]; exact LiI.vals_refs ts, ?_⟩
      rw [Array.toArray_toList]
      exact hS
    · by_cases hb : b ∈ ts
      · obtain ⟨j, p, e1, e2, e3⟩ := LiI.paired_ix atP hb
        rw [upd_ne hb2, e3] at q
        cases q
        obtain ⟨x, y, g1, g2, g3⟩ := hG.pairs j b e1
        rw [List.getElem?_zip_eq_some] at e2
        obtain ⟨u1, k1, m1⟩ := rv.get e2.1
        obtain ⟨u2, k2, m2⟩ := rw'.get e2.2
        have f1 : x = u1 := by simpa [k1] using g1.symm
        have f2 : y = u2 := by simpa [k2] using g2.symm
        subst f1 f2
        exact ⟨by show 2 ≤ sizeLine; decide, [x, y], .cons m1 (.cons m2 .nil), ⟨_, g3, rfl, _, rfl⟩⟩
      · rw [off b hb hb2] at q
        exact (I.hok b u q).stay (fun d v _ y => hk d v y) (fun d y => kp d _ y) fun d xs y => kp d _ y
/-- list(zip(e, e2)) -/
theorem de_lw {e e2 : Expr} {f f2 : ME} {p p2 pos pos2 : Pos} (b : Bool) (hK : L.K = X.K) (hc : X.calm = true) (hgl : Gl X "list") (hml : X.mg "list" = none) (hg : Gl X "zip") (hm : X.mg "zip" = none) (hs : nostar e = true) (hs2 : nostar e2 = true) (he : PE X e (tE L f)) (he2 : PE X e2 (tE L f2)) :
    PE X (.Call (.Name "list" p) [.Call (.Name "zip" p2) [e, e2] [] pos2] [] pos) (tE L fun s m => (f s m).bind fun d m1 => (f2 s m1).bind fun e m2 => (optB (sq m2 d) m2).bind fun xs m3 => (optB (sq m3 e) m3).bind fun ys m4 =>
      ifs (decide (xs.length ≤ 1000) && decide (ys.length ≤ 1000)) (mkL b (zipD xs ys) m4)) := by
  refine ⟨fun pins s σ H Q I ⟨ρ, m, sd, S, E, o⟩ => ?_⟩
  have ha := da_cons hs he (da_cons hs2 he2 (da_nil (L := L) (X := X)))
  refine Call_ (ld_blt I hgl hml PyProof.Rows.boot_list (PyProof.Rows.callWith_type1 ?_ (star_cons (e := .Call (.Name "zip" p2) [e, e2] [] pos2) rfl) rfl))
  rw [star_cons (e := .Call (.Name "zip" p2) [e, e2] [] pos2) rfl]
  show wpAny _ _ (spliced ((false, eval (.Call (.Name "zip" p2) [e, e2] [] pos2) X.env) :: backTo pos (starEach [] X.env))) _ _ s
  refine Calls.spliced_cons ?_
  refine Call_ (ld_blt I hg hm PyProof.Rows.boot_zip (PyProof.Rows.callWith_type1 (thn (ha.run pos2 pins s σ H (fun vs H1 => ∃ x y ρ1 m1 d e xs ys, vs = [x, y] ∧ Sim L H1 ρ1 m1 ∧ Rv L.K H1 ρ1 d x ∧ Rv L.K H1 ρ1 e y ∧ sq m1 d = some xs ∧ sq m1 e = some ys ∧ xs.length ≤ 1000 ∧ ys.length ≤ 1000 ∧ Out L H1 ρ1 Q (mkL b (zipD xs ys) m1)) I ?_)
    fun us s1 ⟨vs, H1, I1, r1, x, y, ρ1, m1, d, e, xs, ys, ev, S1, rx, ry, hq, hq2, lx, ly, q⟩ => ?_) (star_cons hs) (by rw [star_cons hs2]; rfl)))
  · refine tA_then (k := fun _ ds m2 => match ds with | [d, e] => (optB (sq m2 d) m2).bind fun xs m3 => (optB (sq m3 e) m3).bind fun ys m4 => ifs (decide (xs.length ≤ 1000) && decide (ys.length ≤ 1000)) (mkL b (zipD xs ys) m4) | _ => R.no) S E (by simpa only [R.assoc, R.bind_ok] using o) fun vs H1 ρ1 ds m1 x1 S1 E1 rs o1 => ?_
    split at o1
    next d e =>
      obtain ⟨x, y, rfl, rx, ry⟩ := rvl2 rs
      obtain ⟨xs, hq, o1⟩ := (OutG.bind o1).optB
      have o1 := o1.here S1
      obtain ⟨ys, hq2, o1⟩ := (OutG.bind o1).optB
      have o1 := o1.here S1
      obtain ⟨hc, o1⟩ := OutG.ifs o1
      simp only [Bool.and_eq_true, decide_eq_true_eq] at hc
      exact ⟨x, y, ρ1, m1, d, e, xs, ys, rfl, S1, rx, ry, hq, hq2, hc.1, hc.2, o1⟩
    next => exact o1.elim
  · subst ev
    obtain ⟨c, a, ws, rfl, h1, h2⟩ := sq_sk (X := X) hK S1 rx hq
    obtain ⟨c', a', ws', rfl, h1', h2'⟩ := sq_sk (X := X) hK S1 ry hq2
    obtain ⟨u, u', rfl, ru, ru'⟩ := vals2 r1
    cases ru
    cases ru'
    obtain ⟨its, rv, sq1⟩ := inv_sk I1 h1
    obtain ⟨its', rv', sq2⟩ := inv_sk I1 h1'
    have al := seq_lt sq1
    have al' := seq_lt sq2
    have lw := h2.len
    have lw' := h2'.len
    have li := rv.length
    have li' := rv'.length
    refine zip_begins2 (c.begins a its.toArray) (c'.begins a' its'.toArray) sq1 sq2 fun g hz hti htu hi1 hi2 hsz hk => ?_
    refine Calls.spliced_nil ?_
    have gs : g.objs.size = s1.heap.objs.size + 5 := hsz
    have Zn : ZNew g c c' (s1.heap.objs.size + 4) (s1.heap.objs.size + 2) (s1.heap.objs.size + 3) s1.heap.objs.size (s1.heap.objs.size + 1) a a' its.toArray its'.toArray :=
      ⟨⟨by simp, ne_all al (ks := [4, 2, 3, 0, 1]), ne_all al' (ks := [4, 2, 3, 0, 1])⟩, hz, hti, ⟨_, _, htu⟩, Sk.itr_of hi1, Sk.itr_of hi2, Sk.seq_at sq1 fun o e => hk a o e, Sk.seq_at sq2 fun o e => hk a' o e⟩
    refine zl_call (s := { s1 with heap := g }) (n := min its.length its'.length) (I1.ok.hd hc) Zn (fun b hb => ?_) (Nat.lt_of_lt_of_le al (by rw [gs]; omega)) (Nat.lt_of_lt_of_le al' (by rw [gs]; omega)) (by simp) (Nat.le_trans (by omega) line_1000) fun h' tk acc cc ts hk' hS' hl hG hacc => ?_
    · show b < g.objs.size
      rw [gs]
      rcases (by simpa using hb : b = s1.heap.objs.size + 4 ∨ b = s1.heap.objs.size + 2 ∨ b = s1.heap.objs.size + 3 ∨ b = s1.heap.objs.size ∨ b = s1.heap.objs.size + 1) with rfl | rfl | rfl | rfl | rfl <;> first | exact Nat.lt_add_of_pos_right (by decide) | exact Nat.add_lt_add_left (m := 5) (show 4 < 5 by decide) _ | exact Nat.add_lt_add_left (show 2 < 5 by decide) _ | exact Nat.add_lt_add_left (show 3 < 5 by decide) _ | exact Nat.add_lt_add_left (show 1 < 5 by decide) _
    have keep : ∀ b o, s1.heap.get? b = some o → h'.get? b = some o := fun b o e => hk' b o (ne_all (Heap.lt_size e) (ks := [4, 3, 0, 1])) (hk b o e)
    have hlz : ts.length = (ws.zip ws').length := by rw [hl, List.length_zip]; omega
    obtain ⟨t1, t2, t3, t4, J⟩ := pairs_laid (tk := tk) I1 rv rv' (by show s1.heap.objs.size ≤ g.objs.size; rw [gs]; omega) (by rw [hl]; exact Nat.le_trans (by omega) line_1000) keep hS' hlz hG hacc
    obtain ⟨x2, S2⟩ := putP_ext ts (ws.zip ws') H1 S1 t4 t2
    have rz := rvl_pairs x2 h2 h2' (putP_at ts (ws.zip ws') H1 hlz t2)
    have q2 : Out L (putP H1 ts (ws.zip ws')) ρ1 Q (mkL b (zipD xs ys) m1) := OutG.base q x2
    obtain ⟨Q', hQ, fin⟩ := mk_anyv (X := X) (pins := pins) (σ := σ) S2 q2
    exact fin _ _ ⟨.ref g.objs.size, _, J, rfl, hQ _ _ rz (by rw [putP_off ts _ _ t1]; exact t3)⟩
end
end Dx
/-! DxI: statements -/
namespace Dx
open PySem PySem.Spec PyProof.Rows L2
section
variable {L : Lnk} {X : Cx}
theorem PTs.weak {e : List Expr} {t t' : TT} (h : PTs X e t) (w : ∀ σ H Q, t' σ H Q → t σ H Q) : PTs X e t' := ⟨fun pins s σ H Q I q => h.run pins s σ H Q I (w σ H Q q)⟩
theorem dts_nil : PTs X [] (tT L fun _ m => .ok true m) := PTs.weak pts_nil fun σ H Q ⟨ρ, m, s, S, E, o⟩ => o.here S
theorem dts_one {c : Expr} {f : SD → Hd → R Bool} (h : PT X c (tT L f)) : PTs X [c] (tT L f) := pts_one h

/-- where a statement leads, against what is wanted -/
def FlP (L : Lnk) (D : Ends) : Fl → Hd → Hp → List Addr → Prop := fun f _ H ρ => match f with
  | .next s => ∀ σ, EnvR L H ρ s σ → D.nx σ H
  | .ret d => ∀ v, Rv L.K H ρ d v → D.rt v H
abbrev MS := SD → Hd → R Fl
def tS (L : Lnk) (f : MS) : TS := fun D σ H => ∃ ρ m s, Sim L H ρ m ∧ EnvR L H ρ s σ ∧ OutG L H ρ (FlP L D) (f s m)
theorem PS.weak {st : Stmt} {t t' : TS} (h : PS X st t) (w : ∀ D σ H, t' D σ H → t D σ H) : PS X st t' := ⟨fun pins s σ H D I q => h.run pins s σ H D I (w D σ H q)⟩
theorem PSs.weak {st : List Stmt} {t t' : TS} (h : PSs X st t) (w : ∀ D σ H, t' D σ H → t D σ H) : PSs X st t' := ⟨fun pins s σ H D I q => h.run pins s σ H D I (w D σ H q)⟩

/-! ### blocks -/
theorem ds_nil : PSs X [] (tS L fun s m => .ok (.next s) m) := PSs.weak pss_nil fun D σ H ⟨ρ, m, s, S, E, o⟩ => o.here S σ E
theorem ds_cons {st : Stmt} {rest : List Stmt} {f g : MS} (h1 : PS X st (tS L f)) (h2 : PSs X rest (tS L g)) : PSs X (st :: rest) (tS L fun s m => (f s m).bind (seqD g)) := by
  refine PSs.weak (pss_cons h1 h2) fun D σ H ⟨ρ, m, s, S, E, o⟩ => ?_
  refine ⟨ρ, m, s, S, E, o.bind.imp fun fl m1 H1 ρ1 x1 S1 o1 => ?_⟩
  cases fl with
  | next s1 => exact fun σ1 E1 => ⟨ρ1, m1, s1, S1, E1, o1⟩
  | ret d => exact o1.here S1
theorem ds_pass {pos : Pos} : PS X (.Pass pos) (tS L fun s m => .ok (.next s) m) := PS.weak ps_pass fun D σ H ⟨ρ, m, s, S, E, o⟩ => o.here S σ E
theorem ds_doc {x k pos pos'} : PS X (.Expr (.Constant (.str x) k pos) pos') (tS L fun s m => .ok (.next s) m) := PS.weak ps_doc fun D σ H ⟨ρ, m, s, S, E, o⟩ => o.here S σ E
theorem ds_never {st : Stmt} : PS X st (tS L fun _ _ => .no) := PS.weak ps_never fun D σ H ⟨ρ, m, s, S, E, o⟩ => o
def isComp : Expr → Bool
  | .ListComp .. => true
  | .SetComp .. => true
  | .DictComp .. => true
  | _ => false
theorem swaps_no {e : Expr} {t : Option Expr} {l : Nat} {env : Env} (h : isComp e = false) : swapsWith e t l env = pure false := by
  cases e <;> first | rfl | cases h
theorem sole_no {e t : Expr} {l : Nat} {env : Env} (h : isComp e = false) : swapsWithSole [t] e l env = pure false := by
  cases e <;> first | rfl | cases h
theorem ds_exp {e : Expr} {f : ME} {pos : Pos} (h : isComp e = false) (he : PE X e (tE L f)) : PS X (.Expr e pos) (tS L fun s m => (f s m).bind fun _ m1 => .ok (.next s) m1) := by
  refine PS.weak (ps_expr he (swaps_no h)) fun D σ H ⟨ρ, m, s, S, E, o⟩ => ?_
  exact tE_then (k := fun s _ m1 => R.ok (Fl.next s) m1) S E o fun x H1 ρ1 d m1 x1 S1 E1 rx o1 => o1.here S1 σ E1
theorem ds_ret {e : Expr} {f : ME} {pos : Pos} (he : PE X e (tE L f)) : PS X (.Return (some e) pos) (tS L fun s m => (f s m).bind fun d m1 => .ok (.ret d) m1) := by
  refine PS.weak (ps_ret he) fun D σ H ⟨ρ, m, s, S, E, o⟩ => ?_
  exact tE_then (k := fun s d m1 => R.ok (Fl.ret d) m1) S E o fun x H1 ρ1 d m1 x1 S1 E1 rx o1 => o1.here S1 x rx
theorem ds_if {c : Expr} {a b : List Stmt} {t : SD → Hd → R Bool} {f g : MS} {pos : Pos} (hc : PT X c (tT L t)) (ha : PSs X a (tS L f)) (hb : PSs X b (tS L g)) : PS X (.If c a b pos) (tS L fun s m => (t s m).bind fun k m1 => if k then f s m1 else g s m1) := by
  refine PS.weak (ps_if hc ha hb) fun D σ H ⟨ρ, m, s, S, E, o⟩ => ?_
  refine tT_then (k := fun s k m1 => if k then f s m1 else g s m1) S E o fun k H1 ρ1 m1 x1 S1 E1 o1 => ?_
  cases k with
  | true => exact ⟨ρ1, m1, s, S1, E1, o1⟩
  | false => exact ⟨ρ1, m1, s, S1, E1, o1⟩

/-! ### assignments -/
theorem ds_asg {tg e : Expr} {t : Tg} {f : ME} {pos : Pos} (he : PE X e (tE L f)) (hg : PG X tg (gD L t)) (hs : swapsWithSole [tg] e pos.line X.env = pure false) (hw : swappedStores [tg] e X.env = pure none) (hn : nostar tg = true) :
    PS X (.Assign [tg] e pos) (tS L fun s m => (f s m).bind (asgD t s)) := by
  refine PS.weak (ps_asg he hg hs hw (by rw [each_cons hn] <;> rfl)) fun D σ H ⟨ρ, m, s, S, E, o⟩ => ?_
  refine tE_then (k := asgD t) S E o fun x H1 ρ1 d m1 x1 S1 E1 rx o1 => ?_
  unfold asgD at o1
  cases hb : bindTg t d s with
  | none => rw [hb] at o1; exact o1.elim
  | some s1 =>
    rw [hb] at o1
    exact ⟨ρ1, m1, s, d, s1, S1, E1, rx, hb, fun σ' E' _ => o1.here S1 σ' E'⟩
/-- name = [..] on one line, the name a plain local -/
theorem ds_setlc {i : Nat} {y : Str} {py : Pos} {tg iter elt : Expr} {ifs' : List Expr} {scope : Scope} {own : List (Str × Nat)} {pos spos : Pos} {fi : SD → Hd → R (List D × Gu)} {tgD : Tg} {c : SD → Hd → R Bool} {fe : ME} (b : Bool)
    (hc : X.calm = true) (hN : X.N.Nodup) (hy : X.N[i]? = some y) (hyl : X.env.scope.names.lookup y = some .local)
    (hsw : swapsWith (.ListComp elt [⟨tg, iter, ifs', 0⟩] scope pos) (some (.Name y py)) spos.line X.env = pure true)
    (hi : PI X tg iter (tI L fi)) (ok : BlkOk X.N X.env.scope scope own)
    (hg : ∀ (s : Shared) (H : Hp) (C : Addr) (cl : List (Str × Addr)) (fp : List Addr), PG (X.blk s H scope (compEnvC scope cl C X.env) fp) tg (gD L tgD))
    (ht : ∀ (s : Shared) (H : Hp) (C : Addr) (cl : List (Str × Addr)) (fp : List Addr), PTs (X.blk s H scope (compEnvC scope cl C X.env) fp) ifs' (tT L c))
    (he : ∀ (s : Shared) (H : Hp) (C : Addr) (cl : List (Str × Addr)) (fp : List Addr), PE (X.blk s H scope (compEnvC scope cl C X.env) fp) elt (tE L fe))
    (hs : ∀ x, foldedSetIterable iter X.env x = pure x) (hsl : ∀ j ∈ tgD.slots, j ∈ own.map (·.2)) :
    PS X (.Assign [.Name y py] (.ListComp elt [⟨tg, iter, ifs', 0⟩] scope pos) spos) (tS L fun s m => ((fi s m).bind fun p m1 => ifs (decide (p.1.length ≤ sizeLine)) ((lcGo p.2 (lcStep tgD (wipeD s (own.map (·.2))) c fe) p.1 m1).bind (mkL b))).bind (asgD (.name i) s)) := by
  have base := ps_setLc (py := py) (spos := spos) (pos := pos) hc hN hy hyl hsw hi ok hg ht he hs
  -- the store behind a lock
  refine ⟨fun pins s σ H D I ⟨ρ, m, sd, S, E, o⟩ => ?_⟩
  have h1 : tE L (fun s m => (fi s m).bind fun p m1 => ifs (decide (p.1.length ≤ sizeLine)) ((lcGo p.2 (lcStep tgD (wipeD s (own.map (·.2))) c fe) p.1 m1).bind (mkL b))) σ H fun x H1 => D.nx (σ.set i (some x)) H1 := by
    refine tE_then (k := asgD (.name i)) S E o fun x H1 ρ1 d m1 x1 S1 E1 rx o1 => ?_
    unfold asgD bindTg at o1
    exact o1.here S1 _ (E1.set rx)
  have h2 := lc_run b hc hN hi ok hg ht he hsl h1
  cases b with
  | true => exact base.run pins s σ H D I h2
  | false =>
    refine thn (base.run pins s σ H { D with nx := fun σ' H' => ∃ a u, σ' = σ.set i (some (.ref a)) ∧ H' a = some u ∧ Mut (some u) ∧ ∀ ob, D.nx σ' (upd H' a (.frz ob u)) } I ?_) fun f s' h => ?_
    · show tLc _ _ _ _ _ σ H _
      have w : ∀ v H', QLk (fun x H1 => D.nx (σ.set i (some x)) H1) v H' → (fun x H1 => gName i x σ H1 fun σ' H' => ∃ a u, σ' = σ.set i (some (.ref a)) ∧ H' a = some u ∧ Mut (some u) ∧ ∀ ob, D.nx σ' (upd H' a (.frz ob u))) v H' := by
        rintro v H' ⟨a, u, rfl, e, mu, q⟩
        exact ⟨a, u, rfl, e, mu, q⟩
      -- a reading of a comprehension is monotone in what is wanted of the list
      obtain ⟨ρ', m', s', S', E', o'⟩ := h2
      refine ⟨ρ', m', s', S', E', o'.imp fun p m1 H1 ρ1 x1 S1 g J wk => ?_⟩
      intro D0 hD0
      obtain ⟨W, w0, w1⟩ := g J wk D0 hD0
      refine ⟨W, w0, fun i k H2 hw => ?_⟩
      rcases w1 i k H2 hw with ⟨a1, a2⟩ | a
      · exact .inl ⟨a1, w _ _ a2⟩
      · exact .inr a
    · cases f with
      | next =>
        obtain ⟨σ', H', I', a, u, rfl, e, mu, q⟩ := h
        obtain ⟨ob, I''⟩ := I'.lock e mu
        exact ⟨_, _, I'', q ob⟩
      | ret v => exact h
      | brk => exact h
      | cont => exact h
theorem bind_two {i j : Nat} {ds : List D} {s s1 : SD} (h : bindTg (.tup [.name i, .name j]) (.tup ds) s = some s1) : ∃ d e, ds = [d, e] ∧ s1 = (s.set i (some d)).set j (some e) := by
  unfold bindTg at h
  cases ds with
  | nil => unfold bindTgs at h; cases h
  | cons d ds =>
    unfold bindTgs bindTg at h
    cases ds with
    | nil => unfold bindTgs at h; cases h
    | cons e ds =>
      have h : bindTgs [.name j] (e :: ds) (s.set i (some d)) = some s1 := h
      unfold bindTgs bindTg at h
      cases ds with
      | nil =>
        have h : bindTgs [] [] ((s.set i (some d)).set j (some e)) = some s1 := h
        unfold bindTgs at h
        cases h
        exact ⟨d, e, rfl, rfl⟩
      | cons f ds =>
        have h : bindTgs [] (f :: ds) ((s.set i (some d)).set j (some e)) = some s1 := h
        unfold bindTgs at h
        cases h
/-- a, b = x, y with plain local names -/
theorem ds_par {i j : Nat} {x y : Str} {a b : Expr} {g : SD → Hd → R (List D)} {px py pt pos : Pos} {kt k2 pt2} (hc : X.calm = true) (hN : X.N.Nodup) (hi : X.N[i]? = some x) (hj : X.N[j]? = some y) (hij : i ≠ j)
    (hx : X.env.scope.names.lookup x = some .local) (hy : X.env.scope.names.lookup y = some .local) (ha : PA X [a, b] (tA L g))
    (hw : swappedStores [.Tuple [.Name x px, .Name y py] kt pt] (.Tuple [a, b] k2 pt2) X.env = pure (some [x, y])) :
    PS X (.Assign [.Tuple [.Name x px, .Name y py] kt pt] (.Tuple [a, b] k2 pt2) pos) (tS L fun s m => ((g s m).bind fun ds m1 => ifs (decide (ds.length ≤ sizeLine)) (.ok (.tup ds) m1)).bind (asgD (.tup [.name i, .name j]) s)) := by
  refine PS.weak (ps_par (k2 := k2) (pt2 := pt2) hc hN hi hj hij hx hy ha hw) fun D σ H ⟨ρ, m, s, S, E, o⟩ => ?_
  have o : OutG L H ρ (FlP L D) ((g s m).bind fun ds m1 => (ifs (decide (ds.length ≤ sizeLine)) (R.ok (Dx.D.tup ds) m1)).bind (asgD (.tup [.name i, .name j]) s)) := by
    dsimp only at o
    cases h : g s m with
    | ok ds m1 => rw [h] at o; exact o
    | exc => rw [h] at o; exact o
    | no => rw [h] at o; exact o
  refine tA_then (k := fun s ds m1 => (ifs (decide (ds.length ≤ sizeLine)) (R.ok (Dx.D.tup ds) m1)).bind (asgD (.tup [.name i, .name j]) s)) S E o fun vs H1 ρ1 ds m1 x1 S1 E1 rs o1 => ?_
  cases hd : decide (ds.length ≤ sizeLine) with
  | false => rw [hd] at o1; exact o1.elim
  | true =>
    rw [hd] at o1
    have o1 : OutG L H1 ρ1 (FlP L D) (asgD (.tup [.name i, .name j]) s (Dx.D.tup ds) m1) := o1
    unfold asgD at o1
    cases hb : bindTg (.tup [.name i, .name j]) (Dx.D.tup ds) s with
    | none => rw [hb] at o1; exact o1.elim
    | some s1 =>
      rw [hb] at o1
      obtain ⟨d, e, rfl, rfl⟩ := bind_two hb
      obtain ⟨v, w, rfl, r1, r2⟩ := rvl2 rs
      exact ⟨v, w, rfl, o1.here S1 _ ((E1.set r1).set r2)⟩
/-- o[i] = e -/
theorem ds_setix {o i e : Expr} {fo fi fe : ME} {p pos : Pos} (hu : X.A.units + 100 < cLine) (hp : plainIx i = true) (hcm : isComp e = false) (ho : PE X o (tE L fo)) (hi : PE X i (tE L fi)) (he : PE X e (tE L fe)) :
    PS X (.Assign [.Subscript o i p] e pos) (tS L fun s m => (fe s m).bind fun v m1 => (fo s m1).bind fun x m2 => (fi s m2).bind fun y m3 => (setD x y v m3).bind fun _ m4 => .ok (.next s) m4) := by
  have hg : PG X (.Subscript o i p) (gSub (tE L fo) (tE L fi) (rSet L)) := pg_sub ho hi (set_D hu) (fun v => by
    cases i
    case Slice lo hi st q => cases st <;> first | rfl | cases hp
    all_goals rfl)
  refine PS.weak (ps_asg he hg (sole_no hcm) (by rfl) (by rfl)) fun D σ H ⟨ρ, m, s, S, E, w⟩ => ?_
  refine tE_then (k := fun s v m1 => (fo s m1).bind fun x m2 => (fi s m2).bind fun y m3 => (setD x y v m3).bind fun _ m4 => R.ok (Fl.next s) m4) S E w fun v H1 ρ1 dv m1 x1 S1 E1 rv o1 => ?_
  refine tE_then (k := fun s x m2 => (fi s m2).bind fun y m3 => (setD x y dv m3).bind fun _ m4 => R.ok (Fl.next s) m4) S1 E1 o1 fun x H2 ρ2 dx m2 x2 S2 E2 rx o2 => ?_
  refine tE_then (k := fun s y m3 => (setD dx y dv m3).bind fun _ m4 => R.ok (Fl.next s) m4) S2 E2 o2 fun y H3 ρ3 dy m3 x3 S3 E3 ry o3 => ?_
  refine ⟨ρ3, m3, dx, dy, dv, S3, rx.ext x3, ry, (rv.ext x2).ext x3, o3.bind.imp fun _ m4 H4 ρ4 x4 S4 o4 => o4.here S4 σ (E3.ext x4)⟩

/-! ### loops -/
def notSetI : Expr → Bool := notSet
theorem folded_ok {e : Expr} {env : Env} (h : notSet e = true) (x : Value) : foldedSetIterable e env x = pure x := by
  cases e <;> first | rfl | cases h
theorem ds_for {tg iter : Expr} {body : List Stmt} {fi : SD → Hd → R (List D × Gu)} {t : Tg} {f : MS} {pos : Pos} (hp : PassesOwn (model X.prog X.w) X.A X.env X.xe) (hc : X.calm = true) (hi : PI X tg iter (tI L fi)) (hg : PG X tg (gD L t)) (hb : PSs X body (tS L f)) (hs : notSet iter = true) :
    PS X (.For tg iter body [] pos) (tS L fun s m => (fi s m).bind fun p m1 => frGo p.2 t f p.1 s m1) := by
  refine PS.weak (ps_for hp hc hi hg hb (folded_ok hs)) fun D σ H ⟨ρ, m, s, S, E, o⟩ => ?_
  refine tI_then (k := fun s p m1 => frGo p.2 t f p.1 s m1) S E o fun p H1 ρ1 m1 x1 S1 E1 o1 J w => ?_
  obtain ⟨xs, g⟩ := p
  refine ⟨fun i k σ H => i + k = xs.length ∧ ∃ ρ m s, Ext H1 ρ1 H ρ ∧ Sim L H ρ m ∧ EnvR L H ρ s σ ∧ OutG L H ρ (FlP L D) (frGo g t f (xs.drop i) s m), ⟨xs.length, by omega, ρ1, m1, s, Ext.refl _ _, S1, E1, o1⟩, fun i k σ H ⟨e1, ρ2, m2, s2, x2, S2, E2, o2⟩ => ?_⟩
  by_cases hlt : i < xs.length
  · rw [List.drop_eq_getElem_cons hlt] at o2
    unfold frGo at o2
    obtain ⟨hgu, o2⟩ := o2.ifs
    refine .inr ⟨w.goes i _ ρ2 m2 hlt x2 S2 hgu, fun σ' H' => ∃ k', k' < k ∧ (i + 1 + k' = xs.length ∧ ∃ ρ m s, Ext H1 ρ1 H' ρ ∧ Sim L H' ρ m ∧ EnvR L H' ρ s σ' ∧ OutG L H' ρ (FlP L D) (frGo g t f (xs.drop (i + 1)) s m)), fun σ' H' h => h, fun x H' hy => ?_⟩
    obtain ⟨d, hd, x4, S4, rd⟩ := w.yields i _ ρ2 m2 x H' hlt x2 S2 hgu hy
    have hd : d = xs[i] := by rw [List.getElem?_eq_getElem hlt] at hd; exact (Option.some.inj hd).symm
    subst hd
    unfold frTurn at o2
    cases hb' : bindTg t xs[i] s2 with
    | none => rw [hb'] at o2; exact o2.elim
    | some s3 =>
      rw [hb'] at o2
      simp only [optB_some, R.bind_ok] at o2
      refine ⟨ρ2, m2, s2, xs[i], s3, S4, E2.ext x4, rd, hb', fun σ' E5 _ => ⟨ρ2, m2, s3, S4, E5, ?_⟩⟩
      refine (OutG.base o2 x4).bind.imp fun fl m5 H5 ρ5 x5 S5 o5 => ?_
      cases fl with
      | next s5 => exact fun σ5 E6 => ⟨k - 1, by omega, by omega, ρ5, m5, s5, (x2.trans x4).trans x5, S5, E6, o5⟩
      | ret d => exact o5.here S5
  · have hi' : i = xs.length := by omega
    subst hi'
    rw [List.drop_length] at o2
    unfold frGo at o2
    obtain ⟨hgu, o2⟩ := o2.ifs
    exact .inl ⟨w.stops _ ρ2 m2 x2 S2 hgu, o2.here S2 σ E2⟩
theorem ds_while {c : Expr} {body : List Stmt} {t : SD → Hd → R Bool} {f : MS} {pos : Pos} (n : Nat) (hp : PassesOwn (model X.prog X.w) X.A X.env X.xe) (hc : PT X c (tT L t)) (hb : PSs X body (tS L f)) :
    PS X (.While c body [] pos) (tS L fun s m => whGo t f n s m) := by
  refine PS.weak (ps_while hp hc hb) fun D σ H ⟨ρ, m, s, S, E, o⟩ => ?_
  refine ⟨fun k σ H => ∃ ρ m s, Sim L H ρ m ∧ EnvR L H ρ s σ ∧ OutG L H ρ (FlP L D) (whGo t f k s m), ⟨n, ρ, m, s, S, E, o⟩, fun k σ H ⟨ρ1, m1, s1, S1, E1, o1⟩ => ?_⟩
  cases k with
  | zero => exact o1.elim
  | succ k =>
    unfold whGo at o1
    refine tT_then (k := fun s q m1 => whStep f (whGo t f k) s q m1) S1 E1 o1 fun q H2 ρ2 m2 x2 S2 E2 o2 => ?_
    unfold whStep at o2
    cases q with
    | false => exact o2.here S2 σ E2
    | true =>
      simp only [if_true] at o2 ⊢
      refine ⟨fun σ' H' => ∃ k', k' < k + 1 ∧ ∃ ρ m s, Sim L H' ρ m ∧ EnvR L H' ρ s σ' ∧ OutG L H' ρ (FlP L D) (whGo t f k' s m), fun σ' H' h => h, ρ2, m2, s1, S2, E2, ?_⟩
      refine o2.bind.imp fun fl m5 H5 ρ5 x5 S5 o5 => ?_
      cases fl with
      | next s5 => exact fun σ5 E6 => ⟨k, by omega, ρ5, m5, s5, S5, E6, o5⟩
      | ret d => exact o5.here S5
end
end Dx
/-! DxIa: dict comprehensions, slices by a step, changed names -/
namespace Dx
open PySem PySem.Spec PyProof.Rows L2
section
variable {L : Lnk} {X : Cx}
theorem fz_split {f : ME} {σ : VS} {H : Hp} {Q : VK} (h : tE L (fun s m => (f s m).bind fzD) σ H Q) : tE L f σ H fun x H1 => QLk Q x H1 ∨ Q x H1 := by
  obtain ⟨ρ, m, sd, S, E, o⟩ := h
  refine tE_then (k := fun _ => fzD) S E o fun x H1 ρ1 d m1 x1 S1 E1 rx o1 => ?_
  unfold fzD at o1
  split at o1
  next n =>
    split at o1
    next xs e1 =>
      obtain ⟨a, vs, ha, rfl, h1, h2⟩ := ref_lst S1 rx e1
      refine .inl ⟨a, _, rfl, h1, trivial, fun ob => ?_⟩
      have x2 : Ext H1 ρ1 (upd H1 a (.frz ob (.lst vs))) ρ1 := Ext.write ha h1 (by simp) (by simp)
      refine o1 _ _ x2 (S1.write ha h1 (by simp) (by simp) ⟨ob, _, upd_same⟩) _ ?_
      unfold Rv
      exact ⟨a, ob, vs, rfl, upd_same, h2.ext x2⟩
    next t kvs e1 =>
      unfold Rv at rx
      obtain ⟨a, ha, rfl⟩ := rx
      rcases S1.ob n a _ ha e1 with ⟨rfl, ps, h1, h2⟩ | ⟨rfl, ps, h1, h2⟩
      · refine .inl ⟨a, _, rfl, h1, trivial, fun ob => ?_⟩
        have x2 : Ext H1 ρ1 (upd H1 a (.frz ob (.dK ps))) ρ1 := Ext.write ha h1 (by simp) (by simp)
        refine o1 _ _ x2 (S1.write ha h1 (by simp) (by simp) ⟨ob, _, upd_same⟩) _ ?_
        unfold Rv
        exact ⟨a, ob, rfl, .inl ⟨rfl, ps, upd_same, RvK.mono x2.pre x2.tup x2.frz h2⟩⟩
      · refine .inl ⟨a, _, rfl, h1, trivial, fun ob => ?_⟩
        have x2 : Ext H1 ρ1 (upd H1 a (.frz ob (.dT ps))) ρ1 := Ext.write ha h1 (by simp) (by simp)
        refine o1 _ _ x2 (S1.write ha h1 (by simp) (by simp) ⟨ob, _, upd_same⟩) _ ?_
        unfold Rv
        exact ⟨a, ob, rfl, .inr ⟨rfl, ps, upd_same, RvT.mono x2.pre x2.tup x2.frz h2⟩⟩
    next => exact o1.elim
  next => exact .inr (out_val o1 S1 rx)

/-! ### dict comprehensions -/
theorem de_dc {t kx vx iter : Expr} {ifs' : List Expr} {scope : Scope} {own : List (Str × Nat)} {pos : Pos} {fi : SD → Hd → R (List D × Gu)} {tgD : Tg} {c : SD → Hd → R Bool} {fk fv : ME} (b : Bool) (hu : X.A.units + 100 < cLine) (hc : X.calm = true) (hN : X.N.Nodup) (hi : PI X t iter (tI L fi)) (ok : BlkOk X.N X.env.scope scope own)
    (hg : ∀ (s : Shared) (H : Hp) (C : Addr) (cl : List (Str × Addr)) (fp : List Addr), PG (X.blk s H scope (compEnvC scope cl C X.env) fp) t (gD L tgD))
    (ht : ∀ (s : Shared) (H : Hp) (C : Addr) (cl : List (Str × Addr)) (fp : List Addr), PTs (X.blk s H scope (compEnvC scope cl C X.env) fp) ifs' (tT L c))
    (hk : ∀ (s : Shared) (H : Hp) (C : Addr) (cl : List (Str × Addr)) (fp : List Addr), PE (X.blk s H scope (compEnvC scope cl C X.env) fp) kx (tE L fk))
    (hv : ∀ (s : Shared) (H : Hp) (C : Addr) (cl : List (Str × Addr)) (fp : List Addr), PE (X.blk s H scope (compEnvC scope cl C X.env) fp) vx (tE L fv))
    (hs : notSet iter = true) (hsl : ∀ i ∈ tgD.slots, i ∈ own.map (·.2)) :
    PE X (.DictComp kx vx [⟨t, iter, ifs', 0⟩] scope pos) (tE L fun s m => (fi s m).bind fun p m1 => ifs (decide (p.1.length ≤ sizeLine)) ((dcGo b p.2 (dcStep tgD (wipeD s (own.map (·.2))) c fk fv) p.1 [] m1).bind (newD b))) :=
  PE.weak (pe_dc2 b (by omega) hc hN hi ok hg ht hk hv (folded_ok hs)) fun σ H Q h => dc_run b hsl h
/-- name = {..} on one line; or told to stay at once -/
theorem ds_setdc {i : Nat} {y : Str} {py : Pos} {t kx vx iter : Expr} {ifs' : List Expr} {scope : Scope} {own : List (Str × Nat)} {pos spos : Pos} {fi : SD → Hd → R (List D × Gu)} {tgD : Tg} {c : SD → Hd → R Bool} {fk fv : ME} (b : Bool) (hu : X.A.units + 100 < cLine)
    (hc : X.calm = true) (hN : X.N.Nodup) (hy : X.N[i]? = some y) (hyl : X.env.scope.names.lookup y = some .local)
    (hsw : swapsWith (.DictComp kx vx [⟨t, iter, ifs', 0⟩] scope pos) (some (.Name y py)) spos.line X.env = pure true)
    (hi : PI X t iter (tI L fi)) (ok : BlkOk X.N X.env.scope scope own)
    (hg : ∀ (s : Shared) (H : Hp) (C : Addr) (cl : List (Str × Addr)) (fp : List Addr), PG (X.blk s H scope (compEnvC scope cl C X.env) fp) t (gD L tgD))
    (ht : ∀ (s : Shared) (H : Hp) (C : Addr) (cl : List (Str × Addr)) (fp : List Addr), PTs (X.blk s H scope (compEnvC scope cl C X.env) fp) ifs' (tT L c))
    (hk : ∀ (s : Shared) (H : Hp) (C : Addr) (cl : List (Str × Addr)) (fp : List Addr), PE (X.blk s H scope (compEnvC scope cl C X.env) fp) kx (tE L fk))
    (hv : ∀ (s : Shared) (H : Hp) (C : Addr) (cl : List (Str × Addr)) (fp : List Addr), PE (X.blk s H scope (compEnvC scope cl C X.env) fp) vx (tE L fv))
    (hs : ∀ x, foldedSetIterable iter X.env x = pure x) (hsl : ∀ j ∈ tgD.slots, j ∈ own.map (·.2)) :
    PS X (.Assign [.Name y py] (.DictComp kx vx [⟨t, iter, ifs', 0⟩] scope pos) spos) (tS L fun s m => ((fi s m).bind fun p m1 => ifs (decide (p.1.length ≤ sizeLine)) ((dcGo b p.2 (dcStep tgD (wipeD s (own.map (·.2))) c fk fv) p.1 [] m1).bind (newD b))).bind (asgD (.name i) s)) ∧
    PS X (.Assign [.Name y py] (.DictComp kx vx [⟨t, iter, ifs', 0⟩] scope pos) spos) (tS L fun s m => (((fi s m).bind fun p m1 => ifs (decide (p.1.length ≤ sizeLine)) ((dcGo b p.2 (dcStep tgD (wipeD s (own.map (·.2))) c fk fv) p.1 [] m1).bind (newD b))).bind fzD).bind (asgD (.name i) s)) := by
  have base := ps_setDc2 (py := py) (spos := spos) (pos := pos) b (by omega) hc hN hy hyl hsw hi ok hg ht hk hv hs
  refine ⟨⟨fun pins s σ H D I ⟨ρ, m, sd, S, E, o⟩ => base.run pins s σ H D I (dc_run b hsl (Q := fun x H1 => gName i x σ H1 D.nx) ?_)⟩, ⟨fun pins s σ H D I ⟨ρ, m, sd, S, E, o⟩ => ?_⟩⟩
  · refine tE_then (k := asgD (.name i)) S E o fun x H1 ρ1 d m1 x1 S1 E1 rx o1 => ?_
    unfold asgD bindTg at o1
    exact o1.here S1 _ (E1.set rx)
  · have h1 : tE L (fun s m => ((fi s m).bind fun p m1 => ifs (decide (p.1.length ≤ sizeLine)) ((dcGo b p.2 (dcStep tgD (wipeD s (own.map (·.2))) c fk fv) p.1 [] m1).bind (newD b))).bind fzD) σ H fun x H1 => D.nx (σ.set i (some x)) H1 := by
      refine tE_then (k := asgD (.name i)) S E o fun x H1 ρ1 d m1 x1 S1 E1 rx o1 => ?_
      unfold asgD bindTg at o1
      exact o1.here S1 _ (E1.set rx)
    have h2 := fz_split h1
    refine thn (base.run pins s σ H { D with nx := fun σ' H' => (∃ a u, σ' = σ.set i (some (.ref a)) ∧ H' a = some u ∧ Mut (some u) ∧ ∀ ob, D.nx σ' (upd H' a (.frz ob u))) ∨ D.nx σ' H' } I (dc_run b hsl (Q := fun x H1 => gName i x σ H1 _) ?_)) fun f s' h => ?_
    · obtain ⟨ρ', m', s', S', E', o'⟩ := h2
      refine ⟨ρ', m', s', S', E', o'.imp fun d m1 H1 ρ1 x1 S1 g v rv => ?_⟩
      rcases g v rv with ⟨a, u, rfl, e, mu, q⟩ | q
      · exact .inl ⟨a, u, rfl, e, mu, q⟩
      · exact .inr q
    · cases f with
      | next =>
        obtain ⟨σ', H', I', ⟨a, u, rfl, e, mu, q⟩ | q⟩ := h
        · obtain ⟨ob, I''⟩ := I'.lock e mu
          exact ⟨_, _, I'', q ob⟩
        · exact ⟨_, _, I', q⟩
      | ret v => exact h
      | brk => exact h
      | cont => exact h

/-! ### xs[::1], xs[::-1] -/
theorem stp_bounds (n : Nat) : sliceBounds none none (some 1) n = (0, (n : Int), 1) := by
  first
  | rfl
  | simp [sliceBounds]
theorem stp_range (n : Nat) : sliceRange 0 (n : Int) 1 = List.range n := by
  unfold sliceRange
  by_cases h : (0 : Int) < n
  · have e : ((n : Int) - 0 + 1 - 1) / 1 = (n : Int) := by
      rw [Int.ediv_one]
      omega
    have h2 : 0 < n := by omega
    simp [h, e, h2]
  · have e : n = 0 := by omega
    subst e
    simp
theorem stp_pick (items : Array Value) : slicePick items none none (some 1) = items := by
  unfold slicePick
  rw [stp_bounds]
  show ((sliceRange 0 (items.size : Int) 1).filterMap (items[·]?)).toArray = _
  rw [stp_range, PySem.W.krv_all, Array.toArray_toList]
/-- list with a step of one, either way -/
def tStp (K : PySem.W.Frag) (te tu : TE) : TE := fun σ H Q => te σ H fun x H1 => tPart tu σ H1 fun o H2 => ∃ i, o = some i ∧ ∃ a xs, x = .ref a ∧ SqL K H2 a xs ∧ ((i = 1 ∧ ∀ p, H2 p = none → Q (.ref p) (upd H2 p (.lst xs))) ∨ (i = -1 ∧ ∀ p, H2 p = none → Q (.ref p) (upd H2 p (.lst xs.reverse))))
theorem pe_stpL {e st : Expr} {te tu : TE} {p3 pos : Pos} (he : PE X e te) (hst : PE X st tu) : PE X (.Subscript e (.Slice none none (some st) p3) pos) (tStp X.K te tu) := by
  refine ⟨fun pins s σ H Q I h => ?_⟩
  refine Subscript_ (thn (he.run pins s σ H _ I h) fun v s1 ⟨x, H1, I1, r1, q1⟩ => ?_)
  refine wpAny_Slice (thn (po_none.run pins s1 σ H1 (fun o H2 => o = none ∧ H2 = H1) I1 ⟨rfl, rfl⟩) fun vl s2 ⟨l, H2, I2, pl, el, e2⟩ => ?_)
  subst el e2
  refine thn (po_none.run pins s2 σ H2 (fun o H3 => o = none ∧ H3 = H2) I2 ⟨rfl, rfl⟩) fun vu s3 ⟨u, H3, I3, pu, eu, e3⟩ => ?_
  subst eu e3
  refine thn ((po_some hst).run pins s3 σ H3 (fun o H4 => ∃ i, o = some i ∧ ∃ a xs, x = .ref a ∧ SqL X.K H4 a xs ∧ ((i = 1 ∧ ∀ p, H4 p = none → Q (.ref p) (upd H4 p (.lst xs))) ∨ (i = -1 ∧ ∀ p, H4 p = none → Q (.ref p) (upd H4 p (.lst xs.reverse))))) I3 q1) fun vs s4 ⟨o, H4, I4, ps, i, eo, a, xs, ex, hx, q⟩ => ?_
  subst eo ex
  cases r1
  have I5 : Inv X pins σ H4 { s4 with heap := s4.heap.push { cls := .type "slice", data := .fields #[vl, vu, vs] } } := I4.kept (t' := s4.toks) fun b ob q => Heap.get?_push_of_some _ q
  obtain ⟨its, r, ht, hz⟩ := I5.list hx
  have hlen := r.length
  show wpAny (model X.prog X.w) X.A (subscriptTail e (.Slice none none (some st) p3) (.ref a) (.ref s4.heap.objs.size)) (EP X pins σ Q) X.xe { s4 with heap := s4.heap.push { cls := .type "slice", data := .fields #[vl, vu, vs] } }
  refine tail_any (ops := [.ref a, .ref s4.heap.objs.size]) ht.isList.typeIs (PySem.slot_list_getitem.lookup) ?_ (by with_unfolding_all rfl)
  rcases q with ⟨rfl, q⟩ | ⟨rfl, q⟩
  · refine wpAny_getItem_list_slice ht.isList (Heap.IsSliceOf.new _ vl vu vs) pl pu ps (by decide) ?_ (by rw [List.size_toArray]; omega)
    rw [stp_pick]
    refine ⟨.ref _, _, I5.laid (t' := s4.toks) (o := .lst xs) (fun b ob q => Heap.get?_push_of_some _ q) (Nat.le_refl _) ?_, rfl, q _ (I5.hok.fresh (Nat.le_refl _))⟩
    exact ⟨hz, _, 0, r, Heap.get?_push_size _ rfl⟩
  · refine wpAny_getItem_list_slice ht.isList (Heap.IsSliceOf.new _ vl vu vs) pl pu ps (by decide) ?_ (by rw [List.size_toArray]; omega)
    rw [PySem.W.krv_pick]
    refine ⟨.ref _, _, I5.laid (t' := s4.toks) (o := .lst xs.reverse) (fun b ob q => Heap.get?_push_of_some _ q) (Nat.le_refl _) ?_, rfl, q _ (I5.hok.fresh (Nat.le_refl _))⟩
    exact ⟨by rw [List.length_reverse]; exact hz, _, 0, r.reverse, Heap.get?_push_size _ rfl⟩
theorem de_stp {a st : Expr} {f g : ME} {p3 pos : Pos} (hK : L.K = X.K) (b : Bool) (ha : PE X a (tE L f)) (hst : PE X st (tE L g)) :
    PE X (.Subscript a (.Slice none none (some st) p3) pos) (tE L fun s m => (f s m).bind fun d m1 => (g s m1).bind fun e m2 => stpD b d e m2) := by
  refine PE.weak (PE.fz b (pe_stpL ha hst)) fun σ H Q ⟨ρ, m, s, S, E, o⟩ => ?_
  refine tE_then (k := fun s d m1 => (g s m1).bind fun e m2 => stpD b d e m2) S E o fun x H1 ρ1 d m1 x1 S1 E1 rx o1 => ?_
  refine tE_then (k := fun s e m2 => stpD b d e m2) S1 E1 o1 fun y H2 ρ2 e m2 x2 S2 E2 ry o2 => ?_
  unfold stpD at o2
  split at o2
  next => exact o2.elim
  next => exact o2.elim
  next ht ht2 =>
    unfold Rv at ry
    split at o2
    next xs hq =>
      obtain ⟨a, vs, rfl, h2, h3⟩ := sq_lst S2 (rx.ext x2) hq (fun ys z => ht ys z) fun ys z => ht2 ys z
      rw [hK] at h2
      exact ⟨1, ry, 1, rfl, a, vs, rfl, h2, .inl ⟨rfl, fun p hp => mk_ok' S2 h3 o2 hp⟩⟩
    next => exact o2.elim
  next ht ht2 =>
    unfold Rv at ry
    split at o2
    next xs hq =>
      obtain ⟨a, vs, rfl, h2, h3⟩ := sq_lst S2 (rx.ext x2) hq (fun ys z => ht ys z) fun ys z => ht2 ys z
      rw [hK] at h2
      exact ⟨-1, ry, -1, rfl, a, vs, rfl, h2, .inr ⟨rfl, fun p hp => mk_ok' S2 h3.rev o2 hp⟩⟩
    next => exact o2.elim
  next => exact o2.elim
end
end Dx
/-! DxIb: several targets, some of them places in lists or dicts -/
namespace Dx
open PySem PySem.Spec PyProof.Rows L2
section
variable {L : Lnk} {X : Cx} {call : Nat → List D → Hd → R D}
def gMs (L : Lnk) (call : Nat → List D → Hd → R D) (ts : List Tm) : TGs := fun vs σ H Q => ∃ ρ m s ds, Sim L H ρ m ∧ EnvR L H ρ s σ ∧ RvL L.K H ρ ds vs ∧ OutG L H ρ (fun s' _ H' ρ' => ∀ σ', EnvR L H' ρ' s' σ' → Q σ' H') (bindMs call ts ds s m)
theorem ms_len {H : Hp} {ρ : List Addr} {P : SD → Hd → Hp → List Addr → Prop} : ∀ (ts : List Tm) (ds : List D) (s : SD) (m : Hd), OutG L H ρ P (bindMs call ts ds s m) → ds.length = ts.length
  | [], [], _, _, _ => rfl
  | [], _ :: _, _, _, o => o.elim
  | .name i :: ts, [], _, _, o => o.elim
  | .ix a b :: ts, [], _, _, o => o.elim
  | .name i :: ts, d :: ds, s, m, o => by
    have o : OutG L H ρ P (bindMs call ts ds (s.set i (some d)) m) := o
    rw [List.length_cons, List.length_cons, ms_len ts ds _ m o]
  | .ix a b :: ts, d :: ds, s, m, o => by
    have o : OutG L H ρ P ((evE call a s m).bind fun x m1 => (evE call b s m1).bind fun y m2 => (setD x y d m2).bind fun _ m3 => bindMs call ts ds s m3) := o
    cases h1 : evE call a s m with
    | exc => rw [h1] at o; exact o.elim
    | no => rw [h1] at o; exact o.elim
    | ok x m1 =>
      rw [h1, R.bind_ok] at o
      cases h2 : evE call b s m1 with
      | exc => rw [h2] at o; exact o.elim
      | no => rw [h2] at o; exact o.elim
      | ok y m2 =>
        rw [h2, R.bind_ok] at o
        cases h3 : setD x y d m2 with
        | exc => rw [h3] at o; exact o.elim
        | no => rw [h3] at o; exact o.elim
        | ok u m3 =>
          rw [h3, R.bind_ok] at o
          rw [List.length_cons, List.length_cons, ms_len ts ds _ m3 o]
theorem gms_nil : PGs X [] (gMs L call []) := by
  refine ⟨fun pins s σ H vs us Q I r ⟨ρ, m, sd, ds, S, E, rd, o⟩ => pgs_nil.run pins s σ H vs us Q I r ?_⟩
  cases ds with
  | cons d ds => exact o.elim
  | nil =>
    have o : OutG L H ρ _ (R.ok sd m) := o
    exact ⟨rvl0 rd, o.here S σ E⟩
theorem gms_name {x : Str} {i : Nat} {es : List Expr} {ts : List Tm} {pos : Pos} (hN : X.N.Nodup) (hi : X.N[i]? = some x) (hx : Loc X.env.scope x) (hf : X.fn x = true ∨ X.env.scope.names.lookup x = some .local) (h2 : PGs X es (gMs L call ts)) : PGs X (.Name x pos :: es) (gMs L call (.name i :: ts)) := by
  refine ⟨fun pins s σ H vs us Q I r ⟨ρ, m, sd, ds, S, E, rd, o⟩ => (pgs_cons (pg_name hN hi hx hf) h2 (each_cons rfl)).run pins s σ H vs us Q I r ?_⟩
  cases ds with
  | nil => exact o.elim
  | cons d ds =>
    unfold RvL at rd
    obtain ⟨v, w, rfl, r1, r2⟩ := rd
    exact ⟨v, w, rfl, ρ, m, sd.set i (some d), ds, S, E.set r1, r2, o⟩
theorem gms_ix {a c : Expr} {o i : Ex} {es : List Expr} {ts : List Tm} {pos : Pos} (hu : X.A.units + 100 < cLine) (hp : plainIx c = true) (ha : PE X a (tE L (evE call o))) (hc : PE X c (tE L (evE call i))) (h2 : PGs X es (gMs L call ts)) : PGs X (.Subscript a c pos :: es) (gMs L call (.ix o i :: ts)) := by
  have hg : PG X (.Subscript a c pos) (gSub (tE L (evE call o)) (tE L (evE call i)) (rSet L)) := pg_sub ha hc (set_D hu) (fun v => by
    cases c
    case Slice lo hi st q => cases st <;> first | rfl | cases hp
    all_goals rfl)
  refine ⟨fun pins s σ H vs us Q I r ⟨ρ, m, sd, ds, S, E, rd, w⟩ => (pgs_cons hg h2 (each_cons rfl)).run pins s σ H vs us Q I r ?_⟩
  cases ds with
  | nil => exact w.elim
  | cons d ds =>
    unfold RvL at rd
    obtain ⟨v, vr, rfl, r1, r2⟩ := rd
    have w : OutG L H ρ (fun s' _ H' ρ' => ∀ σ', EnvR L H' ρ' s' σ' → Q σ' H') ((evE call o sd m).bind fun x m1 => (evE call i sd m1).bind fun y m2 => (setD x y d m2).bind fun _ m3 => bindMs call ts ds sd m3) := w
    refine ⟨v, vr, rfl, ?_⟩
    refine tE_then (k := fun s x m1 => (evE call i s m1).bind fun y m2 => (setD x y d m2).bind fun _ m3 => bindMs call ts ds s m3) S E w fun x H1 ρ1 dx m1 x1 S1 E1 rx o1 => ?_
    refine tE_then (k := fun s y m2 => (setD dx y d m2).bind fun _ m3 => bindMs call ts ds s m3) S1 E1 o1 fun y H2 ρ2 dy m2 x2 S2 E2 ry o2 => ?_
    refine ⟨ρ2, m2, dx, dy, d, S2, rx.ext x2, ry, (r1.ext x1).ext x2, o2.bind.imp fun _ m3 H3 ρ3 x3 S3 o3 => ?_⟩
    exact ⟨ρ3, m3, sd, ds, S3, E2.ext x3, ((r2.ext x1).ext x2).ext x3, o3⟩
theorem ds_asgm {es : List Expr} {e : Expr} {ts : List Tm} {f : ME} {k : Nat} {p pos : Pos} (hc : X.calm = true) (he : PE X e (tE L f)) (hg : PGs X es (gMs L call ts)) (hs' : es.all nostar = true) (hs : swapsWithSole [.Tuple es k p] e pos.line X.env = pure false) (hw : swappedStores [.Tuple es k p] e X.env = pure none) :
    es.length = ts.length → PS X (.Assign [.Tuple es k p] e pos) (tS L fun s m => (f s m).bind (asgM call ts s)) := by
  intro hl
  have hp := each_plain (env := X.env) hs'
  refine PS.weak (ps_asg he (pg_tup (n := ts.length) hc hg (hp.1.trans hl) hp.2) hs hw (by rw [each_cons rfl] <;> rfl)) fun D σ H ⟨ρ, m, s, S, E, o⟩ => ?_
  refine tE_then (k := asgM call ts) S E o fun x H1 ρ1 d m1 x1 S1 E1 rx o1 => ?_
  unfold asgM at o1
  split at o1
  next ds =>
    unfold Rv at rx
    obtain ⟨a, vs, rfl, h1, h2⟩ := rx
    have o2 := OutG.bind o1
    have hlen := ms_len ts ds s m1 o2
    exact ⟨a, vs, rfl, .inl (.inl h1), by rw [← h2.len, hlen], ρ1, m1, s, ds, S1, E1, h2, o2.imp fun s' m2 H2 ρ2 x2 S2 q σ' E' => q.here S2 σ' E'⟩
  next => exact o1.elim
end
end Dx
/-! DxJ: calls of the text's own defs -/
namespace Dx
open PySem PySem.Spec PyProof.Rows L2

/-- a def's promise where no display is being shown -/
structure FnG (P : Program) (w : World) (K : PySem.W.Frag) (mg : Str → Option Value) (base : Heap) (CX : CXT) (k : Nat) (f : Addr) (fd : FuncData) (ps : List Str) (sp : Sp) : Prop where
  len : ∀ vs H Q E, sp vs H Q E → vs.length = ps.length
  run : ∀ (A : Around) (outer : List Env) (s : Shared) (H : Hp) (args : Args) (us : List Value) (vs : List V) (Q : VK) (E : XK), Room k A → A.guards = some [] → Env0 P w K mg base A outer s H → BindsTo s fd args (ps.zip us) → Vals vs us → sp vs H Q E →
    codeAny (model P w) A (.call (.ref f) args) (CR CX outer P w H s Q E) s
/-- what a def promises: the function of data -/
def spD (L : Lnk) (n : Nat) (F : List D → Hd → R D) : Sp := fun vs H Q _ => ∃ ρ m ds, Sim L H ρ m ∧ RvL L.K H ρ ds vs ∧ ds.length = n ∧ Out L H ρ Q (F ds m)

/-- a way to call a def: its name, how many values by place, the keywords, the def's number, the parameters' sources -/
structure Shape where
  x : Str
  n : Nat
  ks : List Str
  f : Nat
  g : List (Nat ⊕ D)
deriving DecidableEq
/-- the values in the parameters' order -/
def arrV (g : List (Nat ⊕ D)) (us : List Value) : List Value → Prop := fun zs => zs.length = g.length ∧ ∀ (j : Nat) (z : Value), zs[j]? = some z → match g[j]? with
  | some (.inl i) => us[i]? = some z
  | some (.inr d) => ∃ v, scalV d = some v ∧ RelV v z
  | none => False
structure ShapeOk (L : Lnk) (X : Cx) (k : Nat) (call : Nat → List D → Hd → R D) (sh : Shape) : Prop where
  ok : ∃ (fa : Addr) (fd : FuncData) (ps : List Str), X.mg sh.x = some (.ref fa) ∧ PySem.W.keepIn X.K (.ref fa) = true ∧ ps.length = sh.g.length ∧
    FnG X.prog X.w X.K X.mg X.base CX0 k fa fd ps (spD L ps.length (call sh.f)) ∧
    ∀ (s : Shared) (us ws : List Value), X.K.In s.heap → us.length = sh.n → ws.length = sh.ks.length → ∃ zs, arrV sh.g (us ++ ws) zs ∧ BindsTo s fd ⟨us, sh.ks.zip ws⟩ (ps.zip zs)
section
variable {L : Lnk} {X : Cx}
theorem arr_get : ∀ {g : List (Nat ⊕ D)} {ds vs : List D}, arr g ds = some vs → vs.length = g.length ∧ ∀ (j : Nat) (x : Nat ⊕ D), g[j]? = some x → ∃ d, vs[j]? = some d ∧ (match x with | .inl i => ds[i]? = some d | .inr e => e = d)
  | [], ds, vs, h => by
    simp [arr] at h
    subst h
    exact ⟨rfl, fun j x e => by simp at e⟩
  | a :: g, ds, vs, h => by
    unfold arr at h
    rw [List.mapM_cons] at h
    simp only [Option.bind_eq_bind, Option.bind_eq_some_iff, Option.pure_def, Option.some.injEq] at h
    obtain ⟨d, h1, r, h2, rfl⟩ := h
    obtain ⟨l, ih⟩ := arr_get (g := g) (ds := ds) (vs := r) h2
    refine ⟨by simp [l], fun j x e => ?_⟩
    cases j with
    | zero =>
      simp at e
      subst e
      refine ⟨d, rfl, ?_⟩
      cases a with
      | inl i => exact h1
      | inr e => exact Option.some.inj h1
    | succ j => simpa using ih j x (by simpa using e)
theorem rvl_of {K : PySem.W.Frag} {H : Hp} {ρ : List Addr} : ∀ {ds : List D} {vs : List V}, ds.length = vs.length → (∀ (j : Nat) d v, ds[j]? = some d → vs[j]? = some v → Rv K H ρ d v) → RvL K H ρ ds vs
  | [], [], _, _ => rvl_nil
  | [], _ :: _, h, _ => by simp at h
  | _ :: _, [], h, _ => by simp at h
  | d :: ds, v :: vs, h, f => rvl_cons (f 0 d v rfl rfl) (rvl_of (by simpa using h) fun j d' v' e1 e2 => f (j + 1) d' v' (by simpa using e1) (by simpa using e2))
/-- values for a list of machine values -/
theorem abs_vals {g : List (Nat ⊕ D)} {us zs : List Value} {vs : List V} (h : arrV g us zs) (r : Vals vs us) : ∃ ws : List V, Vals ws zs ∧ ∀ (j : Nat) (w : V), ws[j]? = some w → match g[j]? with
    | some (.inl i) => vs[i]? = some w
    | some (.inr d) => scalV d = some w
    | none => False := by
  obtain ⟨hl, h⟩ := h
  clear hl
  have gen : ∀ (zs : List Value) (k : Nat), (∀ (j : Nat) (z : Value), zs[j]? = some z → match g[k + j]? with
      | some (.inl i) => us[i]? = some z
      | some (.inr d) => ∃ v, scalV d = some v ∧ RelV v z
      | none => False) → ∃ ws : List V, Vals ws zs ∧ ∀ (j : Nat) (w : V), ws[j]? = some w → match g[k + j]? with
      | some (.inl i) => vs[i]? = some w
      | some (.inr d) => scalV d = some w
      | none => False := by
    intro zs
    induction zs with
    | nil => intro k _; exact ⟨[], .nil, fun j w e => by simp at e⟩
    | cons z zs ih =>
      intro k h
      obtain ⟨ws, r1, r2⟩ := ih (k + 1) fun j z' e => by
        have := h (j + 1) z' (by simpa using e)
        rw [show k + 1 + j = k + (j + 1) by omega]
        exact this
      have h0 := h 0 z rfl
      rw [Nat.add_zero] at h0
      have hd : ∃ w, RelV w z ∧ match g[k]? with
          | some (.inl i) => vs[i]? = some w
          | some (.inr d) => scalV d = some w
          | none => False := by
        cases e : g[k]? with
        | none => rw [e] at h0; exact h0.elim
        | some x =>
          rw [e] at h0
          cases x with
          | inl i =>
            have hi : i < vs.length := by rw [r.length]; exact (List.getElem?_eq_some_iff.mp h0).1
            obtain ⟨u, g1, g2⟩ := r.get (List.getElem?_eq_getElem hi)
            rw [h0] at g1
            cases g1
            exact ⟨_, g2, List.getElem?_eq_getElem hi⟩
          | inr d =>
            obtain ⟨v, g1, g2⟩ := h0
            exact ⟨v, g2, g1⟩
      obtain ⟨w, hw1, hw2⟩ := hd
      refine ⟨w :: ws, .cons hw1 r1, fun j w' e => ?_⟩
      cases j with
      | zero =>
        simp at e
        subst e
        simpa using hw2
      | succ j =>
        have := r2 j w' (by simpa using e)
        rw [show k + 1 + j = k + (j + 1) by omega] at this
        exact this
  simpa using gen zs 0 (by simpa using h)
/-- a call, once its values are there -/
theorem run_shape {k : Nat} {call : Nat → List D → Hd → R D} {sh : Shape} {fa : Addr} {fd : FuncData} {ps : List Str} (hK : L.K = X.K) (hr : Room k X.A) (hgd : X.A.guards = some [])
    (hl : ps.length = sh.g.length) (F : FnG X.prog X.w X.K X.mg X.base CX0 k fa fd ps (spD L ps.length (call sh.f)))
    (hb : ∀ (s : Shared) (us ws : List Value), X.K.In s.heap → us.length = sh.n → ws.length = sh.ks.length → ∃ zs, arrV sh.g (us ++ ws) zs ∧ BindsTo s fd ⟨us, sh.ks.zip ws⟩ (ps.zip zs))
    {pins : List (Addr × Obj)} {σ : VS} {H : Hp} {s : Shared} {Q : VK} {us ws : List Value} {vs zs : List V} {ρ : List Addr} {m : Hd} {ds : List D} (I : Inv X pins σ H s) (r : Vals vs us) (rz : Vals zs ws) (S : Sim L H ρ m) (rd : RvL L.K H ρ ds (vs ++ zs))
    (l1 : vs.length = sh.n) (l2 : zs.length = sh.ks.length) (o : Out L H ρ Q ((optB (arr sh.g ds) m).bind (call sh.f))) :
    wpAny (model X.prog X.w) X.A (PySem.call (.ref fa) us (sh.ks.zip ws)) (EP X pins σ Q) X.xe s := by
  obtain ⟨as, ha, o⟩ := (show OutG L H ρ (fun a m' H' ρ' => OutG L H' ρ' _ (call sh.f a m')) (optB (arr sh.g ds) m) from OutG.bind o).optB
  have o := o.here S
  obtain ⟨ys, hy, hbind⟩ := hb s us ws I.kIn (by rw [← r.length]; exact l1) (by rw [← rz.length]; exact l2)
  have rr : Vals (vs ++ zs) (us ++ ws) := r.append rz
  obtain ⟨bs, g1, g2⟩ := abs_vals hy rr
  obtain ⟨e1, e2⟩ := arr_get ha
  have hbl : bs.length = sh.g.length := by rw [g1.length]; exact hy.1
  have rb : RvL L.K H ρ as bs := by
    refine rvl_of (by rw [e1, hbl]) fun j d v f1 f2 => ?_
    have hj : j < sh.g.length := by rw [← hbl]; exact (List.getElem?_eq_some_iff.mp f2).1
    have q := g2 j v f2
    obtain ⟨d', f3, f4⟩ := e2 j _ (List.getElem?_eq_getElem hj)
    rw [f1] at f3
    cases f3
    rw [List.getElem?_eq_getElem hj] at q
    cases hx : sh.g[j] with
    | inl i =>
      rw [hx] at q f4
      have f4 : ds[i]? = some d := f4
      have q : (vs ++ zs)[i]? = some v := q
      obtain ⟨w, h1, h2⟩ := rd.get f4
      rw [q] at h1
      cases h1
      exact h2
    | inr e =>
      rw [hx] at q f4
      have f4 : e = d := f4
      have q : scalV e = some v := q
      subst f4
      exact scal_rv q
  refine wpAny_call (codeAny_mono (F.run X.A X.stack s H ⟨us, sh.ks.zip ws⟩ ys bs Q E0 hr hgd I.env0 hbind g1 ⟨ρ, m, as, S, rb, by rw [e1, hl], o⟩) fun r s' hq => ?_)
  cases r with
  | error e => exact (show False from hq).elim
  | ok fl =>
    cases fl with
    | ret u => exact I.after hq
    | next => exact False.elim hq
    | brk => exact False.elim hq
    | cont => exact False.elim hq
/-- keywords -/
def kwNames (kws : List Keyword) : List (Option Str) := kws.map fun k => k.arg
end
end Dx
/-! DxK: the text against the small syntax -/
namespace Dx
open PySem PySem.Spec PyProof.Rows L2

structure Wd where
  N : List Str
  blts : List Str
  glb : List (Str × D)
  sh : List Shape
structure Sx where
  sc : Scope
  fn : Str → Bool
def visB (sc : Scope) (x : Str) : Bool := match sc.names.lookup x with
  | some .local | some .cell | some .free => true
  | _ => false
def locB (sx : Sx) (x : Str) : Bool := match sx.sc.names.lookup x with
  | some .local => true
  | some .cell => sx.fn x
  | _ => false
def glB (sc : Scope) (x : Str) : Bool := match sc.names.lookup x with
  | some .globalImplicit => true
  | _ => false
theorem visB_ok {sc : Scope} {x : Str} (h : visB sc x = true) : Vis sc x := by
  unfold visB at h
  split at h
  next e => exact .inl e
  next e => exact .inr (.inl e)
  next e => exact .inr (.inr e)
  next => cases h
def opB : Operator → Bop → Bool
  | .Add, .add => true | .Sub, .sub => true | .Mult, .mul => true | .FloorDiv, .fdiv => true | .Mod, .mod => true | .Pow, .pow => true
  | _, _ => false
theorem opB_ok {op : Operator} {o : Bop} (h : opB op o = true) : op = bopE o := by
  cases op <;> cases o <;> first | rfl | cases h
def copB : CmpOp → Cop → Bool
  | .Eq, .eq => true | .NotEq, .ne => true | .Lt, .lt => true | .LtE, .le => true | .Gt, .gt => true | .GtE, .ge => true | .Is, .is => true | .IsNot, .isnot => true | .In, .isin => true | .NotIn, .notin => true
  | _, _ => false
theorem copB_ok {op : CmpOp} {o : Cop} (h : copB op o = true) : op = copE o := by
  cases op <;> cases o <;> first | rfl | cases h
def biName : Bi → Str
  | .len => "len" | .max2 => "max" | .min2 => "min" | .abs => "abs" | .int => "int" | .repr => "repr" | .list _ => "list" | .tuple => "tuple" | .ntup => "tuple" | .all => "all" | .any => "any"
  | .sum => "sum" | .str => "str" | .maxL => "max" | .minL => "min" | .isinst _ => "isinstance"
  | .dict _ => "dict" | .sorted _ => "sorted" | .setlen => "len"
def tyName : Ty → Str
  | .int => "int" | .str => "str" | .bool => "bool" | .tuple => "tuple" | .list => "list" | .dict => "dict"
theorem bi_boot {f : Bi} {v : Value} (h : biE f = some v) : bootBuiltins (biName f) = some v ∧ biName f ≠ "__name__" ∧ (biName f == ("__debug__" : Str)) = false := by
  cases f
  case dict b => cases b <;> simp only [biE, Option.some.injEq] at h <;> subst h <;> exact ⟨by decide +kernel, by decide +kernel, by decide +kernel⟩
  case sorted b => cases b <;> simp only [biE, Option.some.injEq] at h <;> subst h <;> exact ⟨by decide +kernel, by decide +kernel, by decide +kernel⟩
  case list b => cases b <;> simp only [biE, Option.some.injEq] at h <;> subst h <;> exact ⟨by decide +kernel, by decide +kernel, by decide +kernel⟩
  all_goals first
    | (simp only [biE, Option.some.injEq] at h; subst h; exact ⟨by decide +kernel, by decide +kernel, by decide +kernel⟩)
    | (simp [biE] at h)
theorem ty_boot (t : Ty) : bootBuiltins (tyName t) = some (.type t.name) ∧ tyName t ≠ "__name__" ∧ (tyName t == ("__debug__" : Str)) = false := by
  cases t <;> exact ⟨by decide +kernel, by decide +kernel, by decide +kernel⟩
def isIsinst : Bi → Bool
  | .isinst _ => true
  | .setlen => true
  | _ => false
/-- the names of a block, in the scope that runs -/
def Sx.blk (sx : Sx) (scope : Scope) : Sx := ⟨relS scope sx.sc, fun x => scope.names.lookup x == some .cell⟩
def swP (sc : Scope) (ts vs : List Expr) : Option (Option (List Str)) :=
  if (!(ts.length == 2 || ts.length == 3) || vs.length != ts.length) then some none else
  if vs.any (fun | .Starred .. => true | _ => false) then some none else
  let line := (ts.head?.map (·.pos.line)).getD 0
  let names := ts.filterMap fun
    | .Name id pos => if sc.names.lookup id == some .local && pos.line == line then some id else none
    | _ => none
  if names.length != ts.length || names.eraseDups.length != names.length then some none else
  if vs.all (foldedForSure 8) then some none else
  if vs.all (constantsAlone 8) then none else some (some names)
def line1 : Expr → Nat
  | .Name _ p => p.line
  | _ => 0
def noTupPair (t v : Expr) : Bool := match t, v with
  | .Tuple .., .Tuple .. => false
  | .List .., .Tuple .. => false
  | _, _ => true

/-- what is walked gives pairs: the target is written as a tuple -/
def needTup : Iw → Bool
  | .seq _ => false
  | .rng _ _ => false
  | _ => true
def isTupE : Expr → Bool
  | .Tuple .. => true
  | _ => false
mutual
def chkE (W : Wd) : Nat → Sx → Expr → Ex → Bool
  | 0, _, _, _ => false
  | n + 1, sx, e, x => match x with
    | .var i => match e with
      | .Name id _ => decide (W.N[i]? = some id) && visB sx.sc id && !(id == ("__debug__" : Str)) && !(id == ("__classdict__" : Str))
      | _ => false
    | .con d => match e with
      | .Constant c _ _ => decide (constD c = some d)
      | .Name id _ => W.glb.any (fun p => decide (p = (id, d))) && glB sx.sc id && !(id == ("__debug__" : Str))
      | _ => false
    | .bin _ o x y => match e with
      | .BinOp a op c _ => opB op o && chkE W n sx a x && chkE W n sx c y
      | _ => false
    | .neg x => match e with
      | .UnaryOp .USub a _ => chkE W n sx a x
      | _ => false
    | .cmp o x y => match e with
      | .Compare a [op] [c] _ => copB op o && notSet c && chkE W n sx a x && chkE W n sx c y
      | _ => false
    | .chain o o' x y z => match e with
      | .Compare a [op, op'] [b, c] _ => copB op o && copB op' o' && notSet c && chkE W n sx a x && chkE W n sx b y && chkE W n sx c z
      | _ => false
    | .and x y => match e with
      | .BoolOp .And (a :: b :: rest) pos => chkE W n sx a x && chkB W n sx .And (b :: rest) y
      | _ => false
    | .or x y => match e with
      | .BoolOp .Or (a :: b :: rest) pos => chkE W n sx a x && chkB W n sx .Or (b :: rest) y
      | _ => false
    | .not x => match e with
      | .UnaryOp .Not a _ => chkE W n sx a x
      | _ => false
    | .cond c x y => match e with
      | .IfExp t a b _ => chkT W n sx t c && chkE W n sx a x && chkE W n sx b y
      | _ => false
    | .tup es => match e with
      | .Tuple l _ _ => l.all nostar && chkEs W n sx l es
      | _ => false
    | .lst _ es => match e with
      | .List l _ => l.all nostar && chkEs W n sx l es
      | _ => false
    | .dnew _ => match e with
      | .Dict [] [] _ => true
      | _ => false
    | .ix x y => match e with
      | .Subscript a c _ => plainIx c && chkE W n sx a x && chkE W n sx c y
      | _ => false
    | .sl _ x lo hi => match e with
      | .Subscript a (.Slice l h none _) _ => chkE W n sx a x && chkO W n sx l lo && chkO W n sx h hi
      | _ => false
    | .rev _ x => match e with
      | .Subscript a (.Slice none none (some (.UnaryOp .USub (.Constant (.int 1) _ _) _)) _) _ => chkE W n sx a x
      | _ => false
    | .call f es g => match e with
      | .Call (.Name id _) args kws _ => W.sh.any (fun sh => decide (sh = ⟨id, args.length, kws.filterMap (·.arg), f, g⟩)) && kws.all (·.arg.isSome) && args.all nostar && glB sx.sc id && !(id == ("__debug__" : Str)) && chkEs W n sx (args ++ kws.map (·.value)) es
      | _ => false
    | .bi f es => match e with
      | .Call (.Name id _) args [] _ =>
        match f, args, es with
        | .isinst t, [a, .Name y _], [x] => decide (id = ("isinstance" : Str)) && W.blts.contains id && glB sx.sc id && decide (y = tyName t) && W.blts.contains y && glB sx.sc y && nostar a && chkE W n sx a x
        | f, args, es => !isIsinst f && decide (id = biName f) && W.blts.contains id && glB sx.sc id && args.all nostar && !args.isEmpty && chkEs W n sx args es
      | _ => false
    | .mt f x [] => match e with
      | .Call (.Attribute o name apos) [] [] cpos => isNul f && decide (name = Str.ofString (mtE f).2.1) && plainBase o && (apos.endLine == cpos.line) && chkE W n sx o x
      | _ => false
    | .mt f x es => match e with
      | .Call (.Attribute o name apos) args [] cpos => decide (name = Str.ofString (mtE f).2.1) && plainBase o && args.all nostar && !args.isEmpty && decide (args.length < 30) && (apos.endLine == cpos.line) && chkE W n sx o x && chkEs W n sx args es
      | _ => false
    | .lc _ own tg it c y => match e with
      | .ListComp elt [⟨t, iter, ifs, 0⟩] scope _ => blkC W.N sx.sc scope (own.filterMap fun i => W.N[i]?.map fun x => (x, i)) && decide ((own.filterMap fun i => W.N[i]?.map fun x => (x, i)).map (·.2) = own) && notSet iter && tg.slots.all (own.contains ·) &&
          (!needTup it || isTupE t) && chkI W n sx iter it && chkG W n (sx.blk scope) t tg && chkC W n (sx.blk scope) ifs c && chkE W n (sx.blk scope) elt y
      | _ => false
    | .dc _ own tg it c k v => match e with
      | .DictComp kx vx [⟨t, iter, ifs, 0⟩] scope _ => blkC W.N sx.sc scope (own.filterMap fun i => W.N[i]?.map fun x => (x, i)) && decide ((own.filterMap fun i => W.N[i]?.map fun x => (x, i)).map (·.2) = own) && notSet iter && tg.slots.all (own.contains ·) &&
          (!needTup it || isTupE t) && chkI W n sx iter it && chkG W n (sx.blk scope) t tg && chkC W n (sx.blk scope) ifs c && chkE W n (sx.blk scope) kx k && chkE W n (sx.blk scope) vx v
      | _ => false
    | .lw _ x y => match e with
      | .Call (.Name id _) [.Call (.Name id2 _) [a, c] [] _] [] _ => decide (id = ("list" : Str)) && W.blts.contains id && glB sx.sc id && decide (id2 = ("zip" : Str)) && W.blts.contains id2 && glB sx.sc id2 && nostar a && nostar c && chkE W n sx a x && chkE W n sx c y
      | _ => false
    | .stp _ x y => match e with
      | .Subscript a (.Slice none none (some c) _) _ => chkE W n sx a x && chkE W n sx c y
      | _ => false
    | .fz x => chkE W n sx e x
def chkEs (W : Wd) : Nat → Sx → List Expr → List Ex → Bool
  | 0, _, _, _ => false
  | _ + 1, _, [], [] => true
  | n + 1, sx, e :: es, x :: xs => chkE W n sx e x && chkEs W n sx es xs
  | _, _, _, _ => false
/-- the rest of a row of and, or -/
def chkB (W : Wd) : Nat → Sx → BoolOp → List Expr → Ex → Bool
  | 0, _, _, _, _ => false
  | n + 1, sx, _, [a], x => chkE W n sx a x
  | n + 1, sx, .And, a :: b :: r, .and x y => chkE W n sx a x && chkB W n sx .And (b :: r) y
  | n + 1, sx, .Or, a :: b :: r, .or x y => chkE W n sx a x && chkB W n sx .Or (b :: r) y
  | _, _, _, _, _ => false
def chkO (W : Wd) : Nat → Sx → Option Expr → Ex → Bool
  | 0, _, _, _ => false
  | n + 1, sx, none, x => isAbs x
  | n + 1, sx, some e, x => !isAbs x && chkE W n sx e x
def chkT (W : Wd) : Nat → Sx → Expr → Te → Bool
  | 0, _, _, _ => false
  | n + 1, sx, e, t => match t with
    | .cmp o x y => match e with
      | .Compare a [op] [c] _ => copB op o && notSet c && chkE W n sx a x && chkE W n sx c y
      | _ => false
    | .chain o o' x y z => match e with
      | .Compare a [op, op'] [b, c] _ => copB op o && copB op' o' && notSet c && chkE W n sx a x && chkE W n sx b y && chkE W n sx c z
      | _ => false
    | .and x y => match e with
      | .BoolOp .And (a :: b :: rest) pos => chkT W n sx a x && chkW W n sx .And (b :: rest) y
      | _ => false
    | .or x y => match e with
      | .BoolOp .Or (a :: b :: rest) pos => chkT W n sx a x && chkW W n sx .Or (b :: rest) y
      | _ => false
    | .not x => match e with
      | .UnaryOp .Not a _ => chkT W n sx a x
      | _ => false
    | .val x => plainTest e && chkE W n sx e x
    | .yes => false
def chkW (W : Wd) : Nat → Sx → BoolOp → List Expr → Te → Bool
  | 0, _, _, _, _ => false
  | n + 1, sx, _, [a], x => chkT W n sx a x
  | n + 1, sx, .And, a :: b :: r, .and x y => chkT W n sx a x && chkW W n sx .And (b :: r) y
  | n + 1, sx, .Or, a :: b :: r, .or x y => chkT W n sx a x && chkW W n sx .Or (b :: r) y
  | _, _, _, _, _ => false
/-- a clause's tests -/
def chkC (W : Wd) : Nat → Sx → List Expr → Te → Bool
  | 0, _, _, _ => false
  | _ + 1, _, [], .yes => true
  | n + 1, sx, [c], t => chkT W n sx c t
  | _, _, _, _ => false
def chkI (W : Wd) : Nat → Sx → Expr → Iw → Bool
  | 0, _, _, _ => false
  | n + 1, sx, e, x => match x with
    | .seq x => chkE W n sx e x
    | .rng lo hi => match e with
      | .Call (.Name id _) [a] [] _ => decide (id = ("range" : Str)) && W.blts.contains id && glB sx.sc id && nostar a && (match lo with | .con (.int 0) => true | _ => false) && chkE W n sx a hi
      | .Call (.Name id _) [a, b] [] _ => decide (id = ("range" : Str)) && W.blts.contains id && glB sx.sc id && nostar a && nostar b && chkE W n sx a lo && chkE W n sx b hi
      | _ => false
    | .enum none x => match e with
      | .Call (.Name id _) [a] [] _ => decide (id = ("enumerate" : Str)) && W.blts.contains id && glB sx.sc id && nostar a && chkE W n sx a x
      | _ => false
    | .enum (some _) _ => false
    | .zip x y => match e with
      | .Call (.Name id _) [a, b] [] _ => decide (id = ("zip" : Str)) && W.blts.contains id && glB sx.sc id && nostar a && nostar b && chkE W n sx a x && chkE W n sx b y
      | _ => false
    | .zip3 x y z => match e with
      | .Call (.Name id _) [a, b, c] [] _ => decide (id = ("zip" : Str)) && W.blts.contains id && glB sx.sc id && nostar a && nostar b && nostar c && chkE W n sx a x && chkE W n sx b y && chkE W n sx c z
      | _ => false
    | .items x => match e with
      | .Call (.Attribute o name apos) [] [] cpos => decide (name = ("items" : Str)) && plainBase o && (apos.endLine == cpos.line) && chkE W n sx o x
      | _ => false
def chkG (W : Wd) : Nat → Sx → Expr → Tg → Bool
  | 0, _, _, _ => false
  | n + 1, sx, e, t => match t with
    | .name i => match e with
      | .Name id _ => decide (W.N[i]? = some id) && locB sx id
      | _ => false
    | .tup ts => match e with
      | .Tuple es _ _ => es.all nostar && decide (es.length = ts.length) && chkGs W n sx es ts
      | _ => false
def chkGs (W : Wd) : Nat → Sx → List Expr → List Tg → Bool
  | 0, _, _, _ => false
  | _ + 1, _, [], [] => true
  | n + 1, sx, e :: es, t :: ts => chkG W n sx e t && chkGs W n sx es ts
  | _, _, _, _ => false
end

/-! ### what the context gives -/
structure Good (L : Lnk) (W : Wd) (X : Cx) (k : Nat) (call : Nat → List D → Hd → R D) (sx : Sx) : Prop where
  hK : L.K = X.K
  hN : X.N = W.N
  nd : W.N.Nodup
  hsc : X.env.scope = sx.sc
  hfn : ∀ x, sx.fn x = true → X.fn x = true
  hu : X.A.units + 100 < cLine
  hg : X.A.guards = some []
  hc : X.calm = true
  hr : Room k X.A
  kd : sx.sc.kind = .function
  hb : ∀ x ∈ W.blts, X.mg x = none
  hglb : ∀ p ∈ W.glb, ∃ v u, scalV p.2 = some v ∧ X.mg p.1 = some u ∧ RelV v u
  hsh : ∀ sh ∈ W.sh, ShapeOk L X k call sh
section
variable {L : Lnk} {W : Wd} {X : Cx} {k : Nat} {call : Nat → List D → Hd → R D} {sx : Sx}
theorem Good.vis (G : Good L W X k call sx) {x : Str} (h : visB sx.sc x = true) : Vis X.env.scope x := by rw [G.hsc]; exact visB_ok h
theorem Good.gl (G : Good L W X k call sx) {x : Str} (h : glB sx.sc x = true) : Gl X x := by
  unfold glB at h
  show X.env.scope.names.lookup x = _
  rw [G.hsc]
  split at h
  next e => exact e
  next => cases h
theorem Good.loc (G : Good L W X k call sx) {x : Str} (h : locB sx x = true) : Loc X.env.scope x ∧ (X.fn x = true ∨ X.env.scope.names.lookup x = some .local) := by
  rw [G.hsc]
  unfold locB at h
  split at h
  next e => exact ⟨.inl e, .inr e⟩
  next e => exact ⟨.inr e, .inl (G.hfn x h)⟩
  next => cases h
theorem Good.bmem (G : Good L W X k call sx) {x : Str} (h : W.blts.contains x = true) : X.mg x = none := G.hb x (by simpa using h)
theorem ne_beq {a b : Str} (h : (!(a == b)) = true) : (a == b) = false := by simpa using h
theorem Good.blk (G : Good L W X k call sx) {scope : Scope} {own : List (Str × Nat)} (ok : BlkOk W.N sx.sc scope own) (s : Shared) (H : Hp) (C : Addr) (cl : List (Str × Addr)) (fp : List Addr) :
    Good L W (X.blk s H scope (compEnvC scope cl C X.env) fp) k call (sx.blk scope) :=
  ⟨G.hK, G.hN, G.nd, (by
    show relabel scope X.env = relS scope sx.sc
    rw [← G.hsc]
    rfl), fun x h => h, G.hu, G.hg, G.hc, G.hr, ok.kind, G.hb, G.hglb, fun sh h => ⟨(G.hsh sh h).ok⟩⟩
end
end Dx
/-! DxL: what passes the look is meant so -/
namespace Dx
open PySem PySem.Spec PyProof.Rows L2
section
variable {L : Lnk} {W : Wd} {X : Cx} {k : Nat} {call : Nat → List D → Hd → R D} {sx : Sx}
/-- expressions one by one -/
inductive PEs (L : Lnk) (call : Nat → List D → Hd → R D) (X : Cx) : List Expr → List Ex → Prop
  | nil : PEs L call X [] []
  | cons {e es x xs} : PE X e (tE L (evE call x)) → PEs L call X es xs → PEs L call X (e :: es) (x :: xs)
theorem PEs.pa {es : List Expr} {xs : List Ex} (h : PEs L call X es xs) (hs : es.all nostar = true) : PA X es (tA L (evEs call xs)) := by
  induction h with
  | nil => exact da_nil
  | cons a b ih =>
    simp only [List.all_cons, Bool.and_eq_true] at hs
    exact da_cons hs.1 a (ih hs.2)
theorem PEs.split : ∀ {as bs : List Expr} {xs : List Ex}, PEs L call X (as ++ bs) xs → ∃ ys zs, xs = ys ++ zs ∧ PEs L call X as ys ∧ PEs L call X bs zs
  | [], bs, xs, h => ⟨[], xs, rfl, .nil, h⟩
  | a :: as, bs, xs, h => by
    cases h with
    | cons p q =>
      obtain ⟨ys, zs, rfl, h1, h2⟩ := PEs.split q
      exact ⟨_ :: ys, zs, rfl, .cons p h1, h2⟩
theorem evEs_app : ∀ (xs ys : List Ex) (s : SD) (m : Hd), evEs call (xs ++ ys) s m = (evEs call xs s m).bind fun ds m1 => (evEs call ys s m1).bind fun es m2 => .ok (ds ++ es) m2
  | [], ys, s, m => by
    simp only [List.nil_append, evEs, R.bind_ok]
    cases evEs call ys s m <;> rfl
  | x :: xs, ys, s, m => by
    simp only [List.cons_append, evEs]
    cases evE call x s m with
    | ok d m1 =>
      simp only [R.bind_ok]
      rw [evEs_app xs ys s m1]
      cases evEs call xs s m1 with
      | ok ds m2 =>
        simp only [R.bind_ok]
        cases evEs call ys s m2 <;> rfl
      | exc => rfl
      | no => rfl
    | exc => rfl
    | no => rfl
/-- keywords -/
theorem PEs.pk {xs : List Ex} : ∀ {kws : List Keyword}, PEs L call X (kws.map (·.value)) xs → PK X kws (tA L (evEs call xs))
  | [], h => by
    cases h
    exact ⟨fun pos pins s σ H Q I ⟨ρ, m, sd, S, E, o⟩ => pk_nil.run pos pins s σ H Q I (o.here S [] rvl_nil)⟩
  | ⟨nm, e, kp⟩ :: kws, h => by
    cases h with
    | cons p q =>
      refine ⟨fun pos pins s σ H Q I ⟨ρ, m, sd, S, E, o⟩ => (pk_cons p (PEs.pk q)).run pos pins s σ H Q I ?_⟩
      simp only [evEs] at o
      refine tE_then (k := fun s d m1 => (evEs call _ s m1).bind fun ds m2 => R.ok (d :: ds) m2) S E o fun x H1 ρ1 d m1 x1 S1 E1 rx o1 => ?_
      refine tA_then (k := fun s ds m2 => R.ok (d :: ds) m2) S1 E1 o1 fun vs H2 ρ2 ds m2 x2 S2 E2 rs o2 => ?_
      exact o2.here S2 _ (rvl_cons (rx.ext x2) rs)
theorem kw_names {pos : Pos} {env : Env} : ∀ {kws : List Keyword}, kws.all (·.arg.isSome) = true →
    (backToKw pos (keywordEach kws env)).filterMap (·.1) = kws.filterMap (·.arg) ∧ (backToKw pos (keywordEach kws env)).all (·.1.isSome) = true ∧ (backToKw pos (keywordEach kws env)).any (·.1.isNone) = false
  | [], _ => ⟨rfl, rfl, rfl⟩
  | ⟨nm, e, kp⟩ :: kws, h => by
    simp only [List.all_cons, Bool.and_eq_true] at h
    obtain ⟨h1, h2, h3⟩ := kw_names (pos := pos) (env := env) h.2
    cases nm with
    | none => exact absurd h.1 (by simp)
    | some x =>
      refine ⟨?_, ?_, ?_⟩
      · show x :: (backToKw pos (keywordEach kws env)).filterMap (·.1) = _
        rw [h1]
        rfl
      · show (true && (backToKw pos (keywordEach kws env)).all (·.1.isSome)) = true
        rw [h2]
        rfl
      · show (false || (backToKw pos (keywordEach kws env)).any (·.1.isNone)) = false
        rw [h3]
        rfl
theorem vals_nil {us : List Value} (h : Vals ([] : List V) us) : us = [] := by cases h; rfl
theorem de_call {id : Str} {p pos : Pos} {args : List Expr} {kws : List Keyword} {xs : List Ex} {f : Nat} {g : List (Nat ⊕ D)} (G : Good L W X k call sx) (hsh : (⟨id, args.length, kws.filterMap (·.arg), f, g⟩ : Shape) ∈ W.sh)
    (hkw : kws.all (·.arg.isSome) = true) (hs : args.all nostar = true) (hg : glB sx.sc id = true) (hdb : (id == ("__debug__" : Str)) = false) (h : PEs L call X (args ++ kws.map (·.value)) xs) :
    PE X (.Call (.Name id p) args kws pos) (tE L fun s m => (evEs call xs s m).bind fun ds m1 => (optB (arr g ds) m1).bind fun vs m2 => call f vs m2) := by
  obtain ⟨fa, fd, ps, hm, hk, hl, F, hb⟩ := (G.hsh _ hsh).ok
  obtain ⟨ys, zs, rfl, h1, h2⟩ := h.split
  have hA := h1.pa hs
  have hK := h2.pk
  obtain ⟨n1, n2, n3⟩ := kw_names (pos := pos) (env := X.env) hkw
  have hlen : ∀ {kws : List Keyword}, kws.all (·.arg.isSome) = true → (kws.filterMap (·.arg)).length = (kws.map (·.value)).length := by
    intro kws
    induction kws with
    | nil => intro _; rfl
    | cons a r ih =>
      intro h
      simp only [List.all_cons, Bool.and_eq_true] at h
      obtain ⟨nm, e, kp⟩ := a
      cases nm with
      | none => exact absurd h.1 (by simp)
      | some x => simp [ih h.2]
  have evLen : ∀ (xs : List Ex) (s : SD) (m m1 : Hd) (ds : List D), evEs call xs s m = .ok ds m1 → ds.length = xs.length := by
    intro xs
    induction xs with
    | nil => intro s m m1 ds e; simp only [evEs] at e; cases e; rfl
    | cons x xs ih =>
      intro s m m1 ds e
      simp only [evEs] at e
      cases e1 : evE call x s m with
      | ok d m2 =>
        rw [e1] at e
        simp only [R.bind_ok] at e
        cases e2 : evEs call xs s m2 with
        | ok ds' m3 =>
          rw [e2] at e
          simp only [R.bind_ok] at e
          cases e
          simp [ih _ _ _ _ e2]
        | exc => rw [e2] at e; cases e
        | no => rw [e2] at e; cases e
      | exc => rw [e1] at e; cases e
      | no => rw [e1] at e; cases e
  have lens : ∀ {as : List Expr} {xs : List Ex}, PEs L call X as xs → as.length = xs.length := by
    intro as xs h
    induction h with
    | nil => rfl
    | cons _ _ ih => simp [ih]
  refine ⟨fun pins s σ H Q I ⟨ρ, m, sd, S, E, o⟩ => ?_⟩
  dsimp only at o
  rw [evEs_app] at o
  refine wpAny_Call_Name_kw (ld_glob I (G.gl hg) hm ?_ hdb)
  -- behind the values by place
  have more : ∀ (us : List Value) (s1 : Shared) (vs : List V) (H1 : Hp), Inv X pins σ H1 s1 → Vals vs us → vs.length = args.length → (∃ ρ1 m1 ds, Sim L H1 ρ1 m1 ∧ EnvR L H1 ρ1 sd σ ∧ RvL L.K H1 ρ1 ds vs ∧
      Out L H1 ρ1 Q ((evEs call zs sd m1).bind fun es m2 => (optB (arr g (ds ++ es)) m2).bind (call f))) →
      wpAny (model X.prog X.w) X.A (evalAll ((backToKw pos (keywordEach kws X.env)).map (·.2))) (fun ks s₂ => X.K.In s₂.heap ∧ wpAny (model X.prog X.w) X.A (PySem.call (.ref fa) ([] ++ us) (((backToKw pos (keywordEach kws X.env)).filterMap (·.1)).zip ks)) (EP X pins σ Q) X.xe s₂) X.xe s1 := by
    rintro us s1 vs H1 I1 r1 l1 ⟨ρ1, m1, ds, S1, E1, rd, o1⟩
    have tz : tA L (evEs call zs) σ H1 fun ws H2 => ∃ ρ2 m2 es, Ext H1 ρ1 H2 ρ2 ∧ Sim L H2 ρ2 m2 ∧ RvL L.K H2 ρ2 es ws ∧ es.length = zs.length ∧ Out L H2 ρ2 Q ((optB (arr g (ds ++ es)) m2).bind (call f)) := by
      refine ⟨ρ1, m1, sd, S1, E1, ?_⟩
      cases e : evEs call zs sd m1 with
      | ok es m2 =>
        rw [e] at o1
        exact fun H2 ρ2 x2 S2 ws rw' => ⟨ρ2, m2, es, x2, S2, rw', evLen _ _ _ _ _ e, OutG.base (r := (optB (arr g (ds ++ es)) m2).bind (call f)) o1 x2⟩
      | exc => rw [e] at o1; exact o1.elim
      | no => rw [e] at o1; exact o1.elim
    refine thn (hK.run pos pins s1 σ H1 _ I1 tz) fun ws s2 ⟨wv, H2, I2, r2, ρ2, m2, es, x2, S2, re, le, o2⟩ => ⟨I2.kIn, ?_⟩
    rw [n1, List.nil_append]
    refine run_shape G.hK G.hr G.hg hl F hb I2 r1 r2 S2 ((rd.ext x2).app re) l1 ?_ o2
    rw [← re.len, le]
    show zs.length = (kws.filterMap (·.arg)).length
    rw [hlen hkw, lens h2]
  cases args with
  | nil =>
    refine PySem.W.callWith_KW0 (h₀ := X.base) I.ok.mod.kin hk n2 ?_ (by rw [show (backTo pos (starEach [] X.env)).any (·.1) = false from rfl, n3] <;> rfl)
    refine more [] s [] H I .nil rfl ?_
    cases h1
    refine ⟨ρ, m, [], S, E, rvl_nil, ?_⟩
    simp only [evEs, R.bind_ok, List.nil_append] at o ⊢
    cases e2 : evEs call zs sd m with
    | ok es m2 => rw [e2] at o; exact o
    | exc => rw [e2] at o; exact o
    | no => rw [e2] at o; exact o
  | cons a as =>
    simp only [List.all_cons, Bool.and_eq_true] at hs
    refine PySem.W.callWith_KW (h₀ := X.base) I.ok.mod.kin hk n2 ?_ ?_ (star_cons hs.1)
    · have ta : tA L (evEs call ys) σ H fun vs H1 => ∃ ρ1 m1 ds, Ext H ρ H1 ρ1 ∧ Sim L H1 ρ1 m1 ∧ RvL L.K H1 ρ1 ds vs ∧ ds.length = ys.length ∧ Out L H1 ρ1 Q ((evEs call zs sd m1).bind fun es m2 => (optB (arr g (ds ++ es)) m2).bind (call f)) := by
        refine ⟨ρ, m, sd, S, E, ?_⟩
        cases e : evEs call ys sd m with
        | ok ds m1 =>
          rw [e] at o
          simp only [R.bind_ok] at o
          have o' : Out L H ρ Q ((evEs call zs sd m1).bind fun es m2 => (optB (arr g (ds ++ es)) m2).bind (call f)) := by
            cases e2 : evEs call zs sd m1 with
            | ok es m2 => rw [e2] at o; exact o
            | exc => rw [e2] at o; exact o
            | no => rw [e2] at o; exact o
          exact fun H1 ρ1 x1 S1 vs rv => ⟨ρ1, m1, ds, x1, S1, rv, evLen _ _ _ _ _ e, OutG.base (r := (evEs call zs sd m1).bind fun es m2 => (optB (arr g (ds ++ es)) m2).bind (call f)) o' x1⟩
        | exc => rw [e] at o; exact o.elim
        | no => rw [e] at o; exact o.elim
      refine thn (hA.run pos pins s σ H _ I ta) fun us s1 ⟨vs, H1, I1, r1, ρ1, m1, ds, x1, S1, rd, ld, o1⟩ => ?_
      exact more us s1 vs H1 I1 r1 (by rw [← rd.len, ld, ← lens h1]) ⟨ρ1, m1, ds, S1, E.ext x1, rd, o1⟩
    · rw [star_cons hs.1]
      show ((false || (backTo pos (starEach as X.env)).any (·.1)) || _) = false
      rw [star_plain hs.2, n3]
      rfl
theorem de_lc {t iter elt : Expr} {ifs' : List Expr} {scope : Scope} {own : List (Str × Nat)} {pos : Pos} {fi : SD → Hd → R (List D × Gu)} {tgD : Tg} {c : SD → Hd → R Bool} {fe : ME} (b : Bool) (hc : X.calm = true) (hN : X.N.Nodup) (hi : PI X t iter (tI L fi)) (ok : BlkOk X.N X.env.scope scope own)
    (hg : ∀ (s : Shared) (H : Hp) (C : Addr) (cl : List (Str × Addr)) (fp : List Addr), PG (X.blk s H scope (compEnvC scope cl C X.env) fp) t (gD L tgD))
    (ht : ∀ (s : Shared) (H : Hp) (C : Addr) (cl : List (Str × Addr)) (fp : List Addr), PTs (X.blk s H scope (compEnvC scope cl C X.env) fp) ifs' (tT L c))
    (he : ∀ (s : Shared) (H : Hp) (C : Addr) (cl : List (Str × Addr)) (fp : List Addr), PE (X.blk s H scope (compEnvC scope cl C X.env) fp) elt (tE L fe))
    (hs : notSet iter = true) (hsl : ∀ i ∈ tgD.slots, i ∈ own.map (·.2)) :
    PE X (.ListComp elt [⟨t, iter, ifs', 0⟩] scope pos) (tE L fun s m => (fi s m).bind fun p m1 => ifs (decide (p.1.length ≤ sizeLine)) ((lcGo p.2 (lcStep tgD (wipeD s (own.map (·.2))) c fe) p.1 m1).bind (mkL b))) :=
  PE.weak (PE.fz b (pe_lc hc hN hi ok hg ht he (folded_ok hs))) fun σ H Q h => lc_run b hc hN hi ok hg ht he hsl h
/-- a list or dict is told to stay -/
theorem de_fz {e : Expr} {f : ME} (he : PE X e (tE L f)) : PE X e (tE L fun s m => (f s m).bind fzD) := by
  refine ⟨fun pins s σ H Q I ⟨ρ, m, sd, S, E, o⟩ => ?_⟩
  have h : tE L f σ H fun x H1 => QLk Q x H1 ∨ Q x H1 := by
    refine tE_then (k := fun _ => fzD) S E o fun x H1 ρ1 d m1 x1 S1 E1 rx o1 => ?_
    unfold fzD at o1
    split at o1
    next n =>
      split at o1
      next xs e1 =>
        obtain ⟨a, vs, ha, rfl, h1, h2⟩ := ref_lst S1 rx e1
        refine .inl ⟨a, _, rfl, h1, trivial, fun ob => ?_⟩
        have x2 : Ext H1 ρ1 (upd H1 a (.frz ob (.lst vs))) ρ1 := Ext.write ha h1 (by simp) (by simp)
        refine o1 _ _ x2 (S1.write ha h1 (by simp) (by simp) ⟨ob, _, upd_same⟩) _ ?_
        unfold Rv
        exact ⟨a, ob, vs, rfl, upd_same, h2.ext x2⟩
      next t kvs e1 =>
        unfold Rv at rx
        obtain ⟨a, ha, rfl⟩ := rx
        rcases S1.ob n a _ ha e1 with ⟨rfl, ps, h1, h2⟩ | ⟨rfl, ps, h1, h2⟩
        · refine .inl ⟨a, _, rfl, h1, trivial, fun ob => ?_⟩
          have x2 : Ext H1 ρ1 (upd H1 a (.frz ob (.dK ps))) ρ1 := Ext.write ha h1 (by simp) (by simp)
          refine o1 _ _ x2 (S1.write ha h1 (by simp) (by simp) ⟨ob, _, upd_same⟩) _ ?_
          unfold Rv
          exact ⟨a, ob, rfl, .inl ⟨rfl, ps, upd_same, RvK.mono x2.pre x2.tup x2.frz h2⟩⟩
        · refine .inl ⟨a, _, rfl, h1, trivial, fun ob => ?_⟩
          have x2 : Ext H1 ρ1 (upd H1 a (.frz ob (.dT ps))) ρ1 := Ext.write ha h1 (by simp) (by simp)
          refine o1 _ _ x2 (S1.write ha h1 (by simp) (by simp) ⟨ob, _, upd_same⟩) _ ?_
          unfold Rv
          exact ⟨a, ob, rfl, .inr ⟨rfl, ps, upd_same, RvT.mono x2.pre x2.tup x2.frz h2⟩⟩
      next => exact o1.elim
    next => exact .inr (out_val o1 S1 rx)
  refine thn (he.run pins s σ H _ I h) fun u s1 ⟨v, H1, I1, r, q⟩ => ?_
  rcases q with q | q
  · exact ep_lock ⟨v, H1, I1, r, q⟩
  · exact ⟨v, H1, I1, r, q⟩
end
end Dx
/-! DxM: the look is right: expressions -/
namespace Dx
open PySem PySem.Spec PyProof.Rows L2
structure Snd (L : Lnk) (W : Wd) (k : Nat) (call : Nat → List D → Hd → R D) (n : Nat) : Prop where
  E : ∀ X sx e x, Good L W X k call sx → chkE W n sx e x = true → PE X e (tE L (evE call x))
  Es : ∀ X sx es xs, Good L W X k call sx → chkEs W n sx es xs = true → PEs L call X es xs
  B : ∀ X sx op l x pos, Good L W X k call sx → chkB W n sx op l x = true → PE X (.BoolOp op l pos) (tE L (evE call x))
  O : ∀ X sx o x, Good L W X k call sx → chkO W n sx o x = true → PO X o (tO L fun s m => (evE call x s m).bind fun l m2 => optB (part (isAbs x) l) m2)
  T : ∀ X sx e t, Good L W X k call sx → chkT W n sx e t = true → PT X e (tT L (evT call t))
  W' : ∀ X sx op l t pos, Good L W X k call sx → chkW W n sx op l t = true → PW X (.BoolOp op l pos) (tT L (evT call t))
  C : ∀ X sx l t, Good L W X k call sx → chkC W n sx l t = true → PTs X l (tT L (evT call t))
  I : ∀ X sx tg e it, Good L W X k call sx → (!needTup it || isTupE tg) = true → chkI W n sx e it = true → PI X tg e (tI L (evI call it))
  G : ∀ X sx e t, Good L W X k call sx → chkG W n sx e t = true → PG X e (gD L t)
  Gs : ∀ X sx es ts, Good L W X k call sx → es.all nostar = true → chkGs W n sx es ts = true → PGs X es (gsD L ts)
section
variable {L : Lnk} {W : Wd} {k : Nat} {call : Nat → List D → Hd → R D}
theorem isAbs_eq {x : Ex} (h : isAbs x = true) : x = .con .non := by
  unfold isAbs at h
  split at h
  · rfl
  · cases h
theorem own_ix {N : List Str} {own : List Nat} (h : (own.filterMap fun i => N[i]?.map fun x => (x, i)).map (·.2) = own) : True := trivial
theorem snd0 : Snd L W k call 0 where
  E := fun _ _ _ _ _ h => by simp [chkE] at h
  Es := fun _ _ _ _ _ h => by simp [chkEs] at h
  B := fun _ _ _ _ _ _ _ h => by simp [chkB] at h
  O := fun _ _ _ _ _ h => by simp [chkO] at h
  T := fun _ _ _ _ _ h => by simp [chkT] at h
  W' := fun _ _ _ _ _ _ _ h => by simp [chkW] at h
  C := fun _ _ _ _ _ h => by simp [chkC] at h
  I := fun _ _ _ _ _ _ _ h => by simp [chkI] at h
  G := fun _ _ _ _ _ h => by simp [chkG] at h
  Gs := fun _ _ _ _ _ _ h => by simp [chkGs] at h
theorem sndG {n : Nat} (ih : Snd L W k call n) (X : Cx) (sx : Sx) (e : Expr) (t : Tg) (G : Good L W X k call sx) (h : chkG W (n + 1) sx e t = true) : PG X e (gD L t) := by
  unfold chkG at h
  split at h
  next i =>
    split at h
    next id p =>
      simp only [Bool.and_eq_true, decide_eq_true_eq] at h
      exact dg_name (by rw [G.hN]; exact G.nd) (by rw [G.hN]; exact h.1) (G.loc h.2).1 (G.loc h.2).2
    next => cases h
  next ts =>
    split at h
    next es k p =>
      simp only [Bool.and_eq_true, decide_eq_true_eq] at h
      exact dg_tup G.hc h.1.1 h.1.2 (ih.Gs X sx es ts G h.1.1 h.2)
    next => cases h
theorem sndGs {n : Nat} (ih : Snd L W k call n) (X : Cx) (sx : Sx) (es : List Expr) (ts : List Tg) (G : Good L W X k call sx) (hs : es.all nostar = true) (h : chkGs W (n + 1) sx es ts = true) : PGs X es (gsD L ts) := by
  cases es with
  | nil =>
    cases ts with
    | nil => exact dgs_nil
    | cons t ts => simp [chkGs] at h
  | cons e es =>
    cases ts with
    | nil => simp [chkGs] at h
    | cons t ts =>
      simp only [chkGs, Bool.and_eq_true] at h
      simp only [List.all_cons, Bool.and_eq_true] at hs
      exact dgs_cons hs.1 (ih.G X sx e t G h.1) (ih.Gs X sx es ts G hs.2 h.2)
theorem sndEs {n : Nat} (ih : Snd L W k call n) (X : Cx) (sx : Sx) (es : List Expr) (xs : List Ex) (G : Good L W X k call sx) (h : chkEs W (n + 1) sx es xs = true) : PEs L call X es xs := by
  cases es with
  | nil =>
    cases xs with
    | nil => exact .nil
    | cons t ts => simp [chkEs] at h
  | cons e es =>
    cases xs with
    | nil => simp [chkEs] at h
    | cons t ts =>
      simp only [chkEs, Bool.and_eq_true] at h
      exact .cons (ih.E X sx e t G h.1) (ih.Es X sx es ts G h.2)
theorem sndC {n : Nat} (ih : Snd L W k call n) (X : Cx) (sx : Sx) (l : List Expr) (t : Te) (G : Good L W X k call sx) (h : chkC W (n + 1) sx l t = true) : PTs X l (tT L (evT call t)) := by
  match l with
  | [] =>
    cases t <;> first | (simp [chkC] at h; done) | exact dts_nil
  | [c] =>
    have h : chkT W n sx c t = true := by
      cases t <;> first | (simp only [chkC] at h; exact h)
    exact dts_one (ih.T X sx c t G h)
  | _ :: _ :: _ => cases t <;> simp [chkC] at h
theorem sndO {n : Nat} (ih : Snd L W k call n) (X : Cx) (sx : Sx) (o : Option Expr) (x : Ex) (G : Good L W X k call sx) (h : chkO W (n + 1) sx o x = true) : PO X o (tO L fun s m => (evE call x s m).bind fun l m2 => optB (part (isAbs x) l) m2) := by
  cases o with
  | none =>
    simp only [chkO] at h
    have e := isAbs_eq h
    subst e
    exact do_none
  | some e =>
    simp only [chkO, Bool.and_eq_true, Bool.not_eq_true'] at h
    rw [h.1]
    exact do_some (ih.E X sx e x G h.2)
theorem sndB {n : Nat} (ih : Snd L W k call n) (X : Cx) (sx : Sx) (op : BoolOp) (l : List Expr) (x : Ex) (pos : Pos) (G : Good L W X k call sx) (h : chkB W (n + 1) sx op l x = true) : PE X (.BoolOp op l pos) (tE L (evE call x)) := by
  match l with
  | [] => cases op <;> cases x <;> simp [chkB] at h
  | [a] =>
    have h : chkE W n sx a x = true := by cases op <;> cases x <;> simpa [chkB] using h
    exact pe_one (ih.E X sx a x G h)
  | a :: b :: r =>
    cases op with
    | And =>
      cases x <;> first | (simp [chkB] at h; done) | skip
      next x y =>
        simp only [chkB, Bool.and_eq_true] at h
        exact de_and (ih.E X sx a x G h.1) (ih.B X sx .And (b :: r) y pos G h.2)
    | Or =>
      cases x <;> first | (simp [chkB] at h; done) | skip
      next x y =>
        simp only [chkB, Bool.and_eq_true] at h
        exact de_or (ih.E X sx a x G h.1) (ih.B X sx .Or (b :: r) y pos G h.2)
theorem sndW {n : Nat} (ih : Snd L W k call n) (X : Cx) (sx : Sx) (op : BoolOp) (l : List Expr) (t : Te) (pos : Pos) (G : Good L W X k call sx) (h : chkW W (n + 1) sx op l t = true) : PW X (.BoolOp op l pos) (tT L (evT call t)) := by
  match l with
  | [] => cases op <;> cases t <;> simp [chkW] at h
  | [a] =>
    have h : chkT W n sx a t = true := by cases op <;> cases t <;> simpa [chkW] using h
    cases op with
    | And => exact pw_and1 (ih.T X sx a t G h)
    | Or => exact pw_or1 (ih.T X sx a t G h)
  | a :: b :: r =>
    cases op with
    | And =>
      cases t <;> first | (simp [chkW] at h; done) | skip
      next x y =>
        simp only [chkW, Bool.and_eq_true] at h
        exact dt_and (ih.T X sx a x G h.1) (ih.W' X sx .And (b :: r) y pos G h.2)
    | Or =>
      cases t <;> first | (simp [chkW] at h; done) | skip
      next x y =>
        simp only [chkW, Bool.and_eq_true] at h
        exact dt_or (ih.T X sx a x G h.1) (ih.W' X sx .Or (b :: r) y pos G h.2)
theorem sndT {n : Nat} (ih : Snd L W k call n) (X : Cx) (sx : Sx) (e : Expr) (t : Te) (G : Good L W X k call sx) (h : chkT W (n + 1) sx e t = true) : PT X e (tT L (evT call t)) := by
  cases t with
  | cmp o x y =>
    simp only [chkT] at h
    split at h
    next a op c p =>
      simp only [Bool.and_eq_true] at h
      obtain ⟨⟨⟨h1, h2⟩, h3⟩, h4⟩ := h
      rw [copB_ok h1]
      exact dt_cmp G.hK G.hu o (ih.E X sx a x G h3) (ih.E X sx c y G h4) h2
    next => cases h
  | chain o o' x y z =>
    simp only [chkT] at h
    split at h
    next a op op' b c p =>
      simp only [Bool.and_eq_true] at h
      obtain ⟨⟨⟨⟨⟨h1, h2⟩, h3⟩, h4⟩, h5⟩, h6⟩ := h
      rw [copB_ok h1, copB_ok h2]
      exact dt_chain G.hK G.hu o o' (ih.E X sx a x G h4) (ih.E X sx b y G h5) (ih.E X sx c z G h6) h3
    next => cases h
  | and x y =>
    simp only [chkT] at h
    split at h
    next a b rest pos =>
      simp only [Bool.and_eq_true] at h
      exact (dt_and (ih.T X sx a x G h.1) (ih.W' X sx .And (b :: rest) y pos G h.2)).pt
    next => cases h
  | or x y =>
    simp only [chkT] at h
    split at h
    next a b rest pos =>
      simp only [Bool.and_eq_true] at h
      exact (dt_or (ih.T X sx a x G h.1) (ih.W' X sx .Or (b :: rest) y pos G h.2)).pt
    next => cases h
  | not x =>
    simp only [chkT] at h
    split at h
    next a p => exact dt_not (ih.T X sx a x G h)
    next => cases h
  | val x =>
    simp only [chkT, Bool.and_eq_true] at h
    exact dt_val G.hK h.1 (ih.E X sx e x G h.2)
  | yes => simp [chkT] at h
theorem sndI {n : Nat} (ih : Snd L W k call n) (X : Cx) (sx : Sx) (tg e : Expr) (it : Iw) (G : Good L W X k call sx) (ht : (!needTup it || isTupE tg) = true) (h : chkI W (n + 1) sx e it = true) : PI X tg e (tI L (evI call it)) := by
  cases it with
  | seq x =>
    simp only [chkI] at h
    exact di_walk G.hK (ih.E X sx e x G h)
  | rng lo hi =>
    simp only [chkI] at h
    split at h
    next id p a pos =>
      simp only [Bool.and_eq_true, decide_eq_true_eq] at h
      obtain ⟨⟨⟨⟨⟨rfl, h2⟩, h3⟩, h4⟩, h5⟩, h6⟩ := h
      split at h5
      next => exact di_rng1 (G.gl h3) (G.bmem h2) h4 (ih.E X sx a hi G h6)
      next => cases h5
    next id p a b pos =>
      simp only [Bool.and_eq_true, decide_eq_true_eq] at h
      obtain ⟨⟨⟨⟨⟨⟨rfl, h2⟩, h3⟩, h4⟩, h5⟩, h6⟩, h7⟩ := h
      exact di_rng2 (G.gl h3) (G.bmem h2) h4 h5 (ih.E X sx a lo G h6) (ih.E X sx b hi G h7)
    next => cases h
  | enum k x =>
    cases tg <;> first | (cases ht; done) | skip
    cases k with
    | some k => simp [chkI] at h
    | none =>
      simp only [chkI] at h
      split at h
      next id p a pos =>
        simp only [Bool.and_eq_true, decide_eq_true_eq] at h
        obtain ⟨⟨⟨⟨rfl, h2⟩, h3⟩, h4⟩, h5⟩ := h
        exact di_enum G.hK (G.gl h3) (G.bmem h2) h4 (ih.E X sx a x G h5)
      next => cases h
  | zip x y =>
    cases tg <;> first | (cases ht; done) | skip
    simp only [chkI] at h
    split at h
    next id p a b pos =>
      simp only [Bool.and_eq_true, decide_eq_true_eq] at h
      obtain ⟨⟨⟨⟨⟨⟨rfl, h2⟩, h3⟩, h4⟩, h5⟩, h6⟩, h7⟩ := h
      exact di_zip G.hK (G.gl h3) (G.bmem h2) h4 h5 (ih.E X sx a x G h6) (ih.E X sx b y G h7)
    next => cases h
  | zip3 x y z =>
    cases tg <;> first | (cases ht; done) | skip
    simp only [chkI] at h
    split at h
    next id p a b c pos =>
      simp only [Bool.and_eq_true, decide_eq_true_eq] at h
      obtain ⟨⟨⟨⟨⟨⟨⟨⟨rfl, h2⟩, h3⟩, h4⟩, h5⟩, h6⟩, h7⟩, h8⟩, h9⟩ := h
      exact di_zip3 G.hK (G.gl h3) (G.bmem h2) h4 h5 h6 (ih.E X sx a x G h7) (ih.E X sx b y G h8) (ih.E X sx c z G h9)
    next => cases h
  | items x =>
    cases tg <;> first | (cases ht; done) | skip
    simp only [chkI] at h
    split at h
    next o name apos cpos =>
      simp only [Bool.and_eq_true, decide_eq_true_eq] at h
      obtain ⟨⟨⟨rfl, h2⟩, h3⟩, h4⟩ := h
      exact di_items G.hc (ih.E X sx o x G h4) h2 h3
    next => cases h
theorem sndE {n : Nat} (ih : Snd L W k call n) (X : Cx) (sx : Sx) (e : Expr) (x : Ex) (G : Good L W X k call sx) (h : chkE W (n + 1) sx e x = true) : PE X e (tE L (evE call x)) := by
  cases x with
  | var i =>
    simp only [chkE] at h
    split at h
    next id p =>
      simp only [Bool.and_eq_true, decide_eq_true_eq] at h
      obtain ⟨⟨⟨h1, h2⟩, h3⟩, h4⟩ := h
      exact de_var (by rw [G.hN]; exact h1) (G.vis h2) (ne_beq h3) (ne_beq h4)
    next => cases h
  | con d =>
    simp only [chkE] at h
    split at h
    next c k' p => exact de_con (by simpa using h)
    next id p =>
      simp only [Bool.and_eq_true, List.any_eq_true, decide_eq_true_eq] at h
      obtain ⟨⟨⟨q, h1, rfl⟩, h2⟩, h3⟩ := h
      obtain ⟨v, u, g1, g2, g3⟩ := G.hglb _ h1
      exact de_glob g1 (G.gl h2) g2 g3 (ne_beq h3)
    next => cases h
  | bin b o x y =>
    simp only [chkE] at h
    split at h
    next a op c p =>
      simp only [Bool.and_eq_true] at h
      rw [opB_ok h.1.1]
      exact de_bin b o (ih.E X sx a x G h.1.2) (ih.E X sx c y G h.2)
    next => cases h
  | neg x =>
    simp only [chkE] at h
    split at h
    next a p => exact de_neg (ih.E X sx a x G h)
    next => cases h
  | cmp o x y =>
    simp only [chkE] at h
    split at h
    next a op c p =>
      simp only [Bool.and_eq_true] at h
      obtain ⟨⟨⟨h1, h2⟩, h3⟩, h4⟩ := h
      rw [copB_ok h1]
      exact de_cmp G.hK G.hu o (ih.E X sx a x G h3) (ih.E X sx c y G h4) h2
    next => cases h
  | chain o o' x y z =>
    simp only [chkE] at h
    split at h
    next a op op' b c p =>
      simp only [Bool.and_eq_true] at h
      obtain ⟨⟨⟨⟨⟨h1, h2⟩, h3⟩, h4⟩, h5⟩, h6⟩ := h
      rw [copB_ok h1, copB_ok h2]
      exact de_chain G.hK G.hu o o' (ih.E X sx a x G h4) (ih.E X sx b y G h5) (ih.E X sx c z G h6) h3
    next => cases h
  | and x y =>
    simp only [chkE] at h
    split at h
    next a b rest pos =>
      simp only [Bool.and_eq_true] at h
      exact de_and (ih.E X sx a x G h.1) (ih.B X sx .And (b :: rest) y pos G h.2)
    next => cases h
  | or x y =>
    simp only [chkE] at h
    split at h
    next a b rest pos =>
      simp only [Bool.and_eq_true] at h
      exact de_or (ih.E X sx a x G h.1) (ih.B X sx .Or (b :: rest) y pos G h.2)
    next => cases h
  | not x =>
    simp only [chkE] at h
    split at h
    next a p => exact de_not (ih.E X sx a x G h)
    next => cases h
  | cond c x y =>
    simp only [chkE] at h
    split at h
    next t a b p =>
      simp only [Bool.and_eq_true] at h
      exact de_cond (ih.T X sx t c G h.1.1) (ih.E X sx a x G h.1.2) (ih.E X sx b y G h.2)
    next => cases h
  | tup es =>
    simp only [chkE] at h
    split at h
    next l k' p =>
      simp only [Bool.and_eq_true] at h
      exact de_tup ((ih.Es X sx l es G h.2).pa h.1)
    next => cases h
  | lst b es =>
    simp only [chkE] at h
    split at h
    next l p =>
      simp only [Bool.and_eq_true] at h
      exact de_lst b ((ih.Es X sx l es G h.2).pa h.1)
    next => cases h
  | dnew t =>
    simp only [chkE] at h
    split at h
    next => exact de_dnew t
    next => cases h
  | ix x y =>
    simp only [chkE] at h
    split at h
    next a c p =>
      simp only [Bool.and_eq_true] at h
      exact de_ix G.hK G.hu h.1.1 (ih.E X sx a x G h.1.2) (ih.E X sx c y G h.2)
    next => cases h
  | sl b x lo hi =>
    simp only [chkE] at h
    split at h
    next a l hh p1 p2 =>
      simp only [Bool.and_eq_true] at h
      exact de_sl G.hK b (ih.E X sx a x G h.1.1) (ih.O X sx l lo G h.1.2) (ih.O X sx hh hi G h.2)
    next => cases h
  | rev b x =>
    simp only [chkE] at h
    split at h
    next a k' p1 p2 p3 p4 => exact de_rev G.hK b (ih.E X sx a x G h)
    next => cases h
  | call f es g =>
    simp only [chkE] at h
    split at h
    next id p args kws pos =>
      simp only [Bool.and_eq_true, List.any_eq_true, decide_eq_true_eq] at h
      obtain ⟨⟨⟨⟨⟨⟨sh, h1, rfl⟩, h2⟩, h3⟩, h4⟩, h5⟩, h6⟩ := h
      exact de_call G h1 h2 h3 h4 (ne_beq h5) (ih.Es X sx _ es G h6)
    next => cases h
  | bi f es =>
    simp only [chkE] at h
    split at h
    next id p args pos =>
      split at h
      next t a y p2 x =>
        simp only [Bool.and_eq_true, decide_eq_true_eq] at h
        obtain ⟨⟨⟨⟨⟨⟨⟨rfl, h2⟩, h3⟩, h4⟩, h5⟩, h6⟩, h7⟩, h8⟩ := h
        subst h4
        obtain ⟨b1, b2, b3⟩ := ty_boot t
        have hx := de_isinst (L := L) (pos := pos) (p := p) (p2 := p2) G.hK (G.gl h3) (G.bmem h2) (G.gl h6) (G.bmem h5) b1 b2 b3 h7 (ih.E X sx a x G h8)
        refine PE.weak hx fun σ H Q ⟨ρ, m, s, S, E, o⟩ => ⟨ρ, m, s, S, E, ?_⟩
        simp only [evE, evEs] at o
        dsimp only
        cases e : evE call x s m with
        | ok d m1 => rw [e] at o; exact o
        | exc => rw [e] at o; exact o
        | no => rw [e] at o; exact o
      next hyp =>
        simp only [Bool.and_eq_true, decide_eq_true_eq, Bool.not_eq_true', List.isEmpty_eq_false_iff] at h
        obtain ⟨⟨⟨⟨⟨⟨h1, rfl⟩, h3⟩, h4⟩, h5⟩, h6⟩, h7⟩ := h
        have hv : ∃ v, biE f = some v := by cases f <;> first | exact ⟨_, rfl⟩ | (cases h1)
        obtain ⟨v, hv⟩ := hv
        obtain ⟨b1, b2, b3⟩ := bi_boot hv
        exact de_bi G.hK G.hu G.hg G.hc hv (G.gl h4) (G.bmem h3) b1 b2 b3 h5 h6 ((ih.Es X sx args es G h7).pa h5)
    next => cases h
  | mt f x es =>
    cases es with
    | nil =>
      simp only [chkE] at h
      split at h
      next o name apos cpos =>
        simp only [Bool.and_eq_true, decide_eq_true_eq] at h
        obtain ⟨⟨⟨⟨h1, rfl⟩, h2⟩, h3⟩, h4⟩ := h
        refine PE.weak (de_mt0 (L := L) (fo := evE call x) G.hK G.hu f h1 (ih.E X sx o x G h4) h2 h3) fun σ H Q ⟨ρ, m, s, S, E, o⟩ => ⟨ρ, m, s, S, E, ?_⟩
        simp only [evE, evEs, R.bind_ok] at o
        exact o
      next => cases h
    | cons e0 es0 =>
    simp only [chkE] at h
    split at h
    next o name apos args cpos =>
      simp only [Bool.and_eq_true, decide_eq_true_eq, Bool.not_eq_true', List.isEmpty_eq_false_iff] at h
      obtain ⟨⟨⟨⟨⟨⟨⟨rfl, h2⟩, h3⟩, h4⟩, h5⟩, h6⟩, h7⟩, h8⟩ := h
      cases args with
      | nil => exact absurd rfl h4
      | cons a as => exact de_mt G.hK G.hu f (ih.E X sx o x G h7) ((ih.Es X sx _ _ G h8).pa h3) h2 h3 h5 h6
    next => cases h
  | lc b own tg it c y =>
    simp only [chkE] at h
    split at h
    next elt t iter ifs' scope pos =>
      simp only [Bool.and_eq_true, decide_eq_true_eq, List.all_eq_true] at h
      obtain ⟨⟨⟨⟨⟨⟨⟨⟨h1, h2⟩, h3⟩, h4⟩, h0⟩, h5⟩, h6⟩, h7⟩, h8⟩ := h
      have ok : BlkOk W.N sx.sc scope (own.filterMap fun i => W.N[i]?.map fun x => (x, i)) := blkOk_by h1
      have ok' : BlkOk X.N X.env.scope scope (own.filterMap fun i => W.N[i]?.map fun x => (x, i)) := by rw [G.hN, G.hsc]; exact ok
      have key := de_lc (L := L) (pos := pos) b G.hc (by rw [G.hN]; exact G.nd) (ih.I X sx t iter it G h0 h5) ok'
        (fun s H C cl fp => ih.G _ _ t tg (G.blk ok s H C cl fp) h6) (fun s H C cl fp => ih.C _ _ ifs' c (G.blk ok s H C cl fp) h7) (fun s H C cl fp => ih.E _ _ elt y (G.blk ok s H C cl fp) h8) h3
        (fun i hi => by rw [h2]; simpa using h4 i hi)
      rw [h2] at key
      exact key
    next => cases h
  | dc b own tg it c kk v =>
    simp only [chkE] at h
    split at h
    next kx vx t iter ifs' scope pos =>
      simp only [Bool.and_eq_true, decide_eq_true_eq, List.all_eq_true] at h
      obtain ⟨⟨⟨⟨⟨⟨⟨⟨⟨h1, h2⟩, h3⟩, h4⟩, h0⟩, h5⟩, h6⟩, h7⟩, h8⟩, h9⟩ := h
      have ok : BlkOk W.N sx.sc scope (own.filterMap fun i => W.N[i]?.map fun x => (x, i)) := blkOk_by h1
      have ok' : BlkOk X.N X.env.scope scope (own.filterMap fun i => W.N[i]?.map fun x => (x, i)) := by rw [G.hN, G.hsc]; exact ok
      have key := de_dc (L := L) (pos := pos) b G.hu G.hc (by rw [G.hN]; exact G.nd) (ih.I X sx t iter it G h0 h5) ok'
        (fun s H C cl fp => ih.G _ _ t tg (G.blk ok s H C cl fp) h6) (fun s H C cl fp => ih.C _ _ ifs' c (G.blk ok s H C cl fp) h7) (fun s H C cl fp => ih.E _ _ kx kk (G.blk ok s H C cl fp) h8) (fun s H C cl fp => ih.E _ _ vx v (G.blk ok s H C cl fp) h9) h3
        (fun i hi => by rw [h2]; simpa using h4 i hi)
      rw [h2] at key
      exact key
    next => cases h
  | lw b x y =>
    simp only [chkE] at h
    split at h
    next id p id2 p2 a c pos2 pos =>
      simp only [Bool.and_eq_true, decide_eq_true_eq] at h
      obtain ⟨⟨⟨⟨⟨⟨⟨⟨⟨rfl, h2⟩, h3⟩, rfl⟩, h5⟩, h6⟩, h7⟩, h8⟩, h9⟩, h10⟩ := h
      exact de_lw b G.hK G.hc (G.gl h3) (G.bmem h2) (G.gl h6) (G.bmem h5) h7 h8 (ih.E X sx a x G h9) (ih.E X sx c y G h10)
    next => cases h
  | stp b x y =>
    simp only [chkE] at h
    split at h
    next a c p3 pos =>
      simp only [Bool.and_eq_true] at h
      exact de_stp G.hK b (ih.E X sx a x G h.1) (ih.E X sx c y G h.2)
    next => cases h
  | fz x =>
    simp only [chkE] at h
    exact de_fz (ih.E X sx e x G h)
theorem snd_all : ∀ n, Snd L W k call n
  | 0 => snd0
  | n + 1 =>
    have ih := snd_all n
    ⟨fun X sx e x G h => sndE ih X sx e x G h, fun X sx es xs G h => sndEs ih X sx es xs G h, fun X sx op l x pos G h => sndB ih X sx op l x pos G h, fun X sx o x G h => sndO ih X sx o x G h,
      fun X sx e t G h => sndT ih X sx e t G h, fun X sx op l t pos G h => sndW ih X sx op l t pos G h, fun X sx l t G h => sndC ih X sx l t G h, fun X sx tg e it G ht h => sndI ih X sx tg e it G ht h,
      fun X sx e t G h => sndG ih X sx e t G h, fun X sx es ts G hs h => sndGs ih X sx es ts G hs h⟩
end
end Dx
/-! DxN: the look at statements -/
namespace Dx
open PySem PySem.Spec PyProof.Rows L2

def swapB (sc : Scope) (t v : Expr) : Option Bool := match v with
  | .ListComp _ _ s lp => match t with
    | .Name y py => some (sc.names.lookup y == some .local && py.line == lp.line && !(s.names.any fun (n, k) => n == y && (k == .local || k == .cell)))
    | _ => some false
  | .SetComp .. => none
  | .DictComp _ _ _ s lp => match t with
    | .Name y py => some (sc.names.lookup y == some .local && py.line == lp.line && !(s.names.any fun (n, k) => n == y && (k == .local || k == .cell)))
    | _ => some false
  | _ => some false
theorem swapB_ok {t v : Expr} {b : Bool} {env : Env} {l : Nat} (hk : env.scope.kind = .function) (h : swapB env.scope t v = some b) : swapsWithSole [t] v l env = pure b := by
  have hb : env.blockKind = .function := by unfold Env.blockKind; rw [hk]; rfl
  cases v
  case ListComp elt gs s lp =>
    cases t
    case Name y py =>
      cases h
      unfold swapsWithSole swapsWith
      simp only [hb, Expr.pos]
      rfl
    all_goals (cases h; rfl)
  case SetComp => cases h
  case DictComp kx vx gs s lp =>
    cases t
    case Name y py =>
      cases h
      unfold swapsWithSole swapsWith
      simp only [hb, Expr.pos]
      rfl
    all_goals (cases h; rfl)
  all_goals (cases h; rfl)
def swpO (sc : Scope) (t v : Expr) : Option (Option (List Str)) := match t, v with
  | .Tuple ts _ _, .Tuple vs _ _ => swP sc ts vs
  | .List .., .Tuple .. => none
  | _, _ => some none
theorem swP_ok {ts vs : List Expr} {k1 k2 p1 p2} {env : Env} {r : Option (List Str)} (hk : env.scope.kind = .function) (h : swP env.scope ts vs = some r) : swappedStores [.Tuple ts k1 p1] (.Tuple vs k2 p2) env = pure r := by
  have hb : env.blockKind = .function := by unfold Env.blockKind; rw [hk]; rfl
  unfold swP at h
  unfold swappedStores
  simp only [hb, bne_self_eq_false, Bool.or_false]
  dsimp only at h
  split at h
  next c => cases h; exact if_pos c
  next c =>
  refine (if_neg c).trans ?_
  split at h
  next c => cases h; exact if_pos c
  next c =>
  refine (if_neg c).trans ?_
  split at h
  next c => cases h; exact if_pos c
  next c =>
  refine (if_neg c).trans ?_
  split at h
  next c => cases h; exact if_pos c
  next c =>
  refine (if_neg c).trans ?_
  split at h
  next c => cases h
  next c =>
  cases h
  exact if_neg c
theorem swpO_ok {t v : Expr} {env : Env} {r : Option (List Str)} (hk : env.scope.kind = .function) (h : swpO env.scope t v = some r) : swappedStores [t] v env = pure r := by
  cases v
  case Tuple vs k2 p2 =>
    cases t
    case Tuple ts k1 p1 => exact swP_ok hk h
    case List => cases h
    all_goals (cases h; rfl)
  all_goals (cases t <;> (cases h; rfl))

/-- several targets -/
def chkM (W : Wd) (n : Nat) (sx : Sx) : List Expr → List Tm → Bool
  | [], [] => true
  | .Name id _ :: es, .name i :: ts => decide (W.N[i]? = some id) && locB sx id && chkM W n sx es ts
  | .Subscript a c _ :: es, .ix o i :: ts => plainIx c && chkE W n sx a o && chkE W n sx c i && chkM W n sx es ts
  | _, _ => false
mutual
def chkS (W : Wd) (n : Nat) : Nat → Sx → Stmt → Sm → Bool
  | 0, _, _, _ => false
  | f + 1, sx, st, x => match x with
    | .asg tg e => match st with
      | .Assign [t] v _ => match swapB sx.sc t v with
        | some true => match t, tg, e with
          | .Name y _, .name i, .lc .. => decide (W.N[i]? = some y) && (sx.sc.names.lookup y == some .local) && chkE W (n + 1) sx v e
          | .Name y _, .name i, .dc .. => decide (W.N[i]? = some y) && (sx.sc.names.lookup y == some .local) && chkE W (n + 1) sx v e
          | .Name y _, .name i, .fz (.dc b own tg it c k x) => decide (W.N[i]? = some y) && (sx.sc.names.lookup y == some .local) && chkE W (n + 1) sx v (.dc b own tg it c k x)
          | _, _, _ => false
        | some false => match swpO sx.sc t v with
          | some none => nostar t && chkE W n sx v e && chkG W n sx t tg
          | some (some ns) => match t, tg, v, e with
            | .Tuple [.Name x _, .Name y _] _ _, .tup [.name i, .name j], .Tuple [a, b] _ _, .tup es =>
              decide (ns = [x, y]) && decide (W.N[i]? = some x) && decide (W.N[j]? = some y) && decide (i ≠ j) && (sx.sc.names.lookup x == some .local) && (sx.sc.names.lookup y == some .local) && [a, b].all nostar && chkEs W n sx [a, b] es
            | .Tuple [.Name x _, .Name y _, .Name z _] _ _, .tup [.name i, .name j, .name l], .Tuple [a, b, c] _ _, .tup es =>
              decide (ns = [x, y, z]) && decide (W.N[i]? = some x) && decide (W.N[j]? = some y) && decide (W.N[l]? = some z) && decide (i ≠ j) && decide (i ≠ l) && decide (j ≠ l) && (sx.sc.names.lookup x == some .local) && (sx.sc.names.lookup y == some .local) && (sx.sc.names.lookup z == some .local) && [a, b, c].all nostar && chkEs W n sx [a, b, c] es
            | _, _, _, _ => false
          | none => false
        | none => false
      | _ => false
    | .asgm ts e => match st with
      | .Assign [.Tuple es k p] v _ => match swapB sx.sc (.Tuple es k p) v with
        | some false => match swpO sx.sc (.Tuple es k p) v with
          | some none => es.all nostar && decide (es.length = ts.length) && chkM W n sx es ts && chkE W n sx v e
          | _ => false
        | _ => false
      | _ => false
    | .aug _ _ _ => false
    | .setix o i e => match st with
      | .Assign [.Subscript a c _] v _ => plainIx c && !isComp v && chkE W n sx a o && chkE W n sx c i && chkE W n sx v e
      | _ => false
    | .exp e => match st with
      | .Expr v _ => !isComp v && chkE W n sx v e
      | _ => false
    | .ret e => match st with
      | .Return (some v) _ => chkE W n sx v e
      | .Return none _ => match e with
        | .con .non => true
        | _ => false
      | _ => false
    | .iff c a b => match st with
      | .If t u v _ => chkT W n sx t c && chkSs W n f sx u a && chkSs W n f sx v b
      | _ => false
    | .fr tg it body => match st with
      | .For t iter u [] _ => notSet iter && (!needTup it || isTupE t) && chkI W n sx iter it && chkG W n sx t tg && chkSs W n f sx u body
      | _ => false
    | .whl c body => match st with
      | .While t u [] _ => chkT W n sx t c && chkSs W n f sx u body
      | _ => false
    | .pass => match st with
      | .Pass _ => true
      | .Expr (.Constant (.str _) _ _) _ => true
      | _ => false
    | .never => true
def chkSs (W : Wd) (n : Nat) : Nat → Sx → List Stmt → List Sm → Bool
  | 0, _, _, _ => false
  | _ + 1, _, [], [] => true
  | f + 1, sx, s :: ss, x :: xs => chkS W n f sx s x && chkSs W n f sx ss xs
  | _, _, _, _ => false
end
section
variable {L : Lnk} {X : Cx}
theorem bind_three {i j l : Nat} {ds : List D} {s s1 : SD} (h : bindTg (.tup [.name i, .name j, .name l]) (.tup ds) s = some s1) : ∃ d e f, ds = [d, e, f] ∧ s1 = ((s.set i (some d)).set j (some e)).set l (some f) := by
  unfold bindTg at h
  cases ds with
  | nil => unfold bindTgs at h; cases h
  | cons d ds =>
    unfold bindTgs bindTg at h
    obtain ⟨e, f, rfl, rfl⟩ := bind_two (by unfold bindTg; exact (show bindTgs [.name j, .name l] ds (s.set i (some d)) = some s1 from h))
    exact ⟨d, e, f, rfl, rfl⟩
theorem rvl3 {K : PySem.W.Frag} {H : Hp} {ρ : List Addr} {d e f : D} {vs : List V} (h : RvL K H ρ [d, e, f] vs) : ∃ u v w, vs = [u, v, w] ∧ Rv K H ρ d u ∧ Rv K H ρ e v ∧ Rv K H ρ f w := by
  have hl := h.len
  match vs, hl with
  | [u, v, w], _ =>
    refine ⟨u, v, w, rfl, ?_, ?_, ?_⟩
    · obtain ⟨x, h1, h2⟩ := h.get (i := 0) rfl
      cases h1; exact h2
    · obtain ⟨x, h1, h2⟩ := h.get (i := 1) rfl
      cases h1; exact h2
    · obtain ⟨x, h1, h2⟩ := h.get (i := 2) rfl
      cases h1; exact h2
theorem ds_par3 {i j l : Nat} {x y z : Str} {a b c : Expr} {g : SD → Hd → R (List D)} {px py pz pt pos : Pos} {kt k2 pt2} (hc : X.calm = true) (hN : X.N.Nodup) (hi : X.N[i]? = some x) (hj : X.N[j]? = some y) (hl : X.N[l]? = some z) (hij : i ≠ j) (hil : i ≠ l) (hjl : j ≠ l)
    (hx : X.env.scope.names.lookup x = some .local) (hy : X.env.scope.names.lookup y = some .local) (hz : X.env.scope.names.lookup z = some .local) (ha : PA X [a, b, c] (tA L g))
    (hw : swappedStores [.Tuple [.Name x px, .Name y py, .Name z pz] kt pt] (.Tuple [a, b, c] k2 pt2) X.env = pure (some [x, y, z])) :
    PS X (.Assign [.Tuple [.Name x px, .Name y py, .Name z pz] kt pt] (.Tuple [a, b, c] k2 pt2) pos) (tS L fun s m => ((g s m).bind fun ds m1 => ifs (decide (ds.length ≤ sizeLine)) (.ok (.tup ds) m1)).bind (asgD (.tup [.name i, .name j, .name l]) s)) := by
  refine PS.weak (ps_par3 (k2 := k2) (pt2 := pt2) hc hN hi hj hl hij hil hjl hx hy hz ha hw) fun D σ H ⟨ρ, m, s, S, E, o⟩ => ?_
  have o : OutG L H ρ (FlP L D) ((g s m).bind fun ds m1 => (ifs (decide (ds.length ≤ sizeLine)) (R.ok (Dx.D.tup ds) m1)).bind (asgD (.tup [.name i, .name j, .name l]) s)) := by
    dsimp only at o
    cases h : g s m with
    | ok ds m1 => rw [h] at o; exact o
    | exc => rw [h] at o; exact o
    | no => rw [h] at o; exact o
  refine tA_then (k := fun s ds m1 => (ifs (decide (ds.length ≤ sizeLine)) (R.ok (Dx.D.tup ds) m1)).bind (asgD (.tup [.name i, .name j, .name l]) s)) S E o fun vs H1 ρ1 ds m1 x1 S1 E1 rs o1 => ?_
  cases hd : decide (ds.length ≤ sizeLine) with
  | false => rw [hd] at o1; exact o1.elim
  | true =>
    rw [hd] at o1
    have o1 : OutG L H1 ρ1 (FlP L D) (asgD (.tup [.name i, .name j, .name l]) s (Dx.D.tup ds) m1) := o1
    unfold asgD at o1
    cases hb : bindTg (.tup [.name i, .name j, .name l]) (Dx.D.tup ds) s with
    | none => rw [hb] at o1; exact o1.elim
    | some s1 =>
      rw [hb] at o1
      obtain ⟨d, e, f, rfl, rfl⟩ := bind_three hb
      obtain ⟨u, v, w, rfl, r1, r2, r3⟩ := rvl3 rs
      exact ⟨u, v, w, rfl, o1.here S1 _ (((E1.set r1).set r2).set r3)⟩
theorem ds_retN {pos : Pos} : PS X (.Return none pos) (tS L fun s m => .ok (.ret .non) m) := PS.weak ps_retN fun D σ H ⟨ρ, m, s, S, E, o⟩ => o.here S .non (by simp [Rv])
end
section
variable {L : Lnk} {W : Wd} {k : Nat} {call : Nat → List D → Hd → R D}
theorem lk_eq {a b : Option NameKind} (h : (a == b) = true) : a = b := by simpa using h
structure SndS (L : Lnk) (W : Wd) (k : Nat) (call : Nat → List D → Hd → R D) (n f : Nat) : Prop where
  S : ∀ (X : Cx) (sx : Sx) (st : Stmt) (x : Sm), Good L W X k call sx → PassesOwn (model X.prog X.w) X.A X.env X.xe → chkS W n f sx st x = true → PS X st (tS L (evS call x))
  Ss : ∀ (X : Cx) (sx : Sx) (st : List Stmt) (x : List Sm), Good L W X k call sx → PassesOwn (model X.prog X.w) X.A X.env X.xe → chkSs W n f sx st x = true → PSs X st (tS L (evB call x))
theorem sndSs {n f : Nat} (ih : SndS L W k call n f) (X : Cx) (sx : Sx) (st : List Stmt) (x : List Sm) (G : Good L W X k call sx) (hp : PassesOwn (model X.prog X.w) X.A X.env X.xe) (h : chkSs W n (f + 1) sx st x = true) : PSs X st (tS L (evB call x)) := by
  cases st with
  | nil =>
    cases x with
    | nil => exact ds_nil
    | cons t ts => simp [chkSs] at h
  | cons e es =>
    cases x with
    | nil => simp [chkSs] at h
    | cons t ts =>
      simp only [chkSs, Bool.and_eq_true] at h
      exact ds_cons (ih.S X sx e t G hp h.1) (ih.Ss X sx es ts G hp h.2)
theorem sndAsg {n : Nat} {X : Cx} {sx : Sx} {t v : Expr} {pos : Pos} {tg : Tg} {e : Ex} (G : Good L W X k call sx) (f : Nat) (h : chkS W n (f + 1) sx (.Assign [t] v pos) (.asg tg e) = true) : PS X (.Assign [t] v pos) (tS L (evS call (.asg tg e))) := by
  have snd := snd_all (L := L) (W := W) (k := k) (call := call) n
  have hk : X.env.scope.kind = .function := by rw [G.hsc]; exact G.kd
  simp only [chkS] at h
  split at h
  next hsw =>
    rw [← G.hsc] at hsw
    have hsw' := swapB_ok (l := pos.line) hk hsw
    split at h
    next y py i b own tgD it c ex =>
      simp only [Bool.and_eq_true, decide_eq_true_eq] at h
      obtain ⟨⟨h1, h2⟩, h3⟩ := h
      simp only [chkE] at h3
      split at h3
      next elt t' iter ifs' scope lpos =>
        simp only [Bool.and_eq_true, decide_eq_true_eq, List.all_eq_true] at h3
        obtain ⟨⟨⟨⟨⟨⟨⟨⟨g1, g2⟩, g3⟩, g4⟩, g0⟩, g5⟩, g6⟩, g7⟩, g8⟩ := h3
        have ok : BlkOk W.N sx.sc scope (own.filterMap fun i => W.N[i]?.map fun x => (x, i)) := blkOk_by g1
        have ok' : BlkOk X.N X.env.scope scope (own.filterMap fun i => W.N[i]?.map fun x => (x, i)) := by rw [G.hN, G.hsc]; exact ok
        have key := ds_setlc (L := L) (py := py) (spos := pos) (pos := lpos) b G.hc (by rw [G.hN]; exact G.nd) (by rw [G.hN]; exact h1) (by rw [G.hsc]; exact lk_eq h2) hsw' (snd.I X sx t' iter it G g0 g5) ok'
          (fun s H C cl fp => snd.G _ _ t' tgD (G.blk ok s H C cl fp) g6) (fun s H C cl fp => snd.C _ _ ifs' c (G.blk ok s H C cl fp) g7) (fun s H C cl fp => snd.E _ _ elt ex (G.blk ok s H C cl fp) g8) (folded_ok g3)
          (fun j hj => by rw [g2]; simpa using g4 j hj)
        rw [g2] at key
        exact key
      next => cases h3
    next y py i b own tgD it c kk v =>
      simp only [Bool.and_eq_true, decide_eq_true_eq] at h
      obtain ⟨⟨h1, h2⟩, h3⟩ := h
      simp only [chkE] at h3
      split at h3
      next kx vx t' iter ifs' scope lpos =>
        simp only [Bool.and_eq_true, decide_eq_true_eq, List.all_eq_true] at h3
        obtain ⟨⟨⟨⟨⟨⟨⟨⟨⟨g1, g2⟩, g3⟩, g4⟩, g0⟩, g5⟩, g6⟩, g7⟩, g8⟩, g9⟩ := h3
        have ok : BlkOk W.N sx.sc scope (own.filterMap fun i => W.N[i]?.map fun x => (x, i)) := blkOk_by g1
        have ok' : BlkOk X.N X.env.scope scope (own.filterMap fun i => W.N[i]?.map fun x => (x, i)) := by rw [G.hN, G.hsc]; exact ok
        have key := (ds_setdc (L := L) (py := py) (spos := pos) (pos := lpos) b G.hu G.hc (by rw [G.hN]; exact G.nd) (by rw [G.hN]; exact h1) (by rw [G.hsc]; exact lk_eq h2) hsw' (snd.I X sx t' iter it G g0 g5) ok'
          (fun s H C cl fp => snd.G _ _ t' tgD (G.blk ok s H C cl fp) g6) (fun s H C cl fp => snd.C _ _ ifs' c (G.blk ok s H C cl fp) g7) (fun s H C cl fp => snd.E _ _ kx kk (G.blk ok s H C cl fp) g8) (fun s H C cl fp => snd.E _ _ vx v (G.blk ok s H C cl fp) g9) (folded_ok g3)
          (fun j hj => by rw [g2]; simpa using g4 j hj)).1
        rw [g2] at key
        exact key
      next => cases h3
    next y py i b own tgD it c kk v =>
      simp only [Bool.and_eq_true, decide_eq_true_eq] at h
      obtain ⟨⟨h1, h2⟩, h3⟩ := h
      simp only [chkE] at h3
      split at h3
      next kx vx t' iter ifs' scope lpos =>
        simp only [Bool.and_eq_true, decide_eq_true_eq, List.all_eq_true] at h3
        obtain ⟨⟨⟨⟨⟨⟨⟨⟨⟨g1, g2⟩, g3⟩, g4⟩, g0⟩, g5⟩, g6⟩, g7⟩, g8⟩, g9⟩ := h3
        have ok : BlkOk W.N sx.sc scope (own.filterMap fun i => W.N[i]?.map fun x => (x, i)) := blkOk_by g1
        have ok' : BlkOk X.N X.env.scope scope (own.filterMap fun i => W.N[i]?.map fun x => (x, i)) := by rw [G.hN, G.hsc]; exact ok
        have key := (ds_setdc (L := L) (py := py) (spos := pos) (pos := lpos) b G.hu G.hc (by rw [G.hN]; exact G.nd) (by rw [G.hN]; exact h1) (by rw [G.hsc]; exact lk_eq h2) hsw' (snd.I X sx t' iter it G g0 g5) ok'
          (fun s H C cl fp => snd.G _ _ t' tgD (G.blk ok s H C cl fp) g6) (fun s H C cl fp => snd.C _ _ ifs' c (G.blk ok s H C cl fp) g7) (fun s H C cl fp => snd.E _ _ kx kk (G.blk ok s H C cl fp) g8) (fun s H C cl fp => snd.E _ _ vx v (G.blk ok s H C cl fp) g9) (folded_ok g3)
          (fun j hj => by rw [g2]; simpa using g4 j hj)).2
        rw [g2] at key
        exact key
      next => cases h3
    next => cases h
  next hsw =>
    rw [← G.hsc] at hsw
    have hsw' := swapB_ok (l := pos.line) hk hsw
    split at h
    next hw =>
      rw [← G.hsc] at hw
      have hw' := swpO_ok hk hw
      simp only [Bool.and_eq_true] at h
      exact ds_asg (snd.E X sx v e G h.1.2) (snd.G X sx t tg G h.2) hsw' hw' h.1.1
    next ns hw =>
      rw [← G.hsc] at hw
      have hw' := swpO_ok hk hw
      split at h
      next x px y py kt pt i j a b k2 pt2 es =>
        simp only [Bool.and_eq_true, decide_eq_true_eq] at h
        obtain ⟨⟨⟨⟨⟨⟨⟨h1, h2⟩, h3⟩, h4⟩, h5⟩, h6⟩, h7⟩, h8⟩ := h
        rw [h1] at hw'
        exact ds_par G.hc (by rw [G.hN]; exact G.nd) (by rw [G.hN]; exact h2) (by rw [G.hN]; exact h3) h4 (by rw [G.hsc]; exact lk_eq h5) (by rw [G.hsc]; exact lk_eq h6) ((snd.Es X sx _ es G h8).pa h7) hw'
      next x px y py z pz kt pt i j l a b c k2 pt2 es =>
        simp only [Bool.and_eq_true, decide_eq_true_eq] at h
        obtain ⟨⟨⟨⟨⟨⟨⟨⟨⟨⟨⟨h1, h2⟩, h3⟩, h3'⟩, h4⟩, h4'⟩, h4''⟩, h5⟩, h6⟩, h6'⟩, h7⟩, h8⟩ := h
        rw [h1] at hw'
        exact ds_par3 G.hc (by rw [G.hN]; exact G.nd) (by rw [G.hN]; exact h2) (by rw [G.hN]; exact h3) (by rw [G.hN]; exact h3') h4 h4' h4'' (by rw [G.hsc]; exact lk_eq h5) (by rw [G.hsc]; exact lk_eq h6) (by rw [G.hsc]; exact lk_eq h6') ((snd.Es X sx _ es G h8).pa h7) hw'
      next => cases h
    next => cases h
  next => cases h
theorem chkM_ok {n : Nat} {X : Cx} {sx : Sx} (G : Good L W X k call sx) : ∀ (es : List Expr) (ts : List Tm), chkM W n sx es ts = true → PGs X es (gMs L call ts)
  | [], [], _ => gms_nil
  | e :: es, [], h => by cases e <;> simp [chkM] at h
  | [], t :: ts, h => by simp [chkM] at h
  | e :: es, t :: ts, h => by
    have snd := snd_all (L := L) (W := W) (k := k) (call := call) n
    cases t with
    | name i =>
      cases e <;> first | (simp [chkM] at h; done) | skip
      next id p =>
        simp only [chkM, Bool.and_eq_true, decide_eq_true_eq] at h
        obtain ⟨h1, h2⟩ := G.loc h.1.2
        exact gms_name (by rw [G.hN]; exact G.nd) (by rw [G.hN]; exact h.1.1) h1 h2 (chkM_ok G es ts h.2)
    | ix o i =>
      cases e <;> first | (simp [chkM] at h; done) | skip
      next a c p =>
        simp only [chkM, Bool.and_eq_true] at h
        exact gms_ix G.hu h.1.1.1 (snd.E X sx a o G h.1.1.2) (snd.E X sx c i G h.1.2) (chkM_ok G es ts h.2)
theorem sndS {n f : Nat} (ih : SndS L W k call n f) (X : Cx) (sx : Sx) (st : Stmt) (x : Sm) (G : Good L W X k call sx) (hp : PassesOwn (model X.prog X.w) X.A X.env X.xe) (h : chkS W n (f + 1) sx st x = true) : PS X st (tS L (evS call x)) := by
  have snd := snd_all (L := L) (W := W) (k := k) (call := call) n
  cases x with
  | asg tg e =>
    cases st
    case Assign ts v pos =>
      match ts with
      | [] => simp [chkS] at h
      | [t] => exact sndAsg G f h
      | _ :: _ :: _ => simp [chkS] at h
    all_goals simp [chkS] at h
  | asgm ts e =>
    have hk : X.env.scope.kind = .function := by rw [G.hsc]; exact G.kd
    simp only [chkS] at h
    split at h
    next es kk p v pos =>
      split at h
      next hsw =>
        split at h
        next hw =>
          simp only [Bool.and_eq_true, decide_eq_true_eq] at h
          obtain ⟨⟨⟨h1, h2⟩, h3⟩, h4⟩ := h
          rw [← G.hsc] at hsw hw
          exact ds_asgm G.hc (snd.E X sx v e G h4) (chkM_ok G es ts h3) h1 (swapB_ok (l := pos.line) hk hsw) (swpO_ok hk hw) h2
        next => cases h
      next => cases h
    next => cases h
  | aug i o e => simp [chkS] at h
  | setix o i e =>
    simp only [chkS] at h
    split at h
    next a c p v pos =>
      simp only [Bool.and_eq_true, Bool.not_eq_true'] at h
      obtain ⟨⟨⟨⟨h1, h2⟩, h3⟩, h4⟩, h5⟩ := h
      exact ds_setix G.hu h1 h2 (snd.E X sx a o G h3) (snd.E X sx c i G h4) (snd.E X sx v e G h5)
    next => cases h
  | exp e =>
    simp only [chkS] at h
    split at h
    next v pos =>
      simp only [Bool.and_eq_true, Bool.not_eq_true'] at h
      exact ds_exp h.1 (snd.E X sx v e G h.2)
    next => cases h
  | ret e =>
    simp only [chkS] at h
    split at h
    next v pos => exact ds_ret (snd.E X sx v e G h)
    next pos =>
      split at h
      next => exact ds_retN
      next => cases h
    next => cases h
  | iff c a b =>
    simp only [chkS] at h
    split at h
    next t u v pos =>
      simp only [Bool.and_eq_true] at h
      exact ds_if (snd.T X sx t c G h.1.1) (ih.Ss X sx u a G hp h.1.2) (ih.Ss X sx v b G hp h.2)
    next => cases h
  | fr tg it body =>
    simp only [chkS] at h
    split at h
    next t iter u pos =>
      simp only [Bool.and_eq_true] at h
      exact ds_for hp G.hc (snd.I X sx t iter it G h.1.1.1.2 h.1.1.2) (snd.G X sx t tg G h.1.2) (ih.Ss X sx u body G hp h.2) h.1.1.1.1
    next => cases h
  | whl c body =>
    simp only [chkS] at h
    split at h
    next t u pos =>
      simp only [Bool.and_eq_true] at h
      exact ds_while loopF hp (snd.T X sx t c G h.1) (ih.Ss X sx u body G hp h.2)
    next => cases h
  | pass =>
    simp only [chkS] at h
    split at h
    next => exact ds_pass
    next => exact ds_doc
    next => cases h
  | never => exact ds_never
theorem snds_all (n : Nat) : ∀ f, SndS L W k call n f
  | 0 => ⟨fun X sx st x G hp h => by simp [chkS] at h, fun X sx st x G hp h => by simp [chkSs] at h⟩
  | f + 1 =>
    have ih := snds_all n f
    ⟨fun X sx st x G hp h => sndS ih X sx st x G hp h, fun X sx st x G hp h => sndSs ih X sx st x G hp h⟩
end
end Dx
/-! DxO: a def by its body; the levels -/
namespace Dx
open PySem PySem.Spec PyProof.Rows L2

/-! ### what is forgotten at a return -/
theorem und_key (k : Nat) (x : Key) : D.und k (kD x) = true := by cases x <;> simp [kD, D.und]
theorem und_keys (k : Nat) : ∀ xs : List Key, D.undL k (xs.map kD) = true
  | [] => by simp [D.undL]
  | x :: xs => by simp [D.undL, und_key, und_keys k xs]
section
variable {K : PySem.W.Frag} {H : Hp} {ρ ρ' : List Addr}
mutual
theorem rv_und : ∀ {d : D} {v : V}, Rv K H ρ d v → D.und ρ.length d = true
  | .non, _, _ => by simp [D.und]
  | .bl _, _, _ => by simp [D.und]
  | .int _, _, _ => by simp [D.und]
  | .str _, _, _ => by simp [D.und]
  | .scr _, _, _ => by simp [D.und]
  | .nms _, _, _ => by simp [D.und]
  | .tup ds, v, h => by
    unfold Rv at h
    obtain ⟨a, vs, e, q, r⟩ := h
    simp only [D.und]
    exact rvl_und r
  | .lst ds, v, h => by
    unfold Rv at h
    obtain ⟨a, o, vs, e, q, r⟩ := h
    simp only [D.und]
    exact rvl_und r
  | .dct t kvs, v, h => by
    unfold Rv at h
    obtain ⟨a, o, e, q⟩ := h
    simp only [D.und]
    rcases q with ⟨rfl, ps, q, r⟩ | ⟨rfl, ps, q, r⟩
    · exact rvk_und r
    · exact rvt_und r
  | .ref n, v, h => by
    unfold Rv at h
    obtain ⟨a, q, e⟩ := h
    simp only [D.und, decide_eq_true_eq]
    exact (List.getElem?_eq_some_iff.mp q).1
theorem rvl_und : ∀ {d : List D} {v : List V}, RvL K H ρ d v → D.undL ρ.length d = true
  | [], _, _ => by simp [D.undL]
  | d :: ds, vs, h => by
    unfold RvL at h
    obtain ⟨v, r, e, q, z⟩ := h
    simp only [D.undL, Bool.and_eq_true]
    exact ⟨rv_und q, rvl_und z⟩
theorem rvk_und : ∀ {d : List (D × D)} {v : List (Key × V)}, RvK K H ρ d v → D.undP ρ.length d = true
  | [], _, _ => by simp [D.undP]
  | (d, e) :: ds, vs, h => by
    unfold RvK at h
    obtain ⟨k, v, r, e', ek, q, z⟩ := h
    simp only [D.undP, Bool.and_eq_true]
    exact ⟨⟨by rw [ek]; exact und_key _ _, rv_und q⟩, rvk_und z⟩
theorem rvt_und : ∀ {d : List (D × D)} {v : List (List Key × V)}, RvT K H ρ d v → D.undP ρ.length d = true
  | [], _, _ => by simp [D.undP]
  | (d, e) :: ds, vs, h => by
    unfold RvT at h
    obtain ⟨k, v, r, e', ek, q, z⟩ := h
    simp only [D.undP, Bool.and_eq_true]
    exact ⟨⟨by rw [ek]; simp only [D.und]; exact und_keys _ _, rv_und q⟩, rvt_und z⟩
end
theorem get_cut (pre : ρ <+: ρ') {n : Nat} {a : Addr} (hn : n < ρ.length) (e : ρ'[n]? = some a) : ρ[n]? = some a := by
  obtain ⟨t, rfl⟩ := pre
  rwa [List.getElem?_append_left hn] at e
mutual
theorem cut_rv (pre : ρ <+: ρ') : ∀ {d : D} {v : V}, D.und ρ.length d = true → Rv K H ρ' d v → Rv K H ρ d v
  | .non, _, _, h => by simpa [Rv] using h
  | .bl _, _, _, h => by simpa [Rv] using h
  | .int _, _, _, h => by simpa [Rv] using h
  | .str _, _, _, h => by simpa [Rv] using h
  | .scr _, _, _, h => by simpa [Rv] using h
  | .nms _, _, _, h => by simpa [Rv] using h
  | .tup ds, v, u, h => by
    unfold Rv at h ⊢
    simp only [D.und] at u
    obtain ⟨a, vs, e, q, r⟩ := h
    exact ⟨a, vs, e, q, cut_rvl pre u r⟩
  | .lst ds, v, u, h => by
    unfold Rv at h ⊢
    simp only [D.und] at u
    obtain ⟨a, o, vs, e, q, r⟩ := h
    exact ⟨a, o, vs, e, q, cut_rvl pre u r⟩
  | .dct t kvs, v, u, h => by
    unfold Rv at h ⊢
    simp only [D.und] at u
    obtain ⟨a, o, e, q⟩ := h
    refine ⟨a, o, e, ?_⟩
    rcases q with ⟨rfl, ps, q, r⟩ | ⟨rfl, ps, q, r⟩
    · exact .inl ⟨rfl, ps, q, cut_rvk pre u r⟩
    · exact .inr ⟨rfl, ps, q, cut_rvt pre u r⟩
  | .ref n, v, u, h => by
    unfold Rv at h ⊢
    simp only [D.und, decide_eq_true_eq] at u
    obtain ⟨a, q, e⟩ := h
    exact ⟨a, get_cut pre u q, e⟩
theorem cut_rvl (pre : ρ <+: ρ') : ∀ {d : List D} {v : List V}, D.undL ρ.length d = true → RvL K H ρ' d v → RvL K H ρ d v
  | [], _, _, h => by simpa [RvL] using h
  | d :: ds, vs, u, h => by
    unfold RvL at h ⊢
    simp only [D.undL, Bool.and_eq_true] at u
    obtain ⟨v, r, e, q, z⟩ := h
    exact ⟨v, r, e, cut_rv pre u.1 q, cut_rvl pre u.2 z⟩
theorem cut_rvk (pre : ρ <+: ρ') : ∀ {d : List (D × D)} {v : List (Key × V)}, D.undP ρ.length d = true → RvK K H ρ' d v → RvK K H ρ d v
  | [], _, _, h => by simpa [RvK] using h
  | (d, e) :: ds, vs, u, h => by
    unfold RvK at h ⊢
    simp only [D.undP, Bool.and_eq_true] at u
    obtain ⟨k, v, r, e', ek, q, z⟩ := h
    exact ⟨k, v, r, e', ek, cut_rv pre u.1.2 q, cut_rvk pre u.2 z⟩
theorem cut_rvt (pre : ρ <+: ρ') : ∀ {d : List (D × D)} {v : List (List Key × V)}, D.undP ρ.length d = true → RvT K H ρ' d v → RvT K H ρ d v
  | [], _, _, h => by simpa [RvT] using h
  | (d, e) :: ds, vs, u, h => by
    unfold RvT at h ⊢
    simp only [D.undP, Bool.and_eq_true] at u
    obtain ⟨k, v, r, e', ek, q, z⟩ := h
    exact ⟨k, v, r, e', ek, cut_rv pre u.1.2 q, cut_rvt pre u.2 z⟩
end
end
section
variable {L : Lnk} {H H' : Hp} {ρ ρ' : List Addr} {m m' : Hd}
theorem rvf_und : ∀ {fs : List (Nat × D)} {gs : List (Str × V)}, RvF L H ρ fs gs → fs.all (fun p => D.und ρ.length p.2) = true
  | [], _, _ => rfl
  | (f, d) :: r, gs, h => by
    unfold RvF at h
    obtain ⟨v, q, e, h1, h2⟩ := h
    simp only [List.all_cons, Bool.and_eq_true]
    exact ⟨rv_und h1, rvf_und h2⟩
theorem cut_rvf (pre : ρ <+: ρ') : ∀ {fs : List (Nat × D)} {gs : List (Str × V)}, fs.all (fun p => D.und ρ.length p.2) = true → RvF L H ρ' fs gs → RvF L H ρ fs gs
  | [], _, _, h => by simpa [RvF] using h
  | (f, d) :: r, gs, u, h => by
    unfold RvF at h ⊢
    simp only [List.all_cons, Bool.and_eq_true] at u
    obtain ⟨v, q, e, h1, h2⟩ := h
    exact ⟨v, q, e, cut_rv pre u.1 h1, cut_rvf pre u.2 h2⟩
theorem or_und {a : Addr} : ∀ {o : O}, OR L H ρ a o → O.und ρ.length o = true
  | .lst ds, ⟨vs, _, h⟩ => rvl_und h
  | .dct t kvs, h => by
    rcases h with ⟨_, ps, _, h⟩ | ⟨_, ps, _, h⟩
    · exact rvk_und h
    · exact rvt_und h
  | .ins c fs, ⟨_, _, _, h⟩ => rvf_und h
  | .dead, _ => rfl
theorem or_cut (pre : ρ <+: ρ') {a : Addr} : ∀ {o : O}, O.und ρ.length o = true → OR L H ρ' a o → OR L H ρ a o
  | .lst ds, u, ⟨vs, e, h⟩ => ⟨vs, e, cut_rvl pre u h⟩
  | .dct t kvs, u, h => by
    rcases h with ⟨e, ps, q, h⟩ | ⟨e, ps, q, h⟩
    · exact .inl ⟨e, ps, q, cut_rvk pre u h⟩
    · exact .inr ⟨e, ps, q, cut_rvt pre u h⟩
  | .ins c fs, u, ⟨dx, gs, e, h⟩ => ⟨dx, gs, e, cut_rvf pre u h⟩
  | .dead, _, h => h
theorem keep_get {k : Nat} : ∀ {m m' : Hd} {n : Nat} {o o' : O}, keepOk k m m' = true → m[n]? = some o → m'[n]? = some o' → o = o' ∨ O.und k o' = true
  | [], _, n, o, o', _, e, _ => by simp at e
  | a :: m, [], n, o, o', h, e, e' => by simp [keepOk] at h
  | a :: m, b :: m', 0, o, o', h, e, e' => by
    simp only [keepOk, Bool.and_eq_true, Bool.or_eq_true, decide_eq_true_eq] at h
    simp at e e'
    subst e e'
    exact h.1
  | a :: m, b :: m', n + 1, o, o', h, e, e' => by
    simp only [keepOk, Bool.and_eq_true] at h
    exact keep_get h.2 (by simpa using e) (by simpa using e')
theorem keep_len {k : Nat} : ∀ {m m' : Hd}, keepOk k m m' = true → m.length ≤ m'.length
  | [], _, _ => Nat.zero_le _
  | a :: m, [], h => by simp [keepOk] at h
  | a :: m, b :: m', h => by
    simp only [keepOk, Bool.and_eq_true] at h
    simpa using keep_len h.2
/-- to forget what is new -/
theorem Sim.cut (S0 : Sim L H ρ m) (x : Ext H ρ H' ρ') (S1 : Sim L H' ρ' m') (h : keepOk m.length m m' = true) : Sim L H' ρ (m'.take m.length) := by
  have hl := S0.len
  refine ⟨by rw [List.length_take, hl]; have := keep_len h; omega, S0.nd, fun n a o e1 e2 => ?_⟩
  have hn : n < m.length := by rw [← hl]; exact (List.getElem?_eq_some_iff.mp e1).1
  rw [List.getElem?_take_of_lt hn] at e2
  have o1 := S1.ob n a o (get_pre x.pre e1) e2
  refine or_cut x.pre ?_ o1
  have q := keep_get h (List.getElem?_eq_getElem hn) e2
  rw [hl]
  rcases q with q | q
  · have := or_und (S0.ob n a _ e1 (List.getElem?_eq_getElem hn))
    rw [hl] at this
    rw [← q]
    exact this
  · exact q
theorem Ext.cut (x : Ext H ρ H' ρ') : Ext H ρ H' ρ := ⟨List.prefix_refl _, fun a h => .inl h, x.tup, x.frz, x.rest⟩
/-- a body's outcome, from the outcome behind the return -/
theorem leave_ok {gc : Bool} {r : R D} {Q : VK} (S0 : Sim L H ρ m) (o : Out L H ρ Q (leave gc m r)) : Out L H ρ Q r := by
  cases r with
  | ok d m1 =>
    unfold leave at o
    dsimp only at o
    split at o
    next c =>
      simp only [Bool.and_eq_true] at c
      intro H1 ρ1 x1 S1 v rv
      refine o H1 ρ x1.cut (S0.cut x1 S1 c.2) v (cut_rv x1.pre ?_ rv)
      rw [S0.len]
      exact c.1.2
    next => exact o
  | exc => exact o
  | no => exact o
end

/-! ### a def by its body -/
section
variable {P : Program} {w : World} {K : PySem.W.Frag} {mg : Str → Option Value} {base : Heap}
theorem start_env {L : Lnk} {H : Hp} {ρ : List Addr} {N : List Str} {ds : List D} {vs : List V} (h : RvL L.K H ρ ds vs) (k : Nat) (hk : vs.length + k = N.length) : EnvR L H ρ (ds.map some ++ List.replicate k none) (L2.start N vs) := by
  have hl := h.len
  unfold L2.start
  refine ⟨by simp; omega, fun i d e => ?_⟩
  by_cases hi : i < ds.length
  · rw [List.getElem?_append_left (by simpa using hi), List.getElem?_map] at e
    obtain ⟨x, e1, e2⟩ := Option.map_eq_some_iff.mp e
    cases e2
    obtain ⟨v, g1, g2⟩ := h.get e1
    refine ⟨v, ?_, g2⟩
    rw [List.getElem?_append_left (by rw [List.length_map, ← hl]; exact hi), List.getElem?_map, g1]
    rfl
  · rw [List.getElem?_append_right (by simpa using hi), List.getElem?_replicate] at e
    split at e <;> cases e
/-- the rule for a def -/
theorem fng_of {L : Lnk} {W : Wd} {n f k : Nat} {call : Nat → List D → Hd → R D} {fa : Addr} {name qual : Str} {params : Arguments} {body : List Stmt} {scope : Scope} {dV kV doc pm cdv ct oc : Value} {an od : Option Addr}
    {osl : Array (Option Value)} {ps : List Str} {F : Fn} (hL : L.K = K) (lk : K.lookup fa = some ⟨oc, od, .func (PySem.W.fnOf name qual params body scope dV kV doc pm an cdv ct), osl⟩) (hcd : PySem.W.codeIn K cdv qual = true) (S : FnScope W.N ps scope)
    (hps : ps.length = F.pars) (hsl : W.N.length = F.slots) (hb : ∀ x ∈ W.blts, mg x = none) (hglb : ∀ p ∈ W.glb, ∃ v u, scalV p.2 = some v ∧ mg p.1 = some u ∧ RelV v u)
    (hsh : ∀ X : Cx, X.prog = P → X.w = w → X.K = K → X.mg = mg → X.base = base → ∀ sh ∈ W.sh, ShapeOk L X k call sh)
    (hbody : chkSs W n f ⟨scope, fun _ => true⟩ body F.body = true) :
    FnG P w K mg base CX0 (k + 1) fa (PySem.W.fnOf name qual params body scope dV kV doc pm an cdv ct) ps (spD L ps.length (runFn call F)) := by
  have len : ∀ vs H Q E, spD L ps.length (runFn call F) vs H Q E → vs.length = ps.length := fun vs H Q E ⟨ρ, m, ds, S, rd, l, o⟩ => by rw [← rd.len, l]
  refine ⟨len, fun A outer s H args us vs Q E hr hg e0 hb' r hsp => ?_⟩
  have hl := len _ _ _ _ hsp
  have KX : K.In s.heap := e0.mod.kin.keeps fun b o e => (e0.bs b o e).1
  have lim : s.heap.NoLimit := e0.mod.nolimit.keeps fun b o e => (e0.bs b o e).1
  have hkind : ∀ y ∈ ps.zip us, scope.names.lookup y.1 = some .local ∨ (scope.names.lookup y.1 = some .cell ∧ ((cellsFrom (s.heap.objs.size + 1) scope.names []).lookup y.1).isSome = true) := fun ⟨n, v⟩ hy => by
    rcases S.par n (List.of_mem_zip hy).1 with q | q
    · exact .inl q
    · exact .inr ⟨q, PySem.W.cellsFrom_some _ _ _ (.inl q)⟩
  refine codeAny_call_function hr.depth (KX _ _ lk) rfl S.co S.gen rfl (PySem.W.codeRec_of KX hcd) (hb' _ _ _ _ ?_)
  refine wpAny_newFunctionEnv_cells S.kind hkind fun env he s1 x => ?_
  subst he
  refine ⟨lim.keeps x.toInCall.keep, codeAny_func ?_⟩
  have hr' : Room k (A.deeper (envOfC qual scope s.heap.objs.size fa cdv)) := hr.deeper _
  let X := (cxOf CX0 P w K mg base W.N qual scope fa cdv A outer s H E).nox
  have G : Good L W X k call ⟨scope, fun _ => true⟩ :=
    ⟨hL, rfl, S.nd, rfl, fun _ _ => rfl, by have := hr'.un; show (A.deeper _).units + 100 < _; omega, hg, rfl, hr', S.kind, hb, hglb, hsh X rfl rfl rfl rfl rfl⟩
  have ht := ((snds_all (L := L) (W := W) (k := k) (call := call) n f).Ss X _ _ _ G PassesOwn.never hbody).nox
  have I : Inv (cxOf CX0 P w K mg base W.N qual scope fa cdv A outer s H E) [] (L2.start W.N vs) H s1 := inv_start S hr.hd e0 hl r x
  obtain ⟨ρ, m, ds, SS, rd, ld, o⟩ := hsp
  have hq : tS L (evB call F.body) { nx := fun _ H' => Q .non H', rt := Q } (L2.start W.N vs) H := by
    unfold runFn at o
    rw [if_pos (by rw [ld, hps])] at o
    have o := leave_ok SS o
    have hpl : ps.length ≤ W.N.length := by have := congrArg List.length S.pre; rw [List.length_take] at this; omega
    refine ⟨ρ, m, _, SS, start_env rd (F.slots - F.pars) (by rw [hl, ← hps, hsl]; omega), (OutG.bind o).imp fun fl m1 H1 ρ1 x1 S1 o1 => ?_⟩
    cases fl with
    | next s1 => exact fun σ E1 => o1.here S1 .non (by simp [Rv])
    | ret d => exact fun v rv => o1.here S1 v rv
  refine wpAny_mono (ht.run [] s1 (L2.start W.N vs) H _ I hq) (fun fl s' hs => ?_) fun e s' hs => hs
  have fin : ∀ {σ' : VS} {H' : Hp} {v : V} {u : Value}, Inv (cxOf CX0 P w K mg base W.N qual scope fa cdv A outer s H E) [] σ' H' s' → RelV v u → Q v H' → CE outer P w H s Q u s' :=
    fun {σ' H' v u} J rv q => ⟨v, H', J.os, J.bare, J.base, J.hok, rv, q⟩
  cases fl with
  | ret u =>
    obtain ⟨v, σ', H', J, rv, q⟩ := hs
    exact fin J rv q
  | next =>
    obtain ⟨σ', H', J, q⟩ := hs
    exact fin (v := V.non) (u := Value.none) J rfl q
  | brk =>
    obtain ⟨_, _, _, q⟩ := hs
    exact False.elim q
  | cont =>
    obtain ⟨_, _, _, q⟩ := hs
    exact False.elim q
end
end Dx
/-! DxP: all levels; the end of a law -/
namespace Dx
open PySem PySem.Spec PyProof.Rows L2

/-- a def as the text has it -/
structure DI where
  name : Str
  st : Stmt
  ps : List Str
  N : List Str
/-- a def as it stands behind the top -/
structure DefF (K : PySem.W.Frag) (mg : Str → Option Value) (d : DI) (fa : Addr) (fd : FuncData) : Prop where
  ex : ∃ (oc : Value) (od : Option Addr) (dV kV doc pm : Value) (an : Option Addr) (cdv ct : Value) (osl : Array (Option Value)),
    fd = PySem.W.fnOf d.name d.name (defArgs d.st) (defBody d.st) (defScope d.st) dV kV doc pm an cdv ct ∧ K.lookup fa = some ⟨oc, od, .func fd, osl⟩ ∧ PySem.W.codeIn K cdv d.name = true
  mg : mg d.name = some (.ref fa)
  kp : PySem.W.keepIn K (.ref fa) = true
/-- the look at a def -/
def chkD (n f : Nat) (blts : List Str) (glb : List (Str × D)) (sh : List Shape) (d : DI) (F : Fn) : Bool :=
  C8.scC d.N d.ps (defScope d.st) && decide (d.ps.length = F.pars) && decide (d.N.length = F.slots) && chkSs ⟨d.N, blts, glb, sh⟩ n f ⟨defScope d.st, fun _ => true⟩ (defBody d.st) F.body
/-- how a way to call is bound -/
structure ShB (K : PySem.W.Frag) (mg : Str → Option Value) (defs : List (Nat × DI)) (sh : Shape) : Prop where
  ex : ∃ (d : DI) (fa : Addr) (fd : FuncData), defs.lookup sh.f = some d ∧ DefF K mg d fa fd ∧ sh.x = d.name ∧ d.ps.length = sh.g.length ∧
    ∀ (s : Shared) (us ws : List Value), K.In s.heap → us.length = sh.n → ws.length = sh.ks.length → ∃ zs, arrV sh.g (us ++ ws) zs ∧ BindsTo s fd ⟨us, sh.ks.zip ws⟩ (d.ps.zip zs)
section
variable {P : Program} {w : World} {K : PySem.W.Frag} {mg : Str → Option Value} {base : Heap} {L : Lnk}
theorem no_fn {n : Nat} {F : List D → Hd → R D} {ps : List Str} {fa : Addr} {fd : FuncData} {k : Nat} (h : ∀ ds m, F ds m = .no) : FnG P w K mg base CX0 k fa fd ps (spD L n F) := by
  refine ⟨fun vs H Q E ⟨ρ, m, ds, S, rd, l, o⟩ => ?_, fun A outer s H args us vs Q E hr hg e0 hb r ⟨ρ, m, ds, S, rd, l, o⟩ => ?_⟩
  · rw [h] at o; exact o.elim
  · rw [h] at o; exact o.elim
theorem mem_lookup {α : Type} : ∀ {l : List (Nat × α)} {i : Nat} {d : α}, l.lookup i = some d → (i, d) ∈ l
  | [], _, _, h => by cases h
  | (j, e) :: l, i, d, h => by
    rw [List.lookup_cons] at h
    split at h
    next q =>
      cases h
      rw [beq_iff_eq.mp q]
      exact List.mem_cons_self
    next => exact List.mem_cons_of_mem _ (mem_lookup h)
theorem levels {defs : List (Nat × DI)} {T : Tb} {n f : Nat} {blts : List Str} {glb : List (Str × D)} {shs : List Shape} (hL : L.K = K) (hT : ∀ p ∈ defs, ∀ F : Fn, T.lookup p.1 = some F → chkD n f blts glb shs p.2 F = true)
    (hb : ∀ x ∈ blts, mg x = none) (hg : ∀ p ∈ glb, ∃ v u, scalV p.2 = some v ∧ mg p.1 = some u ∧ RelV v u) (hs : ∀ sh ∈ shs, ShB K mg defs sh) :
    ∀ (k i : Nat) (d : DI) (fa : Addr) (fd : FuncData), defs.lookup i = some d → DefF K mg d fa fd → FnG P w K mg base CX0 k fa fd d.ps (spD L d.ps.length (callN T k i)) := by
  intro k
  induction k with
  | zero => intro i d fa fd _ _; exact no_fn fun _ _ => rfl
  | succ k ih =>
    intro i d fa fd hi D
    cases hF : T.lookup i with
    | none => exact no_fn fun ds m => by simp only [callN, hF]
    | some F =>
      have c := hT (i, d) (mem_lookup hi) F hF
      simp only [chkD, Bool.and_eq_true, decide_eq_true_eq] at c
      obtain ⟨⟨⟨c1, c2⟩, c3⟩, c4⟩ := c
      obtain ⟨oc, od, dV, kV, doc, pm, an, cdv, ct, osl, rfl, lk, hcd⟩ := D.ex
      have e : callN T (k + 1) i = runFn (callN T k) F := by
        funext ds m
        simp only [callN, hF]
      rw [e]
      refine fng_of (W := ⟨d.N, blts, glb, shs⟩) hL lk hcd (C8.fnScope_by c1) c2 c3 hb hg (fun X hP hw hK hmg hbs sh hsh => ?_) c4
      subst hP hw hK hmg hbs
      obtain ⟨d', fa', fd', g1, g2, g3, g4, g5⟩ := (hs sh hsh).ex
      exact ⟨fa', fd', d'.ps, by rw [g3]; exact g2.mg, g2.kp, g4, ih sh.f d' fa' fd' g1 g2, g5⟩
end

/-! ### the law's end -/
/-- the law answers True for every script, by the small language -/
def Law (T : Tb) (k i n : Nat) : Prop := ∀ ns : List Int, ns.length ≤ n → ∃ m, callN T k i [.scr ns] [] = .ok (.bl true) m
theorem law_run {P : Program} {w : World} {K : PySem.W.Frag} {mg mb : Str → Option Value} {T : Tb} {k i n : Nat} {fa a : Addr} {fd : FuncData} {x : Str} {s₁ : Shared} {vs : List Value} {ns : List Int} (hlaw : Law T k i n) (hn : ns.length ≤ n)
    (KX : K.In s₁.heap) (hns : s₁.heap.Ns mainGlobals mg) (hb : s₁.heap.Ns builtinsNs mb) (hbb : ∀ x : Str, x ≠ "__name__" → mb x = bootBuiltins x) (hlim : s₁.heap.NoLimit) (hg : s₁.gens = #[])
    (ha : s₁.heap.get? a = some { cls := .type "list", data := .seq vs.toArray }) (hi : IntsAre vs ns) (hl : ns.length ≤ sizeLine) (hr : Room k callerA)
    (F : ∀ base : Heap, FnG P w K mg base CX0 k fa fd [x] (spD ⟨K, fun _ => 0, fun _ => Str.empty⟩ 1 (callN T k i))) (hbind : ∀ (s : Shared) (u : Value), BindsTo s fd ⟨[u], []⟩ [(x, u)]) :
    codeAny (model P w) callerA (.call (.ref fa) ⟨[.ref a], []⟩) (fun r s' => r = .ok (.ret (.bool true)) ∧ OldK s₁.heap s'.heap ∧ s'.os = s₁.os ∧ AllBare s'.gens) s₁ := by
  have rv := vals_ints hi
  have lenV := hi.length
  let ob : Obj := { cls := .type "list", data := .seq vs.toArray }
  -- the script alone is tracked, where it is no object of the text
  let H : Hp := fun b => if b = a ∧ K.lookup a = none then some (.frz ob (.lst (ns.map V.int))) else none
  have HS : ∀ b, H b ≠ none → b = a ∧ K.lookup a = none := fun b z => by
    by_cases c : b = a ∧ K.lookup a = none
    · exact c
    · exact absurd (if_neg c) z
  have HE : ∀ b u, H b = some u → b = a ∧ K.lookup a = none ∧ u = .frz ob (.lst (ns.map V.int)) := fun b u z => by
    obtain ⟨c1, c2⟩ := HS b (by rw [z]; exact nofun)
    refine ⟨c1, c2, ?_⟩
    have z' := (show H b = some (.frz ob (.lst (ns.map V.int))) from if_pos ⟨c1, c2⟩).symm.trans z
    exact (Option.some.inj z').symm
  have fr : FrL K H a (ns.map V.int) := by
    cases hk : K.lookup a with
    | none => exact .inl ⟨ob, if_pos ⟨rfl, hk⟩⟩
    | some o =>
      have e := KX a o hk
      rw [ha] at e
      cases e
      exact .inr ⟨_, vs.toArray, _, hk, rfl, rfl, rfl, by rw [List.size_toArray, lenV]; exact hl, by simpa using rv⟩
  have hok : HOk P w H s₁.heap := fun b u z => by
    obtain ⟨rfl, _, rfl⟩ := HE b u z
    exact ⟨ha, by rw [List.length_map]; exact hl, vs, _, rv, ha⟩
  have noD : ∀ {b : Addr} {o : Obj} {es : Array DictEntry} {ep : Nat}, s₁.heap.get? b = some o → o.data = .dict es ep → H b = none := fun {b o es ep} e d => by
    cases q : H b with
    | none => rfl
    | some u =>
      obtain ⟨rfl, _, _⟩ := HE b u q
      rw [ha] at e
      cases e
      exact absurd (show Data.seq vs.toArray _ = Data.dict es ep from d) nofun
  have nsK : ∀ {b : Addr} {m : Str → Option Value}, s₁.heap.Ns b m → (hidT s₁.heap H).Ns b m := fun {b m} ⟨o, es, ep, e, d, r⟩ => ⟨o, es, ep, hidT_get e (noD e d), d, r⟩
  have hKb : K.In (hidT s₁.heap H) := fun b o e => hidT_get (KX b o e) (by
    cases q : H b with
    | none => rfl
    | some u =>
      obtain ⟨rfl, c, _⟩ := HE b u q
      rw [c] at e
      cases e)
  have hM : Mod K mg (hidT s₁.heap H) := ⟨hKb, nsK hns, ⟨mb, nsK hb, hbb⟩, let ⟨mc, h1, h2⟩ := hlim; ⟨mc, nsK h1, h2⟩⟩
  have e0 : Env0 P w K mg (hidT s₁.heap H) callerA [] s₁ H := ⟨rfl, hM, fun b o e => of_hidT e, Nat.le_of_eq (hidT_size _ _), trivial, nofun, hok, .of_eq hg⟩
  obtain ⟨mE, hE⟩ := hlaw ns hn
  have hsp : spD ⟨K, fun _ => 0, fun _ => Str.empty⟩ 1 (callN T k i) [.ref a] H (fun v _ => v = .bl true) E0 := by
    refine ⟨[], [], [.scr ns], ⟨rfl, List.nodup_nil, fun n a o e _ => by simp at e⟩, rvl_cons (by unfold Rv; exact ⟨a, rfl, fr⟩) rvl_nil, rfl, ?_⟩
    rw [hE]
    exact fun H' ρ' _ _ v rv => by simpa [Rv] using rv
  refine codeAny_mono ((F _).run callerA [] s₁ H ⟨[.ref a], []⟩ [.ref a] [.ref a] _ _ hr rfl e0 (hbind s₁ (.ref a)) (.cons rfl .nil) hsp) fun r s' h => ?_
  match r, h with
  | .ok (.ret u), ⟨v, H', os, bare, un, hok', r', q⟩ =>
    have q' : v = .bl true := q
    subst q'
    obtain rfl : u = Value.bool true := r'
    refine ⟨rfl, OldK.of_keep fun b o e => ?_, os, bare⟩
    cases q : H b with
    | none => exact un.keep b o e q nofun nofun
    | some u =>
      obtain ⟨rfl, _, rfl⟩ := HE b u q
      obtain ⟨e2, _⟩ := hok' b _ (un.frzs b _ _ q)
      rw [ha] at e
      cases e
      exact e2
  | .ok .next, h => exact False.elim h
  | .ok .brk, h => exact False.elim h
  | .ok .cont, h => exact False.elim h
  | .error e, h => exact False.elim h
/-- what is to show of a law, once its defs stand -/
theorem law_end {l : PySem.W.OpenLaw} {n k i : Nat} {q : Program} {loose : List Str} {XP : (Str → Option Value) → Heap → Prop} {YP : World → Heap → Prop} {d : DefRec} {K : Params → PySem.W.Frag} {T : Tb} {x : Str} (hlaw : Law T k i n)
    (hn : l.most = some n) (hn2 : n ≤ sizeLine) (hdf : d.params.defaults = []) (hr : Room k callerA) (hY : ∀ (w : World) (h : Heap), YP w h → (K w.params).In h)
    (F : ∀ (w : World) (mg : Str → Option Value) (fa : Addr) (h : Heap), (K w.params).In h → h.Ns mainGlobals mg → mg d.name = some (.ref fa) →
      ∃ fd : FuncData, (∀ (s : Shared) (u : Value), BindsTo s fd ⟨[u], []⟩ [(x, u)]) ∧ ∀ base : Heap, FnG l.prog w (K w.params) mg base CX0 k fa fd [x] (spD ⟨K w.params, fun _ => 0, fun _ => Str.empty⟩ 1 (callN T k i))) :
    PySem.W.WalkO q loose XP YP l.row.toRowW d [] (fun f vs => PySem.call f vs) := by
  refine Att.attach_call hn hdf fun w s₀ s₁ mg mb fa o pm cd doc a vs ns G Y ho hd hcd hmg hobj hints hlen hg => ?_
  obtain ⟨fd, hb, hF⟩ := F w mg fa _ (hY w _ Y) G.T.g hmg
  exact law_run hlaw hlen (hY w _ Y) G.T.g G.T.b G.T.builtins G.T.nolimit hg hobj hints (Nat.le_trans hlen hn2) hr hF hb
end Dx
/-! DxQ: plain reasoning about the small language -/
namespace Dx
open PySem
/-- the outcome is a value, of which Q holds -/
def Is {α : Type} (r : R α) (Q : α → Hd → Prop) : Prop := match r with
  | .ok a m => Q a m
  | _ => False
section
variable {α β : Type} {Q : α → Hd → Prop}
@[simp] theorem is_ok {a : α} {m : Hd} : Is (.ok a m) Q ↔ Q a m := Iff.rfl
@[simp] theorem is_no : Is (.no : R α) Q ↔ False := Iff.rfl
@[simp] theorem is_exc {c fs m} : Is (.exc c fs m : R α) Q ↔ False := Iff.rfl
theorem is_bind {r : R β} {f : β → Hd → R α} : Is (r.bind f) Q ↔ Is r fun b m => Is (f b m) Q := by cases r <;> exact Iff.rfl
@[simp] theorem is_ifs {b : Bool} {r : R α} : Is (ifs b r) Q ↔ b = true ∧ Is r Q := by cases b <;> simp
theorem is_optB {o : Option α} {m : Hd} : Is (optB o m) Q ↔ ∃ a, o = some a ∧ Q a m := by cases o <;> simp
@[simp] theorem is_ite {p : Prop} [Decidable p] {r r' : R α} : Is (if p then r else r') Q ↔ (p → Is r Q) ∧ (¬p → Is r' Q) := by by_cases h : p <;> simp [h]
@[simp] theorem ifs_bind {b : Bool} {r : R β} {f : β → Hd → R α} : (ifs b r).bind f = ifs b (r.bind f) := by cases b <;> rfl
@[simp] theorem ite_bind {p : Prop} [Decidable p] {r r' : R β} {f : β → Hd → R α} : (if p then r else r').bind f = if p then r.bind f else r'.bind f := by by_cases h : p <;> simp [h]
theorem Is.imp {r : R α} {Q' : α → Hd → Prop} (h : Is r Q) (i : ∀ a m, Q a m → Q' a m) : Is r Q' := by
  cases r with
  | ok a m => exact i a m h
  | exc => exact h
  | no => exact h
theorem Is.ok {r : R α} (h : Is r Q) : ∃ a m, r = .ok a m ∧ Q a m := by
  cases r with
  | ok a m => exact ⟨a, m, rfl, h⟩
  | exc => exact h.elim
  | no => exact h.elim
theorem is_of {r : R α} {a : α} {m : Hd} (h : r = .ok a m) (q : Q a m) : Is r Q := by rw [h]; exact q
end
@[simp] theorem is_seq_next {g : SD → Hd → R Fl} {s : SD} {m : Hd} : seqD g (.next s) m = g s m := rfl
@[simp] theorem is_seq_ret {g : SD → Hd → R Fl} {d : D} {m : Hd} : seqD g (.ret d) m = .ok (.ret d) m := rfl
/-- a walk, by an invariant: the items done, the slots, the objects -/
theorem fr_inv {g : Gu} {tg : Tg} {body : SD → Hd → R Fl} {Q : Fl → Hd → Prop} (I : List D → SD → Hd → Prop) {ds : List D} {s : SD} {m : Hd} (h0 : I [] s m) (hg : ∀ pre s m, I pre s m → guOk g m = true)
    (hs : ∀ pre d post s m, ds = pre ++ d :: post → I pre s m → ∃ s1, bindTg tg d s = some s1 ∧ Is (body s1 m) fun f m' => match f with
      | .next s' => I (pre ++ [d]) s' m'
      | .ret x => Q (.ret x) m')
    (hn : ∀ s m, I ds s m → Q (.next s) m) : Is (frGo g tg body ds s m) Q := by
  have gen : ∀ (post pre : List D) (s : SD) (m : Hd), ds = pre ++ post → I pre s m → Is (frGo g tg body post s m) Q := by
    intro post
    induction post with
    | nil =>
      intro pre s m e h
      rw [List.append_nil] at e
      subst e
      unfold frGo
      simp only [is_ifs, is_ok]
      exact ⟨hg _ _ _ h, hn _ _ h⟩
    | cons d post ih =>
      intro pre s m e h
      unfold frGo frTurn
      obtain ⟨s1, e1, b⟩ := hs pre d post s m e h
      simp only [is_ifs, is_bind, is_optB]
      refine ⟨hg _ _ _ h, s1, e1, b.imp fun f m' q => ?_⟩
      cases f with
      | next s' => exact ih (pre ++ [d]) s' m' (by rw [e]; simp) q
      | ret x => exact q
  exact gen ds [] s m rfl h0

theorem call_eq {T : Tb} {k i : Nat} {f : Fn} {ds : List D} {m : Hd} (h : T.lookup i = some f) : callN T (k + 1) i ds m = runFn (callN T k) f ds m := by simp only [callN, h]
/-- a table has a def under a number -/
class HasFn (T : Tb) (i : Nat) (f : outParam Fn) : Prop where
  h : T.lookup i = some f
theorem call_of {T : Tb} {k i : Nat} (f : Fn) [q : HasFn T i f] {ds : List D} {m : Hd} : callN T (k + 1) i ds m = runFn (callN T k) f ds m := call_eq q.h
/-! ### what simp knows -/
section
variable {call : Nat → List D → Hd → R D}
@[simp] theorem ev_0 {i} {s : SD} {m : Hd} : evE call (.var i) s m = varD s i m := by simp only [evE]
@[simp] theorem ev_1 {d} {s : SD} {m : Hd} : evE call (.con d) s m = R.ok d m := by simp only [evE]
@[simp] theorem ev_2 {b o x y} {s : SD} {m : Hd} : evE call (.bin b o x y) s m = (evE call x s m).bind fun d m1 => (evE call y s m1).bind fun e m2 => bopD b o d e m2 := by simp only [evE]
@[simp] theorem ev_3 {x} {s : SD} {m : Hd} : evE call (.neg x) s m = (evE call x s m).bind negD := by simp only [evE]
@[simp] theorem ev_4 {o x y} {s : SD} {m : Hd} : evE call (.cmp o x y) s m = (evE call x s m).bind fun d m1 => (evE call y s m1).bind fun e m2 => optB ((cmpD m2 o d e).map .bl) m2 := by simp only [evE]
@[simp] theorem ev_5 {o o' x y z} {s : SD} {m : Hd} : evE call (.chain o o' x y z) s m = (evE call x s m).bind fun d m1 => (evE call y s m1).bind fun e m2 => (optB (cmpD m2 o d e) m2).bind fun k m3 => if k then (evE call z s m3).bind fun f m4 => optB ((cmpD m4 o' e f).map .bl) m4 else .ok (.bl false) m3 := by simp only [evE]
@[simp] theorem ev_6 {x y} {s : SD} {m : Hd} : evE call (.and x y) s m = (evE call x s m).bind fun d m1 => andD d m1 (evE call y s) := by simp only [evE]
@[simp] theorem ev_7 {x y} {s : SD} {m : Hd} : evE call (.or x y) s m = (evE call x s m).bind fun d m1 => orD d m1 (evE call y s) := by simp only [evE]
@[simp] theorem ev_8 {x} {s : SD} {m : Hd} : evE call (.not x) s m = (evE call x s m).bind notD := by simp only [evE]
@[simp] theorem ev_9 {c x y} {s : SD} {m : Hd} : evE call (.cond c x y) s m = (evT call c s m).bind fun b m1 => if b then evE call x s m1 else evE call y s m1 := by simp only [evE]
@[simp] theorem ev_10 {es} {s : SD} {m : Hd} : evE call (.tup es) s m = (evEs call es s m).bind fun ds m1 => ifs (decide (ds.length ≤ sizeLine)) (.ok (.tup ds) m1) := by simp only [evE]
@[simp] theorem ev_11 {b es} {s : SD} {m : Hd} : evE call (.lst b es) s m = (evEs call es s m).bind fun ds m1 => ifs (decide (ds.length ≤ sizeLine)) (mkL b ds m1) := by simp only [evE]
@[simp] theorem ev_12 {t} {s : SD} {m : Hd} : evE call (.dnew t) s m = R.ok (.ref m.length) (m ++ [.dct t []]) := by simp only [evE]
@[simp] theorem ev_13 {x y} {s : SD} {m : Hd} : evE call (.ix x y) s m = (evE call x s m).bind fun d m1 => (evE call y s m1).bind fun e m2 => optB (getD m2 d e) m2 := by simp only [evE]
@[simp] theorem ev_14 {b x lo hi} {s : SD} {m : Hd} : evE call (.sl b x lo hi) s m = (evE call x s m).bind fun d m1 => ((evE call lo s m1).bind fun l m2 => optB (part (isAbs lo) l) m2).bind fun lo m2 => ((evE call hi s m2).bind fun l m3 => optB (part (isAbs hi) l) m3).bind fun hi m3 => slD b d lo hi m3 := by simp only [evE]
@[simp] theorem ev_15 {b x} {s : SD} {m : Hd} : evE call (.rev b x) s m = (evE call x s m).bind (revD b) := by simp only [evE]
@[simp] theorem ev_16 {f es g} {s : SD} {m : Hd} : evE call (.call f es g) s m = (evEs call es s m).bind fun ds m1 => (optB (arr g ds) m1).bind fun vs m2 => call f vs m2 := by simp only [evE]
@[simp] theorem ev_17 {f es} {s : SD} {m : Hd} : evE call (.bi f es) s m = (evEs call es s m).bind (biD f) := by simp only [evE]
@[simp] theorem ev_18 {f x es} {s : SD} {m : Hd} : evE call (.mt f x es) s m = (evE call x s m).bind fun d m1 => (ifs (mtTy m1 d f) (.ok () m1)).bind fun _ m1 => (evEs call es s m1).bind fun ds m2 => mtD f d ds m2 := by simp only [evE]
@[simp] theorem ev_19 {b own tg it c e} {s : SD} {m : Hd} : evE call (.lc b own tg it c e) s m = (evI call it s m).bind fun p m1 => ifs (decide (p.1.length ≤ sizeLine)) ((lcGo p.2 (lcStep tg (wipeD s own) (evT call c) (evE call e)) p.1 m1).bind (mkL b)) := by simp only [evE]
@[simp] theorem ev_20 {x} {s : SD} {m : Hd} : evE call (.fz x) s m = (evE call x s m).bind fzD := by simp only [evE]
@[simp] theorem ev_21 {s : SD} {m : Hd} : evEs call [] s m = R.ok [] m := by simp only [evEs]
@[simp] theorem ev_22 {e es} {s : SD} {m : Hd} : evEs call (e :: es) s m = (evE call e s m).bind fun d m1 => (evEs call es s m1).bind fun ds m2 => .ok (d :: ds) m2 := by simp only [evEs]
@[simp] theorem ev_23 {o x y} {s : SD} {m : Hd} : evT call (.cmp o x y) s m = (evE call x s m).bind fun d m1 => (evE call y s m1).bind fun e m2 => optB (cmpD m2 o d e) m2 := by simp only [evT]
@[simp] theorem ev_24 {o o' x y z} {s : SD} {m : Hd} : evT call (.chain o o' x y z) s m = (evE call x s m).bind fun d m1 => (evE call y s m1).bind fun e m2 => (optB (cmpD m2 o d e) m2).bind fun k m3 => if k then (evE call z s m3).bind fun f m4 => optB (cmpD m4 o' e f) m4 else .ok false m3 := by simp only [evT]
@[simp] theorem ev_25 {a b} {s : SD} {m : Hd} : evT call (.and a b) s m = (evT call a s m).bind fun k m1 => if k then evT call b s m1 else .ok false m1 := by simp only [evT]
@[simp] theorem ev_26 {a b} {s : SD} {m : Hd} : evT call (.or a b) s m = (evT call a s m).bind fun k m1 => if k then .ok true m1 else evT call b s m1 := by simp only [evT]
@[simp] theorem ev_27 {a} {s : SD} {m : Hd} : evT call (.not a) s m = (evT call a s m).bind fun k m1 => .ok (!k) m1 := by simp only [evT]
@[simp] theorem ev_28 {x} {s : SD} {m : Hd} : evT call (.val x) s m = (evE call x s m).bind fun d m1 => optB (truD m1 d) m1 := by simp only [evT]
@[simp] theorem ev_29 {s : SD} {m : Hd} : evT call (.yes) s m = R.ok true m := by simp only [evT]
@[simp] theorem ev_30 {x} {s : SD} {m : Hd} : evI call (.seq x) s m = (evE call x s m).bind fun d m1 => (optB (wq m1 d) m1).bind fun xs m2 => .ok (xs, guOf m2 d) m2 := by simp only [evI]
@[simp] theorem ev_31 {lo hi} {s : SD} {m : Hd} : evI call (.rng lo hi) s m = (evE call lo s m).bind fun d m1 => (evE call hi s m1).bind fun e m2 => rngD d e m2 := by simp only [evI]
@[simp] theorem ev_32 {x} {s : SD} {m : Hd} : evI call (.enum none x) s m = (evE call x s m).bind fun d m1 => (optB (sq m1 d) m1).bind fun xs m2 => .ok (enumD 0 xs, guOf m2 d) m2 := by simp only [evI]
@[simp] theorem ev_33 {x y} {s : SD} {m : Hd} : evI call (.zip x y) s m = (evE call x s m).bind fun d m1 => (evE call y s m1).bind fun e m2 => (optB (sq m2 d) m2).bind fun xs m3 => (optB (sq m3 e) m3).bind fun ys m4 => .ok (zipD xs ys, guOf m4 d ++ guOf m4 e) m4 := by simp only [evI]
@[simp] theorem ev_51 {x y z} {s : SD} {m : Hd} : evI call (.zip3 x y z) s m = (evE call x s m).bind fun d m1 => (evE call y s m1).bind fun e m2 => (evE call z s m2).bind fun f m3 => (optB (sq m3 d) m3).bind fun xs m4 => (optB (sq m4 e) m4).bind fun ys m5 => (optB (sq m5 f) m5).bind fun zs m6 => .ok (zip3D xs ys zs, guOf m6 d ++ (guOf m6 e ++ guOf m6 f)) m6 := by simp only [evI]
@[simp] theorem ev_52 {x} {s : SD} {m : Hd} : evI call (.items x) s m = (evE call x s m).bind fun d m1 => (optB (dctD d) m1).bind fun kvs m2 => .ok (itemsD kvs, []) m2 := by simp only [evI]
@[simp] theorem ev_53 {t own tg it c k v} {s : SD} {m : Hd} : evE call (.dc t own tg it c k v) s m = (evI call it s m).bind fun p m1 => ifs (decide (p.1.length ≤ sizeLine)) ((dcGo t p.2 (dcStep tg (wipeD s own) (evT call c) (evE call k) (evE call v)) p.1 [] m1).bind (newD t)) := by simp only [evE]
@[simp] theorem ev_54 {b x y} {s : SD} {m : Hd} : evE call (.lw b x y) s m = (evE call x s m).bind fun d m1 => (evE call y s m1).bind fun e m2 => (optB (sq m2 d) m2).bind fun xs m3 => (optB (sq m3 e) m3).bind fun ys m4 => ifs (decide (xs.length ≤ 1000) && decide (ys.length ≤ 1000)) (mkL b (zipD xs ys) m4) := by simp only [evE]
@[simp] theorem ev_55 {b x st} {s : SD} {m : Hd} : evE call (.stp b x st) s m = (evE call x s m).bind fun d m1 => (evE call st s m1).bind fun e m2 => stpD b d e m2 := by simp only [evE]
@[simp] theorem ev_56 {ts e} {s : SD} {m : Hd} : evS call (.asgm ts e) s m = (evE call e s m).bind (asgM call ts s) := by simp only [evS]
@[simp] theorem ev_57 {i o e} {s : SD} {m : Hd} : evS call (.aug i o e) s m = (varD s i m).bind fun x m1 => (evE call e s m1).bind fun y m2 => (augI o x y m2).bind fun z m3 => .ok (.next (s.set i (some z))) m3 := by simp only [evS]
@[simp] theorem ev_34 {tg e} {s : SD} {m : Hd} : evS call (.asg tg e) s m = (evE call e s m).bind (asgD tg s) := by simp only [evS]
@[simp] theorem ev_35 {o i e} {s : SD} {m : Hd} : evS call (.setix o i e) s m = (evE call e s m).bind fun v m1 => (evE call o s m1).bind fun x m2 => (evE call i s m2).bind fun y m3 => (setD x y v m3).bind fun _ m4 => .ok (.next s) m4 := by simp only [evS]
@[simp] theorem ev_36 {e} {s : SD} {m : Hd} : evS call (.exp e) s m = (evE call e s m).bind fun _ m1 => .ok (.next s) m1 := by simp only [evS]
@[simp] theorem ev_37 {e} {s : SD} {m : Hd} : evS call (.ret e) s m = (evE call e s m).bind fun d m1 => .ok (.ret d) m1 := by simp only [evS]
@[simp] theorem ev_38 {c a b} {s : SD} {m : Hd} : evS call (.iff c a b) s m = (evT call c s m).bind fun k m1 => if k then evB call a s m1 else evB call b s m1 := by simp only [evS]
@[simp] theorem ev_39 {tg it body} {s : SD} {m : Hd} : evS call (.fr tg it body) s m = (evI call it s m).bind fun p m1 => frGo p.2 tg (evB call body) p.1 s m1 := by simp only [evS]
@[simp] theorem ev_40 {c body} {s : SD} {m : Hd} : evS call (.whl c body) s m = whGo (evT call c) (evB call body) loopF s m := by simp only [evS]
@[simp] theorem ev_41 {s : SD} {m : Hd} : evS call (.pass) s m = R.ok (.next s) m := by simp only [evS]
@[simp] theorem ev_42 {s : SD} {m : Hd} : evS call (.never) s m = R.no := by simp only [evS]
@[simp] theorem ev_43 {s : SD} {m : Hd} : evB call [] s m = R.ok (.next s) m := by simp only [evB]
@[simp] theorem ev_44 {a r} {s : SD} {m : Hd} : evB call (a :: r) s m = (evS call a s m).bind (seqD (evB call r)) := by simp only [evB]
end
@[simp] theorem leave_no {m : Hd} {r : R D} : leave false m r = r := by cases r <;> rfl
section
variable {m : Hd} {d e : D} {s : SD} {i j : Int} {xs ys : List D} {a b : Bool} {u v : Str} {n : Nat}
@[simp] theorem var_z : varD (some d :: s) 0 m = .ok d m := rfl
@[simp] theorem var_s {x : Option D} {k : Nat} : varD (x :: s) (k + 1) m = varD s k m := rfl
@[simp] theorem bop_add : bopD b .add (.int i) (.int j) m = .ok (.int (i + j)) m := rfl
@[simp] theorem bop_sub : bopD b .sub (.int i) (.int j) m = .ok (.int (i - j)) m := rfl
@[simp] theorem bop_mul : bopD b .mul (.int i) (.int j) m = ifs (small i || small j) (.ok (.int (i * j)) m) := rfl
@[simp] theorem bop_fdiv : bopD b .fdiv (.int i) (.int j) m = ifs (decide (0 < j) && small j) (.ok (.int (i / j)) m) := rfl
@[simp] theorem bop_mod : bopD b .mod (.int i) (.int j) m = ifs (decide (0 < j)) (.ok (.int (i % j)) m) := rfl
@[simp] theorem bop_pow : bopD b .pow (.int i) (.int j) m = ifs (decide (0 ≤ j) && decide (j ≤ 1000000) && small i) (.ok (.int (i ^ j.toNat)) m) := rfl
@[simp] theorem bop_addS : bopD b .add (.str u) (.str v) m = ifs (decide (u.length + v.length ≤ sizeLine)) (.ok (.str (u ++ v)) m) := rfl
@[simp] theorem bop_addT : bopD b .add (.tup xs) (.tup ys) m = ifs (decide (xs.length + ys.length ≤ sizeLine)) (.ok (.tup (xs ++ ys)) m) := rfl
@[simp] theorem bop_addL : bopD b .add (.lst xs) (.lst ys) m = ifs (decide (xs.length + ys.length ≤ sizeLine)) (mkL b (xs ++ ys) m) := rfl
@[simp] theorem bop_mulL : bopD b .mul (.lst xs) (.int j) m = ifs (decide (-(2 ^ 63) ≤ j) && decide (j < 2 ^ 63) && decide (xs.length * j.toNat ≤ sizeLine)) (mkL b (List.replicate j.toNat xs).flatten m) := rfl
@[simp] theorem mk_no : mkL false xs m = .ok (.lst xs) m := rfl
@[simp] theorem mk_yes : mkL true xs m = .ok (.ref m.length) (m ++ [.lst xs]) := rfl
@[simp] theorem small_iff : (small i = true) ↔ (-(2 ^ 64) < i ∧ i < 2 ^ 64) := by unfold small; simp
@[simp] theorem cmp_lt : cmpD m .lt (.int i) (.int j) = some (decide (i < j)) := rfl
@[simp] theorem cmp_le : cmpD m .le (.int i) (.int j) = some (decide (i ≤ j)) := rfl
@[simp] theorem cmp_gt : cmpD m .gt (.int i) (.int j) = some (decide (j < i)) := rfl
@[simp] theorem cmp_ge : cmpD m .ge (.int i) (.int j) = some (decide (j ≤ i)) := rfl
@[simp] theorem cmp_eq : cmpD m .eq d e = eqD m d e := rfl
@[simp] theorem cmp_ne : cmpD m .ne d e = (eqD m d e).map (!·) := rfl
@[simp] theorem cmp_in : cmpD m .isin d e = inD m d e := rfl
@[simp] theorem cmp_notin : cmpD m .notin d e = (inD m d e).map (!·) := rfl
@[simp] theorem cmp_isN : cmpD m .is .non .non = some true := rfl
@[simp] theorem cmp_isNi : cmpD m .is (.int i) .non = some false := rfl
@[simp] theorem cmp_isNs : cmpD m .is (.str u) .non = some false := rfl
@[simp] theorem cmp_isNb : cmpD m .is (.bl a) .non = some false := rfl
@[simp] theorem cmp_isNt : cmpD m .is (.tup xs) .non = some false := rfl
@[simp] theorem cmp_isNl : cmpD m .is (.lst xs) .non = some false := rfl
@[simp] theorem cmp_isNr : cmpD m .is (.ref n) .non = some false := rfl
@[simp] theorem cmp_isB : cmpD m .is (.bl a) (.bl b) = some (a == b) := rfl
@[simp] theorem cmp_ntN : cmpD m .isnot .non .non = some false := rfl
@[simp] theorem cmp_ntNi : cmpD m .isnot (.int i) .non = some true := rfl
@[simp] theorem cmp_ntNs : cmpD m .isnot (.str u) .non = some true := rfl
@[simp] theorem cmp_ntNb : cmpD m .isnot (.bl a) .non = some true := rfl
@[simp] theorem cmp_ntNt : cmpD m .isnot (.tup xs) .non = some true := rfl
@[simp] theorem cmp_ntNl : cmpD m .isnot (.lst xs) .non = some true := rfl
@[simp] theorem cmp_ntNr : cmpD m .isnot (.ref n) .non = some true := rfl
@[simp] theorem cmp_ntB : cmpD m .isnot (.bl a) (.bl b) = some (!(a == b)) := rfl
@[simp] theorem tru_b : truD m (.bl b) = some b := rfl
@[simp] theorem tru_n : truD m .non = some false := rfl
@[simp] theorem tru_i : truD m (.int i) = some (i != 0) := rfl
@[simp] theorem tru_t : truD m (.tup xs) = some (!xs.isEmpty) := rfl
@[simp] theorem tru_l : truD m (.lst xs) = some (!xs.isEmpty) := rfl
@[simp] theorem sq_t : sq m (.tup xs) = some xs := rfl
@[simp] theorem sq_l : sq m (.lst xs) = some xs := rfl
@[simp] theorem sq_n {ns : List Str} : sq m (.nms ns) = some (ns.map .str) := rfl
@[simp] theorem fz_n {ns : List Str} : fz m (.nms ns) = .nms ns := rfl
@[simp] theorem cmp_isNn {ns : List Str} : cmpD m .is (.nms ns) .non = some false := rfl
@[simp] theorem sq_s {ns : List Int} : sq m (.scr ns) = some (ns.map .int) := rfl
theorem sq_r (h : m[n]? = some (.lst xs)) : sq m (.ref n) = some xs := by simp only [sq, h]
@[simp] theorem fz_t : fz m (.tup xs) = .tup xs := rfl
@[simp] theorem fz_l : fz m (.lst xs) = .lst xs := rfl
theorem fz_r (h : m[n]? = some (.lst xs)) : fz m (.ref n) = .lst xs := by simp only [fz, h]
def atD (xs : List D) (i : Int) : Option D := (ixNat xs.length i).bind (xs[·]?)
@[simp] theorem get_t : getD m (.tup xs) (.int i) = atD xs i := rfl
@[simp] theorem get_l : getD m (.lst xs) (.int i) = atD xs i := rfl
@[simp] theorem get_n {ns : List Str} : getD m (.nms ns) (.int i) = atD (ns.map .str) i := rfl
@[simp] theorem get_s {ns : List Int} : getD m (.scr ns) (.int i) = atD (ns.map .int) i := rfl
@[simp] theorem at_0 : atD (d :: xs) 0 = some d := by simp [atD, ixNat]
@[simp] theorem at_1 {d1 : D} : atD (d :: d1 :: xs) 1 = some d1 := by
  have : (1 : Int) < xs.length + 1 + 1 := by omega
  simp [atD, ixNat, this]
@[simp] theorem at_2 {d1 d2 : D} : atD (d :: d1 :: d2 :: xs) 2 = some d2 := by
  have : (2 : Int) < xs.length + 1 + 1 + 1 := by omega
  simp [atD, ixNat, this]
@[simp] theorem at_3 {d1 d2 d3 : D} : atD (d :: d1 :: d2 :: d3 :: xs) 3 = some d3 := by
  have : (3 : Int) < xs.length + 1 + 1 + 1 + 1 := by omega
  simp [atD, ixNat, this]
@[simp] theorem at_pick {p : Prop} [Decidable p] : atD [.int i, .int j] (if p then 1 else 0) = some (.int (if p then j else i)) := by by_cases h : p <;> simp [h]
theorem at_in (h0 : 0 ≤ i) (h : i < xs.length) : atD xs i = xs[i.toNat]? := by simp [atD, ixNat, h0, h]
/-! objects -/
def getO (o : O) (e : D) : Option D := match o with
  | .lst xs => match e with
    | .int i => atD xs i
    | _ => none
  | .dct t kvs => if keyOk t e then find kvs e else none
  | _ => none
@[simp] theorem getO_l : getO (.lst xs) (.int i) = atD xs i := rfl
@[simp] theorem getO_d {t : Bool} {kvs : List (D × D)} : getO (.dct t kvs) e = if keyOk t e then find kvs e else none := rfl
@[simp] theorem get_ref : getD m (.ref n) e = (m[n]?).bind fun o => getO o e := by
  unfold getD
  cases h : m[n]? with
  | none => simp only [sq, dq, h]; rfl
  | some o =>
    cases o with
    | lst xs => simp only [sq, h]; cases e <;> rfl
    | dct t kvs => simp only [sq, dq, h]; rfl
    | ins c fs => simp only [sq, dq, h]; rfl
    | dead => simp only [sq, dq, h]; rfl
def setAt (xs : List D) (i : Int) (v : D) : Option (List D) := (ixNat xs.length i).map fun k => xs.set k v
@[simp] theorem setAt_0 {v : D} : setAt (d :: xs) 0 v = some (v :: xs) := by simp [setAt, ixNat]
@[simp] theorem setAt_1 {v d1 : D} : setAt (d :: d1 :: xs) 1 v = some (d :: v :: xs) := by
  have : (1 : Int) < xs.length + 1 + 1 := by omega
  simp [setAt, ixNat, this]
@[simp] theorem setAt_2 {v d1 d2 : D} : setAt (d :: d1 :: d2 :: xs) 2 v = some (d :: d1 :: v :: xs) := by
  have : (2 : Int) < xs.length + 1 + 1 + 1 := by omega
  simp [setAt, ixNat, this]
theorem setAt_in {v : D} (h0 : 0 ≤ i) (h : i < xs.length) : setAt xs i v = some (xs.set i.toNat v) := by simp [setAt, ixNat, h0, h]
def setO (o : O) (e v : D) : Option O := match o with
  | .lst xs => match e with
    | .int i => (setAt xs i v).map .lst
    | _ => none
  | .dct t kvs => if keyOk t e && decide (kvs.length < sizeLine) then some (.dct t (put kvs e v)) else none
  | _ => none
@[simp] theorem setO_l {v : D} : setO (.lst xs) (.int i) v = (setAt xs i v).map .lst := rfl
@[simp] theorem setO_d {t : Bool} {kvs : List (D × D)} {v : D} : setO (.dct t kvs) e v = if keyOk t e && decide (kvs.length < sizeLine) then some (.dct t (put kvs e v)) else none := rfl
@[simp] theorem set_ref {v : D} : setD (.ref n) e v m = (optB m[n]? m).bind fun o m => (optB (setO o e v) m).bind fun o' m => .ok () (m.set n o') := by
  unfold setD
  cases h : m[n]? with
  | none => simp only [h]; rfl
  | some o =>
    cases o with
    | lst xs =>
      simp only [h, optB_some, R.bind_ok]
      cases e with
      | int i =>
        simp only [setO_l, setAt]
        cases ixNat xs.length i <;> rfl
      | _ => rfl
    | dct t kvs =>
      simp only [h, optB_some, R.bind_ok, setO_d]
      cases keyOk t e && decide (kvs.length < sizeLine) <;> rfl
    | ins c fs => simp only [h]; rfl
    | dead => simp only [h]; rfl
@[simp] theorem getm_set {o : O} : (m.set n o)[n]? = (m[n]?).map fun _ => o := by
  rw [List.getElem?_set]
  by_cases h : n < m.length
  · simp [h, List.getElem?_eq_getElem h]
  · simp [h, List.getElem?_eq_none (Nat.le_of_not_lt h)]
def lenO (o : O) : Option Nat := match o with
  | .lst xs => some xs.length
  | .dct _ kvs => some kvs.length
  | _ => none
@[simp] theorem lenO_d {t : Bool} {kvs : List (D × D)} : lenO (.dct t kvs) = some kvs.length := rfl
@[simp] theorem bi_len_d {t : Bool} {kvs : List (D × D)} : biD .len [.dct t kvs] m = .ok (.int kvs.length) m := rfl
@[simp] theorem lenO_l : lenO (.lst xs) = some xs.length := rfl
@[simp] theorem bi_len_ref : biD .len [.ref n] m = (optB (m[n]?.bind lenO) m).bind fun k m => .ok (.int k) m := by
  unfold biD
  have : lenD m (.ref n) = m[n]?.bind lenO := by
    unfold lenD
    simp only [sq, dq]
    cases h : m[n]? with
    | none => simp only [h]; rfl
    | some o => cases o <;> simp only [h] <;> rfl
  simp only [this]
  cases m[n]?.bind lenO <;> rfl
def itemsO (o : O) : Option (List D) := match o with
  | .lst xs => some xs
  | _ => none
@[simp] theorem itemsO_l : itemsO (.lst xs) = some xs := rfl
@[simp] theorem sq_ref : sq m (.ref n) = m[n]?.bind itemsO := by
  simp only [sq]
  cases h : m[n]? with
  | none => rfl
  | some o => cases o <;> rfl
@[simp] theorem mty_app : mtTy m (.ref n) .append = (m[n]?.bind itemsO).isSome := by
  unfold mtTy
  simp only [fz, dq]
  cases h : m[n]? with
  | none => simp only [h]; rfl
  | some o => cases o <;> simp only [h] <;> rfl
@[simp] theorem mt_app {v : D} : mtD .append (.ref n) [v] m = (optB (m[n]?.bind itemsO) m).bind fun ys m => ifs (decide (ys.length < sizeLine)) (.ok .non (m.set n (.lst (ys ++ [v])))) := by
  unfold mtD
  cases h : m[n]? with
  | none => simp only [h]; rfl
  | some o => cases o <;> simp only [h] <;> rfl
@[simp] theorem asg_name {k : Nat} : asgD (.name k) s d m = .ok (.next (s.set k (some d))) m := rfl
@[simp] theorem neg_i : negD (.int i) m = .ok (.int (-i)) m := rfl
@[simp] theorem not_b : notD (.bl b) m = .ok (.bl (!b)) m := rfl
@[simp] theorem and_t {r : Hd → R D} : andD (.bl true) m r = r m := rfl
@[simp] theorem and_f {r : Hd → R D} : andD (.bl false) m r = .ok (.bl false) m := rfl
@[simp] theorem or_f {r : Hd → R D} : orD (.bl false) m r = r m := rfl
@[simp] theorem or_t {r : Hd → R D} : orD (.bl true) m r = .ok (.bl true) m := rfl
@[simp] theorem bi_max2 : biD .max2 [.int i, .int j] m = .ok (.int (if j > i then j else i)) m := rfl
@[simp] theorem bi_min2 : biD .min2 [.int i, .int j] m = .ok (.int (if j < i then j else i)) m := rfl
@[simp] theorem bi_abs : biD .abs [.int i] m = .ok (.int (if i < 0 then -i else i)) m := rfl
@[simp] theorem bi_int : biD .int [.int i] m = .ok (.int i) m := rfl
@[simp] theorem bi_intb : biD .int [.bl b] m = .ok (.int (if b then 1 else 0)) m := rfl
@[simp] theorem bi_len_t : biD .len [.tup xs] m = .ok (.int xs.length) m := rfl
@[simp] theorem bi_len_l : biD .len [.lst xs] m = .ok (.int xs.length) m := rfl
@[simp] theorem bi_len_n {ns : List Str} : biD .len [.nms ns] m = .ok (.int ns.length) m := by
  show (match (some (ns.map D.str).length : Option Nat) with | some n => R.ok (D.int n) m | none => R.no) = _
  simp
@[simp] theorem bi_tup_n {ns : List Str} : biD .tuple [.nms ns] m = .ok (.nms ns) m := rfl
@[simp] theorem bi_nt_n {ns : List Str} : biD .ntup [.nms ns] m = .ok (.nms ns) m := rfl
theorem strs_map : ∀ {ns : List Str}, strsOf (ns.map .str) = some ns
  | [] => rfl
  | n :: ns => by rw [List.map_cons, strsOf, strs_map]; rfl
@[simp] theorem bi_nt_l {ns : List Str} : biD .ntup [.lst (ns.map .str)] m = .ok (.nms ns) m := by
  show (match (some (ns.map D.str)).bind strsOf with | some ns => R.ok (D.nms ns) m | none => R.no) = _
  rw [Option.bind_some, strs_map]
@[simp] theorem bi_list_n {a : Bool} {ns : List Str} : biD (.list a) [.nms ns] m = mkL a (ns.map .str) m := rfl
@[simp] theorem bop_addN {ns : List Str} : bopD b .add (.nms ns) (.tup ys) m = ifs (decide (ns.length + ys.length ≤ sizeLine) && !ys.isEmpty) (.ok (.tup (ns.map .str ++ ys)) m) := rfl
@[simp] theorem bi_len_s {ns : List Int} : biD .len [.scr ns] m = .ok (.int ns.length) m := by
  show (match (some (ns.map D.int).length : Option Nat) with | some n => R.ok (D.int n) m | none => R.no) = _
  simp
@[simp] theorem bi_tup_l : biD .tuple [.lst xs] m = .ok (.tup xs) m := rfl
@[simp] theorem bi_tup_t : biD .tuple [.tup xs] m = .ok (.tup xs) m := rfl
theorem keep_app {k : Nat} : ∀ {m e : Hd}, keepOk k m (m ++ e) = true
  | [], _ => rfl
  | o :: m, e => by simp [keepOk, keep_app (m := m) (e := e)]
theorem leave_app {e : Hd} (h : D.und m.length d = true) : leave true m (.ok d (m ++ e)) = .ok d m := by simp [leave, h, keep_app]
@[simp] theorem leave_b {e : Hd} : leave true m (.ok (.bl b) (m ++ e)) = .ok (.bl b) m := leave_app rfl
@[simp] theorem set_last {o o' : O} : (m ++ [o]).set m.length o' = m ++ [o'] := by simp
@[simp] theorem arr_nil {ds : List D} : arr [] ds = some [] := rfl
@[simp] theorem arr_inl {k : Nat} {g : List (Nat ⊕ D)} {ds : List D} : arr (.inl k :: g) ds = (ds[k]?).bind fun d => (arr g ds).map (d :: ·) := by
  have e : arr (.inl k :: g) ds = (ds[k]?).bind fun d => (arr g ds).bind fun r => some (d :: r) := by
    unfold arr
    rw [List.mapM_cons]
    rfl
  rw [e]
  cases ds[k]? with
  | none => rfl
  | some d => cases arr g ds <;> rfl
@[simp] theorem arr_inr {g : List (Nat ⊕ D)} {ds : List D} : arr (.inr d :: g) ds = (arr g ds).map (d :: ·) := by
  have e : arr (.inr d :: g) ds = (arr g ds).bind fun r => some (d :: r) := by
    unfold arr
    rw [List.mapM_cons]
    rfl
  rw [e]
  cases arr g ds <;> rfl
@[simp] theorem leave_ifs {gc c : Bool} {r : R D} : leave gc m (ifs c r) = ifs c (leave gc m r) := by cases c <;> rfl
@[simp] theorem leave_ite {gc : Bool} {p : Prop} [Decidable p] {r r' : R D} : leave gc m (if p then r else r') = if p then leave gc m r else leave gc m r' := by by_cases h : p <;> simp [h]
@[simp] theorem asg_bind {t : Tg} : asgD t s d m = (optB (bindTg t d s) m).bind fun s1 m => .ok (.next s1) m := by
  unfold asgD
  cases bindTg t d s <;> rfl
@[simp] theorem bind_n {k : Nat} : bindTg (.name k) d s = some (s.set k (some d)) := by simp only [bindTg]
@[simp] theorem bind_t {ts : List Tg} : bindTg (.tup ts) (.tup xs) s = bindTgs ts xs s := by simp only [bindTg]
@[simp] theorem binds_n : bindTgs [] [] s = some s := by simp only [bindTgs]
@[simp] theorem binds_c {t : Tg} {ts : List Tg} : bindTgs (t :: ts) (d :: xs) s = (bindTg t d s).bind fun s' => bindTgs ts xs s' := by simp only [bindTgs]
@[simp] theorem wipe_n : wipeD s [] = s := rfl
@[simp] theorem wipe_c {k : Nat} {ks : List Nat} : wipeD s (k :: ks) = (wipeD s ks).set k none := rfl
@[simp] theorem mty_join : mtTy m (.str u) .join = true := rfl
@[simp] theorem mty_split : mtTy m (.str u) .split = true := rfl
@[simp] theorem mty_sindex : mtTy m (.str u) .sindex = true := rfl
@[simp] theorem mty_get1 {t : Bool} {kvs : List (D × D)} : mtTy m (.dct t kvs) .get1 = true := rfl
@[simp] theorem mty_get2 {t : Bool} {kvs : List (D × D)} : mtTy m (.dct t kvs) .get2 = true := rfl
@[simp] theorem mt_join : mtD .join (.str u) [.lst xs] m = (optB (strsOf xs) m).bind fun ys m => ifs (decide (lenSum ys + ys.length * u.length ≤ 1000000)) (.ok (.str (joinS u ys)) m) := by
  have e : mtD .join (.str u) [.lst xs] m = match strsOf xs with
    | some ys => ifs (decide (lenSum ys + ys.length * u.length ≤ 1000000)) (.ok (.str (joinS u ys)) m)
    | none => .no := rfl
  rw [e]
  cases strsOf xs <;> rfl
@[simp] theorem mt_get2 {t : Bool} {kvs : List (D × D)} : mtD .get2 (.dct t kvs) [d, e] m = ifs (keyOk t d) (.ok ((find kvs d).getD e) m) := rfl
@[simp] theorem mt_get1 {t : Bool} {kvs : List (D × D)} : mtD .get1 (.dct t kvs) [d] m = ifs (keyOk t d) (.ok ((find kvs d).getD .non) m) := rfl
@[simp] theorem bi_len_str : biD .len [.str u] m = ifs (decide (u.length ≤ sizeLine)) (.ok (.int u.length) m) := by
  have e : biD .len [.str u] m = match (if u.length ≤ sizeLine then some u.length else none : Option Nat) with
    | some n => R.ok (.int n) m
    | none => .no := rfl
  rw [e]
  by_cases h : u.length ≤ sizeLine <;> simp [h]
@[simp] theorem get_d {t : Bool} {kvs : List (D × D)} : getD m (.dct t kvs) d = if keyOk t d then find kvs d else none := rfl
@[simp] theorem fz_ref : fzD (.ref n) m = match m[n]? with
    | some (.lst xs) => .ok (.lst xs) (m.set n .dead)
    | some (.dct t kvs) => .ok (.dct t kvs) (m.set n .dead)
    | _ => .no := rfl
@[simp] theorem sl_str {lo hi : Option Int} : slD b (.str u) lo hi m = ifs (decide (u.length ≤ sizeLine)) (.ok (.str ⟨(cut u.cps.toList lo hi).toArray⟩) m) := rfl
@[simp] theorem sl_tup {lo hi : Option Int} : slD b (.tup xs) lo hi m = .ok (.tup (cut xs lo hi)) m := rfl
@[simp] theorem sl_lst {lo hi : Option Int} : slD b (.lst xs) lo hi m = mkL b (cut xs lo hi) m := rfl
@[simp] theorem part_t : part true d = some none := rfl
@[simp] theorem part_f : part false (.int i) = some (some i) := rfl
@[simp] theorem abs_c : isAbs (.con .non) = true := rfl
@[simp] theorem stp_1 : stpD b (.lst xs) (.int 1) m = mkL b xs m := rfl
@[simp] theorem stp_m : stpD b (.lst xs) (.int (-1)) m = mkL b xs.reverse m := rfl
@[simp] theorem wq_t : wq m (.tup xs) = some xs := rfl
@[simp] theorem wq_l : wq m (.lst xs) = some xs := rfl
@[simp] theorem wq_n {ns : List Str} : wq m (.nms ns) = some (ns.map .str) := rfl
@[simp] theorem wq_s {ns : List Int} : wq m (.scr ns) = some (ns.map .int) := rfl
@[simp] theorem wq_d {t : Bool} {kvs : List (D × D)} : wq m (.dct t kvs) = some (kvs.map (·.1)) := rfl
@[simp] theorem wq_ref : wq m (.ref n) = m[n]?.bind itemsO := sq_ref
@[simp] theorem gu_t : guOf m (.tup xs) = [] := rfl
@[simp] theorem gu_l : guOf m (.lst xs) = [] := rfl
@[simp] theorem gu_d {t : Bool} {kvs : List (D × D)} : guOf m (.dct t kvs) = [] := rfl
@[simp] theorem gu_n {ns : List Str} : guOf m (.nms ns) = [] := rfl
@[simp] theorem gu_s {ns : List Int} : guOf m (.scr ns) = [] := rfl
@[simp] theorem line_eq : sizeLine = 16777216 := by decide
end
end Dx
/-! DxR: data that can be shown -/
namespace Dx
open PySem
mutual
/-- no reference, the numbers short -/
def D.tame : D → Bool
  | .tup xs => D.tameL xs
  | .lst xs => D.tameL xs
  | .int i => decide (i.natAbs < 10 ^ 50)
  | .str s => PyData.strOk s
  | .nms ns => ns.all PyData.strOk
  | .non | .bl _ => true
  | _ => false
def D.tameL : List D → Bool
  | [] => true
  | a :: r => D.tame a && D.tameL r
end
mutual
@[simp] def D.sz : D → Nat
  | .tup xs => D.szL xs
  | .lst xs => D.szL xs
  | .int _ => 170
  | .str s => s.length
  | .nms ns => (ns.map fun s => s.length + 1).sum
  | _ => 0
@[simp] def D.szL : List D → Nat
  | [] => 0
  | a :: r => D.sz a + 1 + D.szL r
end
mutual
@[simp] def D.dep : D → Nat
  | .tup xs => D.depL xs + 1
  | .lst xs => D.depL xs + 1
  | .nms _ => 1
  | _ => 0
@[simp] def D.depL : List D → Nat
  | [] => 0
  | a :: r => max (D.dep a) (D.depL r)
end
theorem log_lt {n : Nat} (h : n < 10 ^ 50) : n.log2 < 167 := by
  by_cases h0 : n = 0
  · subst h0; decide
  · exact (Nat.log2_lt h0).mpr (Nat.lt_trans h (by decide))
mutual
theorem tame_flat : ∀ {d : D}, D.tame d = true → D.flat d = true
  | .non, _ => rfl
  | .bl _, _ => rfl
  | .int _, _ => rfl
  | .str _, _ => rfl
  | .nms _, _ => rfl
  | .tup xs, h => by simp only [D.tame] at h; simp only [D.flat]; exact tame_flatL h
  | .lst xs, h => by simp only [D.tame] at h; simp only [D.flat]; exact tame_flatL h
theorem tame_flatL : ∀ {xs : List D}, D.tameL xs = true → D.flatL xs = true
  | [], _ => rfl
  | a :: r, h => by
    simp only [D.tameL, Bool.and_eq_true] at h
    simp only [D.flatL, Bool.and_eq_true]
    exact ⟨tame_flat h.1, tame_flatL h.2⟩
end
theorem tame_nms : ∀ {ns : List Str}, ns.all PyData.strOk = true → PyData.showableAll (ns.map .str) = true ∧ PyData.canLayAll0 (ns.map .str) = true ∧ PyData.leavesShortAll 60 (ns.map .str) = true ∧ PyData.weightAll (ns.map .str) ≤ (ns.map fun s => s.length + 1).sum
  | [], _ => ⟨rfl, rfl, rfl, by simp [PyData.weightAll]⟩
  | s :: r, h => by
    simp only [List.all_cons, Bool.and_eq_true] at h
    obtain ⟨g1, g2, g3, g4⟩ := tame_nms h.2
    have c : (PyData.str s).canLay0 = true := by simpa only [PyData.canLay0] using h.1
    have l := PyData.leavesShort_of_canLay0 60 _ c rfl
    have sh : (PyData.str s).showable = true := rfl
    refine ⟨by simp only [List.map_cons, PyData.showableAll, sh, g1, Bool.and_self], by simp only [List.map_cons, PyData.canLayAll0, c, g2, Bool.and_self], by simp only [List.map_cons, PyData.leavesShortAll, l, g3, Bool.and_self], ?_⟩
    simp only [List.map_cons, PyData.weightAll, List.sum_cons, PyData.weight]
    have : s.cps.size = s.length := rfl
    omega
theorem dep_nms : ∀ {ns : List Str}, PyData.depthAll (ns.map .str) = 0
  | [] => rfl
  | s :: r => by
    have := dep_nms (ns := r)
    simp only [List.map_cons, PyData.depthAll, PyData.depth, this]
    rfl
mutual
theorem tame_show : ∀ {d : D}, D.tame d = true → (D.py d).showable = true ∧ (D.py d).canLay0 = true ∧ (D.py d).leavesShort 60 = true ∧ (D.py d).weight ≤ D.sz d
  | .non, _ => ⟨rfl, rfl, rfl, by simp [D.py, PyData.weight]⟩
  | .bl _, _ => ⟨rfl, rfl, rfl, by simp [D.py, PyData.weight]⟩
  | .int i, h => by
    simp only [D.tame, decide_eq_true_eq] at h
    have l := log_lt h
    refine ⟨by simp only [D.py, PyData.showable, decide_eq_true_eq]; omega, by simp only [D.py, PyData.canLay0], ?_, ?_⟩
    · simp only [D.py, PyData.leavesShort, decide_eq_true_eq]
      have e := int_text_length_le10 (a := i) (k := 50) (by decide) h
      show (Str.ofString (toString i)).length ≤ 60
      rw [ofString_length]
      omega
    · simp only [D.py, PyData.weight, D.sz]
      split <;> omega
  | .str s, h => by
    simp only [D.tame] at h
    have c : (PyData.str s).canLay0 = true := by simpa only [PyData.canLay0] using h
    refine ⟨rfl, c, PyData.leavesShort_of_canLay0 60 _ c rfl, ?_⟩
    simp only [D.py, PyData.weight, D.sz]
    exact Nat.le_refl _
  | .nms ns, h => by
    simp only [D.tame] at h
    obtain ⟨h1, h2, h3, h4⟩ := tame_nms h
    exact ⟨by simpa only [D.py, PyData.showable] using h1, by simpa only [D.py, PyData.canLay0] using h2, by simpa only [D.py, PyData.leavesShort] using h3, by simpa only [D.py, PyData.weight, D.sz] using h4⟩
  | .tup xs, h => by
    simp only [D.tame] at h
    obtain ⟨h1, h2, h3, h4⟩ := tame_showL h
    exact ⟨by simpa only [D.py, PyData.showable] using h1, by simpa only [D.py, PyData.canLay0] using h2, by simpa only [D.py, PyData.leavesShort] using h3, by simpa only [D.py, PyData.weight, D.sz] using h4⟩
  | .lst xs, h => by
    simp only [D.tame] at h
    obtain ⟨h1, h2, h3, h4⟩ := tame_showL h
    exact ⟨by simpa only [D.py, PyData.showable] using h1, by simpa only [D.py, PyData.canLay0] using h2, by simpa only [D.py, PyData.leavesShort] using h3, by simpa only [D.py, PyData.weight, D.sz] using h4⟩
theorem tame_showL : ∀ {xs : List D}, D.tameL xs = true → PyData.showableAll (D.pyL xs) = true ∧ PyData.canLayAll0 (D.pyL xs) = true ∧ PyData.leavesShortAll 60 (D.pyL xs) = true ∧ PyData.weightAll (D.pyL xs) ≤ D.szL xs
  | [], _ => ⟨rfl, rfl, rfl, by simp [D.pyL, PyData.weightAll]⟩
  | a :: r, h => by
    simp only [D.tameL, Bool.and_eq_true] at h
    obtain ⟨h1, h2, h3, h4⟩ := tame_show h.1
    obtain ⟨g1, g2, g3, g4⟩ := tame_showL h.2
    refine ⟨by simp only [D.pyL, PyData.showableAll, h1, g1, Bool.and_self], by simp only [D.pyL, PyData.canLayAll0, h2, g2, Bool.and_self], by simp only [D.pyL, PyData.leavesShortAll, h3, g3, Bool.and_self], ?_⟩
    simp only [D.pyL, PyData.weightAll, D.szL]
    omega
end
mutual
theorem dep_py : ∀ d : D, (D.py d).depth ≤ D.dep d
  | .non => by simp [D.py, PyData.depth]
  | .bl _ => by simp [D.py, PyData.depth]
  | .int _ => by simp [D.py, PyData.depth]
  | .str _ => by simp [D.py, PyData.depth]
  | .scr _ => by simp [D.py, PyData.depth]
  | .ref _ => by simp [D.py, PyData.depth]
  | .dct _ _ => by simp [D.py, PyData.depth]
  | .nms ns => by simp only [D.py, PyData.depth, D.dep, dep_nms]; omega
  | .tup xs => by
    have := dep_pyL xs
    simp only [D.py, PyData.depth, D.dep]
    omega
  | .lst xs => by
    have := dep_pyL xs
    simp only [D.py, PyData.depth, D.dep]
    omega
theorem dep_pyL : ∀ xs : List D, PyData.depthAll (D.pyL xs) ≤ D.depL xs
  | [] => by simp [D.pyL, PyData.depthAll]
  | a :: r => by
    have := dep_py a
    have := dep_pyL r
    simp only [D.pyL, PyData.depthAll, D.depL]
    omega
end
/-- the text of a list or tuple -/
def D.text (d : D) : Str := (D.py d).shown
theorem repr_ok0 {m : Hd} {d : D} (ht : D.tame (fz m d) = true) (hk : (match fz m d with | .tup _ => true | .lst _ => true | .nms _ => true | _ => false) = true) (hd : D.dep (fz m d) ≤ 64) (hs : D.sz (fz m d) ≤ 262144) :
    biD .repr [d] m = .ok (.str (D.text (fz m d))) m := by
  obtain ⟨h1, h2, h3, h4⟩ := tame_show ht
  have e0 : biD .repr [d] m = reprG d m := by
    cases d <;> first | rfl | (simp only [fz] at hk; cases hk)
  have e : reprG d m = ifs (D.flat (fz m d) && (match fz m d with | .tup _ => true | .lst _ => true | .nms _ => true | _ => false) && (D.py (fz m d)).showable && decide ((D.py (fz m d)).depth ≤ 64) && decide ((D.py (fz m d)).shown.length ≤ sizeLine)) (.ok (.str (D.py (fz m d)).shown) m) := rfl
  have l := PyData.shown_le 60 (by decide) _ h3
  have l2 := dep_py (fz m d)
  have c1 : decide ((D.py (fz m d)).depth ≤ 64) = true := decide_eq_true (by omega)
  have c2 : decide ((D.py (fz m d)).shown.length ≤ sizeLine) = true := decide_eq_true (by
    have : sizeLine = 16777216 := by decide
    omega)
  rw [e0, e, tame_flat ht, hk, h1, c1, c2]
  rfl
theorem repr_l {m : Hd} {xs : List D} (ht : D.tameL xs = true) (hd : D.depL xs ≤ 63) (hs : D.szL xs ≤ 262144) : biD .repr [.lst xs] m = .ok (.str (D.text (.lst xs))) m :=
  repr_ok0 (m := m) (d := .lst xs) (by simpa only [fz_l, D.tame] using ht) rfl (by simp only [fz_l, D.dep]; omega) (by simpa only [fz_l, D.sz] using hs)
theorem repr_t {m : Hd} {xs : List D} (ht : D.tameL xs = true) (hd : D.depL xs ≤ 63) (hs : D.szL xs ≤ 262144) : biD .repr [.tup xs] m = .ok (.str (D.text (.tup xs))) m :=
  repr_ok0 (m := m) (d := .tup xs) (by simpa only [fz_t, D.tame] using ht) rfl (by simp only [fz_t, D.dep]; omega) (by simpa only [fz_t, D.sz] using hs)
theorem repr_r {m : Hd} {n : Nat} {xs : List D} (h : m[n]? = some (.lst xs)) (ht : D.tameL xs = true) (hd : D.depL xs ≤ 63) (hs : D.szL xs ≤ 262144) : biD .repr [.ref n] m = .ok (.str (D.text (.lst xs))) m := by
  have e := fz_r h
  have := repr_ok0 (m := m) (d := .ref n) (by rw [e]; simpa only [D.tame] using ht) (by rw [e]) (by rw [e]; simp only [D.dep]; omega) (by rw [e]; simpa only [D.sz] using hs)
  rwa [e] at this
/-! ### == -/
section
variable {m : Hd} {i j : Int} {u v : Str}
@[simp] theorem eq_ss : eqD m (.str u) (.str v) = some (decide (u = v)) := rfl
@[simp] theorem eq_ii : eqD m (.int i) (.int j) = some (decide (i = j)) := by
  show eqF m (.int i) (.int j) = _
  have e : eqF m (.int i) (.int j) = some (PyData.eqv (.int i) (.int j)) := rfl
  rw [e]
  congr 1
end
theorem eqF_tame {m : Hd} {x y : D} (hx : D.tame (fz m x) = true) (hy : D.tame (fz m y) = true) (dx : D.dep (fz m x) ≤ 64) (dy : D.dep (fz m y) ≤ 64) : eqF m x y = some (PyData.eqv (D.py (fz m x)) (D.py (fz m y))) := by
  obtain ⟨_, h2, _, _⟩ := tame_show hx
  obtain ⟨_, g2, _, _⟩ := tame_show hy
  have a := dep_py (fz m x)
  have b := dep_py (fz m y)
  have s1 : SeqAt.shaped (D.py (fz m x)) = true := by unfold SeqAt.shaped; rw [h2, decide_eq_true (by omega)]; rfl
  have s2 : SeqAt.shaped (D.py (fz m y)) = true := by unfold SeqAt.shaped; rw [g2, decide_eq_true (by omega)]; rfl
  unfold eqF
  simp only [tame_flat hx, tame_flat hy, s1, s2, Bool.and_self, if_true]
def szOk (xs : List D) : Bool := decide (D.szL xs ≤ 262144)
@[simp] theorem szOk_iff {xs : List D} : szOk xs = true ↔ D.szL xs ≤ 262144 := by simp [szOk]
theorem repr_L {m : Hd} {xs : List D} (ht : D.tameL xs = true) (hd : D.depL xs ≤ 63) (hs : szOk xs = true) : biD .repr [.lst xs] m = .ok (.str (D.text (.lst xs))) m := repr_l ht hd (szOk_iff.mp hs)
theorem repr_T {m : Hd} {xs : List D} (ht : D.tameL xs = true) (hd : D.depL xs ≤ 63) (hs : szOk xs = true) : biD .repr [.tup xs] m = .ok (.str (D.text (.tup xs))) m := repr_t ht hd (szOk_iff.mp hs)
@[simp] theorem repr_ref {m : Hd} {n : Nat} : biD .repr [.ref n] m = (optB (m[n]?.bind itemsO) m).bind fun xs m => biD .repr [.lst xs] m := by
  cases h : m[n]? with
  | none =>
    have e : fz m (.ref n) = .ref n := by simp only [fz, h]
    simp only [biD, reprD, reprG, e, D.flat]
    rfl
  | some o =>
    cases o with
    | lst xs =>
      have e := fz_r h
      simp only [biD, reprD, reprG, e]
      rfl
    | _ =>
      have e : fz m (.ref n) = .ref n := by simp only [fz, h]
      simp only [biD, reprD, reprG, e, D.flat]
      rfl
def Short (i : Int) : Prop := i.natAbs < 10 ^ 50
@[simp] theorem tame_i {i : Int} : D.tame (.int i) = true ↔ Short i := by simp only [D.tame, decide_eq_true_eq, Short]
theorem short_of {i : Int} (h1 : -1000000000000000000000000000000 < i) (h2 : i < 1000000000000000000000000000000) : Short i := by
  unfold Short
  have : (1000000000000000000000000000000 : Nat) ≤ 10 ^ 50 := by decide
  omega
@[simp] theorem tame_n : D.tame .non = true := rfl
@[simp] theorem tame_b {b : Bool} : D.tame (.bl b) = true := rfl
@[simp] theorem tame_t {xs : List D} : D.tame (.tup xs) = D.tameL xs := by simp only [D.tame]
@[simp] theorem tame_l {xs : List D} : D.tame (.lst xs) = D.tameL xs := by simp only [D.tame]
@[simp] theorem tameL_n : D.tameL [] = true := rfl
@[simp] theorem tameL_c {x : D} {xs : List D} : D.tameL (x :: xs) = (D.tame x && D.tameL xs) := by simp only [D.tameL]
end Dx
/-! FnL: defs that several laws share -/
namespace Dx
open PySem
/-- numbers_of -/
def F0 : Fn := ⟨4, 1, true, [.ret (.fz (.dc true [1, 2, 3] (.tup [.name 1, .name 2, .name 3]) (.seq (.ix (.var 0) (.con (.int 1)))) (.yes) (.tup [.var 1, .var 2]) (.var 3)))]⟩
/-- names_of -/
def F1 : Fn := ⟨1, 1, false, [.ret (.bin false .add (.ix (.var 0) (.con (.int 0))) (.tup [.con (.str "ground")]))]⟩
/-- table -/
def F2_0 : List Sm := [.iff (.and (.cmp .isin (.tup [.var 4, .var 3]) (.var 2)) (.cmp .isin (.tup [.var 3, .var 6]) (.var 2))) [.asg (.name 7) (.bin false .add (.ix (.var 2) (.tup [.var 4, .var 3])) (.ix (.var 2) (.tup [.var 3, .var 6]))), .setix (.var 2) (.tup [.var 4, .var 6]) (.bi .min2 [.var 7, .mt .get2 (.var 2) [.tup [.var 4, .var 6], .var 7]])] []]
def F2_1 : List Sm := [.fr (.name 6) (.seq (.var 1)) F2_0]
def F2_2 : List Sm := [.fr (.name 4) (.seq (.var 1)) F2_1]
def F2 : Fn := ⟨8, 1, true, [.asg (.name 1) (.call 1 [.var 0] [.inl 0]),
  .asg (.name 2) (.dc true [5] (.name 5) (.seq (.var 1)) (.yes) (.tup [.var 5, .var 5]) (.con (.int 0))),
  .exp (.mt .update (.var 2) [.call 0 [.var 0] [.inl 0]]),
  .fr (.name 3) (.seq (.var 1)) F2_2,
  .ret (.fz (.var 2))]⟩
/-- lowest -/
def F3 : Fn := ⟨3, 1, false, [.asg (.name 1) (.call 2 [.var 0] [.inl 0]),
  .ret (.bi .tuple [.lc false [2] (.name 2) (.seq (.ix (.var 0) (.con (.int 0)))) (.yes) (.cond (.cmp .isin (.tup [.var 2, .con (.str "ground")]) (.var 1)) (.neg (.ix (.var 1) (.tup [.var 2, .con (.str "ground")]))) (.con .non))])]⟩
/-- highest -/
def F4 : Fn := ⟨3, 1, false, [.asg (.name 1) (.call 2 [.var 0] [.inl 0]),
  .ret (.bi .tuple [.lc false [2] (.name 2) (.seq (.ix (.var 0) (.con (.int 0)))) (.yes) (.mt .get2 (.var 1) [.tup [.con (.str "ground"), .var 2], .con .non])])]⟩
/-- is_from_to -/
def F5 : Fn := ⟨3, 3, false, [.ret (.and (.or (.cmp .is (.var 1) (.con .non)) (.cmp .le (.var 1) (.var 0))) (.or (.cmp .is (.var 2) (.con .non)) (.cmp .le (.var 0) (.var 2))))]⟩
/-- in_box -/
def F6 : Fn := ⟨5, 2, false, [.ret (.bi .all [.lc false [2, 3, 4] (.tup [.name 2, .tup [.name 3, .name 4]]) (.zip (.var 1) (.var 0)) (.yes) (.call 5 [.var 2, .var 3, .var 4] [.inl 0, .inl 1, .inl 2])])]⟩
/-- _law_box -/
def F7 : Fn := ⟨5, 3, false, [.asg (.name 3) (.bin false .add (.bin false .add (.bin false .mul (.con (.int 6353)) (.var 1)) (.bin false .mul (.con (.int 104723)) (.var 2))) (.con (.int 19))),
  .iff (.cmp .lt (.var 1) (.bi .len [.var 0])) [.asg (.name 3) (.bi .max2 [.ix (.var 0) (.var 1), .bin false .sub (.con (.int 0)) (.ix (.var 0) (.var 1))])] [.iff (.cmp .gt (.bi .len [.var 0]) (.con (.int 0))) [.asg (.name 3) (.bin false .add (.var 3) (.bin false .mul (.bin false .mod (.ix (.var 0) (.bin false .mod (.var 1) (.bi .len [.var 0]))) (.con (.int 2147483629))) (.con (.int 69623))))] []],
  .asg (.name 4) (.bin false .add (.bin false .mod (.bin false .add (.bin false .mul (.bin false .mod (.var 3) (.con (.int 2147483629))) (.con (.int 48271))) (.bin false .mul (.con (.int 40692)) (.bin false .add (.var 1) (.bin false .mul (.con (.int 9)) (.var 2))))) (.con (.int 2147483629))) (.con (.int 1))),
  .ret (.lst true [.ix (.lst false [.con (.int 0), .var 3]) (.bi .int [.cmp .ge (.var 3) (.bin false .pow (.con (.int 10)) (.con (.int 18)))]), .var 4, .con (.int 0)])]⟩
/-- _law_take -/
def F8 : Fn := ⟨4, 2, false, [.iff (.cmp .gt (.ix (.var 0) (.con (.int 0))) (.con (.int 0))) [.asg (.name 3) (.bin false .mod (.ix (.var 0) (.con (.int 0))) (.var 1)), .setix (.var 0) (.con (.int 0)) (.bin false .fdiv (.ix (.var 0) (.con (.int 0))) (.var 1)), .ret (.var 3)] [],
  .setix (.var 0) (.con (.int 2)) (.bin false .add (.ix (.var 0) (.con (.int 2))) (.con (.int 1))),
  .asg (.name 2) (.bin false .mod (.bin false .mul (.bin false .add (.ix (.var 0) (.con (.int 1))) (.bin false .mul (.con (.int 104729)) (.ix (.var 0) (.con (.int 2))))) (.con (.int 69623))) (.con (.int 2147483647))),
  .setix (.var 0) (.con (.int 1)) (.bin false .add (.bin false .mod (.bin false .add (.bin false .mul (.var 2) (.con (.int 48271))) (.con (.int 30103))) (.con (.int 2147483629))) (.con (.int 1))),
  .ret (.bin false .mod (.bin false .fdiv (.bin false .add (.bin false .mul (.var 2) (.con (.int 2147483647))) (.ix (.var 0) (.con (.int 1)))) (.con (.int 8191))) (.var 1))]⟩
/-- _law_names -/
def F9 : Fn := ⟨13, 2, false, [.asg (.tup [.name 5, .name 6]) (.tup [.con (.str "abcdefghijklmnopqrstuvwxyz"), .call 8 [.var 0, .con (.int 6)] [.inl 0, .inl 1]]),
  .asg (.name 2) (.mt .join (.con (.str "")) [.lc false [12] (.name 12) (.rng (.con (.int 0)) (.call 8 [.var 0, .con (.int 5)] [.inl 0, .inl 1])) (.yes) (.ix (.var 5) (.call 8 [.var 0, .con (.int 26)] [.inl 0, .inl 1]))]),
  .asg (.tup [.name 7, .name 8, .name 9]) (.tup [.call 8 [.var 0, .bin false .add (.bi .len [.var 2]) (.con (.int 1))] [.inl 0, .inl 1], .call 8 [.var 0, .con (.int 26)] [.inl 0, .inl 1], .ix (.lst false [.con (.int 1), .bin false .sub (.con (.int 0)) (.con (.int 1))]) (.call 8 [.var 0, .con (.int 2)] [.inl 0, .inl 1])]),
  .asg (.name 3) (.mt .split (.con (.str "things tie with cut web pull stand ends show far reach back none moved kept")) [.con (.str " ")]),
  .iff (.cmp .eq (.var 6) (.con (.int 0))) [.asg (.name 10) (.lc false [12] (.name 12) (.rng (.con (.int 0)) (.bi .min2 [.con (.int 6), .var 1])) (.yes) (.sl false (.bin false .add (.var 2) (.con (.str "qzxjvk"))) (.con .non) (.bin false .add (.var 12) (.con (.int 1))))), .asg (.name 11) (.ix (.var 5) (.bin false .mod (.bin false .add (.mt .sindex (.var 5) [.ix (.var 10) (.con (.int 0))]) (.con (.int 1))) (.con (.int 26)))), .ret (.stp false (.bin false .add (.var 10) (.lc false [12] (.name 12) (.rng (.con (.int 6)) (.var 1)) (.yes) (.bin false .add (.var 11) (.ix (.var 5) (.var 12))))) (.var 9))] [],
  .iff (.cmp .eq (.var 6) (.con (.int 1))) [.ret (.lc false [12] (.name 12) (.rng (.con (.int 0)) (.var 1)) (.yes) (.ix (.var 3) (.bin false .mod (.bin false .add (.var 8) (.var 12)) (.con (.int 15)))))] [],
  .asg (.name 4) (.bin false .mul (.con (.str "w")) (.bi .int [.cmp .eq (.var 6) (.con (.int 2))])),
  .ret (.stp false (.lc false [12] (.name 12) (.rng (.con (.int 0)) (.var 1)) (.yes) (.bin false .add (.bin false .add (.bin false .add (.var 4) (.sl false (.var 2) (.con .non) (.var 7))) (.ix (.var 5) (.bin false .mod (.bin false .add (.var 8) (.bin false .mul (.con (.int 7)) (.var 12))) (.con (.int 26))))) (.sl false (.var 2) (.var 7) (.con .non)))) (.var 9))]⟩
/-- _law_ties -/
def F10_0 : List Sm := [.asg (.name 6) (.call 8 [.var 0, .bi .len [.var 1]] [.inl 0, .inl 1]), .asg (.tup [.name 8, .name 9]) (.tup [.ix (.var 1) (.var 6), .ix (.var 1) (.bin false .mod (.bin false .add (.bin false .add (.var 6) (.con (.int 1))) (.call 8 [.var 0, .bin false .sub (.bi .len [.var 1]) (.con (.int 1))] [.inl 0, .inl 1])) (.bi .len [.var 1]))]), .asg (.name 7) (.ix (.lst false [.con (.int 0), .call 8 [.var 0, .con (.int 4)] [.inl 0, .inl 1], .call 8 [.var 0, .con (.int 30)] [.inl 0, .inl 1], .call 8 [.var 0, .bin false .add (.var 3) (.con (.int 1))] [.inl 0, .inl 1]]) (.call 8 [.var 0, .con (.int 4)] [.inl 0, .inl 1])), .setix (.var 4) (.tup [.var 8, .var 9]) (.bin false .add (.bin false .sub (.ix (.var 2) (.var 9)) (.ix (.var 2) (.var 8))) (.var 7)), .iff (.and (.cmp .eq (.var 7) (.con (.int 0))) (.cmp .eq (.call 8 [.var 0, .con (.int 3)] [.inl 0, .inl 1]) (.con (.int 0)))) [.setix (.var 4) (.tup [.var 9, .var 8]) (.bin false .sub (.ix (.var 2) (.var 8)) (.ix (.var 2) (.var 9)))] []]
def F10 : Fn := ⟨10, 4, true, [.asg (.name 4) (.dnew true),
  .fr (.name 5) (.rng (.con (.int 0)) (.call 8 [.var 0, .bin false .add (.bin false .mul (.con (.int 2)) (.bi .len [.var 1])) (.con (.int 2))] [.inl 0, .inl 1])) F10_0,
  .ret (.fz (.var 4))]⟩
/-- _law_web_by -/
def F11 : Fn := ⟨4, 2, false, [.ret (.tup [.bi .ntup [.var 0], .bi .tuple [.lc false [2, 3] (.tup [.name 2, .name 3]) (.seq (.bi (.sorted false) [.bi (.list false) [.var 1]])) (.yes) (.tup [.var 2, .var 3, .ix (.var 1) (.tup [.var 2, .var 3])])]])]⟩
/-- _law_web -/
def F12 : Fn := ⟨7, 2, true, [.asg (.tup [.name 4, .name 5]) (.tup [.call 9 [.var 0, .bin false .add (.con (.int 1)) (.call 8 [.var 0, .var 1] [.inl 0, .inl 1])] [.inl 0, .inl 1], .ix (.lst false [.con (.int 3), .con (.int 12), .con (.int 1000), .con (.int 200000000)]) (.call 8 [.var 0, .con (.int 4)] [.inl 0, .inl 1])]),
  .asg (.name 2) (.lc false [6] (.name 6) (.seq (.var 4)) (.yes) (.bin false .sub (.call 8 [.var 0, .bin false .add (.bin false .mul (.con (.int 2)) (.var 5)) (.con (.int 1))] [.inl 0, .inl 1]) (.var 5))),
  .asg (.name 3) (.fz (.bi (.dict false) [.lw false (.bin false .add (.var 4) (.lst false [.con (.str "ground")])) (.bin false .add (.var 2) (.lst false [.con (.int 0)]))])),
  .ret (.tup [.call 11 [.var 4, .call 10 [.var 0, .bin false .add (.var 4) (.lst false [.con (.str "ground")]), .var 3, .var 5] [.inl 0, .inl 1, .inl 2, .inl 3]] [.inl 0, .inl 1], .bi .tuple [.var 2]])]⟩
/-- _law_table -/
def F13_0 : List Sm := [.setix (.var 2) (.tup [.var 3, .var 3]) (.con (.int 0))]
def F13_1 : List Sm := [.iff (.and (.cmp .isin (.tup [.var 5, .var 4]) (.var 2)) (.cmp .isin (.tup [.var 4, .var 6]) (.var 2))) [.asg (.name 8) (.bin false .add (.ix (.var 2) (.tup [.var 5, .var 4])) (.ix (.var 2) (.tup [.var 4, .var 6]))), .setix (.var 2) (.tup [.var 5, .var 6]) (.bi .min2 [.var 8, .mt .get2 (.var 2) [.tup [.var 5, .var 6], .var 8]])] []]
def F13_2 : List Sm := [.fr (.name 6) (.seq (.var 1)) F13_1]
def F13_3 : List Sm := [.fr (.name 5) (.seq (.var 1)) F13_2]
def F13 : Fn := ⟨9, 1, true, [.asg (.name 1) (.bin false .add (.bi (.list false) [.ix (.var 0) (.con (.int 0))]) (.lst false [.con (.str "ground")])),
  .asg (.name 2) (.bi (.dict true) [.lc false [5, 6, 7] (.tup [.name 5, .name 6, .name 7]) (.seq (.ix (.var 0) (.con (.int 1)))) (.yes) (.tup [.tup [.var 5, .var 6], .var 7])]),
  .fr (.name 3) (.seq (.var 1)) F13_0,
  .fr (.name 4) (.seq (.var 1)) F13_3,
  .ret (.fz (.var 2))]⟩
/-- _law_bounds -/
def F14_0 : List Sm := [.asg (.name 4) (.bin false .add (.var 3) (.ix (.lst false [.con (.int 0), .con (.int 0), .bin false .sub (.call 8 [.var 0, .con (.int 9)] [.inl 0, .inl 1]) (.con (.int 4)), .bin false .sub (.call 8 [.var 0, .bin false .add (.bin false .mul (.con (.int 2)) (.bin false .pow (.con (.int 10)) (.con (.int 9)))) (.con (.int 1))] [.inl 0, .inl 1]) (.bin false .pow (.con (.int 10)) (.con (.int 9)))]) (.call 8 [.var 0, .con (.int 4)] [.inl 0, .inl 1]))), .asg (.name 5) (.bin false .sub (.var 4) (.ix (.lst false [.con (.int 0), .call 8 [.var 0, .con (.int 5)] [.inl 0, .inl 1], .call 8 [.var 0, .bin false .pow (.con (.int 10)) (.con (.int 6))] [.inl 0, .inl 1]]) (.call 8 [.var 0, .con (.int 3)] [.inl 0, .inl 1]))), .asg (.name 6) (.bin false .add (.var 4) (.ix (.lst false [.con (.int 0), .call 8 [.var 0, .con (.int 5)] [.inl 0, .inl 1], .call 8 [.var 0, .bin false .pow (.con (.int 10)) (.con (.int 6))] [.inl 0, .inl 1]]) (.call 8 [.var 0, .con (.int 3)] [.inl 0, .inl 1]))), .exp (.mt .append (.var 2) [.tup [.ix (.lst false [.var 5, .var 5, .con .non]) (.call 8 [.var 0, .con (.int 3)] [.inl 0, .inl 1]), .ix (.lst false [.var 6, .var 6, .con .non]) (.call 8 [.var 0, .con (.int 3)] [.inl 0, .inl 1])]])]
def F14 : Fn := ⟨7, 2, true, [.asg (.name 2) (.lst true []),
  .fr (.name 3) (.seq (.var 1)) F14_0,
  .ret (.bi .tuple [.var 2])]⟩
/-- _law_is_legal -/
def F15 : Fn := ⟨5, 2, true, [.iff (.or (.not (.val (.bi (.isinst .tuple) [.var 1]))) (.cmp .ne (.bi .len [.var 1]) (.bi .len [.ix (.var 0) (.con (.int 0))]))) [.ret (.con (.bl false))] [],
  .iff (.cmp .ne (.lc false [3] (.name 3) (.seq (.var 1)) (.or (.not (.val (.bi (.isinst .int) [.var 3]))) (.val (.bi (.isinst .bool) [.var 3]))) (.var 3)) (.lst false [])) [.ret (.con (.bl false))] [],
  .asg (.name 2) (.fz (.bi (.dict false) [.lw false (.bin false .add (.bi (.list false) [.ix (.var 0) (.con (.int 0))]) (.lst false [.con (.str "ground")])) (.bin false .add (.bi (.list false) [.var 1]) (.lst false [.con (.int 0)]))])),
  .ret (.cmp .eq (.lc false [4] (.name 4) (.seq (.ix (.var 0) (.con (.int 1)))) (.cmp .gt (.bin false .sub (.ix (.var 2) (.ix (.var 4) (.con (.int 1)))) (.ix (.var 2) (.ix (.var 4) (.con (.int 0))))) (.ix (.var 4) (.con (.int 2)))) (.var 4)) (.lst false []))]⟩
/-- _law_is_within -/
def F16_0 : List Sm := [.iff (.or (.and (.cmp .isnot (.var 3) (.con .non)) (.cmp .lt (.var 2) (.var 3))) (.and (.cmp .isnot (.var 4) (.con .non)) (.cmp .gt (.var 2) (.var 4)))) [.ret (.con (.bl false))] []]
def F16 : Fn := ⟨5, 2, false, [.fr (.tup [.name 2, .tup [.name 3, .name 4]]) (.zip (.var 1) (.var 0)) F16_0,
  .ret (.con (.bl true))]⟩
/-- _law_ends -/
def F17 : Fn := ⟨6, 1, false, [.asg (.name 1) (.call 13 [.var 0] [.inl 0]),
  .asg (.name 2) (.lc false [4] (.name 4) (.seq (.ix (.var 0) (.con (.int 0)))) (.yes) (.mt .get2 (.var 1) [.tup [.var 4, .con (.str "ground")], .con .non])),
  .asg (.name 3) (.lc false [4] (.name 4) (.seq (.ix (.var 0) (.con (.int 0)))) (.yes) (.mt .get2 (.var 1) [.tup [.con (.str "ground"), .var 4], .con .non])),
  .ret (.tup [.bi .tuple [.lc false [5] (.name 5) (.seq (.var 2)) (.yes) (.cond (.cmp .is (.var 5) (.con .non)) (.con .non) (.bin false .sub (.con (.int 0)) (.var 5)))], .bi .tuple [.var 3]])]⟩
/-- is_whole -/
def F19 : Fn := ⟨1, 1, false, [.ret (.and (.bi (.isinst .int) [.var 0]) (.not (.bi (.isinst .bool) [.var 0])))]⟩
/-- is_name -/
def F20 : Fn := ⟨2, 1, false, [.iff (.or (.not (.val (.bi (.isinst .str) [.var 0]))) (.not (.chain .le .le (.con (.int 1)) (.bi .len [.var 0]) (.con (.int 6))))) [.ret (.con (.bl false))] [],
  .ret (.bi .all [.lc false [1] (.name 1) (.seq (.var 0)) (.yes) (.cmp .isin (.var 1) (.con (.str "abcdefghijklmnopqrstuvwxyz")))])]⟩
/-- is_tie -/
def F21 : Fn := ⟨1, 1, false, [.iff (.or (.not (.val (.bi (.isinst .tuple) [.var 0]))) (.cmp .ne (.bi .len [.var 0]) (.con (.int 3)))) [.ret (.con (.bl false))] [],
  .ret (.and (.bi (.isinst .str) [.ix (.var 0) (.con (.int 0))]) (.and (.bi (.isinst .str) [.ix (.var 0) (.con (.int 1))]) (.call 19 [.ix (.var 0) (.con (.int 2))] [.inl 0])))]⟩
/-- has_form -/
def F22 : Fn := ⟨2, 1, false, [.iff (.or (.not (.val (.bi (.isinst .tuple) [.var 0]))) (.or (.cmp .ne (.bi .len [.var 0]) (.con (.int 2))) (.not (.val (.bi .all [.lc false [1] (.name 1) (.seq (.var 0)) (.yes) (.bi (.isinst .tuple) [.var 1])]))))) [.ret (.con (.bl false))] [],
  .ret (.and (.bi .all [.lc false [1] (.name 1) (.seq (.ix (.var 0) (.con (.int 0)))) (.yes) (.bi (.isinst .str) [.var 1])]) (.bi .all [.lc false [1] (.name 1) (.seq (.ix (.var 0) (.con (.int 1)))) (.yes) (.call 21 [.var 1] [.inl 0])]))]⟩
/-- look_tie -/
def F23 : Fn := ⟨7, 3, false, [.asg (.tup [.name 4, .name 5, .name 6]) (.ix (.var 1) (.var 2)),
  .asg (.name 3) (.bin false .add (.var 0) (.tup [.con (.str "ground")])),
  .iff (.or (.cmp .notin (.var 4) (.var 3)) (.or (.cmp .notin (.var 5) (.var 3)) (.cmp .eq (.var 4) (.var 5)))) [.never] [],
  .iff (.and (.cmp .gt (.var 2) (.con (.int 0))) (.cmp .ge (.sl false (.ix (.var 1) (.bin false .sub (.var 2) (.con (.int 1)))) (.con .non) (.con (.int 2))) (.tup [.var 4, .var 5]))) [.never] []]⟩
/-- look_things -/
def F24_0 : List Sm := [.iff (.or (.not (.val (.call 20 [.var 2] [.inl 0]))) (.or (.cmp .eq (.var 2) (.con (.str "ground"))) (.cmp .isin (.var 2) (.sl false (.var 0) (.con .non) (.var 1))))) [.never] []]
def F24 : Fn := ⟨3, 1, false, [.fr (.tup [.name 1, .name 2]) (.enum none (.var 0)) F24_0,
  .iff (.not (.chain .le .le (.con (.int 1)) (.bi .len [.var 0]) (.con (.int 8)))) [.never] []]⟩
/-- look_web -/
def F25_0 : List Sm := [.exp (.call 23 [.var 2, .var 3, .var 1] [.inl 0, .inl 1, .inl 2])]
def F25 : Fn := ⟨4, 1, false, [.iff (.not (.val (.call 22 [.var 0] [.inl 0]))) [.never] [],
  .asg (.tup [.name 2, .name 3]) (.var 0),
  .exp (.call 24 [.var 2] [.inl 0]),
  .fr (.name 1) (.rng (.con (.int 0)) (.bi .len [.var 3])) F25_0,
  .ret (.con (.bl true))]⟩
/-- web_by -/
def F26 : Fn := ⟨4, 2, false, [.ret (.tup [.bi .ntup [.var 0], .bi .tuple [.lc false [2, 3] (.tup [.name 2, .name 3]) (.seq (.bi (.sorted false) [.var 1])) (.yes) (.tup [.var 2, .var 3, .ix (.var 1) (.tup [.var 2, .var 3])])]])]⟩
/-- web_of -/
def F27_0 : List Sm := [.setix (.var 2) (.tup [.var 3, .var 4]) (.bi .min2 [.var 5, .mt .get2 (.var 2) [.tup [.var 3, .var 4], .var 5]])]
def F27 : Fn := ⟨6, 2, true, [.asg (.name 2) (.dnew true),
  .fr (.tup [.name 3, .name 4, .name 5]) (.seq (.var 1)) F27_0,
  .ret (.call 26 [.var 0, .var 2] [.inl 0, .inl 1])]⟩
end Dx
/-! FnP: defs that several laws share -/
namespace Dx
open PySem
/-- places_of -/
def F31 : Fn := ⟨5, 2, true, [.asg (.name 2) (.dc false [3, 4] (.tup [.name 3, .name 4]) (.zip (.ix (.var 0) (.con (.int 0))) (.var 1)) (.yes) (.var 3) (.var 4)),
  .setix (.var 2) (.con (.str "ground")) (.con (.int 0)),
  .ret (.fz (.var 2))]⟩
/-- unheld -/
def F32_0 : List Sm := [.iff (.cmp .gt (.bin false .sub (.ix (.var 2) (.var 5)) (.ix (.var 2) (.var 4))) (.var 6)) [.ret (.var 3)] []]
def F32 : Fn := ⟨7, 2, false, [.asg (.name 2) (.call 31 [.var 0, .var 1] [.inl 0, .inl 1]),
  .fr (.tup [.name 3, .tup [.name 4, .name 5, .name 6]]) (.enum none (.ix (.var 0) (.con (.int 1)))) F32_0,
  .ret (.con .non)]⟩
/-- put -/
def F33 : Fn := ⟨3, 3, false, [.iff (.and (.cmp .isnot (.var 1) (.con .non)) (.cmp .lt (.var 0) (.var 1))) [.ret (.var 1)] [],
  .iff (.and (.cmp .isnot (.var 2) (.con .non)) (.cmp .gt (.var 0) (.var 2))) [.ret (.var 2)] [],
  .ret (.var 0)]⟩
/-- look_stand -/
def F34 : Fn := ⟨4, 2, false, [.iff (.or (.not (.val (.bi (.isinst .tuple) [.var 1]))) (.or (.cmp .ne (.bi .len [.var 1]) (.bi .len [.ix (.var 0) (.con (.int 0))])) (.not (.val (.bi .all [.lc false [3] (.name 3) (.seq (.var 1)) (.yes) (.call 19 [.var 3] [.inl 0])]))))) [.never] [],
  .asg (.name 2) (.call 32 [.var 0, .var 1] [.inl 0, .inl 1]),
  .iff (.cmp .isnot (.var 2) (.con .non)) [.never] []]⟩
/-- look_name -/
def F35 : Fn := ⟨2, 2, false, [.iff (.cmp .notin (.var 1) (.ix (.var 0) (.con (.int 0)))) [.never] []]⟩
/-- held -/
def F36 : Fn := ⟨4, 3, false, [.asg (.name 3) (.mt .get2 (.var 0) [.tup [.var 1, .con (.str "ground")], .con .non]),
  .ret (.call 33 [.var 2, .cond (.cmp .is (.var 3) (.con .non)) (.con .non) (.neg (.var 3)), .mt .get2 (.var 0) [.tup [.con (.str "ground"), .var 1], .con .non]] [.inl 0, .inl 1, .inl 2])]⟩
/-- off -/
def F37 : Fn := ⟨2, 2, false, [.ret (.cond (.cmp .is (.var 1) (.con .non)) (.con .non) (.bin false .add (.var 0) (.var 1)))]⟩
/-- between -/
def F38_0 : List Sm := [.asg (.tup [.name 6, .name 7]) (.tup [.mt .get2 (.var 1) [.tup [.var 2, .var 5], .con .non], .mt .get2 (.var 1) [.tup [.var 5, .var 2], .con .non]]), .exp (.mt .append (.var 4) [.tup [.cond (.cmp .is (.var 7) (.con .non)) (.con .non) (.bin false .sub (.var 3) (.var 7)), .call 37 [.var 3, .var 6] [.inl 0, .inl 1]]])]
def F38 : Fn := ⟨8, 4, true, [.asg (.name 4) (.lst true []),
  .fr (.name 5) (.seq (.ix (.var 0) (.con (.int 0)))) F38_0,
  .ret (.fz (.var 4))]⟩
/-- stretches -/
def F39 : Fn := ⟨4, 3, false, [.asg (.name 3) (.call 2 [.var 0] [.inl 0]),
  .ret (.call 38 [.var 0, .var 3, .var 1, .call 36 [.var 3, .var 1, .var 2] [.inl 0, .inl 1, .inl 2]] [.inl 0, .inl 1, .inl 2, .inl 3])]⟩
/-- pulled -/
def F42 : Fn := ⟨4, 4, false, [.exp (.call 35 [.var 0, .var 2] [.inl 0, .inl 1]),
  .exp (.call 34 [.var 0, .var 1] [.inl 0, .inl 1]),
  .ret (.call 41 [.var 0, .var 1, .var 2, .var 3] [.inl 0, .inl 1, .inl 2, .inl 3])]⟩
/-- led -/
def F41 : Fn := ⟨4, 4, false, [.ret (.call 40 [.var 1, .call 39 [.var 0, .var 2, .var 3] [.inl 0, .inl 1, .inl 2]] [.inl 0, .inl 1])]⟩
/-- moved -/
def F40 : Fn := ⟨5, 2, false, [.ret (.bi .tuple [.lc false [2, 3, 4] (.tup [.name 2, .tup [.name 3, .name 4]]) (.zip (.var 0) (.var 1)) (.yes) (.call 33 [.var 2, .var 3, .var 4] [.inl 0, .inl 1, .inl 2])])]⟩
/-- _law_put -/
def F43 : Fn := ⟨3, 3, false, [.iff (.and (.cmp .isnot (.var 1) (.con .non)) (.cmp .lt (.var 0) (.var 1))) [.ret (.var 1)] [],
  .iff (.and (.cmp .isnot (.var 2) (.con .non)) (.cmp .gt (.var 0) (.var 2))) [.ret (.var 2)] [],
  .ret (.var 0)]⟩
/-- _law_less -/
def F44 : Fn := ⟨2, 2, false, [.ret (.cond (.cmp .is (.var 1) (.con .non)) (.con .non) (.bin false .sub (.var 0) (.var 1)))]⟩
/-- _law_by_lengths -/
def F45_0 : List Sm := [.asg (.name 7) (.mt .get2 (.var 1) [.tup [.var 2, .var 6], .con .non]), .exp (.mt .append (.var 5) [.tup [.call 44 [.var 4, .mt .get2 (.var 1) [.tup [.var 6, .var 2], .con .non]] [.inl 0, .inl 1], .cond (.cmp .is (.var 7) (.con .non)) (.con .non) (.bin false .add (.var 4) (.var 7))]])]
def F45 : Fn := ⟨8, 4, true, [.asg (.name 4) (.call 43 [.var 3, .call 44 [.con (.int 0), .mt .get2 (.var 1) [.tup [.var 2, .con (.str "ground")], .con .non]] [.inl 0, .inl 1], .mt .get2 (.var 1) [.tup [.con (.str "ground"), .var 2], .con .non]] [.inl 0, .inl 1, .inl 2]),
  .asg (.name 5) (.lst true []),
  .fr (.name 6) (.seq (.ix (.var 0) (.con (.int 0)))) F45_0,
  .ret (.tup [.var 4, .var 5])]⟩
/-- _law_between -/
def F46 : Fn := ⟨3, 3, false, [.ret (.call 45 [.var 0, .call 13 [.var 0] [.inl 0], .var 1, .var 2] [.inl 0, .inl 1, .inl 2, .inl 3])]⟩
/-- _law_led -/
def F47 : Fn := ⟨8, 4, false, [.asg (.name 4) (.ix (.call 46 [.var 0, .var 2, .var 3] [.inl 0, .inl 1, .inl 2]) (.con (.int 1))),
  .ret (.bi .tuple [.lc false [5, 6, 7] (.tup [.name 5, .tup [.name 6, .name 7]]) (.zip (.var 1) (.var 4)) (.yes) (.call 43 [.var 5, .var 6, .var 7] [.inl 0, .inl 1, .inl 2])])]⟩
/-- _law_place -/
def F48 : Fn := ⟨9, 4, false, [.asg (.name 4) (.bin false .add (.lc false [6, 7, 8] (.tup [.name 6, .name 7, .name 8]) (.seq (.ix (.var 1) (.con (.int 1)))) (.yes) (.bi .abs [.var 8])) (.lst false [.con (.int 1), .con (.int 10)])),
  .asg (.name 5) (.lst false [.call 8 [.var 0, .con (.int 7)] [.inl 0, .inl 1], .call 8 [.var 0, .con (.int 60)] [.inl 0, .inl 1], .ix (.var 4) (.call 8 [.var 0, .bi .len [.var 4]] [.inl 0, .inl 1]), .call 8 [.var 0, .bin false .pow (.con (.int 10)) (.con (.int 9))] [.inl 0, .inl 1]]),
  .ret (.bin false .add (.var 3) (.bin false .mul (.ix (.lst false [.con (.int 1), .bin false .sub (.con (.int 0)) (.con (.int 1))]) (.call 8 [.var 0, .con (.int 2)] [.inl 0, .inl 1])) (.ix (.var 5) (.ix (.lst false [.con (.int 0), .con (.int 1), .con (.int 1), .con (.int 2), .con (.int 2), .con (.int 3)]) (.call 8 [.var 0, .con (.int 6)] [.inl 0, .inl 1])))))]⟩
end Dx
/-! FnH: defs that several laws share -/
namespace Dx
open PySem
/-- ring_back -/
def F50_0 : List Sm := [.asg (.name 2) (.ix (.var 1) (.var 2))]
def F50_1 : List Sm := [.exp (.mt .append (.var 4) [.ix (.var 1) (.ix (.var 4) (.neg (.con (.int 1))))])]
def F50 : Fn := ⟨5, 2, true, [.asg (.name 2) (.var 0),
  .fr (.name 3) (.rng (.con (.int 0)) (.bi .len [.var 1])) F50_0,
  .asg (.name 4) (.lst true [.var 2]),
  .whl (.cmp .ne (.ix (.var 1) (.ix (.var 4) (.neg (.con (.int 1))))) (.var 2)) F50_1,
  .ret (.bi .tuple [.rev false (.var 4)])]⟩
/-- heights_or_ring -/
def F51_0 : List Sm := [.iff (.cmp .lt (.bin false .add (.ix (.var 3) (.var 6)) (.ix (.var 1) (.tup [.var 6, .var 7]))) (.ix (.var 3) (.var 7))) [.asgm [.ix (.var 3) (.var 7), .ix (.var 4) (.var 7), .name 5] (.tup [.bin false .add (.ix (.var 3) (.var 6)) (.ix (.var 1) (.tup [.var 6, .var 7])), .var 6, .var 7])] []]
def F51_1 : List Sm := [.asg (.name 5) (.con .non), .fr (.tup [.name 6, .name 7]) (.seq (.var 1)) F51_0, .iff (.cmp .is (.var 5) (.con .non)) [.ret (.tup [.con (.str "heights"), .var 3])] []]
def F51 : Fn := ⟨9, 2, true, [.asg (.tup [.name 3, .name 4]) (.tup [.dc false [8] (.name 8) (.seq (.var 0)) (.yes) (.var 8) (.con (.int 0)), .dc false [8] (.name 8) (.seq (.var 0)) (.yes) (.var 8) (.var 8)]),
  .fr (.name 2) (.rng (.con (.int 0)) (.bin false .add (.bi .len [.var 0]) (.con (.int 1)))) F51_1,
  .ret (.tup [.con (.str "ring"), .call 50 [.var 5, .var 4] [.inl 0, .inl 1]])]⟩
/-- ring_sum -/
def F52 : Fn := ⟨5, 2, false, [.asg (.name 2) (.call 0 [.var 0] [.inl 0]),
  .ret (.bi .sum [.lc false [3, 4] (.tup [.name 3, .name 4]) (.zip (.var 1) (.bin false .add (.sl false (.var 1) (.con (.int 1)) (.con .non)) (.sl false (.var 1) (.con .non) (.con (.int 1))))) (.yes) (.ix (.var 2) (.tup [.var 3, .var 4]))])]⟩
/-- let_by -/
def F53 : Fn := ⟨4, 1, false, [.asg (.tup [.name 1, .name 2]) (.call 51 [.call 1 [.var 0] [.inl 0], .call 0 [.var 0] [.inl 0]] [.inl 0, .inl 1]),
  .iff (.cmp .eq (.var 1) (.con (.str "ring"))) [.ret (.tup [.var 1, .var 2])] [],
  .ret (.tup [.con (.str "stand"), .bi .tuple [.lc false [3] (.name 3) (.seq (.ix (.var 0) (.con (.int 0)))) (.yes) (.bin false .sub (.ix (.var 2) (.var 3)) (.ix (.var 2) (.con (.str "ground"))))]])]⟩
end Dx
/-! FnW: defs that several laws share -/
namespace Dx
open PySem
/-- need_same_things -/
def F62_0 : List Sm := [.iff (.cmp .ne (.sl false (.var 3) (.var 2) (.bin false .add (.var 2) (.con (.int 1)))) (.sl false (.var 4) (.var 2) (.bin false .add (.var 2) (.con (.int 1))))) [.never] []]
def F62 : Fn := ⟨5, 2, false, [.asg (.tup [.name 3, .name 4]) (.tup [.ix (.var 0) (.con (.int 0)), .ix (.var 1) (.con (.int 0))]),
  .fr (.name 2) (.rng (.con (.int 0)) (.bi .max2 [.bi .len [.var 3], .bi .len [.var 4]])) F62_0]⟩
/-- stand_beyond -/
def F63 : Fn := ⟨4, 4, false, [.ret (.ix (.call 53 [.call 27 [.ix (.var 0) (.con (.int 0)), .bin false .add (.bi (.list false) [.ix (.var 0) (.con (.int 1))]) (.lst false [.tup [.var 2, .var 1, .bin false .sub (.neg (.var 3)) (.con (.int 1))]])] [.inl 0, .inl 1]] [.inl 0]) (.con (.int 1)))]⟩
/-- same_stands -/
def F64_0 : List Sm := [.iff (.or (.cmp .notin (.tup [.var 6, .var 7]) (.var 4)) (.cmp .gt (.ix (.var 4) (.tup [.var 6, .var 7])) (.ix (.var 5) (.tup [.var 6, .var 7])))) [.ret (.tup [.con (.str "unlike"), .call 63 [.var 3, .var 6, .var 7, .ix (.var 5) (.tup [.var 6, .var 7])] [.inl 0, .inl 1, .inl 2, .inl 3]])] []]
def F64_1 : List Sm := [.fr (.tup [.name 6, .name 7]) (.seq (.var 5)) F64_0]
def F64 : Fn := ⟨8, 2, false, [.exp (.call 62 [.var 0, .var 1] [.inl 0, .inl 1]),
  .asg (.name 2) (.lst false [.call 2 [.var 0] [.inl 0], .call 2 [.var 1] [.inl 0]]),
  .fr (.tup [.name 3, .name 4, .name 5]) (.zip3 (.lst false [.var 0, .var 1]) (.var 2) (.rev false (.var 2))) F64_1,
  .ret (.tup [.con (.str "alike")])]⟩
/-- is_needless -/
def F65 : Fn := ⟨6, 2, false, [.asg (.tup [.name 3, .name 4, .name 5]) (.ix (.ix (.var 0) (.con (.int 1))) (.var 1)),
  .asg (.name 2) (.call 2 [.tup [.ix (.var 0) (.con (.int 0)), .bin false .add (.sl false (.ix (.var 0) (.con (.int 1))) (.con .non) (.var 1)) (.sl false (.ix (.var 0) (.con (.int 1))) (.bin false .add (.var 1) (.con (.int 1))) (.con .non))]] [.inl 0]),
  .ret (.and (.cmp .isin (.tup [.var 3, .var 4]) (.var 2)) (.cmp .le (.ix (.var 2) (.tup [.var 3, .var 4])) (.var 5)))]⟩
/-- needless_ties -/
def F66 : Fn := ⟨2, 1, false, [.ret (.bi .tuple [.lc false [1] (.name 1) (.rng (.con (.int 0)) (.bi .len [.ix (.var 0) (.con (.int 1))])) (.val (.call 65 [.var 0, .var 1] [.inl 0, .inl 1])) (.var 1)])]⟩
/-- _law_box -/
def F67 : Fn := ⟨4, 2, false, [.asg (.name 2) (.bin false .add (.bin false .mul (.con (.int 6353)) (.var 1)) (.con (.int 19))),
  .iff (.cmp .lt (.var 1) (.bi .len [.var 0])) [.asg (.name 2) (.bi .max2 [.ix (.var 0) (.var 1), .bin false .sub (.con (.int 0)) (.ix (.var 0) (.var 1))])] [.iff (.cmp .gt (.bi .len [.var 0]) (.con (.int 0))) [.asg (.name 2) (.bin false .add (.var 2) (.bin false .mul (.bin false .mod (.ix (.var 0) (.bin false .mod (.var 1) (.bi .len [.var 0]))) (.con (.int 2147483629))) (.con (.int 69623))))] []],
  .asg (.name 3) (.bin false .add (.bin false .mod (.bin false .add (.bin false .mul (.bin false .mod (.var 2) (.con (.int 2147483629))) (.con (.int 48271))) (.bin false .mul (.con (.int 40692)) (.var 1))) (.con (.int 2147483629))) (.con (.int 1))),
  .ret (.lst true [.ix (.lst false [.con (.int 0), .var 2]) (.bi .int [.cmp .ge (.var 2) (.bin false .pow (.con (.int 10)) (.con (.int 18)))]), .var 3, .con (.int 0)])]⟩
end Dx
namespace Dx
open PySem
/-- _law_due -/
def F68_0 : List Sm := [.asg (.name 3) (.call 13 [.tup [.ix (.var 0) (.con (.int 0)), .bin false .add (.sl false (.ix (.var 0) (.con (.int 1))) (.con .non) (.var 2)) (.sl false (.ix (.var 0) (.con (.int 1))) (.bin false .add (.var 2) (.con (.int 1))) (.con .non))]] [.inl 0]), .iff (.and (.cmp .isin (.tup [.var 4, .var 5]) (.var 3)) (.cmp .le (.ix (.var 3) (.tup [.var 4, .var 5])) (.var 6))) [.exp (.mt .append (.var 1) [.var 2])] []]
def F68 : Fn := ⟨7, 1, true, [.asg (.name 1) (.lst true []),
  .fr (.tup [.name 2, .tup [.name 4, .name 5, .name 6]]) (.enum none (.ix (.var 0) (.con (.int 1)))) F68_0,
  .ret (.bi .tuple [.var 1])]⟩
/-- law -/
def F69_0 : List Sm := [.asg (.name 11) (.call 66 [.var 4] [.inl 0]), .iff (.or (.not (.val (.bi (.isinst .tuple) [.var 11]))) (.cmp .ne (.bi .repr [.var 11]) (.bi .repr [.call 68 [.var 4] [.inl 0]]))) [.ret (.con (.bl false))] [], .iff (.cmp .ne (.var 11) (.tup [])) [.asg (.name 13) (.ix (.var 11) (.call 8 [.var 2, .bi .len [.var 11]] [.inl 0, .inl 1])), .iff (.cmp .ne (.call 64 [.var 4, .tup [.ix (.var 4) (.con (.int 0)), .bin false .add (.sl false (.ix (.var 4) (.con (.int 1))) (.con .non) (.var 13)) (.sl false (.ix (.var 4) (.con (.int 1))) (.bin false .add (.var 13) (.con (.int 1))) (.con .non))]] [.inl 0, .inl 1]) (.tup [.con (.str "alike")])) [.ret (.con (.bl false))] []] []]
def F69_1 : List Sm := [.asg (.name 2) (.call 67 [.var 0, .var 1] [.inl 0, .inl 1]), .asg (.tup [.name 5, .name 6]) (.call 12 [.var 2, .con (.int 8)] [.inl 0, .inl 1]), .asg (.tup [.name 7, .name 8]) (.tup [.call 13 [.var 5] [.inl 0], .bi (.dict true) [.lc false [14, 1, 15] (.tup [.name 14, .name 1, .name 15]) (.seq (.ix (.var 5) (.con (.int 1)))) (.yes) (.tup [.tup [.var 14, .var 1], .var 15])]]), .asg (.name 3) (.lc false [12] (.name 12) (.seq (.bi (.sorted false) [.bi (.list false) [.var 7]])) (.and (.cmp .ne (.ix (.var 12) (.con (.int 0))) (.ix (.var 12) (.con (.int 1)))) (.cmp .notin (.var 12) (.var 8))) (.var 12)), .asg (.name 3) (.lc false [12] (.name 12) (.seq (.var 3)) (.cmp .lt (.bi .abs [.ix (.var 7) (.var 12)]) (.bin false .sub (.bin false .pow (.con (.int 10)) (.con (.int 9))) (.con (.int 9)))) (.var 12)), .asg (.tup [.name 9, .name 10]) (.tup [.var 5, .con .non]), .iff (.cmp .ne (.var 3) (.lst false [])) [.asg (.name 10) (.ix (.var 3) (.call 8 [.var 2, .bi .len [.var 3]] [.inl 0, .inl 1])), .setix (.var 8) (.var 10) (.bin false .add (.ix (.var 7) (.var 10)) (.ix (.lst false [.con (.int 0), .call 8 [.var 2, .con (.int 9)] [.inl 0, .inl 1]]) (.call 8 [.var 2, .con (.int 2)] [.inl 0, .inl 1]))), .asg (.name 9) (.call 11 [.ix (.var 5) (.con (.int 0)), .var 8] [.inl 0, .inl 1])] [], .fr (.name 4) (.seq (.tup [.var 5, .var 9, .var 5])) F69_0, .iff (.and (.cmp .isnot (.var 10) (.con .non)) (.cmp .notin (.var 10) (.lc false [13] (.name 13) (.seq (.call 66 [.var 9] [.inl 0])) (.yes) (.sl false (.ix (.ix (.var 9) (.con (.int 1))) (.var 13)) (.con .non) (.con (.int 2)))))) [.ret (.con (.bl false))] []]
def F69 : Fn := ⟨16, 1, true, [.fr (.name 1) (.rng (.con (.int 0)) (.bi .max2 [.con (.int 1), .bi .min2 [.con (.int 4), .bi .len [.var 0]]])) F69_1,
  .ret (.con (.bl true))]⟩
end Dx
namespace Qk54
open PySem PySem.Spec PyProof.Rows L2 Dx
def top (i : Nat) : Stmt := PySem.Challenge.pw_slackweb_k54_needless_ties.main.body.getD i (.Pass ⟨0, 0, 0, 0⟩)
def d50 : DI := ⟨"ring_back", top 4, ["last", "before"], ["last", "before", "here", "turn", "found"]⟩
def d51 : DI := ⟨"heights_or_ring", top 5, ["names", "numbers"], ["names", "numbers", "turn", "heights", "before", "last", "j", "k", "name"]⟩
def d26 : DI := ⟨"web_by", top 8, ["things", "numbers"], ["things", "numbers", "j", "k"]⟩
def d27 : DI := ⟨"web_of", top 9, ["things", "ties"], ["things", "ties", "numbers", "j", "k", "number"]⟩
def d0 : DI := ⟨"numbers_of", top 10, ["web"], ["web", "j", "k", "number"]⟩
def d1 : DI := ⟨"names_of", top 11, ["web"], ["web"]⟩
def d53 : DI := ⟨"let_by", top 12, ["web"], ["web", "word", "told", "name"]⟩
def d2 : DI := ⟨"table", top 14, ["web"], ["web", "names", "found", "middle", "first", "name", "last", "whole"]⟩
def d62 : DI := ⟨"need_same_things", top 16, ["one", "other"], ["one", "other", "k", "mine", "its"]⟩
def d63 : DI := ⟨"stand_beyond", top 17, ["web", "j", "k", "number"], ["web", "j", "k", "number"]⟩
def d64 : DI := ⟨"same_stands", top 18, ["one", "other"], ["one", "other", "tables", "web", "mine", "its", "j", "k"]⟩
def d65 : DI := ⟨"is_needless", top 19, ["web", "at"], ["web", "at", "fars", "j", "k", "number"]⟩
def d66 : DI := ⟨"needless_ties", top 20, ["web"], ["web", "at"]⟩
def d67 : DI := ⟨"_law_box", top 22, ["_law_script", "_law_k"], ["_law_script", "_law_k", "_law_cell", "_law_seed"]⟩
def d8 : DI := ⟨"_law_take", top 23, ["_law_box_here", "_law_many"], ["_law_box_here", "_law_many", "_law_one", "_law_digit"]⟩
def d9 : DI := ⟨"_law_names", top 24, ["_law_box_here", "_law_many"], ["_law_box_here", "_law_many", "_law_stem", "_law_some", "_law_head", "_law_letters", "_law_form", "_law_at", "_law_first", "_law_side", "_law_found", "_law_other", "_law_k"]⟩
def d10 : DI := ⟨"_law_ties", top 25, ["_law_box_here", "_law_names_here", "_law_places", "_law_wide"], ["_law_box_here", "_law_names_here", "_law_places", "_law_wide", "_law_found", "_law_turn", "_law_at", "_law_slack", "_law_j", "_law_k"]⟩
def d11 : DI := ⟨"_law_web_by", top 26, ["_law_names_here", "_law_ties_here"], ["_law_names_here", "_law_ties_here", "_law_j", "_law_k"]⟩
def d12 : DI := ⟨"_law_web", top 27, ["_law_box_here", "_law_most"], ["_law_box_here", "_law_most", "_law_stand", "_law_places", "_law_names_here", "_law_wide", "_law_name"]⟩
def d13 : DI := ⟨"_law_table", top 28, ["_law_web_here"], ["_law_web_here", "_law_names_here", "_law_found", "_law_name", "_law_middle", "_law_j", "_law_k", "_law_number", "_law_whole"]⟩
def d68 : DI := ⟨"_law_due", top 29, ["_law_web_here"], ["_law_web_here", "_law_found", "_law_at", "_law_sums", "_law_j", "_law_k", "_law_number"]⟩
def d69 : DI := ⟨"law", top 30, ["_law_script"], ["_law_script", "_law_k", "_law_box_here", "_law_pairs", "_law_one", "_law_web_here", "_law_stand", "_law_sums", "_law_ties_here", "_law_wide", "_law_more", "_law_found", "_law_pair", "_law_at", "_law_j", "_law_number"]⟩
def T : Tb := [(50, F50), (51, F51), (26, F26), (27, F27), (0, F0), (1, F1), (53, F53), (2, F2), (62, F62), (63, F63), (64, F64), (65, F65), (66, F66), (67, F67), (8, F8), (9, F9), (10, F10), (11, F11), (12, F12), (13, F13), (68, F68), (69, F69)]
instance : HasFn T 50 F50 := ⟨rfl⟩
instance : HasFn T 51 F51 := ⟨rfl⟩
instance : HasFn T 26 F26 := ⟨rfl⟩
instance : HasFn T 27 F27 := ⟨rfl⟩
instance : HasFn T 0 F0 := ⟨rfl⟩
instance : HasFn T 1 F1 := ⟨rfl⟩
instance : HasFn T 53 F53 := ⟨rfl⟩
instance : HasFn T 2 F2 := ⟨rfl⟩
instance : HasFn T 62 F62 := ⟨rfl⟩
instance : HasFn T 63 F63 := ⟨rfl⟩
instance : HasFn T 64 F64 := ⟨rfl⟩
instance : HasFn T 65 F65 := ⟨rfl⟩
instance : HasFn T 66 F66 := ⟨rfl⟩
instance : HasFn T 67 F67 := ⟨rfl⟩
instance : HasFn T 8 F8 := ⟨rfl⟩
instance : HasFn T 9 F9 := ⟨rfl⟩
instance : HasFn T 10 F10 := ⟨rfl⟩
instance : HasFn T 11 F11 := ⟨rfl⟩
instance : HasFn T 12 F12 := ⟨rfl⟩
instance : HasFn T 13 F13 := ⟨rfl⟩
instance : HasFn T 68 F68 := ⟨rfl⟩
instance : HasFn T 69 F69 := ⟨rfl⟩
def defs : List (Nat × DI) := [(50, d50), (51, d51), (26, d26), (27, d27), (0, d0), (1, d1), (53, d53), (2, d2), (62, d62), (63, d63), (64, d64), (65, d65), (66, d66), (67, d67), (8, d8), (9, d9), (10, d10), (11, d11), (12, d12), (13, d13), (68, d68), (69, d69)]
def blts : List Str := ["range", "len", "tuple", "sorted", "min", "max", "list", "zip", "int", "dict", "enumerate", "abs", "isinstance", "repr"]
def glb : List (Str × D) := [("GROUND", (.str "ground"))]
def s0 : Dx.Shape := ⟨"ring_back", 2, [], 50, [.inl 0, .inl 1]⟩
def s1 : Dx.Shape := ⟨"web_by", 2, [], 26, [.inl 0, .inl 1]⟩
def s2 : Dx.Shape := ⟨"heights_or_ring", 2, [], 51, [.inl 0, .inl 1]⟩
def s3 : Dx.Shape := ⟨"names_of", 1, [], 1, [.inl 0]⟩
def s4 : Dx.Shape := ⟨"numbers_of", 1, [], 0, [.inl 0]⟩
def s5 : Dx.Shape := ⟨"let_by", 1, [], 53, [.inl 0]⟩
def s6 : Dx.Shape := ⟨"web_of", 2, [], 27, [.inl 0, .inl 1]⟩
def s7 : Dx.Shape := ⟨"need_same_things", 2, [], 62, [.inl 0, .inl 1]⟩
def s8 : Dx.Shape := ⟨"table", 1, [], 2, [.inl 0]⟩
def s9 : Dx.Shape := ⟨"stand_beyond", 4, [], 63, [.inl 0, .inl 1, .inl 2, .inl 3]⟩
def s10 : Dx.Shape := ⟨"is_needless", 2, [], 65, [.inl 0, .inl 1]⟩
def s11 : Dx.Shape := ⟨"_law_take", 2, [], 8, [.inl 0, .inl 1]⟩
def s12 : Dx.Shape := ⟨"_law_names", 2, [], 9, [.inl 0, .inl 1]⟩
def s13 : Dx.Shape := ⟨"_law_web_by", 2, [], 11, [.inl 0, .inl 1]⟩
def s14 : Dx.Shape := ⟨"_law_ties", 4, [], 10, [.inl 0, .inl 1, .inl 2, .inl 3]⟩
def s15 : Dx.Shape := ⟨"_law_table", 1, [], 13, [.inl 0]⟩
def s16 : Dx.Shape := ⟨"_law_box", 2, [], 67, [.inl 0, .inl 1]⟩
def s17 : Dx.Shape := ⟨"_law_web", 2, [], 12, [.inl 0, .inl 1]⟩
def s18 : Dx.Shape := ⟨"needless_ties", 1, [], 66, [.inl 0]⟩
def s19 : Dx.Shape := ⟨"_law_due", 1, [], 68, [.inl 0]⟩
def s20 : Dx.Shape := ⟨"same_stands", 2, [], 64, [.inl 0, .inl 1]⟩
def shs : List Dx.Shape := [s0, s1, s2, s3, s4, s5, s6, s7, s8, s9, s10, s11, s12, s13, s14, s15, s16, s17, s18, s19, s20]
theorem c50 : chkD 60 60 blts glb shs d50 F50 = true := by decide +kernel
theorem c51 : chkD 60 60 blts glb shs d51 F51 = true := by decide +kernel
theorem c26 : chkD 60 60 blts glb shs d26 F26 = true := by decide +kernel
theorem c27 : chkD 60 60 blts glb shs d27 F27 = true := by decide +kernel
theorem c0 : chkD 60 60 blts glb shs d0 F0 = true := by decide +kernel
theorem c1 : chkD 60 60 blts glb shs d1 F1 = true := by decide +kernel
theorem c53 : chkD 60 60 blts glb shs d53 F53 = true := by decide +kernel
theorem c2 : chkD 60 60 blts glb shs d2 F2 = true := by decide +kernel
theorem c62 : chkD 60 60 blts glb shs d62 F62 = true := by decide +kernel
theorem c63 : chkD 60 60 blts glb shs d63 F63 = true := by decide +kernel
theorem c64 : chkD 60 60 blts glb shs d64 F64 = true := by decide +kernel
theorem c65 : chkD 60 60 blts glb shs d65 F65 = true := by decide +kernel
theorem c66 : chkD 60 60 blts glb shs d66 F66 = true := by decide +kernel
theorem c67 : chkD 60 60 blts glb shs d67 F67 = true := by decide +kernel
theorem c8 : chkD 60 60 blts glb shs d8 F8 = true := by decide +kernel
theorem c9 : chkD 60 60 blts glb shs d9 F9 = true := by decide +kernel
theorem c10 : chkD 60 60 blts glb shs d10 F10 = true := by decide +kernel
theorem c11 : chkD 60 60 blts glb shs d11 F11 = true := by decide +kernel
theorem c12 : chkD 60 60 blts glb shs d12 F12 = true := by decide +kernel
theorem c13 : chkD 60 60 blts glb shs d13 F13 = true := by decide +kernel
theorem c68 : chkD 60 60 blts glb shs d68 F68 = true := by decide +kernel
theorem c69 : chkD 60 60 blts glb shs d69 F69 = true := by decide +kernel
theorem look (p : Nat × DI) (hp : p ∈ defs) (F : Fn) (h : T.lookup p.1 = some F) : chkD 60 60 blts glb shs p.2 F = true := by
  simp only [defs, List.mem_cons, List.not_mem_nil, or_false] at hp
  rcases hp with rfl | rfl | rfl | rfl | rfl | rfl | rfl | rfl | rfl | rfl | rfl | rfl | rfl | rfl | rfl | rfl | rfl | rfl | rfl | rfl | rfl | rfl
  · cases h; exact c50
  · cases h; exact c51
  · cases h; exact c26
  · cases h; exact c27
  · cases h; exact c0
  · cases h; exact c1
  · cases h; exact c53
  · cases h; exact c2
  · cases h; exact c62
  · cases h; exact c63
  · cases h; exact c64
  · cases h; exact c65
  · cases h; exact c66
  · cases h; exact c67
  · cases h; exact c8
  · cases h; exact c9
  · cases h; exact c10
  · cases h; exact c11
  · cases h; exact c12
  · cases h; exact c13
  · cases h; exact c68
  · cases h; exact c69
section
variable {K : PySem.W.Frag} {mg : Str → Option Value}
theorem b0 {fa : Addr} {fd : FuncData} (D : DefF K mg d50 fa fd) {oc kV doc pm cdv ct : Value} {od an : Option Addr} {osl : Array (Option Value)}
    (l : K.lookup fa = some ⟨oc, od, .func (PySem.W.fnOf d50.name d50.name (defArgs d50.st) (defBody d50.st) (defScope d50.st) .none kV doc pm an cdv ct), osl⟩) : ShB K mg defs s0 := by
  obtain ⟨oc1, od1, dV1, kV1, doc1, pm1, an1, cdv1, ct1, osl1, e1, l1, c1⟩ := id D.ex
  rw [l] at l1
  cases l1
  refine ⟨d50, fa, _, rfl, D, rfl, rfl, fun s us ws X h1 h2 => ?_⟩
  match us, ws, h1, h2 with
  | [u0, u1], [], _, _ =>
    refine ⟨[u0, u1], ⟨rfl, fun j z hz => ?_⟩, BindsTo.of_looks fun M => KwChain.looks X (D := 0) (l := []) (fun q hq => ?_) ?_⟩
    · match j, hz with
      | 0, hz => exact hz
      | 1, hz => exact hz
      | _ + 2, hz => cases hz
    · cases hq
    · exact rfl
theorem b1 {fa : Addr} {fd : FuncData} (D : DefF K mg d26 fa fd) {oc kV doc pm cdv ct : Value} {od an : Option Addr} {osl : Array (Option Value)}
    (l : K.lookup fa = some ⟨oc, od, .func (PySem.W.fnOf d26.name d26.name (defArgs d26.st) (defBody d26.st) (defScope d26.st) .none kV doc pm an cdv ct), osl⟩) : ShB K mg defs s1 := by
  obtain ⟨oc1, od1, dV1, kV1, doc1, pm1, an1, cdv1, ct1, osl1, e1, l1, c1⟩ := id D.ex
  rw [l] at l1
  cases l1
  refine ⟨d26, fa, _, rfl, D, rfl, rfl, fun s us ws X h1 h2 => ?_⟩
  match us, ws, h1, h2 with
  | [u0, u1], [], _, _ =>
    refine ⟨[u0, u1], ⟨rfl, fun j z hz => ?_⟩, BindsTo.of_looks fun M => KwChain.looks X (D := 0) (l := []) (fun q hq => ?_) ?_⟩
    · match j, hz with
      | 0, hz => exact hz
      | 1, hz => exact hz
      | _ + 2, hz => cases hz
    · cases hq
    · exact rfl
theorem b2 {fa : Addr} {fd : FuncData} (D : DefF K mg d51 fa fd) {oc kV doc pm cdv ct : Value} {od an : Option Addr} {osl : Array (Option Value)}
    (l : K.lookup fa = some ⟨oc, od, .func (PySem.W.fnOf d51.name d51.name (defArgs d51.st) (defBody d51.st) (defScope d51.st) .none kV doc pm an cdv ct), osl⟩) : ShB K mg defs s2 := by
  obtain ⟨oc1, od1, dV1, kV1, doc1, pm1, an1, cdv1, ct1, osl1, e1, l1, c1⟩ := id D.ex
  rw [l] at l1
  cases l1
  refine ⟨d51, fa, _, rfl, D, rfl, rfl, fun s us ws X h1 h2 => ?_⟩
  match us, ws, h1, h2 with
  | [u0, u1], [], _, _ =>
    refine ⟨[u0, u1], ⟨rfl, fun j z hz => ?_⟩, BindsTo.of_looks fun M => KwChain.looks X (D := 0) (l := []) (fun q hq => ?_) ?_⟩
    · match j, hz with
      | 0, hz => exact hz
      | 1, hz => exact hz
      | _ + 2, hz => cases hz
    · cases hq
    · exact rfl
theorem b3 {fa : Addr} {fd : FuncData} (D : DefF K mg d1 fa fd) {oc kV doc pm cdv ct : Value} {od an : Option Addr} {osl : Array (Option Value)}
    (l : K.lookup fa = some ⟨oc, od, .func (PySem.W.fnOf d1.name d1.name (defArgs d1.st) (defBody d1.st) (defScope d1.st) .none kV doc pm an cdv ct), osl⟩) : ShB K mg defs s3 := by
  obtain ⟨oc1, od1, dV1, kV1, doc1, pm1, an1, cdv1, ct1, osl1, e1, l1, c1⟩ := id D.ex
  rw [l] at l1
  cases l1
  refine ⟨d1, fa, _, rfl, D, rfl, rfl, fun s us ws X h1 h2 => ?_⟩
  match us, ws, h1, h2 with
  | [u0], [], _, _ =>
    refine ⟨[u0], ⟨rfl, fun j z hz => ?_⟩, BindsTo.of_looks fun M => KwChain.looks X (D := 0) (l := []) (fun q hq => ?_) ?_⟩
    · match j, hz with
      | 0, hz => exact hz
      | _ + 1, hz => cases hz
    · cases hq
    · exact rfl
theorem b4 {fa : Addr} {fd : FuncData} (D : DefF K mg d0 fa fd) {oc kV doc pm cdv ct : Value} {od an : Option Addr} {osl : Array (Option Value)}
    (l : K.lookup fa = some ⟨oc, od, .func (PySem.W.fnOf d0.name d0.name (defArgs d0.st) (defBody d0.st) (defScope d0.st) .none kV doc pm an cdv ct), osl⟩) : ShB K mg defs s4 := by
  obtain ⟨oc1, od1, dV1, kV1, doc1, pm1, an1, cdv1, ct1, osl1, e1, l1, c1⟩ := id D.ex
  rw [l] at l1
  cases l1
  refine ⟨d0, fa, _, rfl, D, rfl, rfl, fun s us ws X h1 h2 => ?_⟩
  match us, ws, h1, h2 with
  | [u0], [], _, _ =>
    refine ⟨[u0], ⟨rfl, fun j z hz => ?_⟩, BindsTo.of_looks fun M => KwChain.looks X (D := 0) (l := []) (fun q hq => ?_) ?_⟩
    · match j, hz with
      | 0, hz => exact hz
      | _ + 1, hz => cases hz
    · cases hq
    · exact rfl
theorem b5 {fa : Addr} {fd : FuncData} (D : DefF K mg d53 fa fd) {oc kV doc pm cdv ct : Value} {od an : Option Addr} {osl : Array (Option Value)}
    (l : K.lookup fa = some ⟨oc, od, .func (PySem.W.fnOf d53.name d53.name (defArgs d53.st) (defBody d53.st) (defScope d53.st) .none kV doc pm an cdv ct), osl⟩) : ShB K mg defs s5 := by
  obtain ⟨oc1, od1, dV1, kV1, doc1, pm1, an1, cdv1, ct1, osl1, e1, l1, c1⟩ := id D.ex
  rw [l] at l1
  cases l1
  refine ⟨d53, fa, _, rfl, D, rfl, rfl, fun s us ws X h1 h2 => ?_⟩
  match us, ws, h1, h2 with
  | [u0], [], _, _ =>
    refine ⟨[u0], ⟨rfl, fun j z hz => ?_⟩, BindsTo.of_looks fun M => KwChain.looks X (D := 0) (l := []) (fun q hq => ?_) ?_⟩
    · match j, hz with
      | 0, hz => exact hz
      | _ + 1, hz => cases hz
    · cases hq
    · exact rfl
theorem b6 {fa : Addr} {fd : FuncData} (D : DefF K mg d27 fa fd) {oc kV doc pm cdv ct : Value} {od an : Option Addr} {osl : Array (Option Value)}
    (l : K.lookup fa = some ⟨oc, od, .func (PySem.W.fnOf d27.name d27.name (defArgs d27.st) (defBody d27.st) (defScope d27.st) .none kV doc pm an cdv ct), osl⟩) : ShB K mg defs s6 := by
  obtain ⟨oc1, od1, dV1, kV1, doc1, pm1, an1, cdv1, ct1, osl1, e1, l1, c1⟩ := id D.ex
  rw [l] at l1
  cases l1
  refine ⟨d27, fa, _, rfl, D, rfl, rfl, fun s us ws X h1 h2 => ?_⟩
  match us, ws, h1, h2 with
  | [u0, u1], [], _, _ =>
    refine ⟨[u0, u1], ⟨rfl, fun j z hz => ?_⟩, BindsTo.of_looks fun M => KwChain.looks X (D := 0) (l := []) (fun q hq => ?_) ?_⟩
    · match j, hz with
      | 0, hz => exact hz
      | 1, hz => exact hz
      | _ + 2, hz => cases hz
    · cases hq
    · exact rfl
theorem b7 {fa : Addr} {fd : FuncData} (D : DefF K mg d62 fa fd) {oc kV doc pm cdv ct : Value} {od an : Option Addr} {osl : Array (Option Value)}
    (l : K.lookup fa = some ⟨oc, od, .func (PySem.W.fnOf d62.name d62.name (defArgs d62.st) (defBody d62.st) (defScope d62.st) .none kV doc pm an cdv ct), osl⟩) : ShB K mg defs s7 := by
  obtain ⟨oc1, od1, dV1, kV1, doc1, pm1, an1, cdv1, ct1, osl1, e1, l1, c1⟩ := id D.ex
  rw [l] at l1
  cases l1
  refine ⟨d62, fa, _, rfl, D, rfl, rfl, fun s us ws X h1 h2 => ?_⟩
  match us, ws, h1, h2 with
  | [u0, u1], [], _, _ =>
    refine ⟨[u0, u1], ⟨rfl, fun j z hz => ?_⟩, BindsTo.of_looks fun M => KwChain.looks X (D := 0) (l := []) (fun q hq => ?_) ?_⟩
    · match j, hz with
      | 0, hz => exact hz
      | 1, hz => exact hz
      | _ + 2, hz => cases hz
    · cases hq
    · exact rfl
theorem b8 {fa : Addr} {fd : FuncData} (D : DefF K mg d2 fa fd) {oc kV doc pm cdv ct : Value} {od an : Option Addr} {osl : Array (Option Value)}
    (l : K.lookup fa = some ⟨oc, od, .func (PySem.W.fnOf d2.name d2.name (defArgs d2.st) (defBody d2.st) (defScope d2.st) .none kV doc pm an cdv ct), osl⟩) : ShB K mg defs s8 := by
  obtain ⟨oc1, od1, dV1, kV1, doc1, pm1, an1, cdv1, ct1, osl1, e1, l1, c1⟩ := id D.ex
  rw [l] at l1
  cases l1
  refine ⟨d2, fa, _, rfl, D, rfl, rfl, fun s us ws X h1 h2 => ?_⟩
  match us, ws, h1, h2 with
  | [u0], [], _, _ =>
    refine ⟨[u0], ⟨rfl, fun j z hz => ?_⟩, BindsTo.of_looks fun M => KwChain.looks X (D := 0) (l := []) (fun q hq => ?_) ?_⟩
    · match j, hz with
      | 0, hz => exact hz
      | _ + 1, hz => cases hz
    · cases hq
    · exact rfl
theorem b9 {fa : Addr} {fd : FuncData} (D : DefF K mg d63 fa fd) {oc kV doc pm cdv ct : Value} {od an : Option Addr} {osl : Array (Option Value)}
    (l : K.lookup fa = some ⟨oc, od, .func (PySem.W.fnOf d63.name d63.name (defArgs d63.st) (defBody d63.st) (defScope d63.st) .none kV doc pm an cdv ct), osl⟩) : ShB K mg defs s9 := by
  obtain ⟨oc1, od1, dV1, kV1, doc1, pm1, an1, cdv1, ct1, osl1, e1, l1, c1⟩ := id D.ex
  rw [l] at l1
  cases l1
  refine ⟨d63, fa, _, rfl, D, rfl, rfl, fun s us ws X h1 h2 => ?_⟩
  match us, ws, h1, h2 with
  | [u0, u1, u2, u3], [], _, _ =>
    refine ⟨[u0, u1, u2, u3], ⟨rfl, fun j z hz => ?_⟩, BindsTo.of_looks fun M => KwChain.looks X (D := 0) (l := []) (fun q hq => ?_) ?_⟩
    · match j, hz with
      | 0, hz => exact hz
      | 1, hz => exact hz
      | 2, hz => exact hz
      | 3, hz => exact hz
      | _ + 4, hz => cases hz
    · cases hq
    · exact rfl
theorem b10 {fa : Addr} {fd : FuncData} (D : DefF K mg d65 fa fd) {oc kV doc pm cdv ct : Value} {od an : Option Addr} {osl : Array (Option Value)}
    (l : K.lookup fa = some ⟨oc, od, .func (PySem.W.fnOf d65.name d65.name (defArgs d65.st) (defBody d65.st) (defScope d65.st) .none kV doc pm an cdv ct), osl⟩) : ShB K mg defs s10 := by
  obtain ⟨oc1, od1, dV1, kV1, doc1, pm1, an1, cdv1, ct1, osl1, e1, l1, c1⟩ := id D.ex
  rw [l] at l1
  cases l1
  refine ⟨d65, fa, _, rfl, D, rfl, rfl, fun s us ws X h1 h2 => ?_⟩
  match us, ws, h1, h2 with
  | [u0, u1], [], _, _ =>
    refine ⟨[u0, u1], ⟨rfl, fun j z hz => ?_⟩, BindsTo.of_looks fun M => KwChain.looks X (D := 0) (l := []) (fun q hq => ?_) ?_⟩
    · match j, hz with
      | 0, hz => exact hz
      | 1, hz => exact hz
      | _ + 2, hz => cases hz
    · cases hq
    · exact rfl
theorem b11 {fa : Addr} {fd : FuncData} (D : DefF K mg d8 fa fd) {oc kV doc pm cdv ct : Value} {od an : Option Addr} {osl : Array (Option Value)}
    (l : K.lookup fa = some ⟨oc, od, .func (PySem.W.fnOf d8.name d8.name (defArgs d8.st) (defBody d8.st) (defScope d8.st) .none kV doc pm an cdv ct), osl⟩) : ShB K mg defs s11 := by
  obtain ⟨oc1, od1, dV1, kV1, doc1, pm1, an1, cdv1, ct1, osl1, e1, l1, c1⟩ := id D.ex
  rw [l] at l1
  cases l1
  refine ⟨d8, fa, _, rfl, D, rfl, rfl, fun s us ws X h1 h2 => ?_⟩
  match us, ws, h1, h2 with
  | [u0, u1], [], _, _ =>
    refine ⟨[u0, u1], ⟨rfl, fun j z hz => ?_⟩, BindsTo.of_looks fun M => KwChain.looks X (D := 0) (l := []) (fun q hq => ?_) ?_⟩
    · match j, hz with
      | 0, hz => exact hz
      | 1, hz => exact hz
      | _ + 2, hz => cases hz
    · cases hq
    · exact rfl
theorem b12 {fa : Addr} {fd : FuncData} (D : DefF K mg d9 fa fd) {oc kV doc pm cdv ct : Value} {od an : Option Addr} {osl : Array (Option Value)}
    (l : K.lookup fa = some ⟨oc, od, .func (PySem.W.fnOf d9.name d9.name (defArgs d9.st) (defBody d9.st) (defScope d9.st) .none kV doc pm an cdv ct), osl⟩) : ShB K mg defs s12 := by
  obtain ⟨oc1, od1, dV1, kV1, doc1, pm1, an1, cdv1, ct1, osl1, e1, l1, c1⟩ := id D.ex
  rw [l] at l1
  cases l1
  refine ⟨d9, fa, _, rfl, D, rfl, rfl, fun s us ws X h1 h2 => ?_⟩
  match us, ws, h1, h2 with
  | [u0, u1], [], _, _ =>
    refine ⟨[u0, u1], ⟨rfl, fun j z hz => ?_⟩, BindsTo.of_looks fun M => KwChain.looks X (D := 0) (l := []) (fun q hq => ?_) ?_⟩
    · match j, hz with
      | 0, hz => exact hz
      | 1, hz => exact hz
      | _ + 2, hz => cases hz
    · cases hq
    · exact rfl
theorem b13 {fa : Addr} {fd : FuncData} (D : DefF K mg d11 fa fd) {oc kV doc pm cdv ct : Value} {od an : Option Addr} {osl : Array (Option Value)}
    (l : K.lookup fa = some ⟨oc, od, .func (PySem.W.fnOf d11.name d11.name (defArgs d11.st) (defBody d11.st) (defScope d11.st) .none kV doc pm an cdv ct), osl⟩) : ShB K mg defs s13 := by
  obtain ⟨oc1, od1, dV1, kV1, doc1, pm1, an1, cdv1, ct1, osl1, e1, l1, c1⟩ := id D.ex
  rw [l] at l1
  cases l1
  refine ⟨d11, fa, _, rfl, D, rfl, rfl, fun s us ws X h1 h2 => ?_⟩
  match us, ws, h1, h2 with
  | [u0, u1], [], _, _ =>
    refine ⟨[u0, u1], ⟨rfl, fun j z hz => ?_⟩, BindsTo.of_looks fun M => KwChain.looks X (D := 0) (l := []) (fun q hq => ?_) ?_⟩
    · match j, hz with
      | 0, hz => exact hz
      | 1, hz => exact hz
      | _ + 2, hz => cases hz
    · cases hq
    · exact rfl
theorem b14 {fa : Addr} {fd : FuncData} (D : DefF K mg d10 fa fd) {oc kV doc pm cdv ct : Value} {od an : Option Addr} {osl : Array (Option Value)}
    (l : K.lookup fa = some ⟨oc, od, .func (PySem.W.fnOf d10.name d10.name (defArgs d10.st) (defBody d10.st) (defScope d10.st) .none kV doc pm an cdv ct), osl⟩) : ShB K mg defs s14 := by
  obtain ⟨oc1, od1, dV1, kV1, doc1, pm1, an1, cdv1, ct1, osl1, e1, l1, c1⟩ := id D.ex
  rw [l] at l1
  cases l1
  refine ⟨d10, fa, _, rfl, D, rfl, rfl, fun s us ws X h1 h2 => ?_⟩
  match us, ws, h1, h2 with
  | [u0, u1, u2, u3], [], _, _ =>
    refine ⟨[u0, u1, u2, u3], ⟨rfl, fun j z hz => ?_⟩, BindsTo.of_looks fun M => KwChain.looks X (D := 0) (l := []) (fun q hq => ?_) ?_⟩
    · match j, hz with
      | 0, hz => exact hz
      | 1, hz => exact hz
      | 2, hz => exact hz
      | 3, hz => exact hz
      | _ + 4, hz => cases hz
    · cases hq
    · exact rfl
theorem b15 {fa : Addr} {fd : FuncData} (D : DefF K mg d13 fa fd) {oc kV doc pm cdv ct : Value} {od an : Option Addr} {osl : Array (Option Value)}
    (l : K.lookup fa = some ⟨oc, od, .func (PySem.W.fnOf d13.name d13.name (defArgs d13.st) (defBody d13.st) (defScope d13.st) .none kV doc pm an cdv ct), osl⟩) : ShB K mg defs s15 := by
  obtain ⟨oc1, od1, dV1, kV1, doc1, pm1, an1, cdv1, ct1, osl1, e1, l1, c1⟩ := id D.ex
  rw [l] at l1
  cases l1
  refine ⟨d13, fa, _, rfl, D, rfl, rfl, fun s us ws X h1 h2 => ?_⟩
  match us, ws, h1, h2 with
  | [u0], [], _, _ =>
    refine ⟨[u0], ⟨rfl, fun j z hz => ?_⟩, BindsTo.of_looks fun M => KwChain.looks X (D := 0) (l := []) (fun q hq => ?_) ?_⟩
    · match j, hz with
      | 0, hz => exact hz
      | _ + 1, hz => cases hz
    · cases hq
    · exact rfl
theorem b16 {fa : Addr} {fd : FuncData} (D : DefF K mg d67 fa fd) {oc kV doc pm cdv ct : Value} {od an : Option Addr} {osl : Array (Option Value)}
    (l : K.lookup fa = some ⟨oc, od, .func (PySem.W.fnOf d67.name d67.name (defArgs d67.st) (defBody d67.st) (defScope d67.st) .none kV doc pm an cdv ct), osl⟩) : ShB K mg defs s16 := by
  obtain ⟨oc1, od1, dV1, kV1, doc1, pm1, an1, cdv1, ct1, osl1, e1, l1, c1⟩ := id D.ex
  rw [l] at l1
  cases l1
  refine ⟨d67, fa, _, rfl, D, rfl, rfl, fun s us ws X h1 h2 => ?_⟩
  match us, ws, h1, h2 with
  | [u0, u1], [], _, _ =>
    refine ⟨[u0, u1], ⟨rfl, fun j z hz => ?_⟩, BindsTo.of_looks fun M => KwChain.looks X (D := 0) (l := []) (fun q hq => ?_) ?_⟩
    · match j, hz with
      | 0, hz => exact hz
      | 1, hz => exact hz
      | _ + 2, hz => cases hz
    · cases hq
    · exact rfl
theorem b17 {fa : Addr} {fd : FuncData} (D : DefF K mg d12 fa fd) {oc kV doc pm cdv ct : Value} {od an : Option Addr} {osl : Array (Option Value)}
    (l : K.lookup fa = some ⟨oc, od, .func (PySem.W.fnOf d12.name d12.name (defArgs d12.st) (defBody d12.st) (defScope d12.st) .none kV doc pm an cdv ct), osl⟩) : ShB K mg defs s17 := by
  obtain ⟨oc1, od1, dV1, kV1, doc1, pm1, an1, cdv1, ct1, osl1, e1, l1, c1⟩ := id D.ex
  rw [l] at l1
  cases l1
  refine ⟨d12, fa, _, rfl, D, rfl, rfl, fun s us ws X h1 h2 => ?_⟩
  match us, ws, h1, h2 with
  | [u0, u1], [], _, _ =>
    refine ⟨[u0, u1], ⟨rfl, fun j z hz => ?_⟩, BindsTo.of_looks fun M => KwChain.looks X (D := 0) (l := []) (fun q hq => ?_) ?_⟩
    · match j, hz with
      | 0, hz => exact hz
      | 1, hz => exact hz
      | _ + 2, hz => cases hz
    · cases hq
    · exact rfl
theorem b18 {fa : Addr} {fd : FuncData} (D : DefF K mg d66 fa fd) {oc kV doc pm cdv ct : Value} {od an : Option Addr} {osl : Array (Option Value)}
    (l : K.lookup fa = some ⟨oc, od, .func (PySem.W.fnOf d66.name d66.name (defArgs d66.st) (defBody d66.st) (defScope d66.st) .none kV doc pm an cdv ct), osl⟩) : ShB K mg defs s18 := by
  obtain ⟨oc1, od1, dV1, kV1, doc1, pm1, an1, cdv1, ct1, osl1, e1, l1, c1⟩ := id D.ex
  rw [l] at l1
  cases l1
  refine ⟨d66, fa, _, rfl, D, rfl, rfl, fun s us ws X h1 h2 => ?_⟩
  match us, ws, h1, h2 with
  | [u0], [], _, _ =>
    refine ⟨[u0], ⟨rfl, fun j z hz => ?_⟩, BindsTo.of_looks fun M => KwChain.looks X (D := 0) (l := []) (fun q hq => ?_) ?_⟩
    · match j, hz with
      | 0, hz => exact hz
      | _ + 1, hz => cases hz
    · cases hq
    · exact rfl
theorem b19 {fa : Addr} {fd : FuncData} (D : DefF K mg d68 fa fd) {oc kV doc pm cdv ct : Value} {od an : Option Addr} {osl : Array (Option Value)}
    (l : K.lookup fa = some ⟨oc, od, .func (PySem.W.fnOf d68.name d68.name (defArgs d68.st) (defBody d68.st) (defScope d68.st) .none kV doc pm an cdv ct), osl⟩) : ShB K mg defs s19 := by
  obtain ⟨oc1, od1, dV1, kV1, doc1, pm1, an1, cdv1, ct1, osl1, e1, l1, c1⟩ := id D.ex
  rw [l] at l1
  cases l1
  refine ⟨d68, fa, _, rfl, D, rfl, rfl, fun s us ws X h1 h2 => ?_⟩
  match us, ws, h1, h2 with
  | [u0], [], _, _ =>
    refine ⟨[u0], ⟨rfl, fun j z hz => ?_⟩, BindsTo.of_looks fun M => KwChain.looks X (D := 0) (l := []) (fun q hq => ?_) ?_⟩
    · match j, hz with
      | 0, hz => exact hz
      | _ + 1, hz => cases hz
    · cases hq
    · exact rfl
theorem b20 {fa : Addr} {fd : FuncData} (D : DefF K mg d64 fa fd) {oc kV doc pm cdv ct : Value} {od an : Option Addr} {osl : Array (Option Value)}
    (l : K.lookup fa = some ⟨oc, od, .func (PySem.W.fnOf d64.name d64.name (defArgs d64.st) (defBody d64.st) (defScope d64.st) .none kV doc pm an cdv ct), osl⟩) : ShB K mg defs s20 := by
  obtain ⟨oc1, od1, dV1, kV1, doc1, pm1, an1, cdv1, ct1, osl1, e1, l1, c1⟩ := id D.ex
  rw [l] at l1
  cases l1
  refine ⟨d64, fa, _, rfl, D, rfl, rfl, fun s us ws X h1 h2 => ?_⟩
  match us, ws, h1, h2 with
  | [u0, u1], [], _, _ =>
    refine ⟨[u0, u1], ⟨rfl, fun j z hz => ?_⟩, BindsTo.of_looks fun M => KwChain.looks X (D := 0) (l := []) (fun q hq => ?_) ?_⟩
    · match j, hz with
      | 0, hz => exact hz
      | 1, hz => exact hz
      | _ + 2, hz => cases hz
    · cases hq
    · exact rfl
end
theorem mk {P : Program} {w : World} {K : PySem.W.Frag} {h : Heap} {mg : Str → Option Value} {fa : Addr} (k : Nat) (X : K.In h) (G : h.Ns mainGlobals mg) (hfa : mg "law" = some (.ref fa))
    {a50 : Addr} {oc50 kV50 dc50 pm50 cd50 ct50 : Value} {od50 an50 : Option Addr} {sl50 : Array (Option Value)}
    (n50 : PySem.W.nsIn K mainGlobals "ring_back" = some (some (.ref a50))) (l50 : K.lookup a50 = some ⟨oc50, od50, .func (PySem.W.fnOf "ring_back" "ring_back" (defArgs (top 4)) (defBody (top 4)) (defScope (top 4)) .none kV50 dc50 pm50 an50 cd50 ct50), sl50⟩) (c50 : PySem.W.codeIn K cd50 "ring_back" = true) (k50 : PySem.W.keepIn K (.ref a50) = true)
    {a51 : Addr} {oc51 kV51 dc51 pm51 cd51 ct51 : Value} {od51 an51 : Option Addr} {sl51 : Array (Option Value)}
    (n51 : PySem.W.nsIn K mainGlobals "heights_or_ring" = some (some (.ref a51))) (l51 : K.lookup a51 = some ⟨oc51, od51, .func (PySem.W.fnOf "heights_or_ring" "heights_or_ring" (defArgs (top 5)) (defBody (top 5)) (defScope (top 5)) .none kV51 dc51 pm51 an51 cd51 ct51), sl51⟩) (c51 : PySem.W.codeIn K cd51 "heights_or_ring" = true) (k51 : PySem.W.keepIn K (.ref a51) = true)
    {a26 : Addr} {oc26 kV26 dc26 pm26 cd26 ct26 : Value} {od26 an26 : Option Addr} {sl26 : Array (Option Value)}
    (n26 : PySem.W.nsIn K mainGlobals "web_by" = some (some (.ref a26))) (l26 : K.lookup a26 = some ⟨oc26, od26, .func (PySem.W.fnOf "web_by" "web_by" (defArgs (top 8)) (defBody (top 8)) (defScope (top 8)) .none kV26 dc26 pm26 an26 cd26 ct26), sl26⟩) (c26 : PySem.W.codeIn K cd26 "web_by" = true) (k26 : PySem.W.keepIn K (.ref a26) = true)
    {a27 : Addr} {oc27 kV27 dc27 pm27 cd27 ct27 : Value} {od27 an27 : Option Addr} {sl27 : Array (Option Value)}
    (n27 : PySem.W.nsIn K mainGlobals "web_of" = some (some (.ref a27))) (l27 : K.lookup a27 = some ⟨oc27, od27, .func (PySem.W.fnOf "web_of" "web_of" (defArgs (top 9)) (defBody (top 9)) (defScope (top 9)) .none kV27 dc27 pm27 an27 cd27 ct27), sl27⟩) (c27 : PySem.W.codeIn K cd27 "web_of" = true) (k27 : PySem.W.keepIn K (.ref a27) = true)
    {a0 : Addr} {oc0 kV0 dc0 pm0 cd0 ct0 : Value} {od0 an0 : Option Addr} {sl0 : Array (Option Value)}
    (n0 : PySem.W.nsIn K mainGlobals "numbers_of" = some (some (.ref a0))) (l0 : K.lookup a0 = some ⟨oc0, od0, .func (PySem.W.fnOf "numbers_of" "numbers_of" (defArgs (top 10)) (defBody (top 10)) (defScope (top 10)) .none kV0 dc0 pm0 an0 cd0 ct0), sl0⟩) (c0 : PySem.W.codeIn K cd0 "numbers_of" = true) (k0 : PySem.W.keepIn K (.ref a0) = true)
    {a1 : Addr} {oc1 kV1 dc1 pm1 cd1 ct1 : Value} {od1 an1 : Option Addr} {sl1 : Array (Option Value)}
    (n1 : PySem.W.nsIn K mainGlobals "names_of" = some (some (.ref a1))) (l1 : K.lookup a1 = some ⟨oc1, od1, .func (PySem.W.fnOf "names_of" "names_of" (defArgs (top 11)) (defBody (top 11)) (defScope (top 11)) .none kV1 dc1 pm1 an1 cd1 ct1), sl1⟩) (c1 : PySem.W.codeIn K cd1 "names_of" = true) (k1 : PySem.W.keepIn K (.ref a1) = true)
    {a53 : Addr} {oc53 kV53 dc53 pm53 cd53 ct53 : Value} {od53 an53 : Option Addr} {sl53 : Array (Option Value)}
    (n53 : PySem.W.nsIn K mainGlobals "let_by" = some (some (.ref a53))) (l53 : K.lookup a53 = some ⟨oc53, od53, .func (PySem.W.fnOf "let_by" "let_by" (defArgs (top 12)) (defBody (top 12)) (defScope (top 12)) .none kV53 dc53 pm53 an53 cd53 ct53), sl53⟩) (c53 : PySem.W.codeIn K cd53 "let_by" = true) (k53 : PySem.W.keepIn K (.ref a53) = true)
    {a2 : Addr} {oc2 kV2 dc2 pm2 cd2 ct2 : Value} {od2 an2 : Option Addr} {sl2 : Array (Option Value)}
    (n2 : PySem.W.nsIn K mainGlobals "table" = some (some (.ref a2))) (l2 : K.lookup a2 = some ⟨oc2, od2, .func (PySem.W.fnOf "table" "table" (defArgs (top 14)) (defBody (top 14)) (defScope (top 14)) .none kV2 dc2 pm2 an2 cd2 ct2), sl2⟩) (c2 : PySem.W.codeIn K cd2 "table" = true) (k2 : PySem.W.keepIn K (.ref a2) = true)
    {a62 : Addr} {oc62 kV62 dc62 pm62 cd62 ct62 : Value} {od62 an62 : Option Addr} {sl62 : Array (Option Value)}
    (n62 : PySem.W.nsIn K mainGlobals "need_same_things" = some (some (.ref a62))) (l62 : K.lookup a62 = some ⟨oc62, od62, .func (PySem.W.fnOf "need_same_things" "need_same_things" (defArgs (top 16)) (defBody (top 16)) (defScope (top 16)) .none kV62 dc62 pm62 an62 cd62 ct62), sl62⟩) (c62 : PySem.W.codeIn K cd62 "need_same_things" = true) (k62 : PySem.W.keepIn K (.ref a62) = true)
    {a63 : Addr} {oc63 kV63 dc63 pm63 cd63 ct63 : Value} {od63 an63 : Option Addr} {sl63 : Array (Option Value)}
    (n63 : PySem.W.nsIn K mainGlobals "stand_beyond" = some (some (.ref a63))) (l63 : K.lookup a63 = some ⟨oc63, od63, .func (PySem.W.fnOf "stand_beyond" "stand_beyond" (defArgs (top 17)) (defBody (top 17)) (defScope (top 17)) .none kV63 dc63 pm63 an63 cd63 ct63), sl63⟩) (c63 : PySem.W.codeIn K cd63 "stand_beyond" = true) (k63 : PySem.W.keepIn K (.ref a63) = true)
    {a64 : Addr} {oc64 kV64 dc64 pm64 cd64 ct64 : Value} {od64 an64 : Option Addr} {sl64 : Array (Option Value)}
    (n64 : PySem.W.nsIn K mainGlobals "same_stands" = some (some (.ref a64))) (l64 : K.lookup a64 = some ⟨oc64, od64, .func (PySem.W.fnOf "same_stands" "same_stands" (defArgs (top 18)) (defBody (top 18)) (defScope (top 18)) .none kV64 dc64 pm64 an64 cd64 ct64), sl64⟩) (c64 : PySem.W.codeIn K cd64 "same_stands" = true) (k64 : PySem.W.keepIn K (.ref a64) = true)
    {a65 : Addr} {oc65 kV65 dc65 pm65 cd65 ct65 : Value} {od65 an65 : Option Addr} {sl65 : Array (Option Value)}
    (n65 : PySem.W.nsIn K mainGlobals "is_needless" = some (some (.ref a65))) (l65 : K.lookup a65 = some ⟨oc65, od65, .func (PySem.W.fnOf "is_needless" "is_needless" (defArgs (top 19)) (defBody (top 19)) (defScope (top 19)) .none kV65 dc65 pm65 an65 cd65 ct65), sl65⟩) (c65 : PySem.W.codeIn K cd65 "is_needless" = true) (k65 : PySem.W.keepIn K (.ref a65) = true)
    {a66 : Addr} {oc66 kV66 dc66 pm66 cd66 ct66 : Value} {od66 an66 : Option Addr} {sl66 : Array (Option Value)}
    (n66 : PySem.W.nsIn K mainGlobals "needless_ties" = some (some (.ref a66))) (l66 : K.lookup a66 = some ⟨oc66, od66, .func (PySem.W.fnOf "needless_ties" "needless_ties" (defArgs (top 20)) (defBody (top 20)) (defScope (top 20)) .none kV66 dc66 pm66 an66 cd66 ct66), sl66⟩) (c66 : PySem.W.codeIn K cd66 "needless_ties" = true) (k66 : PySem.W.keepIn K (.ref a66) = true)
    {a67 : Addr} {oc67 kV67 dc67 pm67 cd67 ct67 : Value} {od67 an67 : Option Addr} {sl67 : Array (Option Value)}
    (n67 : PySem.W.nsIn K mainGlobals "_law_box" = some (some (.ref a67))) (l67 : K.lookup a67 = some ⟨oc67, od67, .func (PySem.W.fnOf "_law_box" "_law_box" (defArgs (top 22)) (defBody (top 22)) (defScope (top 22)) .none kV67 dc67 pm67 an67 cd67 ct67), sl67⟩) (c67 : PySem.W.codeIn K cd67 "_law_box" = true) (k67 : PySem.W.keepIn K (.ref a67) = true)
    {a8 : Addr} {oc8 kV8 dc8 pm8 cd8 ct8 : Value} {od8 an8 : Option Addr} {sl8 : Array (Option Value)}
    (n8 : PySem.W.nsIn K mainGlobals "_law_take" = some (some (.ref a8))) (l8 : K.lookup a8 = some ⟨oc8, od8, .func (PySem.W.fnOf "_law_take" "_law_take" (defArgs (top 23)) (defBody (top 23)) (defScope (top 23)) .none kV8 dc8 pm8 an8 cd8 ct8), sl8⟩) (c8 : PySem.W.codeIn K cd8 "_law_take" = true) (k8 : PySem.W.keepIn K (.ref a8) = true)
    {a9 : Addr} {oc9 kV9 dc9 pm9 cd9 ct9 : Value} {od9 an9 : Option Addr} {sl9 : Array (Option Value)}
    (n9 : PySem.W.nsIn K mainGlobals "_law_names" = some (some (.ref a9))) (l9 : K.lookup a9 = some ⟨oc9, od9, .func (PySem.W.fnOf "_law_names" "_law_names" (defArgs (top 24)) (defBody (top 24)) (defScope (top 24)) .none kV9 dc9 pm9 an9 cd9 ct9), sl9⟩) (c9 : PySem.W.codeIn K cd9 "_law_names" = true) (k9 : PySem.W.keepIn K (.ref a9) = true)
    {a10 : Addr} {oc10 kV10 dc10 pm10 cd10 ct10 : Value} {od10 an10 : Option Addr} {sl10 : Array (Option Value)}
    (n10 : PySem.W.nsIn K mainGlobals "_law_ties" = some (some (.ref a10))) (l10 : K.lookup a10 = some ⟨oc10, od10, .func (PySem.W.fnOf "_law_ties" "_law_ties" (defArgs (top 25)) (defBody (top 25)) (defScope (top 25)) .none kV10 dc10 pm10 an10 cd10 ct10), sl10⟩) (c10 : PySem.W.codeIn K cd10 "_law_ties" = true) (k10 : PySem.W.keepIn K (.ref a10) = true)
    {a11 : Addr} {oc11 kV11 dc11 pm11 cd11 ct11 : Value} {od11 an11 : Option Addr} {sl11 : Array (Option Value)}
    (n11 : PySem.W.nsIn K mainGlobals "_law_web_by" = some (some (.ref a11))) (l11 : K.lookup a11 = some ⟨oc11, od11, .func (PySem.W.fnOf "_law_web_by" "_law_web_by" (defArgs (top 26)) (defBody (top 26)) (defScope (top 26)) .none kV11 dc11 pm11 an11 cd11 ct11), sl11⟩) (c11 : PySem.W.codeIn K cd11 "_law_web_by" = true) (k11 : PySem.W.keepIn K (.ref a11) = true)
    {a12 : Addr} {oc12 kV12 dc12 pm12 cd12 ct12 : Value} {od12 an12 : Option Addr} {sl12 : Array (Option Value)}
    (n12 : PySem.W.nsIn K mainGlobals "_law_web" = some (some (.ref a12))) (l12 : K.lookup a12 = some ⟨oc12, od12, .func (PySem.W.fnOf "_law_web" "_law_web" (defArgs (top 27)) (defBody (top 27)) (defScope (top 27)) .none kV12 dc12 pm12 an12 cd12 ct12), sl12⟩) (c12 : PySem.W.codeIn K cd12 "_law_web" = true) (k12 : PySem.W.keepIn K (.ref a12) = true)
    {a13 : Addr} {oc13 kV13 dc13 pm13 cd13 ct13 : Value} {od13 an13 : Option Addr} {sl13 : Array (Option Value)}
    (n13 : PySem.W.nsIn K mainGlobals "_law_table" = some (some (.ref a13))) (l13 : K.lookup a13 = some ⟨oc13, od13, .func (PySem.W.fnOf "_law_table" "_law_table" (defArgs (top 28)) (defBody (top 28)) (defScope (top 28)) .none kV13 dc13 pm13 an13 cd13 ct13), sl13⟩) (c13 : PySem.W.codeIn K cd13 "_law_table" = true) (k13 : PySem.W.keepIn K (.ref a13) = true)
    {a68 : Addr} {oc68 kV68 dc68 pm68 cd68 ct68 : Value} {od68 an68 : Option Addr} {sl68 : Array (Option Value)}
    (n68 : PySem.W.nsIn K mainGlobals "_law_due" = some (some (.ref a68))) (l68 : K.lookup a68 = some ⟨oc68, od68, .func (PySem.W.fnOf "_law_due" "_law_due" (defArgs (top 29)) (defBody (top 29)) (defScope (top 29)) .none kV68 dc68 pm68 an68 cd68 ct68), sl68⟩) (c68 : PySem.W.codeIn K cd68 "_law_due" = true) (k68 : PySem.W.keepIn K (.ref a68) = true)
    {a69 : Addr} {oc69 kV69 dc69 pm69 cd69 ct69 : Value} {od69 an69 : Option Addr} {sl69 : Array (Option Value)}
    (n69 : PySem.W.nsIn K mainGlobals "law" = some (some (.ref a69))) (l69 : K.lookup a69 = some ⟨oc69, od69, .func (PySem.W.fnOf "law" "law" (defArgs (top 30)) (defBody (top 30)) (defScope (top 30)) .none kV69 dc69 pm69 an69 cd69 ct69), sl69⟩) (c69 : PySem.W.codeIn K cd69 "law" = true) (k69 : PySem.W.keepIn K (.ref a69) = true)
    (z0 : PySem.W.nsIn K mainGlobals "range" = some none)
    (z1 : PySem.W.nsIn K mainGlobals "len" = some none)
    (z2 : PySem.W.nsIn K mainGlobals "tuple" = some none)
    (z3 : PySem.W.nsIn K mainGlobals "sorted" = some none)
    (z4 : PySem.W.nsIn K mainGlobals "min" = some none)
    (z5 : PySem.W.nsIn K mainGlobals "max" = some none)
    (z6 : PySem.W.nsIn K mainGlobals "list" = some none)
    (z7 : PySem.W.nsIn K mainGlobals "zip" = some none)
    (z8 : PySem.W.nsIn K mainGlobals "int" = some none)
    (z9 : PySem.W.nsIn K mainGlobals "dict" = some none)
    (z10 : PySem.W.nsIn K mainGlobals "enumerate" = some none)
    (z11 : PySem.W.nsIn K mainGlobals "abs" = some none)
    (z12 : PySem.W.nsIn K mainGlobals "isinstance" = some none)
    (z13 : PySem.W.nsIn K mainGlobals "repr" = some none)
    {tg0 : Tok} (g0 : PySem.W.nsIn K mainGlobals "GROUND" = some (some (.str "ground" tg0)))
    : ∃ fd : FuncData, (∀ (s : Shared) (u : Value), BindsTo s fd ⟨[u], []⟩ [("_law_script", u)]) ∧ ∀ base : Heap, FnG P w K mg base CX0 k fa fd ["_law_script"] (spD ⟨K, fun _ => 0, fun _ => Str.empty⟩ 1 (callN T k 69)) := by
  have e := hfa.symm.trans (PySem.W.mg_of X G n69)
  cases e
  have D50F : DefF K mg d50 a50 _ := ⟨⟨oc50, od50, _, _, dc50, pm50, an50, cd50, ct50, sl50, rfl, l50, c50⟩, PySem.W.mg_of X G n50, k50⟩
  have D51F : DefF K mg d51 a51 _ := ⟨⟨oc51, od51, _, _, dc51, pm51, an51, cd51, ct51, sl51, rfl, l51, c51⟩, PySem.W.mg_of X G n51, k51⟩
  have D26F : DefF K mg d26 a26 _ := ⟨⟨oc26, od26, _, _, dc26, pm26, an26, cd26, ct26, sl26, rfl, l26, c26⟩, PySem.W.mg_of X G n26, k26⟩
  have D27F : DefF K mg d27 a27 _ := ⟨⟨oc27, od27, _, _, dc27, pm27, an27, cd27, ct27, sl27, rfl, l27, c27⟩, PySem.W.mg_of X G n27, k27⟩
  have D0F : DefF K mg d0 a0 _ := ⟨⟨oc0, od0, _, _, dc0, pm0, an0, cd0, ct0, sl0, rfl, l0, c0⟩, PySem.W.mg_of X G n0, k0⟩
  have D1F : DefF K mg d1 a1 _ := ⟨⟨oc1, od1, _, _, dc1, pm1, an1, cd1, ct1, sl1, rfl, l1, c1⟩, PySem.W.mg_of X G n1, k1⟩
  have D53F : DefF K mg d53 a53 _ := ⟨⟨oc53, od53, _, _, dc53, pm53, an53, cd53, ct53, sl53, rfl, l53, c53⟩, PySem.W.mg_of X G n53, k53⟩
  have D2F : DefF K mg d2 a2 _ := ⟨⟨oc2, od2, _, _, dc2, pm2, an2, cd2, ct2, sl2, rfl, l2, c2⟩, PySem.W.mg_of X G n2, k2⟩
  have D62F : DefF K mg d62 a62 _ := ⟨⟨oc62, od62, _, _, dc62, pm62, an62, cd62, ct62, sl62, rfl, l62, c62⟩, PySem.W.mg_of X G n62, k62⟩
  have D63F : DefF K mg d63 a63 _ := ⟨⟨oc63, od63, _, _, dc63, pm63, an63, cd63, ct63, sl63, rfl, l63, c63⟩, PySem.W.mg_of X G n63, k63⟩
  have D64F : DefF K mg d64 a64 _ := ⟨⟨oc64, od64, _, _, dc64, pm64, an64, cd64, ct64, sl64, rfl, l64, c64⟩, PySem.W.mg_of X G n64, k64⟩
  have D65F : DefF K mg d65 a65 _ := ⟨⟨oc65, od65, _, _, dc65, pm65, an65, cd65, ct65, sl65, rfl, l65, c65⟩, PySem.W.mg_of X G n65, k65⟩
  have D66F : DefF K mg d66 a66 _ := ⟨⟨oc66, od66, _, _, dc66, pm66, an66, cd66, ct66, sl66, rfl, l66, c66⟩, PySem.W.mg_of X G n66, k66⟩
  have D67F : DefF K mg d67 a67 _ := ⟨⟨oc67, od67, _, _, dc67, pm67, an67, cd67, ct67, sl67, rfl, l67, c67⟩, PySem.W.mg_of X G n67, k67⟩
  have D8F : DefF K mg d8 a8 _ := ⟨⟨oc8, od8, _, _, dc8, pm8, an8, cd8, ct8, sl8, rfl, l8, c8⟩, PySem.W.mg_of X G n8, k8⟩
  have D9F : DefF K mg d9 a9 _ := ⟨⟨oc9, od9, _, _, dc9, pm9, an9, cd9, ct9, sl9, rfl, l9, c9⟩, PySem.W.mg_of X G n9, k9⟩
  have D10F : DefF K mg d10 a10 _ := ⟨⟨oc10, od10, _, _, dc10, pm10, an10, cd10, ct10, sl10, rfl, l10, c10⟩, PySem.W.mg_of X G n10, k10⟩
  have D11F : DefF K mg d11 a11 _ := ⟨⟨oc11, od11, _, _, dc11, pm11, an11, cd11, ct11, sl11, rfl, l11, c11⟩, PySem.W.mg_of X G n11, k11⟩
  have D12F : DefF K mg d12 a12 _ := ⟨⟨oc12, od12, _, _, dc12, pm12, an12, cd12, ct12, sl12, rfl, l12, c12⟩, PySem.W.mg_of X G n12, k12⟩
  have D13F : DefF K mg d13 a13 _ := ⟨⟨oc13, od13, _, _, dc13, pm13, an13, cd13, ct13, sl13, rfl, l13, c13⟩, PySem.W.mg_of X G n13, k13⟩
  have D68F : DefF K mg d68 a68 _ := ⟨⟨oc68, od68, _, _, dc68, pm68, an68, cd68, ct68, sl68, rfl, l68, c68⟩, PySem.W.mg_of X G n68, k68⟩
  have D69F : DefF K mg d69 fa _ := ⟨⟨oc69, od69, _, _, dc69, pm69, an69, cd69, ct69, sl69, rfl, l69, c69⟩, PySem.W.mg_of X G n69, k69⟩
  have B0 : ShB K mg defs s0 := b0 D50F l50
  have B1 : ShB K mg defs s1 := b1 D26F l26
  have B2 : ShB K mg defs s2 := b2 D51F l51
  have B3 : ShB K mg defs s3 := b3 D1F l1
  have B4 : ShB K mg defs s4 := b4 D0F l0
  have B5 : ShB K mg defs s5 := b5 D53F l53
  have B6 : ShB K mg defs s6 := b6 D27F l27
  have B7 : ShB K mg defs s7 := b7 D62F l62
  have B8 : ShB K mg defs s8 := b8 D2F l2
  have B9 : ShB K mg defs s9 := b9 D63F l63
  have B10 : ShB K mg defs s10 := b10 D65F l65
  have B11 : ShB K mg defs s11 := b11 D8F l8
  have B12 : ShB K mg defs s12 := b12 D9F l9
  have B13 : ShB K mg defs s13 := b13 D11F l11
  have B14 : ShB K mg defs s14 := b14 D10F l10
  have B15 : ShB K mg defs s15 := b15 D13F l13
  have B16 : ShB K mg defs s16 := b16 D67F l67
  have B17 : ShB K mg defs s17 := b17 D12F l12
  have B18 : ShB K mg defs s18 := b18 D66F l66
  have B19 : ShB K mg defs s19 := b19 D68F l68
  have B20 : ShB K mg defs s20 := b20 D64F l64
  refine ⟨_, fun s u => .of_eq rfl, fun base => levels (L := ⟨K, fun _ => 0, fun _ => Str.empty⟩) (shs := shs) rfl look (fun x hx => ?_) (fun p hp => ?_) (fun sh hsh => ?_) k 69 d69 fa _ rfl D69F⟩
  · simp only [blts, List.mem_cons, List.not_mem_nil, or_false] at hx
    rcases hx with rfl | rfl | rfl | rfl | rfl | rfl | rfl | rfl | rfl | rfl | rfl | rfl | rfl | rfl
    · exact PySem.W.mg_none_of X G z0
    · exact PySem.W.mg_none_of X G z1
    · exact PySem.W.mg_none_of X G z2
    · exact PySem.W.mg_none_of X G z3
    · exact PySem.W.mg_none_of X G z4
    · exact PySem.W.mg_none_of X G z5
    · exact PySem.W.mg_none_of X G z6
    · exact PySem.W.mg_none_of X G z7
    · exact PySem.W.mg_none_of X G z8
    · exact PySem.W.mg_none_of X G z9
    · exact PySem.W.mg_none_of X G z10
    · exact PySem.W.mg_none_of X G z11
    · exact PySem.W.mg_none_of X G z12
    · exact PySem.W.mg_none_of X G z13
  · simp only [glb, List.mem_cons, List.not_mem_nil, or_false] at hp
    rcases hp with rfl
    · exact ⟨_, _, rfl, PySem.W.mg_of X G g0, ⟨_, rfl⟩⟩
  · simp only [shs, List.mem_cons, List.not_mem_nil, or_false] at hsh
    rcases hsh with rfl | rfl | rfl | rfl | rfl | rfl | rfl | rfl | rfl | rfl | rfl | rfl | rfl | rfl | rfl | rfl | rfl | rfl | rfl | rfl | rfl
    · exact B0
    · exact B1
    · exact B2
    · exact B3
    · exact B4
    · exact B5
    · exact B6
    · exact B7
    · exact B8
    · exact B9
    · exact B10
    · exact B11
    · exact B12
    · exact B13
    · exact B14
    · exact B15
    · exact B16
    · exact B17
    · exact B18
    · exact B19
    · exact B20
end Qk54
/-! Lb0: dicts by pairs of texts, and ways: the plain side -/
namespace Dx
open PySem
abbrev Pr := Str × Str
abbrev AL := List (Pr × Int)
def kyD (p : Pr) : D := .tup [.str p.1, .str p.2]
def enc (l : AL) : List (D × D) := l.map fun e => (kyD e.1, .int e.2)
def look : AL → Pr → Option Int
  | [], _ => none
  | e :: l, p => if e.1 = p then some e.2 else look l p
def repA (l : AL) (p : Pr) (i : Int) : AL := l.map fun e => if e.1 = p then (e.1, i) else e
def hasA (l : AL) (p : Pr) : Bool := l.any fun e => decide (e.1 = p)
def putA (l : AL) (p : Pr) (i : Int) : AL := if hasA l p then repA l p i else l ++ [(p, i)]
def putsA (l z : AL) : AL := z.foldl (fun l e => putA l e.1 e.2) l
theorem beq_str {a b : Str} : D.beq (.str a) (.str b) = decide (a = b) := by simp [D.beq]
theorem beq_ky {p q : Pr} : D.beq (kyD p) (kyD q) = decide (p = q) := by
  obtain ⟨a, b⟩ := p
  obtain ⟨c, d⟩ := q
  by_cases h1 : a = c <;> by_cases h2 : b = d <;> simp [kyD, D.beq, D.beqL, h1, h2]
@[simp] theorem keyOk_ky {p : Pr} : keyOk true (kyD p) = true := rfl
@[simp] theorem keyOk_t2 {a b : Str} : keyOk true (.tup [.str a, .str b]) = true := rfl
theorem find_enc : ∀ {l : AL} {p : Pr}, find (enc l) (kyD p) = (look l p).map .int
  | [], p => rfl
  | e :: l, p => by
    have ih := find_enc (l := l) (p := p)
    unfold find at ih ⊢
    simp only [enc, List.map_cons, List.find?_cons, beq_ky, look]
    by_cases h : e.1 = p
    · simp [h]
    · simp only [h, decide_false, if_false]
      exact ih
theorem any_enc {l : AL} {p : Pr} : ((enc l).any fun q => D.beq q.1 (kyD p)) = hasA l p := by
  simp only [enc, hasA, List.any_map]
  congr 1
  funext e
  simp [beq_ky]
theorem put_enc {l : AL} {p : Pr} {i : Int} : put (enc l) (kyD p) (.int i) = enc (putA l p i) := by
  unfold put putA
  rw [any_enc]
  by_cases h : hasA l p = true
  · simp only [h, if_true, enc, repA, List.map_map]
    apply List.map_congr_left
    intro e _
    simp only [Function.comp, beq_ky]
    by_cases g : e.1 = p <;> simp [g]
  · simp only [h, Bool.false_eq_true, if_false, enc, List.map_append, List.map_cons, List.map_nil]
@[simp] theorem enc_len {l : AL} : (enc l).length = l.length := by simp [enc]
theorem look_rep {p q : Pr} {i : Int} : ∀ {l : AL}, look (repA l p i) q = if p = q then (if hasA l p then some i else none) else look l q
  | [] => by by_cases h : p = q <;> simp [repA, look, hasA, h]
  | e :: l => by
    have ih := look_rep (p := p) (q := q) (i := i) (l := l)
    simp only [repA, List.map_cons, look, hasA, List.any_cons] at ih ⊢
    by_cases h1 : e.1 = p
    · by_cases h2 : p = q
      · subst h2; simp [h1]
      · have h3 : e.1 ≠ q := fun z => h2 (h1.symm.trans z)
        simp only [h1, if_true, h2, if_false] at ih ⊢
        exact ih
    · simp only [h1, if_false, decide_false, Bool.false_or]
      rw [ih]
      by_cases h2 : p = q
      · subst h2; simp [h1] <;> rfl
      · simp [h2]
theorem look_app {q : Pr} {z : AL} : ∀ {l : AL}, look (l ++ z) q = (look l q).or (look z q)
  | [] => by simp [look]
  | e :: l => by
    simp only [List.cons_append, look]
    by_cases h : e.1 = q
    · simp [h]
    · simp only [h, if_false]; exact look_app
theorem look_has {p : Pr} : ∀ {l : AL}, hasA l p = (look l p).isSome
  | [] => rfl
  | e :: l => by
    have := look_has (p := p) (l := l)
    simp only [hasA, List.any_cons, look] at this ⊢
    by_cases h : e.1 = p
    · simp [h]
    · simpa [h] using this
theorem look_put {l : AL} {p q : Pr} {i : Int} : look (putA l p i) q = if p = q then some i else look l q := by
  unfold putA
  by_cases h : hasA l p = true
  · rw [if_pos h, look_rep, h]; simp
  · rw [if_neg h, look_app]
    rw [look_has] at h
    by_cases e : p = q
    · subst e
      have : look l p = none := by simpa using h
      simp [look, this]
    · simp [look, e]
theorem put_length {l : AL} {p : Pr} {i : Int} : (putA l p i).length ≤ l.length + 1 := by
  unfold putA
  split <;> simp [repA]
theorem put_ne {l : AL} {p : Pr} {i : Int} : putA l p i ≠ [] := by
  intro h
  have := look_put (l := l) (p := p) (q := p) (i := i)
  rw [h] at this
  simp [look] at this
theorem puts_length {z : AL} : ∀ {l : AL}, (putsA l z).length ≤ l.length + z.length := by
  induction z with
  | nil => intro l; simp [putsA]
  | cons e z ih =>
    intro l
    have := ih (l := putA l e.1 e.2)
    have h2 := put_length (l := l) (p := e.1) (i := e.2)
    simp only [putsA, List.foldl_cons, List.length_cons] at this ⊢
    omega
theorem putAll_enc : ∀ {z l : AL}, putAll (enc l) (enc z) = enc (putsA l z)
  | [], l => rfl
  | e :: z, l => by
    show putAll (put (enc l) (kyD e.1) (.int e.2)) (enc z) = _
    rw [put_enc, putAll_enc]
    rfl
/-- the pairs as a list of tuples -/
theorem pairs_enc : ∀ {z l : AL}, pairsD true (z.map fun e => .tup [kyD e.1, .int e.2]) (enc l) = some (enc (putsA l z))
  | [], l => rfl
  | e :: z, l => by
    show (if keyOk true (kyD e.1) then pairsD true (z.map fun e => .tup [kyD e.1, .int e.2]) (put (enc l) (kyD e.1) (.int e.2)) else none) = _
    rw [if_pos keyOk_ky, put_enc, pairs_enc]
    rfl
/-- the same entries -/
def Same (l z : AL) : Prop := ∀ p, look l p = look z p
theorem look_puts {z : AL} (hz : (z.map (·.1)).Nodup) : ∀ {l : AL} {p : Pr}, look (putsA l z) p = (look z p).or (look l p) := by
  induction z with
  | nil => intro l p; simp [putsA, look]
  | cons e z ih =>
    intro l p
    simp only [List.map_cons, List.nodup_cons] at hz
    have h := ih hz.2 (l := putA l e.1 e.2) (p := p)
    simp only [putsA, List.foldl_cons] at h ⊢
    rw [h, look_put]
    simp only [look]
    by_cases q : e.1 = p
    · subst q
      have : look z e.1 = none := by
        cases hh : look z e.1 with
        | none => rfl
        | some w =>
          have h2 : hasA z e.1 = true := by rw [look_has, hh]; rfl
          simp only [hasA, List.any_eq_true, decide_eq_true_eq] at h2
          obtain ⟨x, h3, h4⟩ := h2
          exact absurd (List.mem_map.mpr ⟨x, h3, h4⟩) hz.1
      simp [this]
    · simp [q]

/-! ### going over all the ways -/
/-- what Python's min of two answers -/
def mn (a b : Int) : Int := if b < a then b else a
theorem mn_eq {a b : Int} : mn a b = min a b := by unfold mn; omega
def relA (l : AL) (m a b : Str) : AL := match look l (a, m), look l (m, b) with
  | some x, some y => putA l (a, b) (mn (x + y) ((look l (a, b)).getD (x + y)))
  | _, _ => l
def rowA (ns : List Str) (l : AL) (m a : Str) : AL := ns.foldl (fun l b => relA l m a b) l
def planeA (ns : List Str) (l : AL) (m : Str) : AL := ns.foldl (fun l a => rowA ns l m a) l
def cubeA (ns : List Str) (l : AL) : AL := ns.foldl (fun l m => planeA ns l m) l
abbrev Fw := Str → Str → Option Int
def fwOf (l : AL) : Fw := fun a b => look l (a, b)
def cmb (x y z : Option Int) : Option Int := match y, z with
  | some p, some q => some (match x with
    | some r => min (p + q) r
    | none => p + q)
  | _, _ => x
def relF (f : Fw) (m a b : Str) : Fw := fun a' b' => if a = a' ∧ b = b' then cmb (f a b) (f a m) (f m b) else f a' b'
theorem rel_fw {l : AL} {m a b : Str} : fwOf (relA l m a b) = relF (fwOf l) m a b := by
  funext a' b'
  simp only [fwOf, relF, relA]
  cases h1 : look l (a, m) with
  | none =>
    by_cases h : a = a' ∧ b = b'
    · obtain ⟨rfl, rfl⟩ := h; simp [cmb]
    · simp [h]
  | some x =>
    cases h2 : look l (m, b) with
    | none =>
      by_cases h : a = a' ∧ b = b'
      · obtain ⟨rfl, rfl⟩ := h; simp [cmb]
      · simp [h]
    | some y =>
      simp only [look_put, Prod.mk.injEq]
      by_cases h : a = a' ∧ b = b'
      · obtain ⟨rfl, rfl⟩ := h
        simp only [and_self, if_true, cmb, mn_eq]
        cases look l (a, b) <;> simp
      · simp [h]
theorem rel_same {l z : AL} (h : fwOf l = fwOf z) (m a b : Str) : fwOf (relA l m a b) = fwOf (relA z m a b) := by rw [rel_fw, rel_fw, h]
theorem row_same (ns : List Str) {l z : AL} (h : fwOf l = fwOf z) (m a : Str) : fwOf (rowA ns l m a) = fwOf (rowA ns z m a) := by
  unfold rowA
  induction ns generalizing l z with
  | nil => exact h
  | cons b ns ih => exact ih (rel_same h m a b)
theorem plane_same (ns as : List Str) {l z : AL} (h : fwOf l = fwOf z) (m : Str) : fwOf (as.foldl (fun l a => rowA ns l m a) l) = fwOf (as.foldl (fun l a => rowA ns l m a) z) := by
  induction as generalizing l z with
  | nil => exact h
  | cons b as ih => exact ih (row_same ns h m b)
theorem cube_same' (ns ms : List Str) {l z : AL} (h : fwOf l = fwOf z) : fwOf (ms.foldl (fun l m => planeA ns l m) l) = fwOf (ms.foldl (fun l m => planeA ns l m) z) := by
  induction ms generalizing l z with
  | nil => exact h
  | cons b as ih => exact ih (plane_same ns ns h b)
theorem cube_same (ns : List Str) {l z : AL} (h : fwOf l = fwOf z) : fwOf (cubeA ns l) = fwOf (cubeA ns z) := cube_same' ns ns h
theorem rel_length {l : AL} {m a b : Str} : (relA l m a b).length ≤ l.length + 1 := by
  unfold relA
  split
  · exact put_length
  · omega

/-! the triangle -/
structure Inv0 (ns : List Str) (P : Str → Int) (f : Fw) : Prop where
  pot : ∀ a b w, f a b = some w → P b - P a ≤ w
  dg : ∀ a ∈ ns, f a a = some 0
  sup : ∀ a b w, f a b = some w → a ∈ ns ∧ b ∈ ns
def Tri (S : Str → Prop) (f : Fw) : Prop := ∀ m, S m → ∀ a b p q, f a m = some p → f m b = some q → ∃ r, f a b = some r ∧ r ≤ p + q
def Low (f g : Fw) : Prop := ∀ a b w, f a b = some w → ∃ u, g a b = some u ∧ u ≤ w
/-- all ways over one name at once -/
def plF (g : Fw) (v : Str) : Fw := fun a b => cmb (g a b) (g a v) (g v b)
theorem cmb_some {x y z : Option Int} {w : Int} (h : cmb x y z = some w) : x = some w ∨ ∃ p q, y = some p ∧ z = some q ∧ w = p + q := by
  unfold cmb at h
  split at h
  next p q =>
    split at h
    next r =>
      simp only [Option.some.injEq] at h
      by_cases c : p + q ≤ r
      · exact .inr ⟨p, q, rfl, rfl, by omega⟩
      · exact .inl (by rw [← h]; congr 1; omega)
    next =>
      simp only [Option.some.injEq] at h
      exact .inr ⟨p, q, rfl, rfl, h.symm⟩
  next => exact .inl h
theorem cmb_le1 {x y z : Option Int} {w : Int} (h : x = some w) : ∃ u, cmb x y z = some u ∧ u ≤ w := by
  subst h
  unfold cmb
  split
  · exact ⟨_, rfl, by show min _ _ ≤ _; omega⟩
  · exact ⟨_, rfl, Int.le_refl _⟩
theorem cmb_le2 {x y z : Option Int} {p q : Int} (h1 : y = some p) (h2 : z = some q) : ∃ u, cmb x y z = some u ∧ u ≤ p + q := by
  subst h1 h2
  unfold cmb
  cases x with
  | none => exact ⟨_, rfl, by show p + q ≤ _; omega⟩
  | some r => exact ⟨_, rfl, by show min _ _ ≤ _; omega⟩
theorem cmb_l {x : Option Int} : cmb x x (some 0) = x := by
  cases x with
  | none => rfl
  | some r => simp [cmb]
theorem cmb_r {x : Option Int} : cmb x (some 0) x = x := by
  cases x with
  | none => rfl
  | some r => simp [cmb]
theorem cmb_again {x y z : Option Int} : cmb (cmb x y z) y z = cmb x y z := by
  cases y <;> cases z <;> cases x <;> simp [cmb]
/-- between the start g of a name's turn and its end -/
def Mid (g f : Fw) (v : Str) : Prop := ∀ a b, f a b = g a b ∨ f a b = plF g v a b
theorem mid_row {g f : Fw} {v : Str} (h0 : g v v = some 0) (h : Mid g f v) : (∀ a, f a v = g a v) ∧ ∀ b, f v b = g v b := by
  refine ⟨fun a => ?_, fun b => ?_⟩
  · rcases h a v with e | e
    · exact e
    · rw [e]; unfold plF; rw [h0]; exact cmb_l
  · rcases h v b with e | e
    · exact e
    · rw [e]; unfold plF; rw [h0]; exact cmb_r
theorem mid_rel {g f : Fw} {v : Str} (h0 : g v v = some 0) (h : Mid g f v) (a b : Str) : Mid g (relF f v a b) v ∧ relF f v a b a b = plF g v a b ∧ ∀ a' b', f a' b' = plF g v a' b' → relF f v a b a' b' = plF g v a' b' := by
  obtain ⟨h1, h2⟩ := mid_row h0 h
  have key : cmb (f a b) (f a v) (f v b) = plF g v a b := by
    rw [h1, h2]
    rcases h a b with e | e
    · rw [e]; rfl
    · rw [e]; unfold plF; exact cmb_again
  refine ⟨fun a' b' => ?_, by simp [relF, key], fun a' b' e => ?_⟩
  · by_cases c : a = a' ∧ b = b'
    · obtain ⟨rfl, rfl⟩ := c
      exact .inr (by simp [relF, key])
    · simp only [relF, c, if_false]
      exact h a' b'
  · by_cases c : a = a' ∧ b = b'
    · obtain ⟨rfl, rfl⟩ := c
      simp [relF, key]
    · simp only [relF, c, if_false]
      exact e
theorem mid_rowA {g : Fw} {v a : Str} (h0 : g v v = some 0) : ∀ (bs : List Str) (l : AL), Mid g (fwOf l) v → Mid g (fwOf (bs.foldl (fun l b => relA l v a b) l)) v ∧ (∀ b ∈ bs, fwOf (bs.foldl (fun l b => relA l v a b) l) a b = plF g v a b) ∧
    ∀ a' b', fwOf l a' b' = plF g v a' b' → fwOf (bs.foldl (fun l b => relA l v a b) l) a' b' = plF g v a' b'
  | [], l, h => ⟨h, (fun _ z => nomatch z), fun _ _ e => e⟩
  | b :: bs, l, h => by
    obtain ⟨m1, m2, m3⟩ := mid_rel h0 h a b
    rw [← rel_fw] at m1 m2 m3
    obtain ⟨k1, k2, k3⟩ := mid_rowA h0 bs _ m1
    refine ⟨k1, fun b' hb => ?_, fun a' b' e => k3 a' b' (m3 a' b' e)⟩
    rcases List.mem_cons.mp hb with rfl | hb
    · exact k3 _ _ m2
    · exact k2 _ hb
theorem mid_planeA {g : Fw} {v : Str} (h0 : g v v = some 0) (bs : List Str) : ∀ (as : List Str) (l : AL), Mid g (fwOf l) v → Mid g (fwOf (as.foldl (fun l a => rowA bs l v a) l)) v ∧ (∀ a ∈ as, ∀ b ∈ bs, fwOf (as.foldl (fun l a => rowA bs l v a) l) a b = plF g v a b) ∧
    ∀ a' b', fwOf l a' b' = plF g v a' b' → fwOf (as.foldl (fun l a => rowA bs l v a) l) a' b' = plF g v a' b'
  | [], l, h => ⟨h, (fun _ z => nomatch z), fun _ _ e => e⟩
  | a :: as, l, h => by
    obtain ⟨m1, m2, m3⟩ := mid_rowA (a := a) h0 bs l h
    obtain ⟨k1, k2, k3⟩ := mid_planeA h0 bs as _ m1
    refine ⟨k1, fun a' ha b' hb => ?_, fun a' b' e => k3 a' b' (m3 a' b' e)⟩
    rcases List.mem_cons.mp ha with rfl | ha
    · exact k3 _ _ (m2 b' hb)
    · exact k2 _ ha _ hb
theorem plane_is {ns : List Str} {P : Str → Int} {l : AL} {v : Str} (I : Inv0 ns P (fwOf l)) (hv : v ∈ ns) : fwOf (planeA ns l v) = plF (fwOf l) v := by
  obtain ⟨k1, k2, _⟩ := mid_planeA (I.dg v hv) ns ns l fun a b => .inl rfl
  funext a b
  by_cases h : a ∈ ns ∧ b ∈ ns
  · exact k2 a h.1 b h.2
  · rcases k1 a b with e | e
    · show fwOf (ns.foldl (fun l a => rowA ns l v a) l) a b = _
      rw [e]
      unfold plF cmb
      split
      next p q e1 e2 => exact absurd ⟨(I.sup _ _ _ e1).1, (I.sup _ _ _ e2).2⟩ h
      next => rfl
    · exact e
theorem plF_inv {ns : List Str} {P : Str → Int} {f : Fw} {v : Str} (I : Inv0 ns P f) : Inv0 ns P (plF f v) := by
  refine ⟨fun a b w e => ?_, fun a ha => ?_, fun a b w e => ?_⟩
  · rcases cmb_some e with e | ⟨p, q, e1, e2, rfl⟩
    · exact I.pot _ _ _ e
    · have := I.pot _ _ _ e1
      have := I.pot _ _ _ e2
      omega
  · obtain ⟨u, e, h⟩ := cmb_le1 (y := f a v) (z := f v a) (I.dg a ha)
    have e' : plF f v a a = some u := e
    rw [e']
    rcases cmb_some e with e1 | ⟨p, q, e1, e2, rfl⟩
    · rw [I.dg a ha] at e1; cases e1; rfl
    · have := I.pot _ _ _ e1
      have := I.pot _ _ _ e2
      congr 1
      omega
  · rcases cmb_some e with e | ⟨p, q, e1, e2, rfl⟩
    · exact I.sup _ _ _ e
    · exact ⟨(I.sup _ _ _ e1).1, (I.sup _ _ _ e2).2⟩
theorem plF_tri {ns : List Str} {P : Str → Int} {f : Fw} {v : Str} {S : Str → Prop} (I : Inv0 ns P f) (hv : v ∈ ns) (T : Tri S f) : Tri (fun m => S m ∨ m = v) (plF f v) := by
  have h0 := I.dg v hv
  intro m hm a b p q e1 e2
  have col : ∀ x, plF f v x v = f x v := fun x => by unfold plF; rw [h0]; exact cmb_l
  have row : ∀ x, plF f v v x = f v x := fun x => by unfold plF; rw [h0]; exact cmb_r
  rcases hm with hm | rfl
  · rcases cmb_some e1 with f1 | ⟨p1, p2, f1, f1', hp⟩
    · rcases cmb_some e2 with f2 | ⟨q1, q2, f2, f2', hq⟩
      · obtain ⟨r, e3, h3⟩ := T m hm a b p q f1 f2
        obtain ⟨u, e4, h4⟩ := cmb_le1 (y := f a v) (z := f v b) e3
        exact ⟨u, e4, by omega⟩
      · obtain ⟨r, e3, h3⟩ := T m hm a v p q1 f1 f2
        obtain ⟨u, e4, h4⟩ := cmb_le2 (x := f a b) e3 f2'
        exact ⟨u, e4, by omega⟩
    · rcases cmb_some e2 with f2 | ⟨q1, q2, f2, f2', hq⟩
      · obtain ⟨r, e3, h3⟩ := T m hm v b p2 q f1' f2
        obtain ⟨u, e4, h4⟩ := cmb_le2 (x := f a b) f1 e3
        exact ⟨u, e4, by omega⟩
      · obtain ⟨r, e3, h3⟩ := T m hm v v p2 q1 f1' f2
        rw [h0] at e3
        cases e3
        obtain ⟨u, e4, h4⟩ := cmb_le2 (x := f a b) f1 f2'
        exact ⟨u, e4, by omega⟩
  · rw [col] at e1
    rw [row] at e2
    exact cmb_le2 e1 e2
theorem cube_run {ns : List Str} {P : Str → Int} : ∀ (ms done : List Str) (l : AL), (∀ m ∈ ms, m ∈ ns) → Inv0 ns P (fwOf l) → Tri (· ∈ done) (fwOf l) → Inv0 ns P (fwOf (ms.foldl (fun l m => planeA ns l m) l)) ∧ Tri (fun m => m ∈ done ∨ m ∈ ms) (fwOf (ms.foldl (fun l m => planeA ns l m) l)) ∧ Low (fwOf l) (fwOf (ms.foldl (fun l m => planeA ns l m) l))
  | [], done, l, _, I, T => ⟨I, fun m hm => T m (hm.elim id fun z => nomatch z), fun a b w e => ⟨w, e, Int.le_refl _⟩⟩
  | v :: ms, done, l, hs, I, T => by
    have hv := hs v List.mem_cons_self
    have e := plane_is I hv
    have I2 : Inv0 ns P (fwOf (planeA ns l v)) := by rw [e]; exact plF_inv I
    have T2 : Tri (· ∈ v :: done) (fwOf (planeA ns l v)) := by
      rw [e]
      intro m hm
      refine plF_tri I hv T m ?_
      rcases List.mem_cons.mp hm with h | h
      · exact .inr h
      · exact .inl h
    obtain ⟨J, U, W⟩ := cube_run ms (v :: done) _ (fun m hm => hs m (List.mem_cons_of_mem _ hm)) I2 T2
    refine ⟨J, fun m hm => U m ?_, fun a b w e1 => ?_⟩
    · rcases hm with h | h
      · exact .inl (List.mem_cons_of_mem _ h)
      · rcases List.mem_cons.mp h with rfl | h
        · exact .inl List.mem_cons_self
        · exact .inr h
    · obtain ⟨u, e2, h2⟩ := cmb_le1 (y := fwOf l a v) (z := fwOf l v b) e1
      have e3 : fwOf (planeA ns l v) a b = some u := by rw [e]; exact e2
      obtain ⟨u', e4, h4⟩ := W a b u e3
      exact ⟨u', e4, by omega⟩
/-- behind all names: the triangle, the diagonal, no more than ahead -/
theorem cube_ok {ns : List Str} {P : Str → Int} {l : AL} (I : Inv0 ns P (fwOf l)) : Inv0 ns P (fwOf (cubeA ns l)) ∧ (∀ a m b p q, fwOf (cubeA ns l) a m = some p → fwOf (cubeA ns l) m b = some q → ∃ r, fwOf (cubeA ns l) a b = some r ∧ r ≤ p + q) ∧ Low (fwOf l) (fwOf (cubeA ns l)) := by
  obtain ⟨J, U, W⟩ := cube_run ns [] l (fun _ h => h) I fun m hm => nomatch hm
  exact ⟨J, fun a m b p q e1 e2 => U m (.inr (J.sup _ _ _ e1).2) a b p q e1 e2, W⟩
end Dx
/-! LbU: heights or a ring: the plain side -/
namespace Dx
open PySem
def updF {α : Type} (f : Str → α) (k : Str) (v : α) : Str → α := fun x => if x = k then v else f x
@[simp] theorem upd_self {α : Type} {f : Str → α} {k : Str} {v : α} : updF f k v k = v := by simp [updF]
theorem upd_other {α : Type} {f : Str → α} {k x : Str} {v : α} (h : x ≠ k) : updF f k v x = f x := by simp [updF, h]
structure HS where
  h : Str → Int
  b : Str → Str
  last : Option Str
def relH (s : HS) (e : Pr × Int) : HS :=
  if s.h e.1.1 + e.2 < s.h e.1.2 then ⟨updF s.h e.1.2 (s.h e.1.1 + e.2), updF s.b e.1.2 e.1.1, some e.1.2⟩ else s
def turnH (es : AL) (s : HS) : HS := es.foldl relH { s with last := none }
def ini : HS := ⟨fun _ => 0, id, none⟩
/-- what is known beside: the turn of the last change, its time -/
structure Gh where
  u : Str → Nat
  t : Str → Nat
  c : Nat
structure HI (es : AL) (i : Nat) (rest : AL) (s : HS) (g : Gh) : Prop where
  ui : ∀ x, g.u x ≤ i
  u0 : ∀ x, g.u x = 0 → s.b x = x
  ct : ∀ x, g.t x ≤ g.c
  tie : ∀ x, 1 ≤ g.u x → ∃ w, ((s.b x, x), w) ∈ es ∧ s.h (s.b x) + w ≤ s.h x ∧ g.u x ≤ g.u (s.b x) + 1 ∧ (g.t (s.b x) < g.t x ∨ s.h (s.b x) + w < s.h x)
  don : ∀ e ∈ es, e ∉ rest → g.u e.1.1 < i → s.h e.1.2 ≤ s.h e.1.1 + e.2
  lft : ∀ e ∈ rest, g.u e.1.1 + 1 < i → s.h e.1.2 ≤ s.h e.1.1 + e.2
  ls : ∀ x, s.last = some x → g.u x = i
  ln : s.last = none → 1 ≤ i → ∀ x, g.u x < i
theorem rel_step {es : AL} {i : Nat} {e : Pr × Int} {rest : AL} {s : HS} {g : Gh} (hi : 1 ≤ i) (I : HI es i (e :: rest) s g) (he : e ∈ es) (hn : e ∉ rest) (hne : ∀ e ∈ es, e.1.1 ≠ e.1.2) : ∃ g', HI es i rest (relH s e) g' := by
  obtain ⟨⟨j, k⟩, w⟩ := e
  have hjk : j ≠ k := hne _ he
  unfold relH
  simp only
  by_cases c : s.h j + w < s.h k
  · rw [if_pos c]
    have uj : i ≤ g.u j + 1 := by
      by_cases q : g.u j + 1 < i
      · have := I.lft _ List.mem_cons_self q
        simp only at this
        omega
      · omega
    refine ⟨⟨updF g.u k i, updF g.t k (g.c + 1), g.c + 1⟩, ⟨fun x => ?_, fun x hx => ?_, fun x => ?_, fun x hx => ?_, fun e' he' hr hu => ?_, fun e' he' hu => ?_, fun x hx => ?_, fun h => nomatch h⟩⟩
    · show updF g.u k i x ≤ i
      by_cases q : x = k
      · subst q; simp
      · rw [upd_other q]; exact I.ui x
    · have hx : updF g.u k i x = 0 := hx
      show updF s.b k j x = x
      by_cases q : x = k
      · subst q; rw [upd_self] at hx; omega
      · rw [upd_other q] at hx ⊢; exact I.u0 x hx
    · show updF g.t k (g.c + 1) x ≤ g.c + 1
      by_cases q : x = k
      · subst q; simp
      · rw [upd_other q]; have := I.ct x; omega
    · have hx : 1 ≤ updF g.u k i x := hx
      show ∃ w', ((updF s.b k j x, x), w') ∈ es ∧ updF s.h k (s.h j + w) (updF s.b k j x) + w' ≤ updF s.h k (s.h j + w) x ∧ updF g.u k i x ≤ updF g.u k i (updF s.b k j x) + 1 ∧ (updF g.t k (g.c + 1) (updF s.b k j x) < updF g.t k (g.c + 1) x ∨ updF s.h k (s.h j + w) (updF s.b k j x) + w' < updF s.h k (s.h j + w) x)
      by_cases q : x = k
      · subst q
        simp only [upd_self, upd_other hjk]
        exact ⟨w, he, Int.le_refl _, uj, .inl (by have := I.ct j; omega)⟩
      · rw [upd_other q] at hx
        obtain ⟨w', h1, h2, h3, h4⟩ := I.tie x hx
        simp only [upd_other q]
        by_cases q2 : s.b x = k
        · rw [q2] at h1 h2 h3 h4 ⊢
          simp only [upd_self]
          exact ⟨w', h1, by omega, by have := I.ui x; omega, .inr (by omega)⟩
        · simp only [upd_other q2]
          exact ⟨w', h1, h2, h3, h4⟩
    · have hu : updF g.u k i e'.1.1 < i := hu
      show updF s.h k (s.h j + w) e'.1.2 ≤ updF s.h k (s.h j + w) e'.1.1 + e'.2
      have q : e'.1.1 ≠ k := by
        intro q
        rw [q, upd_self] at hu
        omega
      rw [upd_other q] at hu ⊢
      have old : e' ≠ ((j, k), w) → s.h e'.1.2 ≤ s.h e'.1.1 + e'.2 := fun ne => I.don e' he' (fun z => (List.mem_cons.mp z).elim ne hr) hu
      by_cases q2 : e'.1.2 = k
      · rw [q2, upd_self]
        by_cases q3 : e' = ((j, k), w)
        · subst q3; exact Int.le_refl _
        · have := old q3
          rw [q2] at this
          omega
      · rw [upd_other q2]
        exact old (fun z => q2 (by rw [z]))
    · have hu : updF g.u k i e'.1.1 + 1 < i := hu
      show updF s.h k (s.h j + w) e'.1.2 ≤ updF s.h k (s.h j + w) e'.1.1 + e'.2
      have q : e'.1.1 ≠ k := by
        intro q
        rw [q, upd_self] at hu
        omega
      rw [upd_other q] at hu ⊢
      have old := I.lft e' (List.mem_cons_of_mem _ he') hu
      by_cases q2 : e'.1.2 = k
      · rw [q2, upd_self]
        rw [q2] at old
        omega
      · rw [upd_other q2]; exact old
    · have hx : some k = some x := hx
      cases hx
      exact upd_self
  · rw [if_neg c]
    refine ⟨g, ⟨I.ui, I.u0, I.ct, I.tie, fun e' he' hr hu => ?_, fun e' he' hu => I.lft e' (List.mem_cons_of_mem _ he') hu, I.ls, I.ln⟩⟩
    by_cases q : e' = ((j, k), w)
    · subst q; show s.h k ≤ s.h j + w; omega
    · exact I.don e' he' (fun z => (List.mem_cons.mp z).elim q hr) hu
theorem rel_all {es : AL} {i : Nat} (hi : 1 ≤ i) (hne : ∀ e ∈ es, e.1.1 ≠ e.1.2) : ∀ {rest : AL} {s : HS} {g : Gh}, HI es i rest s g → rest.Nodup → (∀ e ∈ rest, e ∈ es) → ∃ g', HI es i [] (rest.foldl relH s) g'
  | [], s, g, I, _, _ => ⟨g, I⟩
  | e :: rest, s, g, I, hn, hs => by
    obtain ⟨h1, h2⟩ := List.nodup_cons.mp hn
    obtain ⟨g', I'⟩ := rel_step hi I (hs e List.mem_cons_self) h1 hne
    show ∃ g', HI es i [] (rest.foldl relH (relH s e)) g'
    exact rel_all hi hne I' h2 fun e' he' => hs e' (List.mem_cons_of_mem _ he')
theorem turn_inv {es : AL} {i : Nat} (hne : ∀ e ∈ es, e.1.1 ≠ e.1.2) (hn : es.Nodup) {s : HS} {g : Gh} (I : HI es i [] s g) : ∃ g', HI es (i + 1) [] (turnH es s) g' := by
  refine rel_all (i := i + 1) (by omega) hne (rest := es) (s := { s with last := none }) (g := g) ⟨fun x => by have := I.ui x; omega, I.u0, I.ct, I.tie, fun e he hr => absurd he hr, fun e he hu => ?_, (fun x hx => by cases hx), fun _ _ x => by have := I.ui x; omega⟩ hn fun _ h => h
  exact I.don e he (by simp) (by omega)
theorem ini_inv0 {es : AL} : HI es 0 [] ini ⟨fun _ => 0, fun _ => 0, 0⟩ :=
  ⟨fun _ => Nat.le_refl _, fun _ _ => rfl, fun _ => Nat.le_refl _, fun x hx => absurd hx (by simp), fun e _ _ hu => absurd hu (by simp), (fun _ z => nomatch z), (fun x hx => by cases hx), fun _ h => absurd h (by omega)⟩
theorem stays {es : AL} {i : Nat} {s : HS} {g : Gh} (I : HI es i [] s g) (hi : 1 ≤ i) (hl : s.last = none) : ∀ e ∈ es, s.h e.1.2 ≤ s.h e.1.1 + e.2 := fun e he => I.don e he (by simp) (I.ln hl hi _)
def itB (b : Str → Str) : Nat → Str → Str
  | 0, x => x
  | n + 1, x => b (itB b n x)
theorem itB_add {b : Str → Str} {x : Str} {n : Nat} : ∀ m, itB b (m + n) x = itB b m (itB b n x)
  | 0 => by rw [Nat.zero_add]; rfl
  | m + 1 => by rw [Nat.add_right_comm]; show b (itB b (m + n) x) = _; rw [itB_add m]; rfl
theorem itB_b {b : Str → Str} {x : Str} (m : Nat) : itB b m (b x) = itB b (m + 1) x := (itB_add (n := 1) m).symm
/-- the chain back from the last change has been changed all along -/
theorem chain_u {es : AL} {i : Nat} {s : HS} {g : Gh} (I : HI es i [] s g) {x : Str} (hx : g.u x = i) : ∀ t, t < i → i ≤ g.u (itB s.b t x) + t
  | 0, _ => by show i ≤ g.u x + 0; omega
  | t + 1, h => by
    have ih := chain_u I hx t (by omega)
    obtain ⟨w, _, _, h3, _⟩ := I.tie (itB s.b t x) (by omega)
    show i ≤ g.u (s.b (itB s.b t x)) + (t + 1)
    omega
theorem nodup_len : ∀ {l ns : List Str}, l.Nodup → (∀ x ∈ l, x ∈ ns) → l.length ≤ ns.length
  | [], _, _, _ => by simp
  | x :: l, ns, hn, h => by
    obtain ⟨h1, h2⟩ := List.nodup_cons.mp hn
    have hx := h x List.mem_cons_self
    have ih := nodup_len (l := l) (ns := ns.erase x) h2 fun y hy => (List.mem_erase_of_ne (fun e => h1 (by rw [← e]; exact hy))).mpr (h y (List.mem_cons_of_mem _ hy))
    have := List.length_erase_of_mem hx
    have := List.length_pos_of_mem hx
    rw [List.length_cons]
    omega
theorem pigeon {ns : List Str} {f : Nat → Str} (h : ∀ t, t ≤ ns.length → f t ∈ ns) : ∃ a b, a < b ∧ b ≤ ns.length ∧ f a = f b := by
  have nd : ¬ ((List.range (ns.length + 1)).map f).Nodup := by
    intro nd
    have sub : ∀ x ∈ (List.range (ns.length + 1)).map f, x ∈ ns := by
      intro x hx
      obtain ⟨t, ht, rfl⟩ := List.mem_map.mp hx
      exact h t (by have := List.mem_range.mp ht; omega)
    have := nodup_len nd sub
    rw [List.length_map, List.length_range] at this
    omega
  apply Classical.byContradiction
  intro no
  apply nd
  rw [List.nodup_iff_pairwise_ne, List.pairwise_map]
  refine (List.pairwise_lt_range).imp_of_mem fun {a b} ha hb hab e => no ⟨a, b, hab, ?_, e⟩
  have := List.mem_range.mp hb
  omega
/-- a name on a ring of the way back, and how long the ring is -/
structure OnRing (es : AL) (s : HS) (y : Str) (p : Nat) : Prop where
  two : 2 ≤ p
  back : itB s.b p y = y
  first : ∀ q, 1 ≤ q → q < p → itB s.b q y ≠ y
  ties : ∀ t, ∃ w, ((s.b (itB s.b t y), itB s.b t y), w) ∈ es
  neg : ∀ W : Pr → Int, (∀ e ∈ es, W e.1 = e.2) → ((List.range p).map fun t => W (s.b (itB s.b t y), itB s.b t y)).sum < 0
theorem sum_chain {b : Str → Str} {h : Str → Int} {v : Nat → Int} {y : Str} : ∀ {p : Nat}, (∀ t, t < p → h (itB b (t + 1) y) + v t ≤ h (itB b t y)) → h (itB b p y) + ((List.range p).map v).sum ≤ h y
  | 0, _ => by simp [itB]
  | p + 1, H => by
    have ih := sum_chain (p := p) fun t ht => H t (by omega)
    have := H p (by omega)
    rw [List.range_succ, List.map_append, List.sum_append]
    simp only [List.map_cons, List.map_nil, List.sum_cons, List.sum_nil]
    omega
theorem sum_chain_lt {b : Str → Str} {h : Str → Int} {v : Nat → Int} {y : Str} {q : Nat} : ∀ {p : Nat}, (∀ t, t < p → h (itB b (t + 1) y) + v t ≤ h (itB b t y)) → q < p → h (itB b (q + 1) y) + v q < h (itB b q y) → h (itB b p y) + ((List.range p).map v).sum < h y
  | 0, _, hq, _ => by omega
  | p + 1, H, hq, hs => by
    rw [List.range_succ, List.map_append, List.sum_append]
    simp only [List.map_cons, List.map_nil, List.sum_cons, List.sum_nil]
    by_cases c : q = p
    · subst c
      have := sum_chain (p := q) fun t ht => H t (by omega)
      omega
    · have := sum_chain_lt (p := p) (fun t ht => H t (by omega)) (by omega) hs
      have := H p (by omega)
      omega
theorem least_p {P : Nat → Prop} {n : Nat} (h1 : 1 ≤ n) (h : P n) : ∃ p, 1 ≤ p ∧ p ≤ n ∧ P p ∧ ∀ q, 1 ≤ q → q < p → ¬ P q := by
  induction n using Nat.strongRecOn with
  | _ n ih =>
    by_cases c : ∃ q, 1 ≤ q ∧ q < n ∧ P q
    · obtain ⟨q, q1, q2, q3⟩ := c
      obtain ⟨p, a1, a2, a3, a4⟩ := ih q q2 q1 q3
      exact ⟨p, a1, by omega, a3, a4⟩
    · exact ⟨n, h1, Nat.le_refl _, h, fun q q1 q2 q3 => c ⟨q, q1, q2, q3⟩⟩
theorem ring_found {ns : List Str} {es : AL} {s : HS} {g : Gh} (hns : ∀ e ∈ es, e.1.1 ∈ ns ∧ e.1.2 ∈ ns ∧ e.1.1 ≠ e.1.2) (I : HI es (ns.length + 1) [] s g) {x : Str} (hl : s.last = some x) : ∃ p, p ≤ ns.length ∧ OnRing es s (itB s.b ns.length x) p := by
  have hx := I.ls x hl
  have cu := chain_u I hx
  have u1 : ∀ t, t ≤ ns.length → 1 ≤ g.u (itB s.b t x) := fun t ht => by have := cu t (by omega); omega
  have inN : ∀ t, t ≤ ns.length → itB s.b t x ∈ ns := by
    intro t ht
    obtain ⟨w, h, _⟩ := I.tie _ (u1 t ht)
    exact (hns _ h).2.1
  obtain ⟨a, b, hab, hb, e⟩ := pigeon inN
  have per : ∀ t, a ≤ t → itB s.b (t + (b - a)) x = itB s.b t x := by
    intro t ht
    have e1 : t + (b - a) = (t - a) + b := by omega
    have e2 : t = (t - a) + a := by omega
    rw [e1, itB_add, ← e, ← itB_add, ← e2]
  have uAll : ∀ t, 1 ≤ g.u (itB s.b t x) := by
    intro t
    induction t using Nat.strongRecOn with
    | _ t ih =>
      by_cases c : t ≤ ns.length
      · exact u1 t c
      · have := per (t - (b - a)) (by omega)
        rw [show t - (b - a) + (b - a) = t by omega] at this
        rw [this]
        exact ih _ (by omega)
  generalize hy : itB s.b ns.length x = y
  have toX : ∀ t, itB s.b t y = itB s.b (t + ns.length) x := fun t => by rw [← hy, itB_add]
  have uY : ∀ t, 1 ≤ g.u (itB s.b t y) := fun t => by rw [toX]; exact uAll _
  have bk : itB s.b (b - a) y = y := by
    rw [toX, Nat.add_comm, per _ (by omega), hy]
  obtain ⟨p, p1, p2, p3, p4⟩ := least_p (P := fun q => itB s.b q y = y) (by omega) bk
  have tie : ∀ t, ∃ w, ((s.b (itB s.b t y), itB s.b t y), w) ∈ es := fun t => (I.tie _ (uY t)).imp fun w h => h.1
  have two : 2 ≤ p := by
    by_cases c : p = 1
    · subst c
      obtain ⟨w, h⟩ := tie 0
      have := (hns _ h).2.2
      exact absurd p3 this
    · omega
  refine ⟨p, by omega, two, p3, p4, tie, fun W hW => ?_⟩
  have step : ∀ t, s.h (itB s.b (t + 1) y) + W (s.b (itB s.b t y), itB s.b t y) ≤ s.h (itB s.b t y) ∧ (g.t (itB s.b (t + 1) y) < g.t (itB s.b t y) ∨ s.h (itB s.b (t + 1) y) + W (s.b (itB s.b t y), itB s.b t y) < s.h (itB s.b t y)) := by
    intro t
    obtain ⟨w, h1, h2, _, h4⟩ := I.tie _ (uY t)
    have hw := hW _ h1
    simp only at hw
    show s.h (s.b (itB s.b t y)) + W (s.b (itB s.b t y), itB s.b t y) ≤ _ ∧ (g.t (s.b (itB s.b t y)) < _ ∨ s.h (s.b (itB s.b t y)) + W (s.b (itB s.b t y), itB s.b t y) < _)
    rw [hw]
    exact ⟨h2, h4⟩
  have ex : ∃ q, q < p ∧ s.h (itB s.b (q + 1) y) + W (s.b (itB s.b q y), itB s.b q y) < s.h (itB s.b q y) := by
    apply Classical.byContradiction
    intro no
    have dec : ∀ q, q < p → g.t (itB s.b (q + 1) y) < g.t (itB s.b q y) := fun q hq => (step q).2.elim id fun z => absurd ⟨q, hq, z⟩ no
    have lt : ∀ q, q ≤ p → g.t (itB s.b q y) + q ≤ g.t y := by
      intro q
      induction q with
      | zero => intro _; exact Nat.le_refl _
      | succ q ih =>
        intro hq
        have := ih (by omega)
        have := dec q (by omega)
        omega
    have := lt p (Nat.le_refl _)
    rw [p3] at this
    omega
  obtain ⟨q, hq, hs⟩ := ex
  have := sum_chain_lt (b := s.b) (h := s.h) (v := fun t => W (s.b (itB s.b t y), itB s.b t y)) (y := y) (p := p) (q := q) (fun t _ => (step t).1) hq hs
  rw [p3] at this
  omega
end Dx
/-! LbA: draws and cells -/
namespace Dx
open PySem
theorem run_no {call : Nat → List D → Hd → R D} {f : Fn} {ds : List D} {m m' : Hd} {d : D} (hp : ds.length = f.pars) (hg : f.gc = false) (e : evB call f.body (ds.map some ++ List.replicate (f.slots - f.pars) none) m = .ok (.ret d) m') : runFn call f ds m = .ok d m' := by
  unfold runFn
  rw [if_pos hp, hg, leave_no, e]
  rfl
theorem run_gc {call : Nat → List D → Hd → R D} {f : Fn} {ds : List D} {m m' : Hd} {d : D} (hp : ds.length = f.pars) (hg : f.gc = true) (e : evB call f.body (ds.map some ++ List.replicate (f.slots - f.pars) none) m = .ok (.ret d) m') (hu : D.und m.length d = true) (hk : keepOk m.length m m' = true) : runFn call f ds m = .ok d (m'.take m.length) := by
  unfold runFn
  rw [if_pos hp, hg, e]
  show leave true m (.ok d m') = _
  simp [leave, hu, hk]
section
variable {T : Tb}
/-- a cell's box -/
def isBox (m : Hd) (n : Nat) : Prop := ∃ a b c : Int, m[n]? = some (.lst [.int a, .int b, .int c])
/-- only the box n is changed -/
def Boxed (n : Nat) (m m' : Hd) : Prop := ∃ a b c : Int, m' = m.set n (.lst [.int a, .int b, .int c])
theorem take_is [HasFn T 8 F8] (k n : Nat) (m : Hd) (many : Int) (h : isBox m n) (hm : 0 < many) (hs : many < 2^64) :
    ∃ i m', callN T (k+1) 8 [.ref n, .int many] m = .ok (.int i) m' ∧ 0 ≤ i ∧ i < many ∧ Boxed n m m' := by
  obtain ⟨a, b, c, h⟩ := h
  have : Is (callN T (k+1) 8 [.ref n, .int many] m) fun d m' => ∃ i, d = .int i ∧ 0 ≤ i ∧ i < many ∧ Boxed n m m' := by
    rw [call_of F8]
    simp [-getElem?_pos, runFn, F8, h, Boxed]
    refine ⟨fun ha => ⟨hm, ⟨hm, by omega, by omega⟩, Int.emod_nonneg _ (by omega), Int.emod_lt_of_pos _ hm, ⟨_, _, _, rfl⟩⟩, fun ha => ⟨hm, Int.emod_nonneg _ (by omega), Int.emod_lt_of_pos _ hm, ⟨_, _, _, rfl⟩⟩⟩
  obtain ⟨d, m', e, i, rfl, h1, h2, h3⟩ := this.ok
  exact ⟨i, m', e, h1, h2, h3⟩
theorem Boxed.refl {n : Nat} {m : Hd} (h : isBox m n) : Boxed n m m := by
  obtain ⟨a, b, c, h⟩ := h
  refine ⟨a, b, c, ?_⟩
  apply List.ext_getElem?
  intro i
  rw [List.getElem?_set]
  by_cases e : n = i
  · subst e
    have hl : n < m.length := (List.getElem?_eq_some_iff.mp h).1
    simp only [hl, if_true, h]
  · simp [e]
theorem Boxed.trans {n : Nat} {m m' m'' : Hd} (h : Boxed n m m') (h' : Boxed n m' m'') : Boxed n m m'' := by
  obtain ⟨a, b, c, rfl⟩ := h
  obtain ⟨a', b', c', rfl⟩ := h'
  exact ⟨a', b', c', by simp⟩
theorem Boxed.is {n : Nat} {m m' : Hd} (h : Boxed n m m') (h' : isBox m n) : isBox m' n := by
  obtain ⟨a, b, c, rfl⟩ := h
  obtain ⟨a', b', c', e⟩ := h'
  have hl : n < m.length := (List.getElem?_eq_some_iff.mp e).1
  exact ⟨a, b, c, by rw [List.getElem?_set]; simp [hl]⟩
theorem Boxed.len {n : Nat} {m m' : Hd} (h : Boxed n m m') : m'.length = m.length := by
  obtain ⟨a, b, c, rfl⟩ := h
  simp
theorem Boxed.get {n i : Nat} {m m' : Hd} (h : Boxed n m m') (hi : i ≠ n) : m'[i]? = m[i]? := by
  obtain ⟨a, b, c, rfl⟩ := h
  rw [List.getElem?_set]
  simp [Ne.symm hi]
/-- things laid behind stay behind -/
theorem Boxed.app {n : Nat} {m e m' : Hd} (hn : n < m.length) (h : Boxed n (m ++ e) m') : ∃ m1, Boxed n m m1 ∧ m' = m1 ++ e := by
  obtain ⟨a, b, c, rfl⟩ := h
  exact ⟨_, ⟨a, b, c, rfl⟩, by rw [List.set_append_left _ _ hn]⟩
theorem isBox.lt {n : Nat} {m : Hd} (h : isBox m n) : n < m.length := by
  obtain ⟨a, b, c, e⟩ := h
  exact (List.getElem?_eq_some_iff.mp e).1
theorem isBox.app {n : Nat} {m e : Hd} (h : isBox m n) : isBox (m ++ e) n := by
  have hl := h.lt
  obtain ⟨a, b, c, h⟩ := h
  exact ⟨a, b, c, by rw [List.getElem?_append_left hl]; exact h⟩
theorem isBox.set {n i : Nat} {m : Hd} {o : O} (h : isBox m n) (hi : i ≠ n) : isBox (m.set i o) n := by
  obtain ⟨a, b, c, h⟩ := h
  exact ⟨a, b, c, by rw [List.getElem?_set]; simp [hi, h]⟩
theorem at_scr {ns : List Int} {j : Int} (h0 : 0 ≤ j) (h : j < ns.length) : ∃ v, atD (ns.map D.int) j = some (.int v) := by
  have hj : j.toNat < ns.length := by omega
  exact ⟨ns[j.toNat], by rw [at_in h0 (by simpa using h), List.getElem?_map, List.getElem?_eq_getElem hj]; rfl⟩
theorem line2 : 2 ≤ PySem.sizeLine := by decide
theorem line3 : 3 ≤ PySem.sizeLine := by decide
theorem box_is [HasFn T 7 F7] (k : Nat) (m : Hd) (ns : List Int) (j own : Int) (h0 : 0 ≤ j) (h1 : ns.length < 2^62) :
    ∃ m', callN T (k+1) 7 [.scr ns, .int j, .int own] m = .ok (.ref m.length) m' ∧ isBox m' m.length ∧ m'.length = m.length + 1 ∧ ∀ i, i < m.length → m'[i]? = m[i]? := by
  have : Is (callN T (k+1) 7 [.scr ns, .int j, .int own] m) fun d m' => ∃ a b, d = .ref m.length ∧ m' = m ++ [.lst [.int a, .int b, .int 0]] := by
    rw [call_of F7]
    by_cases c1 : j < ns.length
    · obtain ⟨v, e⟩ := at_scr h0 c1
      simp [-getElem?_pos, runFn, F7, e, c1]
    · by_cases c2 : 0 < ns.length
      · obtain ⟨v, e⟩ := at_scr (ns := ns) (j := j % ns.length) (Int.emod_nonneg _ (by omega)) (Int.emod_lt_of_pos _ (by omega))
        simp [-getElem?_pos, runFn, F7, e, c1, c2]
      · simp [-getElem?_pos, runFn, F7, c1, c2]
  obtain ⟨d, m', e, a, b, rfl, rfl⟩ := this.ok
  exact ⟨_, e, ⟨a, b, 0, by simp⟩, by simp, fun i hi => by rw [List.getElem?_append_left hi]⟩
end
/-! ### comprehensions -/
inductive A2 {α β : Type} (Q : α → β → Prop) : List α → List β → Prop
  | nil : A2 Q [] []
  | cons {a b as bs} : Q a b → A2 Q as bs → A2 Q (a :: as) (b :: bs)
theorem A2.length {α β : Type} {Q : α → β → Prop} {as : List α} {bs : List β} (h : A2 Q as bs) : as.length = bs.length := by
  induction h with
  | nil => rfl
  | cons _ _ ih => simp [ih]
theorem A2.imp {α β : Type} {Q Q' : α → β → Prop} {as : List α} {bs : List β} (h : A2 Q as bs) (i : ∀ a b, a ∈ as → Q a b → Q' a b) : A2 Q' as bs := by
  induction h with
  | nil => exact .nil
  | cons h _ ih => exact .cons (i _ _ List.mem_cons_self h) (ih fun a b ha => i a b (List.mem_cons_of_mem _ ha))
/-- each turn adds one item and draws at most from the box -/
theorem lc_box {n : Nat} {step : D → Hd → R (Option D)} {Q : D → D → Prop} : ∀ {ds : List D} {m : Hd}, isBox m n → (∀ d ∈ ds, ∀ m1, Boxed n m m1 → isBox m1 n → ∃ x m2, step d m1 = .ok (some x) m2 ∧ Boxed n m1 m2 ∧ Q d x) →
    ∃ xs m', lcGo [] step ds m = .ok xs m' ∧ Boxed n m m' ∧ A2 Q ds xs
  | [], m, hb, h => ⟨[], m, rfl, Boxed.refl hb, .nil⟩
  | d :: ds, m, hb, h => by
    obtain ⟨x, m2, e1, b1, q1⟩ := h d List.mem_cons_self m (Boxed.refl hb) hb
    obtain ⟨xs, m', e2, b2, q2⟩ := lc_box (ds := ds) (m := m2) (step := step) (Q := Q) (b1.is hb) fun d' hd m1 z w => h d' (List.mem_cons_of_mem _ hd) m1 (b1.trans z) w
    refine ⟨x :: xs, m', ?_, b1.trans b2, .cons q1 q2⟩
    unfold lcGo
    simp only [guOk, List.all_nil, ifs_true, e1, R.bind_ok, e2, Option.toList, List.cons_append, List.nil_append]
/-- each turn only reads -/
theorem lc_read {g : Gu} {step : D → Hd → R (Option D)} {f : D → Option D} {m : Hd} (hg : guOk g m = true) : ∀ {ds : List D}, (∀ d ∈ ds, step d m = .ok (f d) m) → lcGo g step ds m = .ok (ds.filterMap f) m
  | [], h => by unfold lcGo; rw [hg]; rfl
  | d :: ds, h => by
    unfold lcGo
    rw [hg, ifs_true, h d List.mem_cons_self, R.bind_ok, lc_read hg fun d' hd => h d' (List.mem_cons_of_mem _ hd), R.bind_ok, List.filterMap_cons]
    cases f d <;> rfl
theorem lc_map {g : Gu} {step : D → Hd → R (Option D)} {f : D → D} {m : Hd} (hg : guOk g m = true) {ds : List D} (h : ∀ d ∈ ds, step d m = .ok (some (f d)) m) : lcGo g step ds m = .ok (ds.map f) m := by
  rw [lc_read (f := fun d => some (f d)) hg h, List.filterMap_eq_map']
/-! ### texts -/
def ofL (l : List Nat) : Str := ⟨l.toArray⟩
@[simp] theorem ofL_cps {l : List Nat} : (ofL l).cps.toList = l := rfl
@[simp] theorem ofL_len {l : List Nat} : (ofL l).length = l.length := by simp [ofL, Str.length]
theorem ofL_eta (s : Str) : ofL s.cps.toList = s := rfl
theorem ofL_inj {l k : List Nat} : ofL l = ofL k ↔ l = k := ⟨fun h => by have := congrArg (fun s : Str => s.cps.toList) h; simpa using this, fun h => by rw [h]⟩
theorem ofL_app {l k : List Nat} : ofL l ++ ofL k = ofL (l ++ k) := by
  show (⟨(ofL l).cps ++ (ofL k).cps⟩ : Str) = _
  simp [ofL]
theorem str_app (s t : Str) : s ++ t = ofL (s.cps.toList ++ t.cps.toList) := by
  rw [← ofL_app]; rfl
theorem get_str {m : Hd} {s : Str} {i : Int} : getD m (.str s) (.int i) = if s.length ≤ sizeLine then ((ixNat s.cps.toList.length i).bind fun j => s.cps.toList[j]?).map fun c => .str ⟨#[c]⟩ else none := rfl
def abc : Str := "abcdefghijklmnopqrstuvwxyz"
theorem abc_at {m : Hd} {i : Int} (h0 : 0 ≤ i) (h1 : i < 26) : getD m (.str abc) (.int i) = some (.str (ofL [97 + i.toNat])) := by
  rw [get_str]
  obtain ⟨k, rfl⟩ : ∃ k : Nat, i = k := ⟨i.toNat, by omega⟩
  have hk : k < 26 := by omega
  have : ∀ k : Fin 26, (if abc.length ≤ sizeLine then ((ixNat abc.cps.toList.length (k.val : Int)).bind fun j => abc.cps.toList[j]?).map fun c => D.str ⟨#[c]⟩ else none) = some (.str (ofL [97 + ((k.val : Nat) : Int).toNat])) := by decide
  exact this ⟨k, hk⟩
theorem join_nil : ∀ {ys : List Str}, (joinS ⟨#[]⟩ ys).cps.toList = (ys.map fun y => y.cps.toList).flatten
  | [] => rfl
  | [x] => by simp [joinS]
  | x :: y :: r => by
    have ih := join_nil (ys := y :: r)
    have e : joinS ⟨#[]⟩ (x :: y :: r) = x ++ ⟨#[]⟩ ++ joinS ⟨#[]⟩ (y :: r) := rfl
    rw [e, str_app, str_app]
    simp only [ofL_cps, ih]
    simp
end Dx
/-! LbB: drawn names -/
namespace Dx
open PySem
section
variable {T : Tb}
def lowS (s : Str) : Prop := ∀ c ∈ s.cps.toList, 97 ≤ c ∧ c < 123
theorem stem_turn [HasFn T 8 F8] (k n : Nat) (m1 : Hd) (d : D) (y1 x2 x3 x4 x6 x7 x8 x9 x10 x11 x12 : Option D) (h : isBox m1 n) :
    ∃ x m2, lcStep (.name 12) (wipeD [some (.ref n), y1, x2, x3, x4, some (.str abc), x6, x7, x8, x9, x10, x11, x12] [12]) (evT (callN T (k+1)) .yes) (evE (callN T (k+1)) (.ix (.var 5) (.call 8 [.var 0, .con (.int 26)] [.inl 0, .inl 1]))) d m1 = .ok (some x) m2 ∧ Boxed n m1 m2 ∧ ∃ c, 97 ≤ c ∧ c < 123 ∧ x = .str (ofL [c]) := by
  obtain ⟨i, m2, e, h0, h1, hb⟩ := take_is (T := T) k n m1 26 h (by omega) (by omega)
  refine ⟨_, m2, ?_, hb, 97 + i.toNat, by omega, by omega, rfl⟩
  simp [lcStep, wipeD, bindTg, e, abc_at h0 h1]
theorem strs_of : ∀ {ds xs : List D}, A2 (fun _ x => ∃ c, 97 ≤ c ∧ c < 123 ∧ x = D.str (ofL [c])) ds xs → ∃ cs : List Nat, cs.length = ds.length ∧ (∀ c ∈ cs, 97 ≤ c ∧ c < 123) ∧ strsOf xs = some (cs.map fun c => ofL [c])
  | _, _, .nil => ⟨[], rfl, fun _ z => (nomatch z), rfl⟩
  | _, _, .cons w q => by
    obtain ⟨c, h1, h2, h3⟩ := w
    subst h3
    obtain ⟨cs, e1, e2, e3⟩ := strs_of q
    refine ⟨c :: cs, by simp [e1], fun c' hc => ?_, by simp [strsOf, e3]⟩
    rcases List.mem_cons.mp hc with rfl | hc
    · exact ⟨h1, h2⟩
    · exact e2 _ hc
theorem join_cs {cs : List Nat} : joinS ⟨#[]⟩ (cs.map fun c => ofL [c]) = ofL cs := by
  have h := join_nil (ys := cs.map fun c => ofL [c])
  rw [← ofL_eta (joinS ⟨#[]⟩ (cs.map fun c => ofL [c])), h]
  congr 1
  clear h
  induction cs with
  | nil => rfl
  | cons c cs ih =>
    simp only [List.map_cons, List.flatten_cons, ih]
    rfl
theorem sum_cs : ∀ {cs : List Nat}, lenSum (cs.map fun c => ofL [c]) = cs.length
  | [] => rfl
  | c :: cs => by
    simp only [List.map_cons, lenSum, ofL_len, sum_cs, List.length_cons, List.length_nil]
    omega
/-- the words -/
def someW : Str := "things tie with cut web pull stand ends show far reach back none moved kept"
def wordsL : List Str := ["things", "tie", "with", "cut", "web", "pull", "stand", "ends", "show", "far", "reach", "back", "none", "moved", "kept"]
theorem split_some {m : Hd} : mtD .split (.str someW) [.str " "] m = .ok (.lst (wordsL.map .str)) m := by
  have e : ∀ m : Hd, mtD .split (.str someW) [.str " "] m = ifs (decide ((" " : Str).length = 1) && decide ((" " : Str).cps.getD 0 0 < 256) && decide (someW.length ≤ 1000000)) (mkL false ((splitL ((" " : Str).cps.getD 0 0) [] someW.cps.toList).map fun p => .str ⟨p.toArray⟩) m) := fun _ => rfl
  rw [e]
  have h1 : (decide ((" " : Str).length = 1) && decide ((" " : Str).cps.getD 0 0 < 256) && decide (someW.length ≤ 1000000)) = true := by decide +kernel
  have h2 : ((splitL ((" " : Str).cps.getD 0 0) [] someW.cps.toList).map fun p => D.str ⟨p.toArray⟩) = wordsL.map .str := by decide +kernel
  rw [h1, h2]
  rfl

theorem mem_range {a b : Int} {d : D} (h : d ∈ rangeD a b) : ∃ j : Nat, d = .int (a + j) ∧ (j : Int) < b - a := by
  unfold rangeD at h
  obtain ⟨j, hj, rfl⟩ := List.mem_map.mp h
  have := List.mem_range.mp hj
  exact ⟨j, rfl, by omega⟩
theorem range_len {a b : Int} : (rangeD a b).length = (b - a).toNat := by simp [rangeD]
def SmallL (xs : List Str) : Prop := xs.Nodup ∧ (∀ x ∈ xs, lowS x ∧ 1 ≤ x.length ∧ x.length ≤ 6) ∧ ("ground" : Str) ∉ xs
/-- what is drawn ahead of the forms -/
theorem names_head [HasFn T 8 F8] (k n : Nat) (m : Hd) (many : Int) (h : isBox m n) :
    ∃ i1 cs at' first side m', 0 ≤ i1 ∧ i1 < 6 ∧ cs.length ≤ 4 ∧ (∀ c ∈ cs, 97 ≤ c ∧ c < 123) ∧ 0 ≤ at' ∧ at' ≤ cs.length ∧ 0 ≤ first ∧ first < 26 ∧ (side = 1 ∨ side = -1) ∧ Boxed n m m' ∧
      ∀ (Q : Fl → Hd → Prop) (rest : List Sm), evB (callN T (k+1)) ([.asg (.tup [.name 5, .name 6]) (.tup [.con (.str "abcdefghijklmnopqrstuvwxyz"), .call 8 [.var 0, .con (.int 6)] [.inl 0, .inl 1]]),
  .asg (.name 2) (.mt .join (.con (.str "")) [.lc false [12] (.name 12) (.rng (.con (.int 0)) (.call 8 [.var 0, .con (.int 5)] [.inl 0, .inl 1])) (.yes) (.ix (.var 5) (.call 8 [.var 0, .con (.int 26)] [.inl 0, .inl 1]))]),
  .asg (.tup [.name 7, .name 8, .name 9]) (.tup [.call 8 [.var 0, .bin false .add (.bi .len [.var 2]) (.con (.int 1))] [.inl 0, .inl 1], .call 8 [.var 0, .con (.int 26)] [.inl 0, .inl 1], .ix (.lst false [.con (.int 1), .bin false .sub (.con (.int 0)) (.con (.int 1))]) (.call 8 [.var 0, .con (.int 2)] [.inl 0, .inl 1])]),
  .asg (.name 3) (.mt .split (.con (.str "things tie with cut web pull stand ends show far reach back none moved kept")) [.con (.str " ")])] ++ rest)
        [some (.ref n), some (.int many), none, none, none, none, none, none, none, none, none, none, none] m =
      evB (callN T (k+1)) rest [some (.ref n), some (.int many), some (.str (ofL cs)), some (.lst (wordsL.map .str)), none, some (.str abc), some (.int i1), some (.int at'), some (.int first), some (.int side), none, none, none] m' := by
  obtain ⟨i1, m1, e1, l1, u1, b1⟩ := take_is (T := T) k n m 6 h (by omega) (by omega)
  obtain ⟨i2, m2, e2, l2, u2, b2⟩ := take_is (T := T) k n m1 5 (b1.is h) (by omega) (by omega)
  have h2 := b2.is (b1.is h)
  obtain ⟨xs, m3, e3, b3, q3⟩ := lc_box (n := n) (ds := rangeD 0 i2) (m := m2) h2 fun d hd m1 z w => stem_turn (T := T) k n m1 d (some (.int many)) none none none (some (.int i1)) none none none none none none w
  obtain ⟨cs, c1, c2, c3⟩ := strs_of q3
  have hl : cs.length ≤ 4 := by rw [c1, range_len]; omega
  obtain ⟨i4, m4, e4, l4, u4, b4⟩ := take_is (T := T) k n m3 (cs.length + 1) (b3.is h2) (by omega) (by omega)
  have h4 := b4.is (b3.is h2)
  obtain ⟨i5, m5, e5, l5, u5, b5⟩ := take_is (T := T) k n m4 26 h4 (by omega) (by omega)
  obtain ⟨i6, m6, e6, l6, u6, b6⟩ := take_is (T := T) k n m5 2 (b5.is h4) (by omega) (by omega)
  obtain ⟨side, e7, hs⟩ : ∃ side : Int, atD [.int 1, .int (-1)] i6 = some (.int side) ∧ (side = 1 ∨ side = -1) := by
    have : i6 = 0 ∨ i6 = 1 := by omega
    rcases this with rfl | rfl
    · exact ⟨1, at_0, .inl rfl⟩
    · exact ⟨-1, at_1, .inr rfl⟩
  refine ⟨i1, cs, i4, i5, side, m6, l1, u1, hl, c2, l4, by omega, l5, u5, hs, ((((b1.trans b2).trans b3).trans b4).trans b5).trans b6, fun Q rest => ?_⟩
  have hj : joinS ⟨#[]⟩ (cs.map fun c => ofL [c]) = ofL cs := join_cs
  have hsum : lenSum (cs.map fun c => ofL [c]) = cs.length := sum_cs
  have ha : Str.ofString "abcdefghijklmnopqrstuvwxyz" = abc := rfl
  have hz : Str.ofString "" = ⟨#[]⟩ := rfl
  have hz2 : (⟨#[]⟩ : Str).length = 0 := rfl
  have hw : ∀ m : Hd, mtD .split (.str (Str.ofString "things tie with cut web pull stand ends show far reach back none moved kept")) [.str (Str.ofString " ")] m = .ok (.lst (wordsL.map .str)) m := fun m => split_some
  simp only [wipeD, List.set] at e3
  have d1 : -4611686018427387904 ≤ i2 := by omega
  have d2 : i2 < 4611686018427387904 := by omega
  have d3 : (rangeD 0 i2).length ≤ 16777216 := by rw [range_len]; omega
  have d4 : cs.length ≤ 1000000 := by omega
  have d5 : cs.length ≤ 16777216 := by omega
  simp [e1, e2, ha, rngD, bigI, e3, c3, hz, hz2, hj, hsum, d1, d2, d3, d4, d5, e4, e5, e6, e7, hw]
end
end Dx
/-! LbC: drawn names, the forms -/
namespace Dx
open PySem
theorem cut_to {α : Type} {xs : List α} {v : Int} (h : 0 ≤ v) : cut xs none (some v) = xs.take v.toNat := by
  have h' : ¬ v < 0 := by omega
  simp only [cut, sIx, h', if_false, List.drop_zero, Nat.sub_zero]
  by_cases c : v.toNat ≤ xs.length
  · rw [Nat.min_eq_left c]
  · rw [Nat.min_eq_right (by omega), List.take_of_length_le (Nat.le_refl _), List.take_of_length_le (by omega)]
theorem cut_from {α : Type} {xs : List α} {v : Int} (h : 0 ≤ v) : cut xs (some v) none = xs.drop v.toNat := by
  have h' : ¬ v < 0 := by omega
  simp only [cut, sIx, h', if_false]
  by_cases c : v.toNat ≤ xs.length
  · rw [Nat.min_eq_left c, List.take_of_length_le (by simp)]
  · rw [Nat.min_eq_right (by omega)]
    simp [List.drop_of_length_le (show xs.length ≤ v.toNat by omega)]
theorem nodup_map {α β : Type} {f : α → β} : ∀ {l : List α}, l.Nodup → (∀ a ∈ l, ∀ b ∈ l, f a = f b → a = b) → (l.map f).Nodup
  | [], _, _ => by simp
  | a :: l, h, i => by
    rw [List.nodup_cons] at h
    rw [List.map_cons, List.nodup_cons]
    refine ⟨fun hm => ?_, nodup_map h.2 fun x hx y hy => i x (List.mem_cons_of_mem _ hx) y (List.mem_cons_of_mem _ hy)⟩
    obtain ⟨b, hb, e⟩ := List.mem_map.mp hm
    rw [i b (List.mem_cons_of_mem _ hb) a List.mem_cons_self e] at hb
    exact h.1 hb
def grd : Str := "ground"
theorem grd_cps : grd.cps.toList = [103, 114, 111, 117, 110, 100] := by decide
theorem SmallL.rev {xs : List Str} (h : SmallL xs) : SmallL xs.reverse := by
  obtain ⟨h1, h2, h3⟩ := h
  refine ⟨?_, fun x hx => h2 x (List.mem_reverse.mp hx), fun hx => h3 (List.mem_reverse.mp hx)⟩
  exact List.pairwise_reverse.mpr (List.Pairwise.imp (fun h e => h e.symm) h1)
theorem range_map {a b : Int} {f : D → D} {g : Nat → D} (h : ∀ j : Nat, (j : Int) < b - a → f (.int (a + j)) = g j) : (rangeD a b).map f = (List.range (b - a).toNat).map g := by
  unfold rangeD
  rw [List.map_map]
  apply List.map_congr_left
  intro j hj
  have := List.mem_range.mp hj
  exact h j (by omega)
def qz : List Nat := [113, 122, 120, 106, 118, 107]
theorem qz_is : ("qzxjvk" : Str) = ofL qz := by decide
/-- form 0 -/
def nm0 (cs : List Nat) (o many : Nat) : List Str := (List.range (min 6 many)).map (fun j => ofL ((cs ++ qz).take (j + 1))) ++ (List.range (many - 6)).map fun k => ofL [o, 97 + 6 + k]
theorem nm0_ok {cs : List Nat} {o many b0 : Nat} (hl : cs.length ≤ 4) (hc : ∀ c ∈ cs, 97 ≤ c ∧ c < 123) (hm : many ≤ 15) (ho : 97 ≤ o ∧ o < 123) (hb : (cs ++ qz).head? = some b0) (hne : o ≠ b0) : SmallL (nm0 cs o many) := by
  have hbl : (cs ++ qz).length = cs.length + 6 := by simp [qz]
  have hbc : ∀ c ∈ cs ++ qz, 97 ≤ c ∧ c < 123 := by
    intro c hc'
    rcases List.mem_append.mp hc' with h | h
    · exact hc c h
    · have q : ∀ c ∈ qz, 97 ≤ c ∧ c < 123 := by decide
      exact q c h
  refine ⟨?_, fun x hx => ?_, fun hx => ?_⟩
  · rw [nm0, List.nodup_append]
    refine ⟨nodup_map List.nodup_range fun a ha b hb' e => ?_, nodup_map List.nodup_range fun a ha b hb' e => ?_, fun x hx y hy => ?_⟩
    · have h1 := List.mem_range.mp ha
      have h2 := List.mem_range.mp hb'
      have e := congrArg List.length (ofL_inj.mp e)
      simp only [List.length_take, hbl] at e
      omega
    · have e := ofL_inj.mp e
      simp only [List.cons.injEq, and_true, true_and] at e
      omega
    · obtain ⟨j, hj, rfl⟩ := List.mem_map.mp hx
      obtain ⟨k, hk, rfl⟩ := List.mem_map.mp hy
      intro e
      have e := congrArg List.head? (ofL_inj.mp e)
      rw [List.head?_take] at e
      simp [hb] at e
      exact hne e.symm
  · rw [nm0] at hx
    rcases List.mem_append.mp hx with hx | hx
    · obtain ⟨j, hj, rfl⟩ := List.mem_map.mp hx
      have h1 := List.mem_range.mp hj
      refine ⟨fun c hc' => hbc c (List.mem_of_mem_take hc'), ?_, ?_⟩ <;> simp only [ofL_len, List.length_take, hbl] <;> omega
    · obtain ⟨k, hk, rfl⟩ := List.mem_map.mp hx
      have h1 := List.mem_range.mp hk
      refine ⟨fun c hc' => ?_, by simp, by simp⟩
      simp only [ofL_cps, List.mem_cons, List.not_mem_nil, or_false] at hc'
      rcases hc' with rfl | rfl
      · exact ho
      · omega
  · rw [nm0] at hx
    have key : ∀ l : List Nat, ofL l = grd → l = [103, 114, 111, 117, 110, 100] := fun l e => by
      rw [← grd_cps, ← e]
      rfl
    rcases List.mem_append.mp hx with hx | hx
    · obtain ⟨j, hj, e⟩ := List.mem_map.mp hx
      have e := key _ e
      have h1 := List.mem_range.mp hj
      have e2 := congrArg List.length e
      simp only [List.length_take, hbl, List.length_cons, List.length_nil] at e2
      have e3 := congrArg (fun l => l[cs.length]?) e
      simp only [List.getElem?_take, show cs.length < j + 1 by omega, if_true] at e3
      rw [List.getElem?_append_right (Nat.le_refl _), Nat.sub_self] at e3
      have : cs.length = 0 ∨ cs.length = 1 ∨ cs.length = 2 ∨ cs.length = 3 ∨ cs.length = 4 := by omega
      rcases this with h | h | h | h | h <;> rw [h] at e3 <;> simp [qz] at e3
    · obtain ⟨k, hk, e⟩ := List.mem_map.mp hx
      have e2 := congrArg List.length (key _ e)
      simp at e2
/-- form 1 -/
def nm1 (first many : Nat) : List Str := (List.range many).map fun j => wordsL.getD ((first + j) % 15) ""
theorem words_inj : ∀ i j : Fin 15, wordsL.getD i.val "" = wordsL.getD j.val "" → i = j := by decide
theorem words_ok : ∀ i : Fin 15, (∀ c ∈ (wordsL.getD i.val "").cps.toList, 97 ≤ c ∧ c < 123) ∧ 1 ≤ (wordsL.getD i.val "").length ∧ (wordsL.getD i.val "").length ≤ 6 ∧ wordsL.getD i.val "" ≠ grd := by decide
theorem nm1_ok {first many : Nat} (hm : many ≤ 15) : SmallL (nm1 first many) := by
  refine ⟨nodup_map List.nodup_range fun a ha b hb e => ?_, fun x hx => ?_, fun hx => ?_⟩
  · have h1 := List.mem_range.mp ha
    have h2 := List.mem_range.mp hb
    have := words_inj ⟨(first + a) % 15, Nat.mod_lt _ (by omega)⟩ ⟨(first + b) % 15, Nat.mod_lt _ (by omega)⟩ e
    simp only [Fin.mk.injEq] at this
    omega
  · obtain ⟨j, hj, rfl⟩ := List.mem_map.mp hx
    obtain ⟨h1, h2, h3, h4⟩ := words_ok ⟨(first + j) % 15, Nat.mod_lt _ (by omega)⟩
    exact ⟨h1, h2, h3⟩
  · obtain ⟨j, hj, e⟩ := List.mem_map.mp hx
    exact (words_ok ⟨(first + j) % 15, Nat.mod_lt _ (by omega)⟩).2.2.2 e
/-- the other forms -/
def nm2 (hd cs : List Nat) (at' first many : Nat) : List Str := (List.range many).map fun j => ofL (((hd ++ cs.take at') ++ [97 + (first + 7 * j) % 26]) ++ cs.drop at')
theorem nm2_ok {hd cs : List Nat} {at' first many : Nat} (hm : many ≤ 15) (hl : cs.length ≤ 4) (hc : ∀ c ∈ cs, 97 ≤ c ∧ c < 123) (hh : hd = [] ∨ hd = [119]) : SmallL (nm2 hd cs at' first many) := by
  have hdc : ∀ c ∈ hd, 97 ≤ c ∧ c < 123 := by
    rcases hh with rfl | rfl
    · intro c h; cases h
    · decide
  have hdl : hd.length ≤ 1 := by rcases hh with rfl | rfl <;> simp
  have tl : (cs.take at').length + (cs.drop at').length = cs.length := by simp; omega
  refine ⟨nodup_map List.nodup_range fun a ha b hb e => ?_, fun x hx => ?_, fun hx => ?_⟩
  · have h1 := List.mem_range.mp ha
    have h2 := List.mem_range.mp hb
    have e := ofL_inj.mp e
    rw [List.append_cancel_right_eq] at e
    rw [List.append_cancel_left_eq] at e
    simp only [List.cons.injEq, and_true] at e
    omega
  · obtain ⟨j, hj, rfl⟩ := List.mem_map.mp hx
    refine ⟨fun c hc' => ?_, by simp; omega, by simp only [ofL_len, List.length_append, List.length_cons, List.length_nil]; omega⟩
    simp only [ofL_cps, List.mem_append, List.mem_cons, List.not_mem_nil, or_false] at hc'
    rcases hc' with ((h | h) | h) | h
    · exact hdc c h
    · exact hc c (List.mem_of_mem_take h)
    · omega
    · exact hc c (List.mem_of_mem_drop h)
  · obtain ⟨j, hj, e⟩ := List.mem_map.mp hx
    have key : (((hd ++ cs.take at') ++ [97 + (first + 7 * j) % 26]) ++ cs.drop at') = [103, 114, 111, 117, 110, 100] := by
      rw [← grd_cps]
      have := congrArg (fun s : Str => s.cps.toList) e
      exact this
    rcases hh with rfl | rfl
    · have e2 := congrArg List.length key
      simp only [List.length_append, List.length_cons, List.length_nil] at e2
      omega
    · simp at key
theorem abc_index : ∀ i : Fin 26, (match Builtin.Str.occurrences abc (ofL [97 + i.val]) 0 abc.length 1 with
  | j :: _ => some j
  | [] => none) = some i.val := by decide +kernel
theorem sindex_abc {m : Hd} {b : Nat} (h : 97 ≤ b ∧ b < 123) : mtD .sindex (.str abc) [.str (ofL [b])] m = .ok (.int ((b : Int) - 97)) m := by
  have e : mtD .sindex (.str abc) [.str (ofL [b])] m = match Builtin.Str.occurrences abc (ofL [b]) 0 abc.length 1 with
    | i :: _ => .ok (.int (i : Nat)) m
    | [] => .no := rfl
  have k := abc_index ⟨b - 97, by omega⟩
  simp only [show 97 + (b - 97) = b by omega] at k
  rw [e]
  cases q : Builtin.Str.occurrences abc (ofL [b]) 0 abc.length 1 with
  | nil => rw [q] at k; cases k
  | cons j r =>
    rw [q] at k
    cases k
    show R.ok (D.int ((b - 97 : Nat) : Int)) m = _
    rw [show ((b - 97 : Nat) : Int) = (b : Int) - 97 by omega]
theorem bop_addO {b : Bool} {l k : List Nat} {m : Hd} : bopD b .add (.str (ofL l)) (.str (ofL k)) m = ifs (decide (l.length + k.length ≤ 16777216)) (.ok (.str (ofL (l ++ k))) m) := by
  rw [bop_addS, ofL_app]
  simp
theorem sl_to {b : Bool} {l : List Nat} {v : Int} {m : Hd} (h : 0 ≤ v) (hl : l.length ≤ 100) : slD b (.str (ofL l)) none (some v) m = .ok (.str (ofL (l.take v.toNat))) m := by
  rw [sl_str, ofL_cps, cut_to h]
  have e : decide ((ofL l).length ≤ sizeLine) = true := decide_eq_true (by rw [ofL_len, line_eq]; omega)
  rw [e]
  rfl
theorem sl_from {b : Bool} {l : List Nat} {v : Int} {m : Hd} (h : 0 ≤ v) (hl : l.length ≤ 100) : slD b (.str (ofL l)) (some v) none m = .ok (.str (ofL (l.drop v.toNat))) m := by
  rw [sl_str, ofL_cps, cut_from h]
  have e : decide ((ofL l).length ≤ sizeLine) = true := decide_eq_true (by rw [ofL_len, line_eq]; omega)
  rw [e]
  rfl
section
variable {T : Tb}
def R9 : List Sm := [
  .iff (.cmp .eq (.var 6) (.con (.int 0))) [.asg (.name 10) (.lc false [12] (.name 12) (.rng (.con (.int 0)) (.bi .min2 [.con (.int 6), .var 1])) (.yes) (.sl false (.bin false .add (.var 2) (.con (.str "qzxjvk"))) (.con .non) (.bin false .add (.var 12) (.con (.int 1))))), .asg (.name 11) (.ix (.var 5) (.bin false .mod (.bin false .add (.mt .sindex (.var 5) [.ix (.var 10) (.con (.int 0))]) (.con (.int 1))) (.con (.int 26)))), .ret (.stp false (.bin false .add (.var 10) (.lc false [12] (.name 12) (.rng (.con (.int 6)) (.var 1)) (.yes) (.bin false .add (.var 11) (.ix (.var 5) (.var 12))))) (.var 9))] [],
  .iff (.cmp .eq (.var 6) (.con (.int 1))) [.ret (.lc false [12] (.name 12) (.rng (.con (.int 0)) (.var 1)) (.yes) (.ix (.var 3) (.bin false .mod (.bin false .add (.var 8) (.var 12)) (.con (.int 15)))))] [],
  .asg (.name 4) (.bin false .mul (.con (.str "w")) (.bi .int [.cmp .eq (.var 6) (.con (.int 2))])),
  .ret (.stp false (.lc false [12] (.name 12) (.rng (.con (.int 0)) (.var 1)) (.yes) (.bin false .add (.bin false .add (.bin false .add (.var 4) (.sl false (.var 2) (.con .non) (.var 7))) (.ix (.var 5) (.bin false .mod (.bin false .add (.var 8) (.bin false .mul (.con (.int 7)) (.var 12))) (.con (.int 26))))) (.sl false (.var 2) (.var 7) (.con .non)))) (.var 9))]
theorem form1 (call : Nat → List D → Hd → R D) (m : Hd) (x0 x10 x11 x12 : Option D) (cs : List Nat) (many at' first side : Int) (h0 : 0 ≤ first) (h1 : 0 ≤ many) (h2 : many ≤ 15) :
    evB call R9 [x0, some (.int many), some (.str (ofL cs)), some (.lst (wordsL.map .str)), none, some (.str abc), some (.int 1), some (.int at'), some (.int first), some (.int side), x10, x11, x12] m = .ok (.ret (.lst ((nm1 first.toNat many.toNat).map .str))) m := by
  have key : lcGo [] (lcStep (.name 12) [x0, some (.int many), some (.str (ofL cs)), some (.lst (wordsL.map .str)), none, some (.str abc), some (.int 1), some (.int at'), some (.int first), some (.int side), x10, x11, none] (evT call .yes) (evE call (.ix (.var 3) (.bin false .mod (.bin false .add (.var 8) (.var 12)) (.con (.int 15)))))) (rangeD 0 many) m = .ok ((nm1 first.toNat many.toNat).map .str) m := by
    have : ∀ d ∈ rangeD 0 many, lcStep (.name 12) [x0, some (.int many), some (.str (ofL cs)), some (.lst (wordsL.map .str)), none, some (.str abc), some (.int 1), some (.int at'), some (.int first), some (.int side), x10, x11, none] (evT call .yes) (evE call (.ix (.var 3) (.bin false .mod (.bin false .add (.var 8) (.var 12)) (.con (.int 15))))) d m = .ok (some ((fun d => match d with | .int j => .str (wordsL.getD ((first + j) % 15).toNat "") | _ => .non) d)) m := by
      intro d hd
      obtain ⟨j, rfl, hj⟩ := mem_range hd
      have a0 : 0 ≤ (first + (0 + j)) % 15 := Int.emod_nonneg _ (by omega)
      have a1 : (first + (0 + j)) % 15 < 15 := Int.emod_lt_of_pos _ (by omega)
      have e : atD (wordsL.map .str) ((first + (0 + j)) % 15) = some (.str (wordsL.getD ((first + (0 + j)) % 15).toNat "")) := by
        have hw : wordsL.length = 15 := rfl
        rw [at_in a0 (by rw [List.length_map, hw]; exact a1), List.getElem?_map, List.getD_eq_getElem?_getD]
        rw [List.getElem?_eq_getElem (by rw [hw]; omega)]
        rfl
      simp only [Int.zero_add] at e ⊢
      simp [lcStep, e]
    rw [lc_map rfl this]
    congr 1
    rw [range_map (g := fun j => .str (wordsL.getD ((first.toNat + j) % 15) "")) fun j hj => ?_, nm1, List.map_map]
    · simp
    · show D.str _ = _
      congr 2
      omega
  have d1 : -4611686018427387904 ≤ many := by omega
  have d2 : many < 4611686018427387904 := by omega
  have d3 : (rangeD 0 many).length ≤ 16777216 := by rw [range_len]; omega
  simp [R9, rngD, bigI, d1, d2, d3, key, PyData.eqv]
theorem form2 (call : Nat → List D → Hd → R D) (m : Hd) (x0 x10 x11 x12 : Option D) (cs : List Nat) (many at' first side fo : Int) (h0 : 0 ≤ first) (h1 : 0 ≤ many) (h2 : many ≤ 15) (hl : cs.length ≤ 4) (ha : 0 ≤ at') (hf : fo ≠ 0) (hf1 : fo ≠ 1) (hs : side = 1 ∨ side = -1) :
    ∃ hd, (hd = [] ∨ hd = [119]) ∧ evB call R9 [x0, some (.int many), some (.str (ofL cs)), some (.lst (wordsL.map .str)), none, some (.str abc), some (.int fo), some (.int at'), some (.int first), some (.int side), x10, x11, x12] m = .ok (.ret (.lst ((if side = 1 then nm2 hd cs at'.toNat first.toNat many.toNat else (nm2 hd cs at'.toNat first.toNat many.toNat).reverse).map .str))) m := by
  obtain ⟨hd, hh, he⟩ : ∃ hd, (hd = [] ∨ hd = [119]) ∧ bopD false .mul (.str "w") (.int (if fo = 2 then 1 else 0)) m = .ok (.str (ofL hd)) m := by
    by_cases c : fo = 2
    · exact ⟨[119], .inr rfl, by
        simp only [c, if_true]
        have q : repS "w" 1 = ofL [119] := by decide +kernel
        rw [← q]
        rfl⟩
    · exact ⟨[], .inl rfl, by
        simp only [c, if_false]
        have q : repS "w" 0 = ofL [] := by decide +kernel
        rw [← q]
        rfl⟩
  have hdl : hd.length ≤ 1 := by rcases hh with rfl | rfl <;> simp
  refine ⟨hd, hh, ?_⟩
  have key : lcGo [] (lcStep (.name 12) [x0, some (.int many), some (.str (ofL cs)), some (.lst (wordsL.map .str)), some (.str (ofL hd)), some (.str abc), some (.int fo), some (.int at'), some (.int first), some (.int side), x10, x11, none] (evT call .yes) (evE call (.bin false .add (.bin false .add (.bin false .add (.var 4) (.sl false (.var 2) (.con .non) (.var 7))) (.ix (.var 5) (.bin false .mod (.bin false .add (.var 8) (.bin false .mul (.con (.int 7)) (.var 12))) (.con (.int 26))))) (.sl false (.var 2) (.var 7) (.con .non))))) (rangeD 0 many) m = .ok ((nm2 hd cs at'.toNat first.toNat many.toNat).map .str) m := by
    have : ∀ d ∈ rangeD 0 many, lcStep (.name 12) [x0, some (.int many), some (.str (ofL cs)), some (.lst (wordsL.map .str)), some (.str (ofL hd)), some (.str abc), some (.int fo), some (.int at'), some (.int first), some (.int side), x10, x11, none] (evT call .yes) (evE call (.bin false .add (.bin false .add (.bin false .add (.var 4) (.sl false (.var 2) (.con .non) (.var 7))) (.ix (.var 5) (.bin false .mod (.bin false .add (.var 8) (.bin false .mul (.con (.int 7)) (.var 12))) (.con (.int 26))))) (.sl false (.var 2) (.var 7) (.con .non)))) d m = .ok (some ((fun d => match d with | .int j => .str (ofL (((hd ++ cs.take at'.toNat) ++ [97 + ((first + 7 * j) % 26).toNat]) ++ cs.drop at'.toNat)) | _ => .non) d)) m := by
      intro d hd'
      obtain ⟨j, rfl, hj⟩ := mem_range hd'
      simp only [Int.zero_add]
      have a0 : 0 ≤ (first + 7 * (j : Int)) % 26 := Int.emod_nonneg _ (by omega)
      have a1 : (first + 7 * (j : Int)) % 26 < 26 := Int.emod_lt_of_pos _ (by omega)
      have d1 : hd.length + min at'.toNat cs.length ≤ 16777216 := by omega
      have d2 : hd.length + (min at'.toNat cs.length) + 1 ≤ 16777216 := by omega
      have d3 : hd.length + (min at'.toNat cs.length) + 1 + (cs.length - at'.toNat) ≤ 16777216 := by omega
      have d4 : hd.length + (min at'.toNat cs.length + 1) + (cs.length - at'.toNat) ≤ 16777216 := by omega
      have d5 : small 7 = true := by decide
      have e2 := sl_to (b := false) (l := cs) (m := m) ha (by omega)
      have e3 := sl_from (b := false) (l := cs) (m := m) ha (by omega)
      have e4 := abc_at (m := m) a0 a1
      simp [lcStep, e2, e3, e4, bop_addO, -bop_addS, -sl_str, d1, d2, d3, d4, d5, isAbs, part, -small_iff]
    rw [lc_map rfl this]
    congr 1
    rw [range_map (g := fun j => .str (ofL (((hd ++ cs.take at'.toNat) ++ [97 + (first.toNat + 7 * j) % 26]) ++ cs.drop at'.toNat))) fun j hj => ?_, nm2, List.map_map]
    · simp
    · show D.str _ = _
      have : ((first + 7 * (0 + (j : Int))) % 26).toNat = (first.toNat + 7 * j) % 26 := by omega
      rw [this]
  have d1 : -4611686018427387904 ≤ many := by omega
  have d2 : many < 4611686018427387904 := by omega
  have d3 : (rangeD 0 many).length ≤ 16777216 := by rw [range_len]; omega
  have he' : bopD false .mul (.str (Str.ofString "w")) (.int (if fo = 2 then 1 else 0)) m = .ok (.str (ofL hd)) m := he
  rcases hs with rfl | rfl
  · simp [R9, rngD, bigI, d1, d2, d3, key, PyData.eqv, hf, hf1, he']
  · simp [R9, rngD, bigI, d1, d2, d3, key, PyData.eqv, hf, hf1, he']
theorem form0 (call : Nat → List D → Hd → R D) (m : Hd) (x0 x10 x11 x12 : Option D) (cs : List Nat) (many at' first side : Int) (h1 : 1 ≤ many) (h2 : many ≤ 15) (hl : cs.length ≤ 4) (hc : ∀ c ∈ cs, 97 ≤ c ∧ c < 123) (hs : side = 1 ∨ side = -1) :
    ∃ o b0, (97 ≤ o ∧ o < 123) ∧ (cs ++ qz).head? = some b0 ∧ o ≠ b0 ∧ evB call R9 [x0, some (.int many), some (.str (ofL cs)), some (.lst (wordsL.map .str)), none, some (.str abc), some (.int 0), some (.int at'), some (.int first), some (.int side), x10, x11, x12] m = .ok (.ret (.lst ((if side = 1 then nm0 cs o many.toNat else (nm0 cs o many.toNat).reverse).map .str))) m := by
  obtain ⟨b0, r, hb⟩ : ∃ b0 r, cs ++ qz = b0 :: r := by
    cases cs with
    | nil => exact ⟨_, _, rfl⟩
    | cons c cs => exact ⟨_, _, rfl⟩
  have hb0 : 97 ≤ b0 ∧ b0 < 123 := by
    have hm : b0 ∈ cs ++ qz := by rw [hb]; exact List.mem_cons_self
    rcases List.mem_append.mp hm with h | h
    · exact hc _ h
    · have q : ∀ c ∈ qz, 97 ≤ c ∧ c < 123 := by decide
      exact q _ h
  have a0 : 0 ≤ ((b0 : Int) - 97 + 1) % 26 := Int.emod_nonneg _ (by omega)
  have a1 : ((b0 : Int) - 97 + 1) % 26 < 26 := Int.emod_lt_of_pos _ (by omega)
  have hbl : (cs ++ qz).length = cs.length + 6 := by simp [qz]
  refine ⟨97 + (((b0 : Int) - 97 + 1) % 26).toNat, b0, ⟨by omega, by omega⟩, by rw [hb]; rfl, by omega, ?_⟩
  generalize ho : 97 + (((b0 : Int) - 97 + 1) % 26).toNat = o
  have X : ∃ X : Int, X = (if many < 6 then many else 6) := ⟨_, rfl⟩
  obtain ⟨X, hX⟩ := X
  have x1 : 1 ≤ X := by omega
  have x2 : X ≤ 6 := by omega
  have key1 : ∀ x0 x11 : Option D, lcGo [] (lcStep (.name 12) [x0, some (.int many), some (.str (ofL cs)), some (.lst (wordsL.map .str)), none, some (.str abc), some (.int 0), some (.int at'), some (.int first), some (.int side), x10, x11, none] (evT call .yes) (evE call (.sl false (.bin false .add (.var 2) (.con (.str "qzxjvk"))) (.con .non) (.bin false .add (.var 12) (.con (.int 1)))))) (rangeD 0 X) m = .ok (((List.range X.toNat).map fun j => ofL ((cs ++ qz).take (j + 1))).map .str) m := by
    intro x0 x11
    have : ∀ d ∈ rangeD 0 X, lcStep (.name 12) [x0, some (.int many), some (.str (ofL cs)), some (.lst (wordsL.map .str)), none, some (.str abc), some (.int 0), some (.int at'), some (.int first), some (.int side), x10, x11, none] (evT call .yes) (evE call (.sl false (.bin false .add (.var 2) (.con (.str "qzxjvk"))) (.con .non) (.bin false .add (.var 12) (.con (.int 1))))) d m = .ok (some ((fun d => match d with | .int j => .str (ofL ((cs ++ qz).take (j + 1).toNat)) | _ => .non) d)) m := by
      intro d hd'
      obtain ⟨j, rfl, hj⟩ := mem_range hd'
      simp only [Int.zero_add]
      have e2 := sl_to (b := false) (l := cs ++ qz) (v := (j : Int) + 1) (m := m) (by omega) (by rw [hbl]; omega)
      have e3 : Str.ofString "qzxjvk" = ofL qz := qz_is
      have d1 : cs.length + qz.length ≤ 16777216 := by rw [show qz.length = 6 from rfl]; omega
      simp [lcStep, e2, e3, bop_addO, -bop_addS, -sl_str, d1, isAbs, part]
    rw [lc_map rfl this]
    congr 1
    rw [range_map (g := fun j => .str (ofL ((cs ++ qz).take (j + 1)))) fun j hj => ?_, List.map_map]
    · simp
    · show D.str _ = _
      have : (0 + (j : Int) + 1).toNat = j + 1 := by omega
      rw [this]
  have hat : atD ((((List.range X.toNat).map fun j => ofL ((cs ++ qz).take (j + 1))).map .str)) 0 = some (.str (ofL [b0])) := by
    obtain ⟨k, hk⟩ : ∃ k, X.toNat = k + 1 := ⟨X.toNat - 1, by omega⟩
    rw [hk, List.range_succ_eq_map, List.map_cons, List.map_cons, at_0, hb]
    rfl
  have hidx := sindex_abc (m := m) hb0
  have habc := abc_at (m := m) a0 a1
  rw [ho] at habc
  have key2 : ∀ x0 x10 : Option D, lcGo [] (lcStep (.name 12) [x0, some (.int many), some (.str (ofL cs)), some (.lst (wordsL.map .str)), none, some (.str abc), some (.int 0), some (.int at'), some (.int first), some (.int side), x10, some (.str (ofL [o])), none] (evT call .yes) (evE call (.bin false .add (.var 11) (.ix (.var 5) (.var 12))))) (rangeD 6 many) m = .ok (((List.range (many.toNat - 6)).map fun k => ofL [o, 97 + 6 + k]).map .str) m := by
    intro x0 x10
    have : ∀ d ∈ rangeD 6 many, lcStep (.name 12) [x0, some (.int many), some (.str (ofL cs)), some (.lst (wordsL.map .str)), none, some (.str abc), some (.int 0), some (.int at'), some (.int first), some (.int side), x10, some (.str (ofL [o])), none] (evT call .yes) (evE call (.bin false .add (.var 11) (.ix (.var 5) (.var 12)))) d m = .ok (some ((fun d => match d with | .int j => .str (ofL [o, 97 + j.toNat]) | _ => .non) d)) m := by
      intro d hd'
      obtain ⟨j, rfl, hj⟩ := mem_range hd'
      have e4 := abc_at (m := m) (i := 6 + j) (by omega) (by omega)
      simp [lcStep, e4, bop_addO, -bop_addS]
    rw [lc_map rfl this]
    congr 1
    rw [range_map (g := fun k => .str (ofL [o, 97 + 6 + k])) fun j hj => ?_, List.map_map]
    · rw [show (many - 6).toNat = many.toNat - 6 by omega]
      simp
    · show D.str _ = _
      have : 97 + (6 + (j : Int)).toNat = 97 + 6 + j := by omega
      rw [this]
  have d1 : -4611686018427387904 ≤ many := by omega
  have d2 : many < 4611686018427387904 := by omega
  have d3 : (rangeD 6 many).length ≤ 16777216 := by rw [range_len]; omega
  have d4 : -4611686018427387904 ≤ X := by omega
  have d5 : X < 4611686018427387904 := by omega
  have d6 : (rangeD 0 X).length ≤ 16777216 := by rw [range_len]; omega
  have d7 : X.toNat + (many.toNat - 6) ≤ 16777216 := by omega
  have hmin : min 6 many.toNat = X.toNat := by omega
  rcases hs with rfl | rfl
  · simp [R9, rngD, bigI, d1, d2, d3, d4, d5, d6, d7, key1, key2, PyData.eqv, hX.symm, hat, hidx, habc, nm0, hmin, -List.map_map]
  · simp [R9, rngD, bigI, d1, d2, d3, d4, d5, d6, d7, key1, key2, PyData.eqv, hX.symm, hat, hidx, habc, nm0, hmin, -List.map_map]
end
end Dx
namespace Dx
open PySem
theorem nm0_len {cs : List Nat} {o many : Nat} : (nm0 cs o many).length = many := by simp [nm0]; omega
theorem nm1_len {first many : Nat} : (nm1 first many).length = many := by simp [nm1]
theorem nm2_len {hd cs : List Nat} {at' first many : Nat} : (nm2 hd cs at' first many).length = many := by simp [nm2]
theorem names_is {T : Tb} [HasFn T 8 F8] [HasFn T 9 F9] (k n : Nat) (m : Hd) (many : Int) (h : isBox m n) (h1 : 1 ≤ many) (h2 : many ≤ 15) :
    ∃ xs m', callN T (k+2) 9 [.ref n, .int many] m = .ok (.lst (xs.map .str)) m' ∧ Boxed n m m' ∧ xs.length = many.toNat ∧ SmallL xs := by
  obtain ⟨i1, cs, at', first, side, m', l1, u1, hl, hc, l2, u2, l3, u3, hs, hb, ev⟩ := names_head (T := T) k n m many h
  have body : ∀ ds, evB (callN T (k+1)) R9 [some (.ref n), some (.int many), some (.str (ofL cs)), some (.lst (wordsL.map .str)), none, some (.str abc), some (.int i1), some (.int at'), some (.int first), some (.int side), none, none, none] m' = .ok (.ret ds) m' →
      callN T (k+2) 9 [.ref n, .int many] m = .ok ds m' := by
    intro ds e
    rw [call_of F9]
    have := ev (fun _ _ => True) R9
    rw [e] at this
    exact run_no (f := F9) rfl rfl this
  by_cases c0 : i1 = 0
  · subst c0
    obtain ⟨o, b0, ho, hb0, hne, e⟩ := form0 (callN T (k+1)) m' (some (.ref n)) none none none cs many at' first side h1 h2 hl hc hs
    have ok := nm0_ok (many := many.toNat) hl hc (by omega) ho hb0 hne
    refine ⟨_, m', body _ e, hb, ?_, ?_⟩
    · split
      · exact nm0_len
      · rw [List.length_reverse]; exact nm0_len
    · split
      · exact ok
      · exact ok.rev
  · by_cases c1 : i1 = 1
    · subst c1
      have e := form1 (callN T (k+1)) m' (some (.ref n)) none none none cs many at' first side l3 (by omega) h2
      exact ⟨_, m', body _ e, hb, nm1_len, nm1_ok (by omega)⟩
    · obtain ⟨hd, hh, e⟩ := form2 (callN T (k+1)) m' (some (.ref n)) none none none cs many at' first side i1 l3 (by omega) h2 hl l2 c0 c1 hs
      have ok := nm2_ok (many := many.toNat) (at' := at'.toNat) (first := first.toNat) (by omega) hl hc hh
      refine ⟨_, m', body _ e, hb, ?_, ?_⟩
      · split
        · exact nm2_len
        · rw [List.length_reverse]; exact nm2_len
      · split
        · exact ok
        · exact ok.rev
end Dx
/-! LbD: drawn ties -/
namespace Dx
open PySem
/-! dicts by texts -/
abbrev SL := List (Str × Int)
def encS (l : SL) : List (D × D) := l.map fun e => (.str e.1, .int e.2)
def lookS : SL → Str → Option Int
  | [], _ => none
  | e :: l, p => if e.1 = p then some e.2 else lookS l p
theorem find_encS {p : Str} : ∀ {l : SL}, find (encS l) (.str p) = (lookS l p).map .int
  | [] => rfl
  | e :: l => by
    have ih := find_encS (l := l) (p := p)
    unfold find at ih ⊢
    simp only [encS, List.map_cons, List.find?_cons, beq_str, lookS]
    by_cases h : e.1 = p
    · simp [h]
    · simp only [h, decide_false, if_false]
      exact ih
theorem putS_new {l : SL} {p : Str} {i : Int} (h : p ∉ l.map (·.1)) : put (encS l) (.str p) (.int i) = encS (l ++ [(p, i)]) := by
  unfold put
  have : ((encS l).any fun q => D.beq q.1 (.str p)) = false := by
    simp only [encS, List.any_map, List.any_eq_false]
    intro e he
    simp only [Function.comp, beq_str, decide_eq_true_eq]
    intro z
    exact h (List.mem_map.mpr ⟨e, he, z⟩)
  rw [this]
  simp [encS]
theorem pairsS : ∀ {l a : SL}, ((a ++ l).map (·.1)).Nodup → pairsD false (l.map fun e => .tup [.str e.1, .int e.2]) (encS a) = some (encS (a ++ l))
  | [], a, _ => by simp [pairsD]
  | e :: l, a, h => by
    show (if keyOk false (.str e.1) then pairsD false (l.map fun e => .tup [.str e.1, .int e.2]) (put (encS a) (.str e.1) (.int e.2)) else none) = _
    rw [if_pos (show keyOk false (D.str e.1) = true from rfl), putS_new, pairsS]
    · simp
    · simpa using h
    · intro hm
      rw [List.map_append, List.nodup_append] at h
      exact h.2.2 _ hm _ (by simp) rfl
theorem zip_map {xs : List Str} {ys : List Int} : zipD (xs.map .str) (ys.map .int) = (xs.zip ys).map fun e => .tup [.str e.1, .int e.2] := by
  unfold zipD
  rw [List.zip_map, List.map_map]
  rfl
theorem lookS_mem {x : Str} {v : Int} : ∀ {l : SL}, (l.map (·.1)).Nodup → (x, v) ∈ l → lookS l x = some v
  | [], _, h => nomatch h
  | e :: l, hn, h => by
    simp only [List.map_cons, List.nodup_cons] at hn
    simp only [lookS]
    rcases List.mem_cons.mp h with rfl | h
    · simp
    · have : e.1 ≠ x := fun z => hn.1 (List.mem_map.mpr ⟨_, h, z.symm⟩)
      simp only [this, if_false]
      exact lookS_mem hn.2 h
theorem lookS_some {x : Str} {v : Int} : ∀ {l : SL}, lookS l x = some v → (x, v) ∈ l
  | [], h => by cases h
  | e :: l, h => by
    simp only [lookS] at h
    split at h
    next c =>
      cases h
      rw [← c]
      exact List.mem_cons_self
    next => exact List.mem_cons_of_mem _ (lookS_some h)
theorem lookS_in {x : Str} : ∀ {l : SL}, x ∈ l.map (·.1) → ∃ v, lookS l x = some v
  | e :: l, h => by
    simp only [lookS]
    by_cases c : e.1 = x
    · exact ⟨e.2, by simp [c]⟩
    · simp only [c, if_false]
      rcases List.mem_cons.mp h with h | h
      · exact absurd h.symm c
      · exact lookS_in h
/-! ties -/
theorem mem_put {l : AL} {p : Pr} {i : Int} {e : Pr × Int} (h : e ∈ putA l p i) : e ∈ l ∨ e = (p, i) := by
  unfold putA at h
  split at h
  · obtain ⟨x, hx, q⟩ := List.mem_map.mp h
    split at q
    next c => right; rw [← q, c]
    next => left; rw [← q]; exact hx
  · simpa using h
theorem put_keys {l : AL} {p : Pr} {i : Int} (h : (l.map (·.1)).Nodup) : ((putA l p i).map (·.1)).Nodup := by
  unfold putA
  split
  next c =>
    have : (repA l p i).map (·.1) = l.map (·.1) := by
      unfold repA
      rw [List.map_map]
      apply List.map_congr_left
      intro e _
      simp only [Function.comp]
      split <;> rfl
    rw [this]
    exact h
  next c =>
    rw [List.map_append, List.nodup_append]
    refine ⟨h, by simp, fun a ha b hb e => ?_⟩
    simp only [List.map_cons, List.map_nil, List.mem_cons, List.not_mem_nil, or_false] at hb
    subst hb e
    obtain ⟨x, hx, q⟩ := List.mem_map.mp ha
    apply c
    unfold hasA
    rw [List.any_eq_true]
    exact ⟨x, hx, by simpa using q⟩
structure TieOk (N : List Str) (P : Str → Int) (l : AL) : Prop where
  nd : (l.map (·.1)).Nodup
  ok : ∀ e ∈ l, e.1.1 ∈ N ∧ e.1.2 ∈ N ∧ e.1.1 ≠ e.1.2 ∧ P e.1.2 - P e.1.1 ≤ e.2 ∧ -1000000000 ≤ e.2 ∧ e.2 ≤ 1000000000
theorem TieOk.put {N : List Str} {P : Str → Int} {l : AL} (h : TieOk N P l) {a b : Str} {i : Int} (h1 : a ∈ N) (h2 : b ∈ N) (h3 : a ≠ b) (h4 : P b - P a ≤ i) (h5 : -1000000000 ≤ i) (h6 : i ≤ 1000000000) : TieOk N P (putA l (a, b) i) := by
  refine ⟨put_keys h.nd, fun e he => ?_⟩
  rcases mem_put he with he | rfl
  · exact h.ok e he
  · exact ⟨h1, h2, h3, h4, h5, h6⟩
theorem put_enc2 {l : AL} {a b : Str} {i : Int} : put (enc l) (.tup [.str a, .str b]) (.int i) = enc (putA l (a, b) i) := put_enc (p := (a, b))
theorem find_enc2 {l : AL} {a b : Str} : find (enc l) (.tup [.str a, .str b]) = (look l (a, b)).map .int := find_enc (p := (a, b))
section
variable {T : Tb}
theorem take_app [HasFn T 8 F8] (k n : Nat) (m e : Hd) (many : Int) (h : isBox m n) (hm : 0 < many) (hs : many < 2^64) :
    ∃ i m2, callN T (k+1) 8 [.ref n, .int many] (m ++ e) = .ok (.int i) (m2 ++ e) ∧ 0 ≤ i ∧ i < many ∧ Boxed n m m2 := by
  obtain ⟨i, m', e1, h1, h2, hb⟩ := take_is (T := T) k n (m ++ e) many h.app hm hs
  obtain ⟨m2, b2, rfl⟩ := hb.app h.lt
  exact ⟨i, m2, e1, h1, h2, b2⟩
theorem at_map {N : List Str} {i : Int} (h0 : 0 ≤ i) (h1 : i < N.length) : ∃ x, N[i.toNat]? = some x ∧ x ∈ N ∧ atD (N.map .str) i = some (.str x) := by
  have hl : i.toNat < N.length := by omega
  refine ⟨N[i.toNat], List.getElem?_eq_getElem hl, List.getElem_mem hl, ?_⟩
  rw [at_in h0 (by simpa using h1), List.getElem?_map, List.getElem?_eq_getElem hl]
  rfl
theorem get_len {m : Hd} {o : O} {p : Nat} (h : m.length = p) : (m ++ [o])[p]? = some o := by subst h; simp
theorem set_len {m : Hd} {o o' : O} {p : Nat} (h : m.length = p) : (m ++ [o]).set p o' = m ++ [o'] := by subst h; simp
theorem ties_turn [HasFn T 8 F8] (k n p : Nat) (m1 : Hd) (l : AL) (N : List Str) (P : Str → Int) (pl : List (D × D)) (wide : Int) (x5 x6 x7 x8 x9 : Option D) (hb : isBox m1 n) (hp : m1.length = p) (hN : N.Nodup) (hN2 : 2 ≤ N.length) (hN3 : N.length ≤ 100) (hpl : ∀ x ∈ N, find pl (.str x) = some (.int (P x)))
    (hP : ∀ x ∈ N, -200000000 ≤ P x ∧ P x ≤ 200000000) (hw0 : 0 ≤ wide) (hw : wide ≤ 200000000) (ht : TieOk N P l) (hll : l.length ≤ 10000) :
    ∃ y6 y7 y8 y9 m2 l', evB (callN T (k+1)) F10_0 [some (.ref n), some (.lst (N.map .str)), some (.dct false pl), some (.int wide), some (.ref p), x5, x6, x7, x8, x9] (m1 ++ [.dct true (enc l)]) =
      .ok (.next [some (.ref n), some (.lst (N.map .str)), some (.dct false pl), some (.int wide), some (.ref p), x5, y6, y7, y8, y9]) (m2 ++ [.dct true (enc l')]) ∧ Boxed n m1 m2 ∧ TieOk N P l' ∧ l'.length ≤ l.length + 2 := by
  obtain ⟨i1, m2, e1, l1, u1, b1⟩ := take_app (T := T) k n m1 [.dct true (enc l)] N.length hb (by omega) (by omega)
  have h1 := b1.is hb
  obtain ⟨i2, m3, e2, l2, u2, b2⟩ := take_app (T := T) k n m2 [.dct true (enc l)] (N.length - 1) h1 (by omega) (by omega)
  have h2 := b2.is h1
  obtain ⟨i3, m4, e3, l3, u3, b3⟩ := take_app (T := T) k n m3 [.dct true (enc l)] 4 h2 (by omega) (by omega)
  have h3 := b3.is h2
  obtain ⟨i4, m5, e4, l4, u4, b4⟩ := take_app (T := T) k n m4 [.dct true (enc l)] 30 h3 (by omega) (by omega)
  have h4 := b4.is h3
  obtain ⟨i5, m6, e5, l5, u5, b5⟩ := take_app (T := T) k n m5 [.dct true (enc l)] (wide + 1) h4 (by omega) (by omega)
  have h5 := b5.is h4
  obtain ⟨i6, m7, e6, l6, u6, b6⟩ := take_app (T := T) k n m6 [.dct true (enc l)] 4 h5 (by omega) (by omega)
  have h6 := b6.is h5
  have c0 : 0 ≤ (i1 + 1 + i2) % (N.length : Int) := Int.emod_nonneg _ (by omega)
  have c1 : (i1 + 1 + i2) % (N.length : Int) < N.length := Int.emod_lt_of_pos _ (by omega)
  obtain ⟨a, ga, ma, ea⟩ := at_map l1 u1
  obtain ⟨b, gb, mb, eb⟩ := at_map c0 c1
  have hne : a ≠ b := by
    intro e
    subst e
    have hh : i1.toNat = ((i1 + 1 + i2) % (N.length : Int)).toNat := by
      have q1 := (List.getElem?_eq_some_iff.mp ga)
      have q2 := (List.getElem?_eq_some_iff.mp gb)
      exact (List.getElem_inj hN).mp (q1.2.trans q2.2.symm)
    have hh2 : i1 = (i1 + 1 + i2) % (N.length : Int) := by omega
    by_cases c : i1 + 1 + i2 < N.length
    · rw [Int.emod_eq_of_lt (by omega) c] at hh2; omega
    · have : (i1 + 1 + i2) % (N.length : Int) = i1 + 1 + i2 - N.length := by
        rw [← Int.sub_emod_right, Int.emod_eq_of_lt (by omega) (by omega)]
      omega
  obtain ⟨s, es, s0, s1⟩ : ∃ s : Int, atD [.int 0, .int i3, .int i4, .int i5] i6 = some (.int s) ∧ 0 ≤ s ∧ s ≤ 200000030 := by
    have : i6 = 0 ∨ i6 = 1 ∨ i6 = 2 ∨ i6 = 3 := by omega
    rcases this with rfl | rfl | rfl | rfl
    · exact ⟨_, at_0, by omega, by omega⟩
    · exact ⟨_, at_1, by omega, by omega⟩
    · exact ⟨_, at_2, by omega, by omega⟩
    · exact ⟨_, at_3, by omega, by omega⟩
  have pa := hpl a ma
  have pb := hpl b mb
  have ba := hP a ma
  have bb := hP b mb
  have hbx : Boxed n m1 m7 := ((((b1.trans b2).trans b3).trans b4).trans b5).trans b6
  have hl7 : m7.length = p := by rw [hbx.len, hp]
  have t1 := ht.put (i := P b - P a + s) ma mb hne (by omega) (by omega) (by omega)
  have d1 : l.length < 16777216 := by omega
  have pl1 := put_length (l := l) (p := (a, b)) (i := P b - P a + s)
  have d2 : (putA l (a, b) (P b - P a + s)).length < 16777216 := by omega
  have gl := get_len (o := .dct true (enc l)) hl7
  have sl := set_len (o := .dct true (enc l)) (o' := .dct true (enc (putA l (a, b) (P b - P a + s)))) hl7
  have dn : 0 < N.length := by omega
  by_cases cs : s = 0
  · subst cs
    simp only [Int.add_zero] at t1 d2 pl1 sl
    obtain ⟨i7, m8, e7, l7, u7, b7⟩ := take_app (T := T) k n m7 [.dct true (enc (putA l (a, b) (P b - P a)))] 3 h6 (by omega) (by omega)
    have hl8 : m8.length = p := by rw [b7.len, hl7]
    have gl8 := get_len (o := .dct true (enc (putA l (a, b) (P b - P a)))) hl8
    by_cases c7 : i7 = 0
    · subst c7
      refine ⟨some (.int i1), some (.int 0), some (.str a), some (.str b), m8, putA (putA l (a, b) (P b - P a)) (b, a) (P a - P b), ?_, hbx.trans b7, t1.put mb ma (Ne.symm hne) (by omega) (by omega) (by omega), by have := put_length (l := putA l (a, b) (P b - P a)) (p := (b, a)) (i := P a - P b); omega⟩
      have sl8 := set_len (o := .dct true (enc (putA l (a, b) (P b - P a)))) (o' := .dct true (enc (putA (putA l (a, b) (P b - P a)) (b, a) (P a - P b)))) hl8
      simp [F10_0, e1, e2, e3, e4, e5, e6, e7, ea, eb, es, pa, pb, gl, gl8, put_enc2, sl, sl8, d1, d2, keyOk, isK, dn]
    · refine ⟨some (.int i1), some (.int 0), some (.str a), some (.str b), m8, putA l (a, b) (P b - P a), ?_, hbx.trans b7, t1, by omega⟩
      simp [F10_0, e1, e2, e3, e4, e5, e6, e7, ea, eb, es, pa, pb, gl, gl8, put_enc2, sl, d1, d2, keyOk, isK, dn, c7]
  · refine ⟨some (.int i1), some (.int s), some (.str a), some (.str b), m7, putA l (a, b) (P b - P a + s), ?_, hbx, t1, by omega⟩
    simp [F10_0, e1, e2, e3, e4, e5, e6, ea, eb, es, pa, pb, gl, put_enc2, sl, d1, d2, keyOk, isK, dn, cs]
end
end Dx
/-! LbE: drawn webs -/
namespace Dx
open PySem
theorem keep_of {k : Nat} : ∀ {m m' : Hd}, m.length ≤ m'.length → (∀ (i : Nat) (o o' : O), m[i]? = some o → m'[i]? = some o' → o = o' ∨ O.und k o' = true) → keepOk k m m' = true
  | [], _, _, _ => by simp [keepOk]
  | o :: m, [], h, _ => by simp at h
  | o :: m, o' :: m', h, g => by
    simp only [keepOk, Bool.and_eq_true, Bool.or_eq_true, decide_eq_true_eq]
    exact ⟨g 0 o o' rfl rfl, keep_of (by simpa using h) fun i a b e1 e2 => g (i + 1) a b (by simpa using e1) (by simpa using e2)⟩
theorem Boxed.keep {n k : Nat} {m m' e : Hd} (h : Boxed n m m') (hb : isBox m n) : keepOk k m (m' ++ e) = true := by
  refine keep_of (by rw [List.length_append, h.len]; omega) fun i o o' e1 e2 => ?_
  have hi : i < m.length := (List.getElem?_eq_some_iff.mp e1).1
  rw [List.getElem?_append_left (by rw [h.len]; exact hi)] at e2
  by_cases c : i = n
  · subst c
    obtain ⟨a, b, c, e3⟩ := h.is hb
    rw [e3] at e2
    cases e2
    exact .inr rfl
  · rw [h.get c, e1] at e2
    cases e2
    exact .inl rfl
theorem Boxed.cut {n : Nat} {m m' e : Hd} (h : Boxed n m m') : (m' ++ e).take m.length = m' := by
  rw [← h.len, List.take_left']
  rfl
theorem keep_same {k : Nat} {m e : Hd} : keepOk k m (m ++ e) = true := keep_app
theorem take_same {m e : Hd} : (m ++ e).take m.length = m := List.take_left' rfl
theorem und_enc {k : Nat} : ∀ {l : AL}, D.undP k (enc l) = true
  | [] => rfl
  | e :: l => by
    show (D.und k (kyD e.1) && D.und k (.int e.2) && D.undP k (enc l)) = true
    rw [und_enc (l := l)]
    rfl
theorem und_strs {k : Nat} : ∀ {l : List Str}, D.undL k (l.map .str) = true
  | [] => rfl
  | e :: l => by
    show (D.und k (.str e) && D.undL k (l.map .str)) = true
    rw [und_strs (l := l)]
    rfl
theorem und_ints {k : Nat} : ∀ {l : List Int}, D.undL k (l.map .int) = true
  | [] => rfl
  | e :: l => by
    show (D.und k (.int e) && D.undL k (l.map .int)) = true
    rw [und_ints (l := l)]
    rfl
def triD (e : Pr × Int) : D := .tup [.str e.1.1, .str e.1.2, .int e.2]
theorem und_tris {k : Nat} : ∀ {l : AL}, D.undL k (l.map triD) = true
  | [] => rfl
  | e :: l => by
    show (D.und k (triD e) && D.undL k (l.map triD)) = true
    rw [und_tris (l := l)]
    rfl
def webD (N : List Str) (ts : AL) : D := .tup [.nms N, .tup (ts.map triD)]
section
variable {T : Tb}
theorem ties_is [HasFn T 8 F8] [HasFn T 10 F10] (k n : Nat) (m : Hd) (N : List Str) (P : Str → Int) (pl : List (D × D)) (wide : Int) (hb : isBox m n) (hN : N.Nodup) (hN2 : 2 ≤ N.length) (hN3 : N.length ≤ 100) (hpl : ∀ x ∈ N, find pl (.str x) = some (.int (P x)))
    (hP : ∀ x ∈ N, -200000000 ≤ P x ∧ P x ≤ 200000000) (hw0 : 0 ≤ wide) (hw : wide ≤ 200000000) :
    ∃ l m', callN T (k+2) 10 [.ref n, .lst (N.map .str), .dct false pl, .int wide] m = .ok (.dct true (enc l)) m' ∧ Boxed n m m' ∧ TieOk N P l ∧ l.length ≤ 2 * (2 * N.length + 2) := by
  obtain ⟨i0, m1, e0, l0, u0, b0⟩ := take_app (T := T) k n m [.dct true (enc [])] (2 * N.length + 2) hb (by omega) (by omega)
  have loop : Is (frGo [] (.name 5) (evB (callN T (k+1)) F10_0) (rangeD 0 i0) [some (.ref n), some (.lst (N.map .str)), some (.dct false pl), some (.int wide), some (.ref m.length), none, none, none, none, none] (m1 ++ [.dct true (enc [])]))
      fun f m' => ∃ s l m2, f = .next s ∧ (∃ y5 y6 y7 y8 y9, s = [some (.ref n), some (.lst (N.map .str)), some (.dct false pl), some (.int wide), some (.ref m.length), y5, y6, y7, y8, y9]) ∧ m' = m2 ++ [.dct true (enc l)] ∧ Boxed n m m2 ∧ TieOk N P l ∧ l.length ≤ 2 * (rangeD 0 i0).length := by
    refine fr_inv (fun pre s m' => ∃ l m2, (∃ y5 y6 y7 y8 y9, s = [some (.ref n), some (.lst (N.map .str)), some (.dct false pl), some (.int wide), some (.ref m.length), y5, y6, y7, y8, y9]) ∧ m' = m2 ++ [.dct true (enc l)] ∧ Boxed n m m2 ∧ TieOk N P l ∧ l.length ≤ 2 * pre.length)
      ⟨[], m1, ⟨_, _, _, _, _, rfl⟩, rfl, b0, ⟨by simp, fun e h => nomatch h⟩, by simp⟩ (fun _ _ _ _ => rfl) (fun pre d post s m' hd ⟨l, m2, ⟨y5, y6, y7, y8, y9, hs⟩, hm, b2, t2, z2⟩ => ?_) (fun s m' ⟨l, m2, hs, hm, b2, t2, z2⟩ => ⟨s, l, m2, rfl, hs, hm, b2, t2, z2⟩)
    subst hs hm
    have hln := congrArg List.length hd
    rw [range_len, List.length_append, List.length_cons] at hln
    refine ⟨_, by rw [bind_n], ?_⟩
    obtain ⟨z6, z7, z8, z9, m3, l', ev, b3, t3, q3⟩ := ties_turn (T := T) k n m.length m2 l N P pl wide (some d) y6 y7 y8 y9 (b2.is hb) b2.len hN hN2 hN3 hpl hP hw0 hw t2 (by omega)
    show Is (evB (callN T (k+1)) F10_0 [some (.ref n), some (.lst (N.map .str)), some (.dct false pl), some (.int wide), some (.ref m.length), some d, y6, y7, y8, y9] (m2 ++ [.dct true (enc l)])) _
    rw [ev]
    exact ⟨l', m3, ⟨_, _, _, _, _, rfl⟩, rfl, b2.trans b3, t3, by rw [List.length_append]; simp; omega⟩
  obtain ⟨f, m', e1, s, l, m2, rfl, ⟨y5, y6, y7, y8, y9, rfl⟩, rfl, b2, t2, z2⟩ := loop.ok
  rw [range_len] at z2
  refine ⟨l, m2, ?_, b2, t2, by omega⟩
  rw [call_of F10, run_gc (m' := m2 ++ [.dead]) (d := .dct true (enc l)) rfl rfl ?_ (by simp only [D.und]; exact und_enc) (b2.keep hb), b2.cut]
  have gl := get_len (o := .dct true (enc l)) (show m2.length = m.length from b2.len)
  have sl := set_len (o := .dct true (enc l)) (o' := .dead) (show m2.length = m.length from b2.len)
  have d1 : -4611686018427387904 ≤ i0 := by omega
  have d2 : i0 < 4611686018427387904 := by omega
  have d3 : small 2 = true := by decide
  have e0' : callN T (k+1) 8 [.ref n, .int (2 * N.length + 2)] (m ++ [.dct true []]) = .ok (.int i0) (m1 ++ [.dct true (enc [])]) := e0
  simp [F10, e0', rngD, bigI, d1, d2, d3, e1, gl, sl, -small_iff]
/-! sorted, as rows -/
def keysOf (l : AL) : List Pr := (l.map (·.1)).mergeSort lePr
def rowsOf (l : AL) : AL := (keysOf l).map fun p => (p, (look l p).getD 0)
theorem prD_ky {p : Pr} : prD (kyD p) = some p := rfl
theorem sort_rows {l : AL} : sortable ((enc l).map (·.1)) = true ∧ sortD ((enc l).map (·.1)) = (keysOf l).map kyD := by
  have e : (enc l).map (·.1) = (l.map (·.1)).map kyD := by simp [enc]
  rw [e]
  refine ⟨by simp [sortable, prD_ky], ?_⟩
  unfold sortD keysOf
  have : (((l.map (·.1)).map kyD).filterMap prD) = l.map (·.1) := by
    rw [List.filterMap_map]
    have : (prD ∘ kyD) = some := funext fun p => prD_ky
    rw [this, List.filterMap_some]
  rw [this]
  rfl
theorem keys_perm {l : AL} : (keysOf l).Perm (l.map (·.1)) := List.mergeSort_perm ..
theorem look_mem {l : AL} : ∀ {p : Pr} {v : Int}, look l p = some v → (p, v) ∈ l := by
  induction l with
  | nil => intro p v h; cases h
  | cons e l ih =>
    intro p v h
    simp only [look] at h
    split at h
    next c =>
      cases h
      rw [← c]
      exact List.mem_cons_self
    next => exact List.mem_cons_of_mem _ (ih h)
theorem look_in {l : AL} : ∀ {p : Pr}, p ∈ l.map (·.1) → ∃ v, look l p = some v := by
  induction l with
  | nil => intro p h; cases h
  | cons e l ih =>
    intro p h
    simp only [look]
    by_cases c : e.1 = p
    · exact ⟨e.2, by simp [c]⟩
    · simp only [c, if_false]
      rcases List.mem_cons.mp h with h | h
      · exact absurd h.symm c
      · exact ih h
theorem look_map {f : Pr → Int} : ∀ {ks : List Pr} {p : Pr}, look (ks.map fun p => (p, f p)) p = if p ∈ ks then some (f p) else none
  | [], p => by simp [look]
  | q :: ks, p => by
    simp only [List.map_cons, look]
    by_cases c : q = p
    · subst c; simp
    · simp only [c, if_false, look_map, List.mem_cons, show ¬ p = q from fun z => c z.symm, false_or]
theorem rows_look {l : AL} {p : Pr} : look (rowsOf l) p = look l p := by
  unfold rowsOf
  rw [look_map]
  by_cases c : p ∈ keysOf l
  · rw [if_pos c]
    obtain ⟨v, hv⟩ := look_in (keys_perm.mem_iff.mp c)
    rw [hv]
    rfl
  · rw [if_neg c]
    cases h : look l p with
    | none => rfl
    | some v => exact absurd (keys_perm.mem_iff.mpr (List.mem_map.mpr ⟨_, look_mem h, rfl⟩)) c
theorem rows_keys {l : AL} : (rowsOf l).map (·.1) = keysOf l := by
  unfold rowsOf
  rw [List.map_map]
  exact List.map_id _
theorem rows_ok {N : List Str} {P : Str → Int} {l : AL} (h : TieOk N P l) : TieOk N P (rowsOf l) ∧ (rowsOf l).length = l.length := by
  refine ⟨⟨by rw [rows_keys]; exact keys_perm.nodup_iff.mpr h.nd, fun e he => ?_⟩, ?_⟩
  · obtain ⟨p, hp, rfl⟩ := List.mem_map.mp he
    obtain ⟨v, hv⟩ := look_in (keys_perm.mem_iff.mp hp)
    have := h.ok _ (look_mem hv)
    rw [hv]
    exact this
  · have h1 := congrArg List.length (rows_keys (l := l))
    have h2 := (keys_perm (l := l)).length_eq
    simp only [List.length_map] at h1 h2
    omega
theorem by_is [HasFn T 11 F11] (k : Nat) (m : Hd) (N : List Str) (l : AL) (hl : l.length ≤ 1000) (hN : N.length ≤ 1000) : callN T (k+1) 11 [.lst (N.map .str), .dct true (enc l)] m = .ok (webD N (rowsOf l)) m := by
  obtain ⟨s1, s2⟩ := sort_rows (l := l)
  have key : lcGo [] (lcStep (.tup [.name 2, .name 3]) [some (.lst (N.map .str)), some (.dct true (enc l)), none, none] (evT (callN T k) .yes) (evE (callN T k) (.tup [.var 2, .var 3, .ix (.var 1) (.tup [.var 2, .var 3])]))) ((keysOf l).map kyD) m = .ok ((rowsOf l).map triD) m := by
    have : ∀ d ∈ (keysOf l).map kyD, lcStep (.tup [.name 2, .name 3]) [some (.lst (N.map .str)), some (.dct true (enc l)), none, none] (evT (callN T k) .yes) (evE (callN T k) (.tup [.var 2, .var 3, .ix (.var 1) (.tup [.var 2, .var 3])])) d m = .ok (some ((fun d => match prD d with | some p => triD (p, (look l p).getD 0) | none => .non) d)) m := by
      intro d hd
      obtain ⟨p, hp, rfl⟩ := List.mem_map.mp hd
      obtain ⟨v, hv⟩ := look_in (keys_perm.mem_iff.mp hp)
      obtain ⟨a, b⟩ := p
      simp [lcStep, kyD, prD, find_enc2, hv, triD]
    rw [lc_map rfl this, List.map_map]
    congr 1
    unfold rowsOf
    rw [List.map_map]
    apply List.map_congr_left
    intro p hp
    simp only [Function.comp, prD_ky]
  rw [call_of F11]
  refine run_no (f := F11) rfl rfl ?_
  have d1 : l.length ≤ 16777216 := by omega
  have e1 : biD (.list false) [.dct true (enc l)] m = .ok (.lst ((enc l).map (·.1))) m := rfl
  have e2 : biD (.sorted false) [.lst ((enc l).map (·.1))] m = .ok (.lst ((keysOf l).map kyD)) m := by
    show ifs (sortable ((enc l).map (·.1)) && decide (((enc l).map (·.1)).length ≤ 1000)) (mkL false (sortD ((enc l).map (·.1))) m) = _
    rw [s1, s2]
    have : decide (((enc l).map (·.1)).length ≤ 1000) = true := by simpa using hl
    rw [this]
    rfl
  have hk : (keysOf l).length ≤ 16777216 := by
    have := (keys_perm (l := l)).length_eq
    simp only [List.length_map] at this
    omega
  simp [F11, e1, e2, hk, key, -List.map_map, webD]
/-- what a drawn web is -/
def plc (N : List Str) (st : List Int) (x : Str) : Int := (lookS (N.zip st) x).getD 0
structure WebOk (N : List Str) (st : List Int) (ts : AL) (most : Nat) : Prop where
  sm : SmallL N
  n1 : 1 ≤ N.length
  n2 : N.length ≤ most
  sl : st.length = N.length
  sb : ∀ i ∈ st, -200000000 ≤ i ∧ i ≤ 200000000
  tk : TieOk (N ++ [grd]) (plc N st) ts
  tl : ts.length ≤ 2 * (2 * (N.length + 1) + 2)
theorem plc_grd {N : List Str} {st : List Int} (h : grd ∉ N) : plc N st grd = 0 := by
  unfold plc
  cases e : lookS (N.zip st) grd with
  | none => rfl
  | some v => exact absurd (List.of_mem_zip (lookS_some e)).1 h
theorem plc_b {N : List Str} {st : List Int} (sb : ∀ i ∈ st, -200000000 ≤ i ∧ i ≤ 200000000) (x : Str) : -200000000 ≤ plc N st x ∧ plc N st x ≤ 200000000 := by
  unfold plc
  cases e : lookS (N.zip st) x with
  | none => exact ⟨by decide, by decide⟩
  | some v => exact sb v (List.of_mem_zip (lookS_some e)).2
theorem look_appS {z : SL} {q : Str} : ∀ {l : SL}, lookS (l ++ z) q = (lookS l q).or (lookS z q)
  | [] => by simp [lookS]
  | e :: l => by
    simp only [List.cons_append, lookS]
    by_cases h : e.1 = q
    · simp [h]
    · simp only [h, if_false]; exact look_appS
theorem plc_find {N : List Str} {st : List Int} (hl : st.length = N.length) (hg : grd ∉ N) {x : Str} (hx : x ∈ N ++ [grd]) : find (encS (N.zip st ++ [(grd, 0)])) (.str x) = some (.int (plc N st x)) := by
  rw [find_encS, look_appS]
  by_cases c : x ∈ N
  · have : x ∈ (N.zip st).map (·.1) := by
      rw [List.map_fst_zip (by omega)]
      exact c
    obtain ⟨v, hv⟩ := lookS_in this
    simp [plc, hv]
  · have : x = grd := by
      rcases List.mem_append.mp hx with h | h
      · exact absurd h c
      · simpa using h
    subst this
    rw [plc_grd hg]
    cases e : lookS (N.zip st) grd with
    | none => simp [lookS]
    | some v => exact absurd (List.of_mem_zip (lookS_some e)).1 hg
theorem intsA_of : ∀ {ds xs : List D} {P : Int → Prop}, A2 (fun _ x => ∃ i, P i ∧ x = D.int i) ds xs → ∃ st : List Int, st.length = ds.length ∧ (∀ i ∈ st, P i) ∧ xs = st.map .int
  | _, _, _, .nil => ⟨[], rfl, fun _ z => (nomatch z), rfl⟩
  | _, _, _, .cons w q => by
    obtain ⟨c, h1, h3⟩ := w
    subst h3
    obtain ⟨cs, e1, e2, e3⟩ := intsA_of q
    refine ⟨c :: cs, by simp [e1], fun c' hc => ?_, by simp [e3]⟩
    rcases List.mem_cons.mp hc with rfl | hc
    · exact h1
    · exact e2 _ hc
theorem web_is [HasFn T 8 F8] [HasFn T 9 F9] [HasFn T 10 F10] [HasFn T 11 F11] [HasFn T 12 F12] (k n : Nat) (m : Hd) (most : Nat) (hb : isBox m n) (h1 : 1 ≤ most) (h2 : most ≤ 15) :
    ∃ N ts st m', callN T (k+3) 12 [.ref n, .int most] m = .ok (.tup [webD N ts, .tup (st.map .int)]) m' ∧ Boxed n m m' ∧ WebOk N st ts most := by
  obtain ⟨i0, m0, e0, l0, u0, b0⟩ := take_is (T := T) (k+1) n m most hb (by omega) (by omega)
  have hb0 := b0.is hb
  obtain ⟨N, m1, e1, b1, hl1, sm⟩ := names_is (T := T) k n m0 (1 + i0) hb0 (by omega) (by omega)
  have hb1 := b1.is hb0
  obtain ⟨i2, m2, e2, l2, u2, b2⟩ := take_is (T := T) (k+1) n m1 4 hb1 (by omega) (by omega)
  have hb2 := b2.is hb1
  obtain ⟨w, ew, w0, w1⟩ : ∃ w : Int, atD [.int 3, .int 12, .int 1000, .int 200000000] i2 = some (.int w) ∧ 0 ≤ w ∧ w ≤ 200000000 := by
    have : i2 = 0 ∨ i2 = 1 ∨ i2 = 2 ∨ i2 = 3 := by omega
    rcases this with rfl | rfl | rfl | rfl
    · exact ⟨_, at_0, by omega, by omega⟩
    · exact ⟨_, at_1, by omega, by omega⟩
    · exact ⟨_, at_2, by omega, by omega⟩
    · exact ⟨_, at_3, by omega, by omega⟩
  have turn : ∀ d ∈ N.map D.str, ∀ m1, Boxed n m2 m1 → isBox m1 n → ∃ x m3, lcStep (.name 6) [some (.ref n), some (.int most), none, none, some (.lst (N.map .str)), some (.int w), none] (evT (callN T (k+2)) .yes) (evE (callN T (k+2)) (.bin false .sub (.call 8 [.var 0, .bin false .add (.bin false .mul (.con (.int 2)) (.var 5)) (.con (.int 1))] [.inl 0, .inl 1]) (.var 5))) d m1 = .ok (some x) m3 ∧ Boxed n m1 m3 ∧ ∃ i, (-200000000 ≤ i ∧ i ≤ 200000000) ∧ x = .int i := by
    intro d hd m3 _ hb3
    obtain ⟨i, m4, e, l, u, b⟩ := take_is (T := T) (k+1) n m3 (2 * w + 1) hb3 (by omega) (by omega)
    have d5 : small 2 = true := by decide
    refine ⟨.int (i - w), m4, ?_, b, i - w, ⟨by omega, by omega⟩, rfl⟩
    simp [lcStep, e, d5, -small_iff]
  obtain ⟨xs, m3, e3, b3, q3⟩ := lc_box (Q := fun _ x => ∃ i, (-200000000 ≤ i ∧ i ≤ 200000000) ∧ x = D.int i) hb2 turn
  obtain ⟨st, sl, sb, rfl⟩ := intsA_of (P := fun i => -200000000 ≤ i ∧ i ≤ 200000000) q3
  rw [List.length_map] at sl
  have hg : grd ∉ N := sm.2.2
  have hb3 := b3.is hb2
  have nd : (N ++ [grd]).Nodup := by
    rw [List.nodup_append]
    refine ⟨sm.1, by simp, fun a ha b hb e => ?_⟩
    simp only [List.mem_cons, List.not_mem_nil, or_false] at hb
    exact hg (by rw [← hb, ← e]; exact ha)
  have hN1 : 1 ≤ N.length := by omega
  have hN2 : N.length ≤ 15 := by omega
  obtain ⟨l, m4, e4, b4, t4, z4⟩ := ties_is (T := T) k n (m3 ++ [.dead]) (N ++ [grd]) (plc N st) (encS (N.zip st ++ [(grd, 0)])) w hb3.app nd (by simp; omega) (by simp; omega) (fun x hx => plc_find sl hg hx) (fun x _ => plc_b sb x) w0 w1
  obtain ⟨m5, b5, rfl⟩ := b4.app hb3.lt
  obtain ⟨r1, r2⟩ := rows_ok t4
  have hbx := ((((b0.trans b1).trans b2).trans b3).trans b5)
  refine ⟨N, rowsOf l, st, m5, ?_, hbx, ⟨sm, hN1, by omega, sl, sb, r1, by rw [r2]; simpa using z4⟩⟩
  have z5 : l.length ≤ 2 * (2 * (N.length + 1) + 2) := by simpa using z4
  rw [call_of F12, run_gc (m' := m5 ++ [.dead]) (d := .tup [webD N (rowsOf l), .tup (st.map .int)]) rfl rfl ?_ ?_ (hbx.keep hb), hbx.cut]
  · have e5 := by_is (T := T) (k+1) (m5 ++ [.dead]) N l (by omega) (by omega)
    have hz : zipD (N.map .str ++ [.str grd]) (st.map .int ++ [.int 0]) = (N.zip st ++ [(grd, 0)]).map fun e : Str × Int => .tup [.str e.1, .int e.2] := by
      have : N.map D.str ++ [.str grd] = (N ++ [grd]).map .str := by simp
      rw [this]
      have : st.map D.int ++ [.int 0] = (st ++ [0]).map .int := by simp
      rw [this, zip_map, List.zip_append sl.symm]
      rfl
    have hp : pairsD false ((N.zip st ++ [(grd, 0)]).map fun e : Str × Int => .tup [.str e.1, .int e.2]) [] = some (encS (N.zip st ++ [(grd, 0)])) := by
      have := pairsS (l := N.zip st ++ [(grd, 0)]) (a := [])
      simp only [List.nil_append] at this
      refine this ?_
      rw [List.map_append, List.map_fst_zip (by omega)]
      exact nd
    have hd : biD (.dict false) [.lst (zipD (N.map .str ++ [.str grd]) (st.map .int ++ [.int 0]))] m3 = newD false (encS (N.zip st ++ [(grd, 0)])) m3 := by
      rw [hz]
      have : ((N.zip st ++ [(grd, 0)]).map fun e : Str × Int => D.tup [.str e.1, .int e.2]).length < sizeLine := by
        rw [List.length_map, List.length_append, List.length_zip, line_eq]
        simp
        omega
      show (match (if ((N.zip st ++ [(grd, 0)]).map fun e : Str × Int => D.tup [.str e.1, .int e.2]).length < sizeLine then pairsD false ((N.zip st ++ [(grd, 0)]).map fun e : Str × Int => .tup [.str e.1, .int e.2]) [] else none) with
        | some kvs => newD false kvs m3
        | none => R.no) = _
      rw [if_pos this, hp]
    have g1 : Str.ofString "ground" = grd := rfl
    have d1 : N.length ≤ 16777216 := by omega
    have d2 : N.length + 1 ≤ 16777216 := by omega
    have d3 : N.length + 1 ≤ 1000 := by omega
    have e4' : callN T (k+2) 10 [.ref n, .lst (N.map .str ++ [.str grd]), .dct false (encS (N.zip st ++ [(grd, 0)])), .int w] (m3 ++ [.dead]) = .ok (.dct true (enc l)) (m5 ++ [.dead]) := by
      rw [← e4]
      simp
    simp [F12, e0, e1, e2, ew, e3, g1, d1, d2, d3, sl, hd, newD, e4', e5]
  · simp only [D.und, D.undL, webD]
    rw [und_tris, und_ints]
    rfl
end
end Dx
/-! LbM: webs made of ties -/
namespace Dx
open PySem
theorem fr_en {α β : Type} (en : α → D) {tg : Tg} {g : Gu} {body : SD → Hd → R Fl} {ns : List α} {b0 : β} {s : SD} {m : Hd} (I : List α → β → SD → Hd → Prop) (h0 : I [] b0 s m) (hg : ∀ pre b s m, I pre b s m → guOk g m = true)
    (hs : ∀ (pre : List α) (x : α) (post : List α) (b : β) (s : SD) (m : Hd), ns = pre ++ x :: post → I pre b s m → ∃ s1, bindTg tg (en x) s = some s1 ∧ Is (body s1 m) fun fl m' => ∃ s' b', fl = .next s' ∧ I (pre ++ [x]) b' s' m') :
    Is (frGo g tg body (ns.map en) s m) fun fl m' => ∃ s' b', fl = .next s' ∧ I ns b' s' m' := by
  have gen : ∀ (post pre : List α) (b : β) (s : SD) (m : Hd), ns = pre ++ post → I pre b s m → Is (frGo g tg body (post.map en) s m) fun fl m' => ∃ s' b', fl = .next s' ∧ I ns b' s' m' := by
    intro post
    induction post with
    | nil =>
      intro pre b s m e h
      rw [List.append_nil] at e
      subst e
      simp only [List.map_nil, frGo, hg _ _ _ _ h, ifs_true, is_ok]
      exact ⟨s, b, rfl, h⟩
    | cons x post ih =>
      intro pre b s m e h
      obtain ⟨s1, eb, hI⟩ := hs pre x post b s m e h
      obtain ⟨fl, m', e1, s', b', rfl, h'⟩ := hI.ok
      have e2 : frGo g tg body ((x :: post).map en) s m = frGo g tg body (post.map en) s' m' := by
        show ifs (guOk g m) (frTurn tg body (frGo g tg body (post.map en)) (en x) s m) = _
        unfold frTurn
        rw [hg _ _ _ _ h, ifs_true, eb, optB_some, R.bind_ok, e1]
        rfl
      rw [e2]
      exact ih (pre ++ [x]) b' s' m' (by rw [e]; simp) h'
  exact gen ns [] b0 s m rfl h0
def minA (l : AL) (e : Pr × Int) : AL := putA l e.1 (mn e.2 ((look l e.1).getD e.2))
def minsA (ts : AL) : AL := ts.foldl minA []
theorem mins_length : ∀ {ts l : AL}, (ts.foldl minA l).length ≤ l.length + ts.length
  | [], l => by simp
  | e :: ts, l => by
    have h1 := mins_length (ts := ts) (l := minA l e)
    have h2 : (minA l e).length ≤ l.length + 1 := put_length
    simp only [List.foldl_cons, List.length_cons]
    omega
/-- a list or a tuple, as it stands in m -/
def SeqIs (m : Hd) (d : D) (xs : List D) : Prop := wq m d = some xs ∧ (guOf m d = [] ∨ ∃ q, d = .ref q ∧ m[q]? = some (.lst xs))
theorem SeqIs.lst {m : Hd} {xs : List D} : SeqIs m (.lst xs) xs := ⟨rfl, .inl rfl⟩
theorem SeqIs.tup {m : Hd} {xs : List D} : SeqIs m (.tup xs) xs := ⟨rfl, .inl rfl⟩
theorem SeqIs.ref {m : Hd} {q : Nat} {xs : List D} (h : m[q]? = some (.lst xs)) : SeqIs m (.ref q) xs := ⟨by simp [h], .inr ⟨q, rfl, h⟩⟩
theorem SeqIs.app {m e : Hd} {d : D} {xs : List D} (h : SeqIs m d xs) : wq (m ++ e) d = some xs ∧ ∀ e', guOk (guOf (m ++ e) d) (m ++ e') = true := by
  obtain ⟨h1, h2⟩ := h
  have key : ∀ q : Nat, m[q]? = some (O.lst xs) → ∀ e : Hd, (m ++ e)[q]? = some (O.lst xs) := by
    intro q hq e
    rw [List.getElem?_append_left (List.getElem?_eq_some_iff.mp hq).1, hq]
  rcases h2 with h2 | ⟨q, rfl, hq⟩
  · have hn : ∀ q : Nat, d = .ref q → ∃ o : O, m[q]? = some o ∧ o = O.lst xs := by
      rintro q rfl
      rw [wq_ref] at h1
      cases hm : m[q]? with
      | none => rw [hm] at h1; cases h1
      | some o =>
        rw [hm] at h1
        cases o <;> first | (simp [itemsO] at h1; done) | skip
        next ys => simp [itemsO] at h1; exact ⟨_, rfl, by rw [h1]⟩
    cases d with
    | ref q =>
      obtain ⟨o, hm, rfl⟩ := hn q rfl
      have h3 : guOf m (.ref q) = [(q, xs)] := by simp [guOf, hm]
      rw [h3] at h2
      cases h2
    | _ => exact ⟨h1, fun _ => rfl⟩
  · refine ⟨by simp [key q hq e], fun e' => ?_⟩
    have h3 : guOf (m ++ e) (.ref q) = [(q, xs)] := by simp [guOf, key q hq e]
    rw [h3]
    simp [guOk, key q hq e', D.beqL_refl]
section
variable {T : Tb}
theorem wby_is [HasFn T 26 F26] (k : Nat) (m : Hd) (x : D) (N : List Str) (l : AL) (hx : ∀ m', biD .ntup [x] m' = .ok (.nms N) m' ∨ True) (ht : biD .ntup [x] (m ++ [.dct true (enc l)]) = .ok (.nms N) (m ++ [.dct true (enc l)])) (hl : l.length ≤ 1000) :
    callN T (k+1) 26 [x, .ref m.length] (m ++ [.dct true (enc l)]) = .ok (webD N (rowsOf l)) (m ++ [.dct true (enc l)]) := by
  obtain ⟨s1, s2⟩ := sort_rows (l := l)
  have gl := get_len (m := m) (o := .dct true (enc l)) rfl
  have key : lcGo [] (lcStep (.tup [.name 2, .name 3]) [some x, some (.ref m.length), none, none] (evT (callN T k) .yes) (evE (callN T k) (.tup [.var 2, .var 3, .ix (.var 1) (.tup [.var 2, .var 3])]))) ((keysOf l).map kyD) (m ++ [.dct true (enc l)]) = .ok ((rowsOf l).map triD) (m ++ [.dct true (enc l)]) := by
    have : ∀ d ∈ (keysOf l).map kyD, lcStep (.tup [.name 2, .name 3]) [some x, some (.ref m.length), none, none] (evT (callN T k) .yes) (evE (callN T k) (.tup [.var 2, .var 3, .ix (.var 1) (.tup [.var 2, .var 3])])) d (m ++ [.dct true (enc l)]) = .ok (some ((fun d => match prD d with | some p => triD (p, (look l p).getD 0) | none => .non) d)) (m ++ [.dct true (enc l)]) := by
      intro d hd
      obtain ⟨p, hp, rfl⟩ := List.mem_map.mp hd
      obtain ⟨v, hv⟩ := look_in (keys_perm.mem_iff.mp hp)
      obtain ⟨a, b⟩ := p
      simp [lcStep, kyD, prD, find_enc2, hv, triD, gl]
    rw [lc_map rfl this, List.map_map]
    congr 1
    unfold rowsOf
    rw [List.map_map]
    apply List.map_congr_left
    intro p hp
    simp only [Function.comp, prD_ky]
  rw [call_of F26]
  refine run_no (f := F26) rfl rfl ?_
  have e2 : biD (.sorted false) [.ref m.length] (m ++ [.dct true (enc l)]) = .ok (.lst ((keysOf l).map kyD)) (m ++ [.dct true (enc l)]) := by
    simp only [biD, dq, gl]
    rw [s1, s2]
    have : decide ((enc l).length ≤ 1000) = true := by simpa using hl
    rw [this]
    rfl
  have hk : (keysOf l).length ≤ 16777216 := by
    have := (keys_perm (l := l)).length_eq
    simp only [List.length_map] at this
    omega
  simp [F26, e2, hk, key, ht, -List.map_map, webD]
theorem of_turn {call : Nat → List D → Hd → R D} (m : Hd) (p : Nat) (hp : m.length = p) (l : AL) (hl : l.length ≤ 100000) (e : Pr × Int) (x0 x1 : Option D) :
    evB call F27_0 [x0, x1, some (.ref p), some (.str e.1.1), some (.str e.1.2), some (.int e.2)] (m ++ [.dct true (enc l)]) = .ok (.next [x0, x1, some (.ref p), some (.str e.1.1), some (.str e.1.2), some (.int e.2)]) (m ++ [.dct true (enc (minA l e))]) := by
  have gl := get_len (o := .dct true (enc l)) hp
  have d1 : l.length < 16777216 := by omega
  have mty : mtTy (m ++ [.dct true (enc l)]) (.ref p) .get2 = true := by simp only [mtTy, fz, gl, dq]
  have mtd : ∀ (x y : Str) (d : D), mtD .get2 (.ref p) [.tup [.str x, .str y], d] (m ++ [.dct true (enc l)]) = .ok (((look l (x, y)).map .int).getD d) (m ++ [.dct true (enc l)]) := by
    intro x y d
    simp only [mtD, dq, gl, keyOk_t2, ifs_true, find_enc2]
  have sl := set_len (o := .dct true (enc l)) (o' := .dct true (enc (putA l e.1 (mn e.2 ((look l e.1).getD e.2))))) hp
  obtain ⟨⟨a, b⟩, w⟩ := e
  simp only at sl ⊢
  cases h3 : look l (a, b) with
  | none =>
    rw [h3] at sl
    simp only [Option.getD_none] at sl
    simp [F27_0, h3, gl, mty, mtd, minA, put_enc2, d1, mn] at sl ⊢
    exact sl
  | some u =>
    rw [h3] at sl
    simp only [Option.getD_some] at sl
    simp [F27_0, h3, gl, mty, mtd, minA, put_enc2, d1, mn] at sl ⊢
    exact sl
theorem webof_is [HasFn T 26 F26] [HasFn T 27 F27] (k : Nat) (m : Hd) (x t : D) (N : List Str) (ts : AL) (hx : ∀ m' : Hd, biD .ntup [x] m' = .ok (.nms N) m') (ht : SeqIs m t (ts.map triD)) (hl : ts.length ≤ 1000) :
    callN T (k+2) 27 [x, t] m = .ok (webD N (rowsOf (minsA ts))) m := by
  obtain ⟨w1, w2⟩ := ht.app (e := [.dct true (enc [])])
  have L := fr_en (en := triD) (tg := .tup [.name 3, .name 4, .name 5]) (g := guOf (m ++ [.dct true (enc [])]) t) (body := evB (callN T (k+1)) F27_0) (ns := ts) (b0 := ([] : AL)) (s := [some x, some t, some (.ref m.length), none, none, none]) (m := m ++ [.dct true (enc [])])
    (fun (pre : AL) (l : AL) (s : SD) (m' : Hd) => (∃ y3 y4 y5, s = [some x, some t, some (.ref m.length), y3, y4, y5]) ∧ m' = m ++ [.dct true (enc l)] ∧ l = pre.foldl minA [])
    ⟨⟨_, _, _, rfl⟩, rfl, rfl⟩ (fun pre l s m' h => by rw [h.2.1]; exact w2 _) (by
      intro pre e post l s m' hd hI
      obtain ⟨⟨y3, y4, y5, rfl⟩, rfl, rfl⟩ := hI
      have hz := mins_length (ts := pre) (l := [])
      have hln := congrArg List.length hd
      rw [List.length_append] at hln
      simp only [List.length_nil] at hz
      refine ⟨[some x, some t, some (.ref m.length), some (.str e.1.1), some (.str e.1.2), some (.int e.2)], by simp [triD], ?_⟩
      rw [of_turn m m.length rfl _ (by omega) e]
      exact ⟨_, _, rfl, ⟨_, _, _, rfl⟩, rfl, by rw [List.foldl_append]; rfl⟩)
  obtain ⟨fl, m', e1, s', l, rfl, ⟨y3, y4, y5, rfl⟩, rfl, rfl⟩ := L.ok
  have hz := mins_length (ts := ts) (l := [])
  simp only [List.length_nil] at hz
  have e2 := wby_is (T := T) k m x N (ts.foldl minA []) (fun _ => .inr trivial) (hx _) (by omega)
  rw [call_of F27, run_gc (m' := m ++ [.dct true (enc (ts.foldl minA []))]) (d := webD N (rowsOf (minsA ts))) rfl rfl ?_ ?_ keep_same, take_same]
  · have e1' : frGo (guOf (m ++ [.dct true []]) t) (Tg.tup [Tg.name 3, Tg.name 4, Tg.name 5]) (evB (callN T (k+1)) F27_0) (ts.map triD) [some x, some t, some (.ref m.length), none, none, none] (m ++ [.dct true []]) = _ := e1
    have w1' : wq (m ++ [.dct true []]) t = some (ts.map triD) := w1
    simp [F27, w1', e1', e2, minsA]
  · simp only [D.und, D.undL, webD]
    rw [und_tris]
    rfl
end
end Dx
/-! LbN: webs looked at -/
namespace Dx
open PySem
theorem lt_pairs {p q : Pr} : PySem.W.dataLt (.tuple [.str p.1, .str p.2]) (.tuple [.str q.1, .str q.2]) = ltPr p q := by
  obtain ⟨a, b⟩ := p
  obtain ⟨c, d⟩ := q
  rw [PySem.W.dataLt_tuple]
  simp only [PySem.W.toks_all_cons, PySem.W.keyToks, PySem.W.keyToksAll, List.cons_append, List.nil_append]
  have one : ∀ (x y : Str), x ≠ y → ∀ l m, PyProof.Rows.lexLt PyProof.Rows.itemOrd (Sum.inr x.cps.toList :: l) (Sum.inr y.cps.toList :: m) = strLt x y := by
    intro x y hne l m
    have hne' : (Sum.inr x.cps.toList : Int ⊕ List Nat) ≠ Sum.inr y.cps.toList := fun e => hne (PySem.W.str_of_cps (Sum.inr.inj e))
    rw [PySem.W.lex_atom hne' l m]
    have := PySem.W.dataLt_str x y
    unfold PySem.W.dataLt at this
    simp only [PySem.W.keyToks] at this
    rw [this]
    rfl
  have self : ∀ (x : Int ⊕ List Nat) l m, PyProof.Rows.lexLt PyProof.Rows.itemOrd (x :: l) (x :: m) = PyProof.Rows.lexLt PyProof.Rows.itemOrd l m := fun x l m => PyProof.Rows.lex_self (O := PyProof.Rows.itemOrd) x l m
  rw [self]
  unfold ltPr
  simp only
  by_cases h : a = c
  · subst h
    rw [self, self, if_pos rfl]
    by_cases h2 : b = d
    · subst h2
      rw [self, self, strLt_irrefl]
      rfl
    · exact one b d h2 _ _
  · rw [if_neg h]
    exact one a c h _ _
theorem ge_pairs {m : Hd} {p q : Pr} : cmpD m .ge (.tup [.str p.1, .str p.2]) (.tup [.str q.1, .str q.2]) = some (!ltPr p q) := by
  have e1 : cmpD m .ge (.tup [.str p.1, .str p.2]) (.tup [.str q.1, .str q.2]) = if okG (.tup [.str p.1, .str p.2]) (.tup [.str q.1, .str q.2]) then some (!PySem.W.dataLt (.tuple [.str p.1, .str p.2]) (.tuple [.str q.1, .str q.2])) else none := rfl
  have e2 : okG (.tup [.str p.1, .str p.2]) (.tup [.str q.1, .str q.2]) = true := rfl
  rw [e1, if_pos e2, lt_pairs]
theorem keys_sorted {l : AL} : (keysOf l).Pairwise (fun a b => lePr a b = true) := List.pairwise_mergeSort (le := lePr) (fun _ _ _ => lePr_trans) lePr_total _
/-- one behind the other, the keys rise -/
theorem keys_rise {l : AL} (hn : (l.map (·.1)).Nodup) : (keysOf l).Pairwise (fun a b => ltPr a b = true) := by
  have nd : (keysOf l).Nodup := keys_perm.nodup_iff.mpr hn
  have := (keys_sorted (l := l)).and nd
  refine this.imp fun {a b} h => ?_
  cases c : ltPr a b with
  | true => rfl
  | false => exact absurd (ltPr_total c (lePr_iff.mp h.1)) h.2
theorem strOk_low {s : Str} (h : lowS s) : PyData.strOk s = true := by
  unfold PyData.strOk
  rw [← Array.all_toList, List.all_eq_true]
  intro c hc
  have := h c hc
  simp
  omega
theorem tame_strs : ∀ {xs : List Str}, (∀ x ∈ xs, lowS x) → D.tameL (xs.map .str) = true
  | [], _ => rfl
  | x :: xs, h => by
    simp only [List.map_cons, tameL_c, Bool.and_eq_true, D.tame]
    exact ⟨strOk_low (h x List.mem_cons_self), tame_strs fun y hy => h y (List.mem_cons_of_mem _ hy)⟩
theorem any_str {x : Str} : ∀ {ys : List Str}, ((D.pyL (ys.map .str)).any fun y => PyData.eqv y (D.py (.str x))) = decide (x ∈ ys)
  | [] => rfl
  | y :: ys => by
    have ih := any_str (x := x) (ys := ys)
    simp only [D.py] at ih
    simp only [List.map_cons, D.pyL, D.py, List.any_cons]
    rw [ih]
    have : PyData.eqv (.str y) (.str x) = decide (y = x) := by
      rw [Bool.eq_iff_iff]
      simp [PyData.eqv]
    rw [this]
    by_cases q : y = x
    · subst q; simp
    · simp [q, Ne.symm q]
theorem mem_strs {m : Hd} {x : Str} {ys : List Str} (hx : lowS x) (hy : ∀ y ∈ ys, lowS y) : inD m (.str x) (.tup (ys.map .str)) = some (decide (x ∈ ys)) := by
  have t := tame_strs hy
  obtain ⟨_, h2, _, _⟩ := tame_showL t
  have e : inD m (.str x) (.tup (ys.map .str)) = memD (.str x) (ys.map .str) := rfl
  rw [e]
  unfold memD
  have f := tame_flatL t
  have hxo := strOk_low hx
  have c1 : SeqAt.shaped (D.py (.str x)) = true := by
    unfold SeqAt.shaped D.py
    simp [PyData.canLay0, hxo, PyData.depth]
  have c : (D.flat (.str x) && SeqAt.shaped (D.py (.str x)) && D.flatL (ys.map .str) && PyData.canLayAll0 (D.pyL (ys.map .str))) = true := by
    rw [f, h2, c1]; rfl
  rw [if_pos c]
  congr 1
  exact any_str
theorem run_non {call : Nat → List D → Hd → R D} {f : Fn} {ds : List D} {m m' : Hd} {s : SD} (hp : ds.length = f.pars) (hg : f.gc = false) (e : evB call f.body (ds.map some ++ List.replicate (f.slots - f.pars) none) m = .ok (.next s) m') : runFn call f ds m = .ok .non m' := by
  unfold runFn
  rw [if_pos hp, hg, leave_no, e]
  rfl
@[simp] theorem isi_t {m : Hd} {xs : List D} : biD (.isinst .tuple) [.tup xs] m = .ok (.bl true) m := rfl
@[simp] theorem isi_n {m : Hd} {xs : List Str} : biD (.isinst .tuple) [.nms xs] m = .ok (.bl true) m := rfl
theorem sl_nto {b : Bool} {N : List Str} {k : Nat} {m : Hd} (h : k < N.length) : slD b (.nms N) none (some (k : Int)) m = .ok (.tup ((N.take k).map .str)) m := by
  have e : slD b (.nms N) none (some (k : Int)) m = if sIx N.length 0 none = 0 ∧ sIx N.length N.length (some (k : Int)) = N.length then .ok (.nms N) m else .ok (.tup (cut (N.map .str) none (some (k : Int)))) m := rfl
  have c : sIx N.length N.length (some (k : Int)) = k := by
    unfold sIx
    have : ¬ (k : Int) < 0 := by omega
    simp only [this, if_false]
    omega
  have ct : cut (N.map D.str) none (some (k : Int)) = (N.take k).map D.str := by rw [cut_to (by omega)]; simp
  rw [e, c, if_neg (by omega), ct]
@[simp] theorem isi_s {m : Hd} {x : Str} : biD (.isinst .str) [.str x] m = .ok (.bl true) m := rfl
@[simp] theorem isi_i {m : Hd} {x : Int} : biD (.isinst .int) [.int x] m = .ok (.bl true) m := rfl
@[simp] theorem isi_b {m : Hd} {x : Int} : biD (.isinst .bool) [.int x] m = .ok (.bl false) m := rfl
section
variable {T : Tb}
theorem lc_const {step : D → Hd → R (Option D)} {m : Hd} {ds : List D} {c : D} (h : ∀ d ∈ ds, step d m = .ok (some c) m) : lcGo [] step ds m = .ok (List.replicate ds.length c) m := by
  rw [lc_map (f := fun _ => c) rfl h]
  congr 1
  exact List.map_const' ..
theorem all_rep {m : Hd} {n : Nat} : biD .all [.lst (List.replicate n (.bl true))] m = .ok (.bl true) m := by
  show (match blsOf (List.replicate n (.bl true)) with
    | some bs => R.ok (D.bl (bs.all id)) m
    | none => R.no) = _
  have : blsOf (List.replicate n (.bl true)) = some (List.replicate n true) := by
    induction n with
    | zero => rfl
    | succ n ih => simp [List.replicate_succ, blsOf, ih]
  rw [this]
  simp
theorem whole_is [HasFn T 19 F19] (k : Nat) (m : Hd) (i : Int) : callN T (k+1) 19 [.int i] m = .ok (.bl true) m := by
  rw [call_of F19]
  refine run_no (f := F19) rfl rfl ?_
  simp [F19]
theorem name_is [HasFn T 20 F20] (k : Nat) (m : Hd) (x : Str) (hx : lowS x) (h1 : 1 ≤ x.length) (h2 : x.length ≤ 6) : callN T (k+1) 20 [.str x] m = .ok (.bl true) m := by
  have h3 : x.length ≤ 16777216 := by omega
  have wq1 : wq m (.str x) = some (x.cps.toList.map fun c => .str ⟨#[c]⟩) := by
    have : x.length ≤ sizeLine := by rw [line_eq]; exact h3
    show (if x.length ≤ sizeLine then some (x.cps.toList.map fun c => D.str ⟨#[c]⟩) else none) = _
    rw [if_pos this]
  have key : lcGo [] (lcStep (.name 1) [some (.str x), none] (evT (callN T k) .yes) (evE (callN T k) (.cmp .isin (.var 1) (.con (.str abc))))) (x.cps.toList.map fun c => .str ⟨#[c]⟩) m = .ok (List.replicate (x.cps.toList.map fun c => D.str ⟨#[c]⟩).length (.bl true)) m := by
    refine lc_const fun d hd => ?_
    obtain ⟨c, hc, rfl⟩ := List.mem_map.mp hd
    have hb := hx c hc
    have hin : inD m (.str ⟨#[c]⟩) (.str abc) = some true := by
      have e : inD m (.str ⟨#[c]⟩) (.str abc) = if (⟨#[c]⟩ : Str).length = 1 then some (decide (c ∈ abc.cps.toList)) else none := rfl
      rw [e, if_pos (show (⟨#[c]⟩ : Str).length = 1 from rfl)]
      have : ∀ i : Fin 26, 97 + i.val ∈ abc.cps.toList := by decide
      have q := this ⟨c - 97, by omega⟩
      simp only [show 97 + (c - 97) = c by omega] at q
      simp [q]
    simp [lcStep, hin]
  rw [call_of F20]
  refine run_no (f := F20) rfl rfl ?_
  have ha : Str.ofString "abcdefghijklmnopqrstuvwxyz" = abc := rfl
  have hl : (x.cps.toList.map fun c => D.str ⟨#[c]⟩).length ≤ 16777216 := by
    rw [List.length_map]
    show x.cps.toList.length ≤ _
    have : x.cps.toList.length = x.length := by simp [Str.length]
    omega
  have g0 : guOf m (.str x) = [] := rfl
  have c1 : (1 : Int) ≤ x.length := by omega
  have c2 : (x.length : Int) ≤ 6 := by omega
  simp only [List.length_map] at hl key
  have hs : x.cps.size ≤ 16777216 := h3
  simp [F20, h3, wq1, g0, ha, key, all_rep, c1, c2, hl, hs]
theorem tie_is [HasFn T 19 F19] [HasFn T 21 F21] (k : Nat) (m : Hd) (e : Pr × Int) : callN T (k+2) 21 [triD e] m = .ok (.bl true) m := by
  rw [call_of F21]
  refine run_no (f := F21) rfl rfl ?_
  have e1 := whole_is (T := T) k m e.2
  simp [F21, triD, e1, PyData.eqv]
theorem form_is [HasFn T 19 F19] [HasFn T 21 F21] [HasFn T 22 F22] (k : Nat) (m : Hd) (N : List Str) (ts : AL) (hN : N.length ≤ 100) (ht : ts.length ≤ 1000) : callN T (k+3) 22 [webD N ts] m = .ok (.bl true) m := by
  have k1 : lcGo [] (lcStep (.name 1) [some (webD N ts), none] (evT (callN T (k+2)) .yes) (evE (callN T (k+2)) (.bi (.isinst .tuple) [.var 1]))) [.nms N, .tup (ts.map triD)] m = .ok (List.replicate 2 (.bl true)) m := by
    refine lc_const (ds := [.nms N, .tup (ts.map triD)]) fun d hd => ?_
    simp only [List.mem_cons, List.not_mem_nil, or_false] at hd
    rcases hd with rfl | rfl <;> simp [lcStep]
  have k2 : lcGo [] (lcStep (.name 1) [some (webD N ts), none] (evT (callN T (k+2)) .yes) (evE (callN T (k+2)) (.bi (.isinst .str) [.var 1]))) (N.map .str) m = .ok (List.replicate N.length (.bl true)) m := by
    have := lc_const (ds := N.map D.str) (c := .bl true) (m := m) (step := lcStep (.name 1) [some (webD N ts), none] (evT (callN T (k+2)) .yes) (evE (callN T (k+2)) (.bi (.isinst .str) [.var 1]))) fun d hd => by
      obtain ⟨x, hx, rfl⟩ := List.mem_map.mp hd
      simp [lcStep]
    rwa [List.length_map] at this
  have k3 : lcGo [] (lcStep (.name 1) [some (webD N ts), none] (evT (callN T (k+2)) .yes) (evE (callN T (k+2)) (.call 21 [.var 1] [.inl 0]))) (ts.map triD) m = .ok (List.replicate ts.length (.bl true)) m := by
    have := lc_const (ds := ts.map triD) (c := .bl true) (m := m) (step := lcStep (.name 1) [some (webD N ts), none] (evT (callN T (k+2)) .yes) (evE (callN T (k+2)) (.call 21 [.var 1] [.inl 0]))) fun d hd => by
      obtain ⟨x, hx, rfl⟩ := List.mem_map.mp hd
      have e1 := tie_is (T := T) k m x
      simp [lcStep, e1]
    rwa [List.length_map] at this
  have d1 : N.length ≤ 16777216 := by omega
  have d2 : ts.length ≤ 16777216 := by omega
  have wd : webD N ts = .tup [.nms N, .tup (ts.map triD)] := rfl
  rw [call_of F22]
  refine run_no (f := F22) rfl rfl ?_
  simp only [wd] at k1 k2 k3 ⊢
  have a2 : ∀ m : Hd, biD .all [.lst [.bl true, .bl true]] m = .ok (.bl true) m := fun m => all_rep (n := 2)
  simp only [List.replicate] at k1
  simp [F22, k1, k2, k3, d1, d2, all_rep, a2, PyData.eqv]
/-- a web that can be looked at -/
structure Seen (N : List Str) (ts : AL) : Prop where
  sm : SmallL N
  n1 : 1 ≤ N.length
  n2 : N.length ≤ 8
  ok : ∀ e ∈ ts, e.1.1 ∈ N ++ [grd] ∧ e.1.2 ∈ N ++ [grd] ∧ e.1.1 ≠ e.1.2
  up : (ts.map (·.1)).Pairwise (fun a b => ltPr a b = true)
  tl : ts.length ≤ 1000
theorem low_grd : lowS grd := by
  intro c hc
  rw [grd_cps] at hc
  have : ∀ c ∈ [103, 114, 111, 117, 110, 100], 97 ≤ c ∧ c < 123 := by decide
  exact this c hc
theorem Seen.low {N : List Str} {ts : AL} (h : Seen N ts) : ∀ x ∈ N ++ [grd], lowS x := by
  intro x hx
  rcases List.mem_append.mp hx with hx | hx
  · exact (h.sm.2.1 x hx).1
  · have : x = grd := by simpa using hx
    rw [this]
    exact low_grd
theorem things_is [HasFn T 20 F20] [HasFn T 24 F24] (k : Nat) (m : Hd) (N : List Str) (ts : AL) (h : Seen N ts) : callN T (k+2) 24 [.nms N] m = .ok .non m := by
  have L := fr_en (en := fun p : Str × Nat => D.tup [.int ((0 : Int) + (p.2 : Nat)), .str p.1]) (tg := .tup [.name 1, .name 2]) (g := []) (body := evB (callN T (k+1)) F24_0) (ns := N.zipIdx) (b0 := ()) (s := [some (.nms N), none, none]) (m := m)
    (fun (_ : List (Str × Nat)) (_ : Unit) (s : SD) (m' : Hd) => (∃ y1 y2, s = [some (.nms N), y1, y2]) ∧ m' = m) ⟨⟨_, _, rfl⟩, rfl⟩ (fun _ _ _ _ _ => rfl) (by
      intro pre p post _ s m' hd hI
      obtain ⟨⟨y1, y2, rfl⟩, rfl⟩ := hI
      obtain ⟨x, at'⟩ := p
      have hmem : (x, at') ∈ N.zipIdx := by rw [hd]; simp
      have hx := List.mem_zipIdx hmem
      simp only [Nat.sub_zero, Nat.zero_add, Nat.zero_le, true_and] at hx
      obtain ⟨hlt, hxe⟩ := hx
      have hxN : x ∈ N := by rw [hxe]; exact List.getElem_mem _
      obtain ⟨hlow, hl1, hl2⟩ := h.sm.2.1 x hxN
      refine ⟨[some (.nms N), some (.int ((0 : Int) + (at' : Nat))), some (.str x)], by simp, ?_⟩
      have e1 := name_is (T := T) k m' x hlow hl1 hl2
      have hg : x ≠ grd := fun z => h.sm.2.2 (by rw [← show grd = ("ground" : Str) from rfl, ← z]; exact hxN)
      have ct : cut (N.map D.str) none (some (at' : Int)) = (N.take at').map D.str := by rw [cut_to (by omega)]; simp
      have hin := mem_strs (m := m') (x := x) (ys := N.take at') hlow fun y hy => (h.sm.2.1 y (List.mem_of_mem_take hy)).1
      have hni : x ∉ N.take at' := by
        intro hm
        obtain ⟨i, hi, hie⟩ := List.getElem_of_mem hm
        have hi' : i < at' := by rw [List.length_take] at hi; omega
        rw [List.getElem_take] at hie
        have := (List.getElem_inj h.sm.1).mp (hie.trans hxe)
        omega
      have g1 : Str.ofString "ground" = grd := rfl
      have esl := sl_nto (b := false) (m := m') hlt
      simp [F24_0, e1, g1, hg, isAbs, esl, hin, hni, -List.map_take])
  obtain ⟨fl, m', e1, s', _, rfl, ⟨y1, y2, rfl⟩, rfl⟩ := L.ok
  rw [call_of F24]
  refine run_non (f := F24) (s := [some (.nms N), y1, y2]) rfl rfl ?_
  have he : enumD 0 (N.map D.str) = N.zipIdx.map fun p => D.tup [.int ((0 : Int) + (p.2 : Nat)), .str p.1] := by
    unfold enumD
    rw [List.zipIdx_map, List.map_map]
    rfl
  have c1 : (1 : Int) ≤ N.length := by have := h.n1; omega
  have c2 : (N.length : Int) ≤ 8 := by have := h.n2; omega
  simp only [Int.zero_add] at e1 he
  simp [F24, he, e1, c1, c2, -List.map_map]
theorem ltie_is [HasFn T 23 F23] (k : Nat) (m : Hd) (N : List Str) (ts : AL) (h : Seen N ts) (i : Nat) (hi : i < ts.length) : callN T (k+1) 23 [.nms N, .tup (ts.map triD), .int i] m = .ok .non m := by
  have hat : ∀ (j : Nat) (hj : j < ts.length), atD (ts.map triD) (j : Int) = some (triD ts[j]) := by
    intro j hj
    rw [at_in (by omega) (by rw [List.length_map]; omega), List.getElem?_map]
    simp [hj]
  obtain ⟨o1, o2, o3⟩ := h.ok _ (List.getElem_mem hi)
  have hl := h.low
  have m1 := mem_strs (m := m) (x := ts[i].1.1) (ys := N ++ [grd]) (hl _ o1) hl
  have m2 := mem_strs (m := m) (x := ts[i].1.2) (ys := N ++ [grd]) (hl _ o2) hl
  have ng : N.map D.str ++ [.str grd] = (N ++ [grd]).map .str := by simp
  rw [← ng] at m1 m2
  have d1 : N.length + 1 ≤ 16777216 := by have := h.n2; omega
  have g1 : Str.ofString "ground" = grd := rfl
  rw [call_of F23]
  cases i with
  | zero =>
    have a0 := hat 0 hi
    refine run_non (f := F23) (s := [some (.nms N), some (.tup (ts.map triD)), some (.int 0), some (.tup (N.map .str ++ [.str grd])), some (.str ts[0].1.1), some (.str ts[0].1.2), some (.int ts[0].2)]) rfl rfl ?_
    simp only [Int.ofNat_zero, Int.natCast_zero] at a0 ⊢
    simp [F23, a0, triD, d1, g1, m1, m2, o1, o2, o3, -List.mem_append]
  | succ j =>
    have a0 := hat (j + 1) hi
    have a1 := hat j (by omega)
    refine run_non (f := F23) (s := [some (.nms N), some (.tup (ts.map triD)), some (.int (j + 1 : Nat)), some (.tup (N.map .str ++ [.str grd])), some (.str ts[j+1].1.1), some (.str ts[j+1].1.2), some (.int ts[j+1].2)]) rfl rfl ?_
    have up : ltPr ts[j].1 ts[j+1].1 = true := by
      have := List.pairwise_iff_getElem.mp h.up j (j + 1) (by simp; omega) (by simp; omega) (by omega)
      simpa using this
    have c2 : ∀ a b c : D, cut [a, b, c] none (some 2) = [a, b] := fun a b c => rfl
    have hc : cmpD m .ge (.tup [.str ts[j].1.1, .str ts[j].1.2]) (.tup [.str ts[j+1].1.1, .str ts[j+1].1.2]) = some false := by
      rw [ge_pairs (p := ts[j].1) (q := ts[j+1].1), up]
      rfl
    have p1 : (0 : Int) < ((j + 1 : Nat) : Int) := by omega
    have p2 : ((j + 1 : Nat) : Int) - 1 = (j : Int) := by omega
    have p3 : (0 : Int) < (j : Int) + 1 := by omega
    simp only [Int.natCast_add, Int.natCast_one] at a0 p1 p2 ⊢
    simp [F23, a0, a1, triD, d1, g1, m1, m2, o1, o2, o3, p1, p2, p3, c2, hc, isAbs, -List.mem_append]
/-- a web made of ties is seen so -/
theorem mins_keys {ts l : AL} (h : (l.map (·.1)).Nodup) : ((ts.foldl minA l).map (·.1)).Nodup := by
  induction ts generalizing l with
  | nil => exact h
  | cons e ts ih => exact ih (put_keys h)
theorem mins_mem : ∀ {ts l : AL} {e : Pr × Int}, e ∈ ts.foldl minA l → (∃ x ∈ ts, x.1 = e.1) ∨ ∃ x ∈ l, x.1 = e.1
  | [], l, e, h => .inr ⟨e, h, rfl⟩
  | a :: ts, l, e, h => by
    rcases mins_mem (ts := ts) (l := minA l a) h with ⟨x, hx, q⟩ | ⟨x, hx, q⟩
    · exact .inl ⟨x, List.mem_cons_of_mem _ hx, q⟩
    · rcases mem_put hx with hx | rfl
      · exact .inr ⟨x, hx, q⟩
      · exact .inl ⟨a, List.mem_cons_self, q⟩
theorem mins_seen {N : List Str} {ts : AL} (sm : SmallL N) (n1 : 1 ≤ N.length) (n2 : N.length ≤ 8) (ok : ∀ e ∈ ts, e.1.1 ∈ N ++ [grd] ∧ e.1.2 ∈ N ++ [grd] ∧ e.1.1 ≠ e.1.2) (tl : ts.length ≤ 1000) : Seen N (rowsOf (minsA ts)) := by
  have nd : ((minsA ts).map (·.1)).Nodup := mins_keys (by simp)
  have hl := mins_length (ts := ts) (l := [])
  simp only [List.length_nil] at hl
  refine ⟨sm, n1, n2, fun e he => ?_, by rw [rows_keys]; exact keys_rise nd, ?_⟩
  · obtain ⟨p, hp, rfl⟩ := List.mem_map.mp he
    obtain ⟨x, hx, q⟩ := List.mem_map.mp (keys_perm.mem_iff.mp hp)
    rcases mins_mem hx with ⟨y, hy, q2⟩ | ⟨y, hy, _⟩
    · have := ok y hy
      rw [q2, q] at this
      exact this
    · cases hy
  · have h1 := congrArg List.length (rows_keys (l := minsA ts))
    have h2 := (keys_perm (l := minsA ts)).length_eq
    simp only [List.length_map] at h1 h2
    have : (minsA ts).length = (ts.foldl minA []).length := rfl
    omega
end
end Dx
/-! LbF: the tables of ways -/
namespace Dx
open PySem
theorem fr_strs {β : Type} (f : β → Str → β) (I : β → SD → Hd → Prop) {i : Nat} {body : SD → Hd → R Fl} {ns : List Str} {b0 : β} {s : SD} {m : Hd} (h0 : I b0 s m)
    (hs : ∀ (pre : List Str) (x : Str) (post : List Str) (s : SD) (m : Hd), ns = pre ++ x :: post → I (pre.foldl f b0) s m → Is (body (s.set i (some (.str x))) m) fun fl m' => ∃ s', fl = .next s' ∧ I (f (pre.foldl f b0) x) s' m') :
    Is (frGo [] (.name i) body (ns.map .str) s m) fun fl m' => ∃ s', fl = .next s' ∧ I (ns.foldl f b0) s' m' := by
  have gen : ∀ (post pre : List Str) (s : SD) (m : Hd), ns = pre ++ post → I (pre.foldl f b0) s m → Is (frGo [] (.name i) body (post.map .str) s m) fun fl m' => ∃ s', fl = .next s' ∧ I (ns.foldl f b0) s' m' := by
    intro post
    induction post with
    | nil =>
      intro pre s m e h
      rw [List.append_nil] at e
      subst e
      unfold frGo
      simp only [List.map_nil, frGo, guOk, List.all_nil, ifs_true, is_ok]
      exact ⟨s, rfl, h⟩
    | cons x post ih =>
      intro pre s m e h
      obtain ⟨fl, m', e1, s', rfl, h'⟩ := (hs pre x post s m e h).ok
      have e2 : frGo [] (.name i) body ((x :: post).map .str) s m = frGo [] (.name i) body (post.map .str) s' m' := by
        show ifs (guOk [] m) (frTurn (.name i) body (frGo [] (.name i) body (post.map .str)) (.str x) s m) = _
        unfold frTurn
        rw [show guOk [] m = true from rfl, ifs_true, bind_n, optB_some, R.bind_ok, e1]
        rfl
      rw [e2]
      exact ih (pre ++ [x]) s' m' (by rw [e]; simp) (by rw [List.foldl_append]; exact h')
  exact gen ns [] s m rfl h0
theorem row_length {m a : Str} : ∀ {ns : List Str} {l : AL}, (ns.foldl (fun l b => relA l m a b) l).length ≤ l.length + ns.length
  | [], l => by simp
  | b :: ns, l => by
    have h1 := row_length (m := m) (a := a) (ns := ns) (l := relA l m a b)
    have h2 := rel_length (l := l) (m := m) (a := a) (b := b)
    simp only [List.foldl_cons, List.length_cons]
    omega
theorem plane_length {ns : List Str} {m : Str} : ∀ {as : List Str} {l : AL}, (as.foldl (fun l a => rowA ns l m a) l).length ≤ l.length + as.length * ns.length
  | [], l => by simp
  | b :: as, l => by
    have h1 := plane_length (ns := ns) (m := m) (as := as) (l := rowA ns l m b)
    have h2 := row_length (m := m) (a := b) (ns := ns) (l := l)
    have h3 : (rowA ns l m b).length ≤ l.length + ns.length := h2
    simp only [List.foldl_cons, List.length_cons, Nat.succ_mul]
    omega
theorem cube_length {ns : List Str} : ∀ {ms : List Str} {l : AL}, (ms.foldl (fun l m => planeA ns l m) l).length ≤ l.length + ms.length * (ns.length * ns.length)
  | [], l => by simp
  | b :: as, l => by
    have h1 := cube_length (ns := ns) (ms := as) (l := planeA ns l b)
    have h3 : (planeA ns l b).length ≤ l.length + ns.length * ns.length := plane_length
    simp only [List.foldl_cons, List.length_cons, Nat.succ_mul]
    omega
theorem look_ok {l : AL} {a b : Str} (call : Nat → List D → Hd → R D) : True := trivial
section
variable {call : Nat → List D → Hd → R D}
/-- one step of the program's table -/
theorem t2_0 (m : Hd) (p : Nat) (hp : m.length = p) (l : AL) (hl : l.length ≤ 100000) (mid a b : Str) (x0 x1 x5 x7 : Option D) :
    Is (evB call F2_0 [x0, x1, some (.ref p), some (.str mid), some (.str a), x5, some (.str b), x7] (m ++ [.dct true (enc l)])) fun fl m' => ∃ y7, fl = .next [x0, x1, some (.ref p), some (.str mid), some (.str a), x5, some (.str b), y7] ∧ m' = m ++ [.dct true (enc (relA l mid a b))] := by
  have gl := get_len (o := .dct true (enc l)) hp
  have d1 : l.length < 16777216 := by omega
  have hin : ∀ x y : Str, inD (m ++ [.dct true (enc l)]) (.tup [.str x, .str y]) (.ref p) = some (look l (x, y)).isSome := by
    intro x y
    simp only [inD, sq_ref, gl, dq, Option.bind_some, itemsO, keyOk_t2, if_true, find_enc2, Option.isSome_map]
  have mty : mtTy (m ++ [.dct true (enc l)]) (.ref p) .get2 = true := by
    simp only [mtTy, fz, gl, dq]
  have mtd : ∀ (x y : Str) (d : D), mtD .get2 (.ref p) [.tup [.str x, .str y], d] (m ++ [.dct true (enc l)]) = .ok (((look l (x, y)).map .int).getD d) (m ++ [.dct true (enc l)]) := by
    intro x y d
    simp only [mtD, dq, gl, keyOk_t2, ifs_true, find_enc2]
  cases h1 : look l (a, mid) with
  | none =>
    simp [F2_0, hin, h1, relA]
  | some u =>
    cases h2 : look l (mid, b) with
    | none => simp [F2_0, hin, h1, h2, relA]
    | some v =>
      have sl := set_len (o := .dct true (enc l)) (o' := .dct true (enc (putA l (a, b) (mn (u + v) ((look l (a, b)).getD (u + v)))))) hp
      cases h3 : look l (a, b) with
      | none =>
        rw [h3] at sl
        simp only [Option.getD_none] at sl
        simp [F2_0, hin, h1, h2, h3, gl, find_enc2, mty, mtd, relA, put_enc2, d1, mn] at sl ⊢
        exact sl
      | some w =>
        rw [h3] at sl
        simp only [Option.getD_some] at sl
        simp [F2_0, hin, h1, h2, h3, gl, find_enc2, mty, mtd, relA, put_enc2, d1, mn] at sl ⊢
        exact sl
/-- one step of the law's table -/
theorem t13_1 (m : Hd) (p : Nat) (hp : m.length = p) (l : AL) (hl : l.length ≤ 100000) (mid a b : Str) (x0 x1 x3 x7 x8 : Option D) :
    Is (evB call F13_1 [x0, x1, some (.ref p), x3, some (.str mid), some (.str a), some (.str b), x7, x8] (m ++ [.dct true (enc l)])) fun fl m' => ∃ y8, fl = .next [x0, x1, some (.ref p), x3, some (.str mid), some (.str a), some (.str b), x7, y8] ∧ m' = m ++ [.dct true (enc (relA l mid a b))] := by
  have gl := get_len (o := .dct true (enc l)) hp
  have d1 : l.length < 16777216 := by omega
  have hin : ∀ x y : Str, inD (m ++ [.dct true (enc l)]) (.tup [.str x, .str y]) (.ref p) = some (look l (x, y)).isSome := by
    intro x y
    simp only [inD, sq_ref, gl, dq, Option.bind_some, itemsO, keyOk_t2, if_true, find_enc2, Option.isSome_map]
  have mty : mtTy (m ++ [.dct true (enc l)]) (.ref p) .get2 = true := by
    simp only [mtTy, fz, gl, dq]
  have mtd : ∀ (x y : Str) (d : D), mtD .get2 (.ref p) [.tup [.str x, .str y], d] (m ++ [.dct true (enc l)]) = .ok (((look l (x, y)).map .int).getD d) (m ++ [.dct true (enc l)]) := by
    intro x y d
    simp only [mtD, dq, gl, keyOk_t2, ifs_true, find_enc2]
  cases h1 : look l (a, mid) with
  | none =>
    simp [F13_1, hin, h1, relA]
  | some u =>
    cases h2 : look l (mid, b) with
    | none => simp [F13_1, hin, h1, h2, relA]
    | some v =>
      have sl := set_len (o := .dct true (enc l)) (o' := .dct true (enc (putA l (a, b) (mn (u + v) ((look l (a, b)).getD (u + v)))))) hp
      cases h3 : look l (a, b) with
      | none =>
        rw [h3] at sl
        simp only [Option.getD_none] at sl
        simp [F13_1, hin, h1, h2, h3, gl, find_enc2, mty, mtd, relA, put_enc2, d1, mn] at sl ⊢
        exact sl
      | some w =>
        rw [h3] at sl
        simp only [Option.getD_some] at sl
        simp [F13_1, hin, h1, h2, h3, gl, find_enc2, mty, mtd, relA, put_enc2, d1, mn] at sl ⊢
        exact sl
/-- the walks of the program's table -/
theorem t2_1 (m : Hd) (p : Nat) (hp : m.length = p) (ns : List Str) (hn : ns.length ≤ 16) (l : AL) (hl : l.length ≤ 90000) (mid a : Str) (x0 x5 x6 x7 : Option D) :
    Is (evB call F2_1 [x0, some (.tup (ns.map .str)), some (.ref p), some (.str mid), some (.str a), x5, x6, x7] (m ++ [.dct true (enc l)])) fun fl m' => ∃ y6 y7, fl = .next [x0, some (.tup (ns.map .str)), some (.ref p), some (.str mid), some (.str a), x5, y6, y7] ∧ m' = m ++ [.dct true (enc (rowA ns l mid a))] := by
  have L := fr_strs (i := 6) (body := evB call F2_0) (ns := ns) (fun l b => relA l mid a b) (fun l s m' => (∃ y6 y7, s = [x0, some (.tup (ns.map .str)), some (.ref p), some (.str mid), some (.str a), x5, y6, y7]) ∧ m' = m ++ [.dct true (enc l)]) (b0 := l) ⟨⟨x6, x7, rfl⟩, rfl⟩ (by
    rintro pre x post s m' e ⟨⟨y6, y7, rfl⟩, rfl⟩
    have hl2 := row_length (m := mid) (a := a) (ns := pre) (l := l)
    have hl3 := congrArg List.length e
    rw [List.length_append] at hl3
    refine (t2_0 (call := call) m p hp _ (by omega) mid a x x0 (some (.tup (ns.map .str))) x5 y7).imp fun fl m' h => ?_
    obtain ⟨z7, rfl, rfl⟩ := h
    exact ⟨_, rfl, ⟨_, _, rfl⟩, rfl⟩)
  obtain ⟨fl, m', e1, s', rfl, ⟨y6, y7, rfl⟩, rfl⟩ := L.ok
  simp [F2_1, e1, rowA]
theorem t2_2 (m : Hd) (p : Nat) (hp : m.length = p) (ns : List Str) (hn : ns.length ≤ 16) (l : AL) (hl : l.length ≤ 80000) (mid : Str) (x0 x4 x5 x6 x7 : Option D) :
    Is (evB call F2_2 [x0, some (.tup (ns.map .str)), some (.ref p), some (.str mid), x4, x5, x6, x7] (m ++ [.dct true (enc l)])) fun fl m' => ∃ y4 y6 y7, fl = .next [x0, some (.tup (ns.map .str)), some (.ref p), some (.str mid), y4, x5, y6, y7] ∧ m' = m ++ [.dct true (enc (planeA ns l mid))] := by
  have L := fr_strs (i := 4) (body := evB call F2_1) (ns := ns) (fun l a => rowA ns l mid a) (fun l s m' => (∃ y4 y6 y7, s = [x0, some (.tup (ns.map .str)), some (.ref p), some (.str mid), y4, x5, y6, y7]) ∧ m' = m ++ [.dct true (enc l)]) (b0 := l) ⟨⟨x4, x6, x7, rfl⟩, rfl⟩ (by
    rintro pre x post s m' e ⟨⟨y4, y6, y7, rfl⟩, rfl⟩
    have hl2 := plane_length (ns := ns) (m := mid) (as := pre) (l := l)
    have hl3 := congrArg List.length e
    rw [List.length_append] at hl3
    have hl4 : pre.length * ns.length ≤ 16 * 16 := Nat.mul_le_mul (by omega) hn
    refine (t2_1 (call := call) m p hp ns hn _ (by omega) mid x x0 x5 y6 y7).imp fun fl m' h => ?_
    obtain ⟨z6, z7, rfl, rfl⟩ := h
    exact ⟨_, rfl, ⟨_, _, _, rfl⟩, rfl⟩)
  obtain ⟨fl, m', e1, s', rfl, ⟨y4, y6, y7, rfl⟩, rfl⟩ := L.ok
  simp [F2_2, e1, planeA]
theorem t2_3 (m : Hd) (p : Nat) (hp : m.length = p) (ns : List Str) (hn : ns.length ≤ 16) (l : AL) (hl : l.length ≤ 70000) (x0 x3 x4 x5 x6 x7 : Option D) :
    Is (frGo [] (.name 3) (evB call F2_2) (ns.map .str) [x0, some (.tup (ns.map .str)), some (.ref p), x3, x4, x5, x6, x7] (m ++ [.dct true (enc l)])) fun fl m' => ∃ y3 y4 y6 y7, fl = .next [x0, some (.tup (ns.map .str)), some (.ref p), y3, y4, x5, y6, y7] ∧ m' = m ++ [.dct true (enc (cubeA ns l))] := by
  have L := fr_strs (i := 3) (body := evB call F2_2) (ns := ns) (fun l v => planeA ns l v) (fun l s m' => (∃ y3 y4 y6 y7, s = [x0, some (.tup (ns.map .str)), some (.ref p), y3, y4, x5, y6, y7]) ∧ m' = m ++ [.dct true (enc l)]) (b0 := l) ⟨⟨x3, x4, x6, x7, rfl⟩, rfl⟩ (by
    rintro pre x post s m' e ⟨⟨y3, y4, y6, y7, rfl⟩, rfl⟩
    have hl2 := cube_length (ns := ns) (ms := pre) (l := l)
    have hl3 := congrArg List.length e
    rw [List.length_append] at hl3
    have hl4 : pre.length * (ns.length * ns.length) ≤ 16 * (16 * 16) := Nat.mul_le_mul (by omega) (Nat.mul_le_mul hn hn)
    refine (t2_2 (call := call) m p hp ns hn _ (by omega) x x0 y4 x5 y6 y7).imp fun fl m' h => ?_
    obtain ⟨z4, z6, z7, rfl, rfl⟩ := h
    exact ⟨_, rfl, ⟨_, _, _, _, rfl⟩, rfl⟩)
  obtain ⟨fl, m', e1, s', rfl, ⟨y3, y4, y6, y7, rfl⟩, rfl⟩ := L.ok
  rw [e1]
  exact ⟨_, _, _, _, rfl, rfl⟩
/-- the walks of the law's table -/
theorem t13_2 (m : Hd) (p : Nat) (hp : m.length = p) (ns : List Str) (hn : ns.length ≤ 16) (l : AL) (hl : l.length ≤ 90000) (mid a : Str) (x0 x3 x6 x7 x8 : Option D) :
    Is (evB call F13_2 [x0, some (.lst (ns.map .str)), some (.ref p), x3, some (.str mid), some (.str a), x6, x7, x8] (m ++ [.dct true (enc l)])) fun fl m' => ∃ y6 y8, fl = .next [x0, some (.lst (ns.map .str)), some (.ref p), x3, some (.str mid), some (.str a), y6, x7, y8] ∧ m' = m ++ [.dct true (enc (rowA ns l mid a))] := by
  have L := fr_strs (i := 6) (body := evB call F13_1) (ns := ns) (fun l b => relA l mid a b) (fun l s m' => (∃ y6 y8, s = [x0, some (.lst (ns.map .str)), some (.ref p), x3, some (.str mid), some (.str a), y6, x7, y8]) ∧ m' = m ++ [.dct true (enc l)]) (b0 := l) ⟨⟨x6, x8, rfl⟩, rfl⟩ (by
    rintro pre x post s m' e ⟨⟨y6, y8, rfl⟩, rfl⟩
    have hl2 := row_length (m := mid) (a := a) (ns := pre) (l := l)
    have hl3 := congrArg List.length e
    rw [List.length_append] at hl3
    refine (t13_1 (call := call) m p hp _ (by omega) mid a x x0 (some (.lst (ns.map .str))) x3 x7 y8).imp fun fl m' h => ?_
    obtain ⟨z8, rfl, rfl⟩ := h
    exact ⟨_, rfl, ⟨_, _, rfl⟩, rfl⟩)
  obtain ⟨fl, m', e1, s', rfl, ⟨y6, y8, rfl⟩, rfl⟩ := L.ok
  simp [F13_2, e1, rowA]
theorem t13_3 (m : Hd) (p : Nat) (hp : m.length = p) (ns : List Str) (hn : ns.length ≤ 16) (l : AL) (hl : l.length ≤ 80000) (mid : Str) (x0 x3 x5 x6 x7 x8 : Option D) :
    Is (evB call F13_3 [x0, some (.lst (ns.map .str)), some (.ref p), x3, some (.str mid), x5, x6, x7, x8] (m ++ [.dct true (enc l)])) fun fl m' => ∃ y5 y6 y8, fl = .next [x0, some (.lst (ns.map .str)), some (.ref p), x3, some (.str mid), y5, y6, x7, y8] ∧ m' = m ++ [.dct true (enc (planeA ns l mid))] := by
  have L := fr_strs (i := 5) (body := evB call F13_2) (ns := ns) (fun l a => rowA ns l mid a) (fun l s m' => (∃ y5 y6 y8, s = [x0, some (.lst (ns.map .str)), some (.ref p), x3, some (.str mid), y5, y6, x7, y8]) ∧ m' = m ++ [.dct true (enc l)]) (b0 := l) ⟨⟨x5, x6, x8, rfl⟩, rfl⟩ (by
    rintro pre x post s m' e ⟨⟨y5, y6, y8, rfl⟩, rfl⟩
    have hl2 := plane_length (ns := ns) (m := mid) (as := pre) (l := l)
    have hl3 := congrArg List.length e
    rw [List.length_append] at hl3
    have hl4 : pre.length * ns.length ≤ 16 * 16 := Nat.mul_le_mul (by omega) hn
    refine (t13_2 (call := call) m p hp ns hn _ (by omega) mid x x0 x3 y6 x7 y8).imp fun fl m' h => ?_
    obtain ⟨z6, z8, rfl, rfl⟩ := h
    exact ⟨_, rfl, ⟨_, _, _, rfl⟩, rfl⟩)
  obtain ⟨fl, m', e1, s', rfl, ⟨y5, y6, y8, rfl⟩, rfl⟩ := L.ok
  simp [F13_3, e1, planeA]
theorem t13_4 (m : Hd) (p : Nat) (hp : m.length = p) (ns : List Str) (hn : ns.length ≤ 16) (l : AL) (hl : l.length ≤ 70000) (x0 x3 x4 x5 x6 x7 x8 : Option D) :
    Is (frGo [] (.name 4) (evB call F13_3) (ns.map .str) [x0, some (.lst (ns.map .str)), some (.ref p), x3, x4, x5, x6, x7, x8] (m ++ [.dct true (enc l)])) fun fl m' => ∃ y4 y5 y6 y8, fl = .next [x0, some (.lst (ns.map .str)), some (.ref p), x3, y4, y5, y6, x7, y8] ∧ m' = m ++ [.dct true (enc (cubeA ns l))] := by
  have L := fr_strs (i := 4) (body := evB call F13_3) (ns := ns) (fun l v => planeA ns l v) (fun l s m' => (∃ y4 y5 y6 y8, s = [x0, some (.lst (ns.map .str)), some (.ref p), x3, y4, y5, y6, x7, y8]) ∧ m' = m ++ [.dct true (enc l)]) (b0 := l) ⟨⟨x4, x5, x6, x8, rfl⟩, rfl⟩ (by
    rintro pre x post s m' e ⟨⟨y4, y5, y6, y8, rfl⟩, rfl⟩
    have hl2 := cube_length (ns := ns) (ms := pre) (l := l)
    have hl3 := congrArg List.length e
    rw [List.length_append] at hl3
    have hl4 : pre.length * (ns.length * ns.length) ≤ 16 * (16 * 16) := Nat.mul_le_mul (by omega) (Nat.mul_le_mul hn hn)
    refine (t13_3 (call := call) m p hp ns hn _ (by omega) x x0 x3 y5 y6 x7 y8).imp fun fl m' h => ?_
    obtain ⟨z5, z6, z8, rfl, rfl⟩ := h
    exact ⟨_, rfl, ⟨_, _, _, _, rfl⟩, rfl⟩)
  obtain ⟨fl, m', e1, s', rfl, ⟨y4, y5, y6, y8, rfl⟩, rfl⟩ := L.ok
  rw [e1]
  exact ⟨_, _, _, _, rfl, rfl⟩
/-- the diagonal -/
def diaA (ns : List Str) (l : AL) : AL := ns.foldl (fun l a => putA l (a, a) 0) l
theorem dia_length : ∀ {ns : List Str} {l : AL}, (diaA ns l).length ≤ l.length + ns.length
  | [], l => by simp [diaA]
  | a :: ns, l => by
    have h1 := dia_length (ns := ns) (l := putA l (a, a) 0)
    have h2 := put_length (l := l) (p := (a, a)) (i := 0)
    simp only [diaA, List.foldl_cons, List.length_cons] at h1 ⊢
    omega
theorem t13_0 (m : Hd) (p : Nat) (hp : m.length = p) (ns : List Str) (hn : ns.length ≤ 16) (l : AL) (hl : l.length ≤ 60000) (x0 x3 x4 x5 x6 x7 x8 : Option D) :
    Is (frGo [] (.name 3) (evB call F13_0) (ns.map .str) [x0, some (.lst (ns.map .str)), some (.ref p), x3, x4, x5, x6, x7, x8] (m ++ [.dct true (enc l)])) fun fl m' => ∃ y3, fl = .next [x0, some (.lst (ns.map .str)), some (.ref p), y3, x4, x5, x6, x7, x8] ∧ m' = m ++ [.dct true (enc (diaA ns l))] := by
  have L := fr_strs (i := 3) (body := evB call F13_0) (ns := ns) (fun l a => putA l (a, a) 0) (fun l s m' => (∃ y3, s = [x0, some (.lst (ns.map .str)), some (.ref p), y3, x4, x5, x6, x7, x8]) ∧ m' = m ++ [.dct true (enc l)]) (b0 := l) ⟨⟨x3, rfl⟩, rfl⟩ (by
    rintro pre x post s m' e ⟨⟨y3, rfl⟩, rfl⟩
    have hl2 := dia_length (ns := pre) (l := l)
    unfold diaA at hl2
    have hl3 := congrArg List.length e
    rw [List.length_append] at hl3
    generalize pre.foldl (fun l a => putA l (a, a) 0) l = l2 at hl2 ⊢
    have gl := get_len (o := .dct true (enc l2)) hp
    have sl := set_len (o := .dct true (enc l2)) (o' := .dct true (enc (putA l2 (x, x) 0))) hp
    have d1 : l2.length < 16777216 := by omega
    simp [F13_0, gl, sl, put_enc2, d1])
  obtain ⟨fl, m', e1, s', rfl, ⟨y3, rfl⟩, rfl⟩ := L.ok
  rw [e1]
  exact ⟨_, rfl, rfl⟩
end
end Dx
/-! LbG: the tables of a web -/
namespace Dx
open PySem
theorem dc_rows {step : D → Hd → R (Option (D × D))} {m : Hd} : ∀ {ts l : AL}, (∀ e ∈ ts, step (triD e) m = .ok (some (kyD e.1, .int e.2)) m) → dcGo true [] step (ts.map triD) (enc l) m = .ok (enc (putsA l ts)) m
  | [], l, _ => rfl
  | e :: ts, l, h => by
    have ih := dc_rows (step := step) (m := m) (ts := ts) (l := putA l e.1 e.2) fun x hx => h x (List.mem_cons_of_mem _ hx)
    show ifs (guOk [] m) ((step (triD e) m).bind _) = _
    rw [show guOk [] m = true from rfl, ifs_true, h e List.mem_cons_self, R.bind_ok]
    show ifs (keyOk true (kyD e.1)) (dcGo true [] step (ts.map triD) (put (enc l) (kyD e.1) (.int e.2)) m) = _
    rw [keyOk_ky, ifs_true, put_enc, ih]
    rfl
theorem dc_dia {step : D → Hd → R (Option (D × D))} {m : Hd} : ∀ {ns : List Str} {l : AL}, (∀ x ∈ ns, step (.str x) m = .ok (some (kyD (x, x), .int 0)) m) → dcGo true [] step (ns.map .str) (enc l) m = .ok (enc (diaA ns l)) m
  | [], l, _ => rfl
  | e :: ts, l, h => by
    have ih := dc_dia (step := step) (m := m) (ns := ts) (l := putA l (e, e) 0) fun x hx => h x (List.mem_cons_of_mem _ hx)
    show ifs (guOk [] m) ((step (.str e) m).bind _) = _
    rw [show guOk [] m = true from rfl, ifs_true, h e List.mem_cons_self, R.bind_ok]
    show ifs (keyOk true (kyD (e, e))) (dcGo true [] step (ts.map .str) (put (enc l) (kyD (e, e)) (.int 0)) m) = _
    rw [keyOk_ky, ifs_true, put_enc, ih]
    rfl
theorem dia_ne {n : Str} {ns : List Str} {l : AL} : diaA (n :: ns) l ≠ [] := by
  have : ∀ (ns : List Str) (l : AL), l ≠ [] → diaA ns l ≠ [] := by
    intro ns
    induction ns with
    | nil => intro l h; exact h
    | cons a ns ih => intro l h; exact ih _ put_ne
  exact this ns _ put_ne
theorem names_gr {N : List Str} : N.map D.str ++ [.str grd] = (N ++ [grd]).map .str := by simp
section
variable {T : Tb}
theorem nof_is [HasFn T 1 F1] (k : Nat) (m : Hd) (N : List Str) (ts : AL) (hN : N.length ≤ 15) : callN T (k+1) 1 [webD N ts] m = .ok (.tup ((N ++ [grd]).map .str)) m := by
  rw [call_of F1]
  refine run_no (f := F1) rfl rfl ?_
  have g1 : Str.ofString "ground" = grd := rfl
  have d1 : N.length + 1 ≤ 16777216 := by omega
  simp [F1, webD, g1, d1]
theorem num_is [HasFn T 0 F0] (k : Nat) (m : Hd) (N : List Str) (ts : AL) (ht : ts.length ≤ 1000) : callN T (k+1) 0 [webD N ts] m = .ok (.dct true (enc (putsA [] ts))) m := by
  have key : dcGo true [] (dcStep (.tup [.name 1, .name 2, .name 3]) [some (webD N ts), none, none, none] (evT (callN T k) .yes) (evE (callN T k) (.tup [.var 1, .var 2])) (evE (callN T k) (.var 3))) (ts.map triD) [] m = .ok (enc (putsA [] ts)) m :=
    dc_rows (l := []) fun e he => by simp [dcStep, triD, kyD]
  rw [call_of F0, run_gc (m' := m ++ [.dead]) (d := .dct true (enc (putsA [] ts))) rfl rfl ?_ (by simp only [D.und]; exact und_enc) keep_same, take_same]
  have d1 : ts.length ≤ 16777216 := by omega
  simp only [webD] at key
  simp [F0, webD, d1, key, newD]
theorem tbl_is [HasFn T 0 F0] [HasFn T 1 F1] [HasFn T 2 F2] (k : Nat) (m : Hd) (N : List Str) (ts : AL) (hN : N.length ≤ 15) (ht : ts.length ≤ 1000) :
    callN T (k+2) 2 [webD N ts] m = .ok (.dct true (enc (cubeA (N ++ [grd]) (putsA (diaA (N ++ [grd]) []) (putsA [] ts))))) m := by
  have e1 := nof_is (T := T) k m N ts hN
  have key : dcGo true [] (dcStep (.name 5) [some (webD N ts), some (.tup ((N ++ [grd]).map .str)), none, none, none, none, none, none] (evT (callN T (k+1)) .yes) (evE (callN T (k+1)) (.tup [.var 5, .var 5])) (evE (callN T (k+1)) (.con (.int 0)))) ((N ++ [grd]).map .str) [] m = .ok (enc (diaA (N ++ [grd]) [])) m :=
    dc_dia (l := []) fun e he => by simp [dcStep, kyD]
  have hl0 : (diaA (N ++ [grd]) []).length ≤ 16 := by
    have := dia_length (ns := N ++ [grd]) (l := [])
    simp at this
    omega
  have hl1 : (putsA [] ts).length ≤ 1000 := by
    have := puts_length (z := ts) (l := [])
    simp at this
    omega
  have hl2 : (putsA (diaA (N ++ [grd]) []) (putsA [] ts)).length ≤ 2000 := by
    have := puts_length (z := putsA [] ts) (l := diaA (N ++ [grd]) [])
    omega
  have e2 := num_is (T := T) k (m ++ [.dct true (enc (diaA (N ++ [grd]) []))]) N ts ht
  obtain ⟨fl, m', e3, y3, y4, y6, y7, rfl, rfl⟩ := (t2_3 (call := callN T (k+1)) m m.length rfl (N ++ [grd]) (by simp; omega) (putsA (diaA (N ++ [grd]) []) (putsA [] ts)) (by omega) (some (webD N ts)) none none none none none).ok
  rw [call_of F2, run_gc (m' := m ++ [.dead]) (d := .dct true (enc (cubeA (N ++ [grd]) (putsA (diaA (N ++ [grd]) []) (putsA [] ts))))) rfl rfl ?_ (by simp only [D.und]; exact und_enc) keep_same, take_same]
  have mty : mtTy (m ++ [.dct true (enc (diaA (N ++ [grd]) []))]) (.ref m.length) .update = true := by
    have gl := get_len (m := m) (o := .dct true (enc (diaA (N ++ [grd]) []))) rfl
    simp only [mtTy, fz, gl, dq]
  have mtd : mtD .update (.ref m.length) [.dct true (enc (putsA [] ts))] (m ++ [.dct true (enc (diaA (N ++ [grd]) []))]) = .ok .non (m ++ [.dct true (enc (putsA (diaA (N ++ [grd]) []) (putsA [] ts)))]) := by
    have gl := get_len (m := m) (o := .dct true (enc (diaA (N ++ [grd]) []))) rfl
    have hne : (enc (diaA (N ++ [grd]) [])).isEmpty = false := by
      obtain ⟨a, r, e⟩ : ∃ a r, N ++ [grd] = a :: r := by cases N <;> exact ⟨_, _, rfl⟩
      rw [e]
      cases hd : diaA (a :: r) [] with
      | nil => exact absurd hd dia_ne
      | cons x y => rfl
    have hlt : (diaA (N ++ [grd]) []).length + (putsA [] ts).length < sizeLine := by rw [line_eq]; omega
    simp only [mtD, dq, gl, hne, putAll_enc, enc_len, hlt, decide_true, Bool.not_false, Bool.and_true, ne_eq, reduceCtorEq, not_false_eq_true, ifs_true, set_last]
  have d1 : N.length + 1 ≤ 16777216 := by omega
  have gl := get_len (m := m) (o := .dct true (enc (cubeA (N ++ [grd]) (putsA (diaA (N ++ [grd]) []) (putsA [] ts))))) rfl
  have sl := set_len (m := m) (o := .dct true (enc (cubeA (N ++ [grd]) (putsA (diaA (N ++ [grd]) []) (putsA [] ts))))) (o' := .dead) rfl
  have hz : (N ++ [grd]).length ≤ 16777216 := by simpa using d1
  simp [F2, e1, hz, key, newD, mty, e2, mtd, e3, gl, sl, -List.map_append, -List.length_append]
theorem ltbl_is [HasFn T 13 F13] (k : Nat) (m : Hd) (N : List Str) (ts : AL) (hN : N.length ≤ 15) (ht : ts.length ≤ 1000) :
    callN T (k+1) 13 [webD N ts] m = .ok (.dct true (enc (cubeA (N ++ [grd]) (diaA (N ++ [grd]) (putsA [] ts))))) m := by
  have key : lcGo [] (lcStep (.tup [.name 5, .name 6, .name 7]) [some (webD N ts), some (.lst ((N ++ [grd]).map .str)), none, none, none, none, none, none, none] (evT (callN T k) .yes) (evE (callN T k) (.tup [.tup [.var 5, .var 6], .var 7]))) (ts.map triD) m = .ok (ts.map fun e => .tup [kyD e.1, .int e.2]) m := by
    have : ∀ d ∈ ts.map triD, lcStep (.tup [.name 5, .name 6, .name 7]) [some (webD N ts), some (.lst ((N ++ [grd]).map .str)), none, none, none, none, none, none, none] (evT (callN T k) .yes) (evE (callN T k) (.tup [.tup [.var 5, .var 6], .var 7])) d m = .ok (some ((fun d => match d with | .tup [a, b, c] => .tup [.tup [a, b], c] | _ => .non) d)) m := by
      intro d hd
      obtain ⟨e, he, rfl⟩ := List.mem_map.mp hd
      simp [lcStep, triD]
    rw [lc_map rfl this, List.map_map]
    rfl
  have hl1 : (putsA [] ts).length ≤ 1000 := by
    have := puts_length (z := ts) (l := [])
    simp at this
    omega
  have hl2 : (diaA (N ++ [grd]) (putsA [] ts)).length ≤ 2000 := by
    have := dia_length (ns := N ++ [grd]) (l := putsA [] ts)
    simp at this
    omega
  have hd : biD (.dict true) [.lst (ts.map fun e => .tup [kyD e.1, .int e.2])] m = newD true (enc (putsA [] ts)) m := by
    show (match (if (ts.map fun e => D.tup [kyD e.1, .int e.2]).length < sizeLine then pairsD true (ts.map fun e => .tup [kyD e.1, .int e.2]) (enc []) else none) with
      | some kvs => newD true kvs m
      | none => R.no) = _
    rw [if_pos (by rw [List.length_map, line_eq]; omega), pairs_enc]
  obtain ⟨fl, m', e3, y3, rfl, rfl⟩ := (t13_0 (call := callN T k) m m.length rfl (N ++ [grd]) (by simp; omega) (putsA [] ts) (by omega) (some (webD N ts)) none none none none none none).ok
  obtain ⟨fl, m', e4, y4, y5, y6, y8, rfl, rfl⟩ := (t13_4 (call := callN T k) m m.length rfl (N ++ [grd]) (by simp; omega) (diaA (N ++ [grd]) (putsA [] ts)) (by omega) (some (webD N ts)) y3 none none none none none).ok
  rw [call_of F13, run_gc (m' := m ++ [.dead]) (d := .dct true (enc (cubeA (N ++ [grd]) (diaA (N ++ [grd]) (putsA [] ts))))) rfl rfl ?_ (by simp only [D.und]; exact und_enc) keep_same, take_same]
  have g1 : Str.ofString "ground" = grd := rfl
  have d1 : N.length + 1 ≤ 16777216 := by omega
  have d2 : ts.length ≤ 16777216 := by omega
  have d3 : N.length ≤ 16777216 := by omega
  have bl : biD (.list false) [.nms N] m = .ok (.lst (N.map .str)) m := rfl
  have gl := get_len (m := m) (o := .dct true (enc (cubeA (N ++ [grd]) (diaA (N ++ [grd]) (putsA [] ts))))) rfl
  have sl := set_len (m := m) (o := .dct true (enc (cubeA (N ++ [grd]) (diaA (N ++ [grd]) (putsA [] ts))))) (o' := .dead) rfl
  have wd : webD N ts = .tup [.nms N, .tup (ts.map triD)] := rfl
  simp only [wd] at key e3 e4 ⊢
  simp [F13, bl, g1, d1, d2, d3, key, hd, newD, e3, e4, gl, sl, names_gr, -List.map_append]
end
/-! ### both are the same ways -/
def iniF (ns : List Str) (ts : AL) : Fw := fun a b => if a = b ∧ a ∈ ns then some 0 else look ts (a, b)
theorem dia_look {a b : Str} : ∀ {ns : List Str} {l : AL}, look (diaA ns l) (a, b) = if a = b ∧ a ∈ ns then some 0 else look l (a, b)
  | [], l => by simp [diaA]
  | x :: ns, l => by
    have ih := dia_look (a := a) (b := b) (ns := ns) (l := putA l (x, x) 0)
    show look (diaA ns (putA l (x, x) 0)) (a, b) = _
    rw [ih, look_put]
    by_cases h1 : a = b
    · subst h1
      by_cases h2 : a ∈ ns
      · simp [h2]
      · by_cases h3 : x = a
        · subst h3; simp
        · have h4 : ¬ a = x := fun z => h3 z.symm
          simp [h2, h3, h4]
    · have : ¬ (x = a ∧ x = b) := fun z => h1 (z.1.symm.trans z.2)
      simp [h1, this]
theorem puts_nil {ts : AL} (h : (ts.map (·.1)).Nodup) {p : Pr} : look (putsA [] ts) p = look ts p := by
  rw [look_puts h]
  simp [look]
theorem puts_keys : ∀ {z l : AL}, (l.map (·.1)).Nodup → ((putsA l z).map (·.1)).Nodup
  | [], l, h => h
  | e :: z, l, h => puts_keys (z := z) (l := putA l e.1 e.2) (put_keys h)
theorem ini1 {ns : List Str} {ts : AL} (h : (ts.map (·.1)).Nodup) (hd : ∀ a, look ts (a, a) = none) : fwOf (putsA (diaA ns []) (putsA [] ts)) = iniF ns ts := by
  funext a b
  simp only [fwOf, iniF]
  rw [look_puts (puts_keys (by simp)), puts_nil h, dia_look]
  by_cases c : a = b ∧ a ∈ ns
  · obtain ⟨rfl, c⟩ := c
    simp [hd, c]
  · simp [c, look]
theorem ini2 {ns : List Str} {ts : AL} (h : (ts.map (·.1)).Nodup) : fwOf (diaA ns (putsA [] ts)) = iniF ns ts := by
  funext a b
  simp only [fwOf, iniF]
  rw [dia_look, puts_nil h]
theorem tk_diag {N : List Str} {P : Str → Int} {ts : AL} (h : TieOk N P ts) (a : Str) : look ts (a, a) = none := by
  cases e : look ts (a, a) with
  | none => rfl
  | some v => exact absurd rfl (h.ok _ (look_mem e)).2.2.1
theorem ini_inv {ns : List Str} {P : Str → Int} {ts : AL} (h : TieOk ns P ts) : Inv0 ns P (iniF ns ts) := by
  refine ⟨fun a b w e => ?_, fun a ha => by simp [iniF, ha], fun a b w e => ?_⟩
  · unfold iniF at e
    split at e
    next c => cases e; rw [c.1]; omega
    next => exact (h.ok _ (look_mem e)).2.2.2.1
  · unfold iniF at e
    split at e
    next c => exact ⟨c.2, c.1 ▸ c.2⟩
    next => exact ⟨(h.ok _ (look_mem e)).1, (h.ok _ (look_mem e)).2.1⟩
/-- the ways of a web -/
def waysF (N : List Str) (ts : AL) : Fw := fwOf (cubeA (N ++ [grd]) (diaA (N ++ [grd]) (putsA [] ts)))
theorem ways_prog {N : List Str} {P : Str → Int} {ts : AL} (h : TieOk (N ++ [grd]) P ts) : fwOf (cubeA (N ++ [grd]) (putsA (diaA (N ++ [grd]) []) (putsA [] ts))) = waysF N ts :=
  cube_same _ (by rw [ini1 h.nd (tk_diag h), ini2 h.nd])
structure WaysOk (N : List Str) (P : Str → Int) (ts : AL) (f : Fw) : Prop where
  inv : Inv0 (N ++ [grd]) P f
  tri : ∀ a m b p q, f a m = some p → f m b = some q → ∃ r, f a b = some r ∧ r ≤ p + q
  tie : ∀ e ∈ ts, ∃ r, f e.1.1 e.1.2 = some r ∧ r ≤ e.2
theorem ways_ok {N : List Str} {P : Str → Int} {ts : AL} (h : TieOk (N ++ [grd]) P ts) : WaysOk N P ts (waysF N ts) := by
  have I : Inv0 (N ++ [grd]) P (fwOf (diaA (N ++ [grd]) (putsA [] ts))) := by rw [ini2 h.nd]; exact ini_inv h
  obtain ⟨J, U, W⟩ := cube_ok I
  refine ⟨J, U, fun e he => ?_⟩
  have hl : look ts e.1 = some e.2 := by
    have : ∀ {l : AL}, (l.map (·.1)).Nodup → e ∈ l → look l e.1 = some e.2 := by
      intro l
      induction l with
      | nil => intro _ h; cases h
      | cons x l ih =>
        intro hn hm
        simp only [List.map_cons, List.nodup_cons] at hn
        simp only [look]
        rcases List.mem_cons.mp hm with rfl | hm
        · simp
        · have : x.1 ≠ e.1 := fun z => hn.1 (List.mem_map.mpr ⟨_, hm, z.symm⟩)
          simp only [this, if_false]
          exact ih hn.2 hm
    exact this h.nd he
  refine W e.1.1 e.1.2 e.2 ?_
  rw [ini2 h.nd]
  unfold iniF
  have := (h.ok e he).2.2.1
  simp [this, hl]
end Dx
/-! LbH: ends, boxes, legal stands -/
namespace Dx
open PySem
def oi : Option Int → D
  | none => .non
  | some i => .int i
@[simp] theorem oi_n : oi none = .non := rfl
@[simp] theorem oi_s {i : Int} : oi (some i) = .int i := rfl
theorem in_dct {m : Hd} {d : D} {t : Bool} {kvs : List (D × D)} : inD m d (.dct t kvs) = if keyOk t d then some (find kvs d).isSome else none := rfl
def lowsF (N : List Str) (f : Fw) : List (Option Int) := N.map fun x => (f x grd).map fun v => -v
def highsF (N : List Str) (f : Fw) : List (Option Int) := N.map fun x => f grd x
section
variable {T : Tb}
theorem lc_strs {step : D → Hd → R (Option D)} {m : Hd} {N : List Str} {f : Str → D} (h : ∀ x ∈ N, step (.str x) m = .ok (some (f x)) m) : lcGo [] step (N.map .str) m = .ok (N.map f) m := by
  have : ∀ d ∈ N.map D.str, step d m = .ok (some ((fun d => match d with | .str x => f x | _ => .non) d)) m := by
    intro d hd
    obtain ⟨x, hx, rfl⟩ := List.mem_map.mp hd
    exact h x hx
  rw [lc_map rfl this, List.map_map]
  rfl
theorem find_fw {X : AL} {f : Fw} (h : fwOf X = f) (a b : Str) : find (enc X) (.tup [.str a, .str b]) = (f a b).map .int := by
  rw [find_enc2, ← h]
  rfl
theorem lowest_is [HasFn T 0 F0] [HasFn T 1 F1] [HasFn T 2 F2] [HasFn T 3 F3] (k : Nat) (m : Hd) (N : List Str) (P : Str → Int) (ts : AL) (hN : N.length ≤ 15) (ht : ts.length ≤ 1000) (tk : TieOk (N ++ [grd]) P ts) :
    callN T (k+3) 3 [webD N ts] m = .ok (.tup ((lowsF N (waysF N ts)).map oi)) m := by
  have e1 := tbl_is (T := T) k m N ts hN ht
  have fw := ways_prog tk
  generalize cubeA (N ++ [grd]) (putsA (diaA (N ++ [grd]) []) (putsA [] ts)) = X at e1 fw
  have g1 : Str.ofString "ground" = grd := rfl
  have key : lcGo [] (lcStep (.name 2) [some (webD N ts), some (.dct true (enc X)), none] (evT (callN T (k+2)) .yes) (evE (callN T (k+2)) (.cond (.cmp .isin (.tup [.var 2, .con (.str grd)]) (.var 1)) (.neg (.ix (.var 1) (.tup [.var 2, .con (.str grd)]))) (.con .non)))) (N.map .str) m = .ok ((lowsF N (waysF N ts)).map oi) m := by
    rw [lc_strs (f := fun x => oi ((waysF N ts x grd).map fun v => -v)) fun x hx => ?_]
    · unfold lowsF
      rw [List.map_map]
      rfl
    · have ff := find_fw fw x grd
      cases h : waysF N ts x grd <;> rw [h] at ff <;> simp [lcStep, in_dct, ff]
  rw [call_of F3]
  refine run_no (f := F3) rfl rfl ?_
  have d1 : N.length ≤ 16777216 := by omega
  have wd : webD N ts = .tup [.nms N, .tup (ts.map triD)] := rfl
  simp only [wd] at key e1 ⊢
  simp [F3, e1, g1, d1, key]
theorem highest_is [HasFn T 0 F0] [HasFn T 1 F1] [HasFn T 2 F2] [HasFn T 4 F4] (k : Nat) (m : Hd) (N : List Str) (P : Str → Int) (ts : AL) (hN : N.length ≤ 15) (ht : ts.length ≤ 1000) (tk : TieOk (N ++ [grd]) P ts) :
    callN T (k+3) 4 [webD N ts] m = .ok (.tup ((highsF N (waysF N ts)).map oi)) m := by
  have e1 := tbl_is (T := T) k m N ts hN ht
  have fw := ways_prog tk
  generalize cubeA (N ++ [grd]) (putsA (diaA (N ++ [grd]) []) (putsA [] ts)) = X at e1 fw
  have g1 : Str.ofString "ground" = grd := rfl
  have key : lcGo [] (lcStep (.name 2) [some (webD N ts), some (.dct true (enc X)), none] (evT (callN T (k+2)) .yes) (evE (callN T (k+2)) (.mt .get2 (.var 1) [.tup [.con (.str grd), .var 2], .con .non]))) (N.map .str) m = .ok ((highsF N (waysF N ts)).map oi) m := by
    rw [lc_strs (f := fun x => oi (waysF N ts grd x)) fun x hx => ?_]
    · unfold highsF
      rw [List.map_map]
      rfl
    · have ff := find_fw fw grd x
      cases h : waysF N ts grd x <;> rw [h] at ff <;> simp [lcStep, ff]
  rw [call_of F4]
  refine run_no (f := F4) rfl rfl ?_
  have d1 : N.length ≤ 16777216 := by omega
  have wd : webD N ts = .tup [.nms N, .tup (ts.map triD)] := rfl
  simp only [wd] at key e1 ⊢
  simp [F4, e1, g1, d1, key]
theorem ends_is [HasFn T 13 F13] [HasFn T 17 F17] (k : Nat) (m : Hd) (N : List Str) (ts : AL) (hN : N.length ≤ 15) (ht : ts.length ≤ 1000) :
    callN T (k+2) 17 [webD N ts] m = .ok (.tup [.tup ((lowsF N (waysF N ts)).map oi), .tup ((highsF N (waysF N ts)).map oi)]) m := by
  have e1 := ltbl_is (T := T) k m N ts hN ht
  have fw : fwOf (cubeA (N ++ [grd]) (diaA (N ++ [grd]) (putsA [] ts))) = waysF N ts := rfl
  generalize cubeA (N ++ [grd]) (diaA (N ++ [grd]) (putsA [] ts)) = X at e1 fw
  have g1 : Str.ofString "ground" = grd := rfl
  have key1 : lcGo [] (lcStep (.name 4) [some (webD N ts), some (.dct true (enc X)), none, none, none, none] (evT (callN T (k+1)) .yes) (evE (callN T (k+1)) (.mt .get2 (.var 1) [.tup [.var 4, .con (.str grd)], .con .non]))) (N.map .str) m = .ok (N.map fun x => oi (waysF N ts x grd)) m := by
    refine lc_strs fun x hx => ?_
    have ff := find_fw fw x grd
    cases h : waysF N ts x grd <;> rw [h] at ff <;> simp [lcStep, ff]
  have key2 : ∀ x2, lcGo [] (lcStep (.name 4) [some (webD N ts), some (.dct true (enc X)), x2, none, none, none] (evT (callN T (k+1)) .yes) (evE (callN T (k+1)) (.mt .get2 (.var 1) [.tup [.con (.str grd), .var 4], .con .non]))) (N.map .str) m = .ok ((highsF N (waysF N ts)).map oi) m := by
    intro x2
    rw [lc_strs (f := fun x => oi (waysF N ts grd x)) fun x hx => ?_]
    · unfold highsF
      rw [List.map_map]
      rfl
    · have ff := find_fw fw grd x
      cases h : waysF N ts grd x <;> rw [h] at ff <;> simp [lcStep, ff]
  have key3 : ∀ x2 x3, lcGo [] (lcStep (.name 5) [some (webD N ts), some (.dct true (enc X)), x2, x3, none, none] (evT (callN T (k+1)) .yes) (evE (callN T (k+1)) (.cond (.cmp .is (.var 5) (.con .non)) (.con .non) (.bin false .sub (.con (.int 0)) (.var 5))))) (N.map fun x => oi (waysF N ts x grd)) m = .ok ((lowsF N (waysF N ts)).map oi) m := by
    intro x2 x3
    have : ∀ d ∈ (N.map fun x => oi (waysF N ts x grd)), lcStep (.name 5) [some (webD N ts), some (.dct true (enc X)), x2, x3, none, none] (evT (callN T (k+1)) .yes) (evE (callN T (k+1)) (.cond (.cmp .is (.var 5) (.con .non)) (.con .non) (.bin false .sub (.con (.int 0)) (.var 5)))) d m = .ok (some ((fun d => match d with | .int v => .int (-v) | _ => .non) d)) m := by
      intro d hd
      obtain ⟨x, hx, rfl⟩ := List.mem_map.mp hd
      cases waysF N ts x grd <;> simp [lcStep]
    rw [lc_map rfl this]
    unfold lowsF
    rw [List.map_map, List.map_map]
    congr 1
    apply List.map_congr_left
    intro x hx
    simp only [Function.comp]
    cases waysF N ts x grd <;> rfl
  rw [call_of F17]
  refine run_no (f := F17) rfl rfl ?_
  have d1 : N.length ≤ 16777216 := by omega
  have wd : webD N ts = .tup [.nms N, .tup (ts.map triD)] := rfl
  simp only [wd] at key1 key2 key3 e1 ⊢
  simp [F17, e1, g1, d1, key1, key2, key3, -List.map_map]
end
end Dx
/-! LbI: boxes -/
namespace Dx
open PySem
abbrev Bd := Option Int × Option Int
def bdD (b : Bd) : D := .tup [oi b.1, oi b.2]
def geB (x : Int) : Option Int → Bool
  | none => true
  | some l => decide (l ≤ x)
def leB (x : Int) : Option Int → Bool
  | none => true
  | some l => decide (x ≤ l)
def okB (x : Int) (b : Bd) : Bool := geB x b.1 && leB x b.2
def inB (bs : List Bd) (st : List Int) : Bool := (st.zip bs).all fun p => okB p.1 p.2
theorem zip_bd {st : List Int} {bs : List Bd} : zipD (st.map .int) (bs.map bdD) = (st.zip bs).map fun p => .tup [.int p.1, bdD p.2] := by
  unfold zipD
  rw [List.zip_map, List.map_map]
  rfl
section
variable {T : Tb}
theorem ft_is [HasFn T 5 F5] (k : Nat) (m : Hd) (x : Int) (b : Bd) : callN T (k+1) 5 [.int x, oi b.1, oi b.2] m = .ok (.bl (okB x b)) m := by
  rw [call_of F5]
  refine run_no (f := F5) rfl rfl ?_
  obtain ⟨b1, b2⟩ := b
  cases b1 with
  | none =>
    cases b2 with
    | none => simp [F5, okB, geB, leB]
    | some h => simp [F5, okB, geB, leB]
  | some l =>
    cases b2 with
    | none => by_cases c : l ≤ x <;> simp [F5, okB, geB, leB, c]
    | some h => by_cases c : l ≤ x <;> simp [F5, okB, geB, leB, c]
theorem bools_of : ∀ {bs : List Bool}, blsOf (bs.map .bl) = some bs
  | [] => rfl
  | b :: bs => by simp [blsOf, bools_of (bs := bs)]
theorem inbox_is [HasFn T 5 F5] [HasFn T 6 F6] (k : Nat) (m : Hd) (bs : List Bd) (st : List Int) (h1 : st.length ≤ 100) : callN T (k+2) 6 [.tup (bs.map bdD), .tup (st.map .int)] m = .ok (.bl (inB bs st)) m := by
  have key : lcGo [] (lcStep (.tup [.name 2, .tup [.name 3, .name 4]]) [some (.tup (bs.map bdD)), some (.tup (st.map .int)), none, none, none] (evT (callN T (k+1)) .yes) (evE (callN T (k+1)) (.call 5 [.var 2, .var 3, .var 4] [.inl 0, .inl 1, .inl 2]))) (zipD (st.map .int) (bs.map bdD)) m = .ok (((st.zip bs).map fun p => okB p.1 p.2).map .bl) m := by
    rw [zip_bd]
    have : ∀ d ∈ ((st.zip bs).map fun p => D.tup [.int p.1, bdD p.2]), lcStep (.tup [.name 2, .tup [.name 3, .name 4]]) [some (.tup (bs.map bdD)), some (.tup (st.map .int)), none, none, none] (evT (callN T (k+1)) .yes) (evE (callN T (k+1)) (.call 5 [.var 2, .var 3, .var 4] [.inl 0, .inl 1, .inl 2])) d m = .ok (some ((fun d => match d with
        | .tup [.int x, .tup [a, b]] => .bl (okB x ((match a with | .int i => some i | _ => none), (match b with | .int i => some i | _ => none)))
        | _ => .non) d)) m := by
      intro d hd
      obtain ⟨p, hp, rfl⟩ := List.mem_map.mp hd
      obtain ⟨x, b1, b2⟩ := p
      have e := ft_is (T := T) k m x (b1, b2)
      simp only at e
      simp [lcStep, bdD, e]
      cases b1 <;> cases b2 <;> rfl
    rw [lc_map rfl this, List.map_map, List.map_map]
    congr 1
    apply List.map_congr_left
    rintro ⟨x, b1, b2⟩ _
    simp only [Function.comp, bdD]
    cases b1 <;> cases b2 <;> rfl
  rw [call_of F6]
  refine run_no (f := F6) rfl rfl ?_
  have hz : (zipD (st.map .int) (bs.map bdD)).length ≤ 16777216 := by
    rw [zip_bd, List.length_map, List.length_zip]
    omega
  have ha : biD .all [.lst (((st.zip bs).map fun p => okB p.1 p.2).map .bl)] m = .ok (.bl (inB bs st)) m := by
    show (match blsOf (((st.zip bs).map fun p => okB p.1 p.2).map .bl) with
      | some bs => R.ok (D.bl (bs.all id)) m
      | none => R.no) = _
    rw [bools_of]
    simp [inB, List.all_map]
  simp [F6, hz, key, ha, -List.map_map]
theorem within_is [HasFn T 16 F16] (k : Nat) (m : Hd) (bs : List Bd) (st : List Int) : callN T (k+1) 16 [.tup (bs.map bdD), .tup (st.map .int)] m = .ok (.bl (inB bs st)) m := by
  have turn : ∀ (x : Int) (b : Bd) (x0 x1 : Option D), evB (callN T k) F16_0 [x0, x1, some (.int x), some (oi b.1), some (oi b.2)] m = if okB x b then .ok (.next [x0, x1, some (.int x), some (oi b.1), some (oi b.2)]) m else .ok (.ret (.bl false)) m := by
    intro x b x0 x1
    obtain ⟨b1, b2⟩ := b
    cases b1 with
    | none =>
      cases b2 with
      | none => simp [F16_0, okB, geB, leB]
      | some h =>
        by_cases c : x ≤ h
        · have c' : ¬ h < x := by omega
          simp [F16_0, okB, geB, leB, c, c']
        · have c' : h < x := by omega
          simp [F16_0, okB, geB, leB, c, c']
    | some l =>
      by_cases d : l ≤ x
      · have d' : ¬ x < l := by omega
        cases b2 with
        | none => simp [F16_0, okB, geB, leB, d, d']
        | some h =>
          by_cases c : x ≤ h
          · have c' : ¬ h < x := by omega
            simp [F16_0, okB, geB, leB, c, c', d, d']
          · have c' : h < x := by omega
            simp [F16_0, okB, geB, leB, c, c', d, d']
      · have d' : x < l := by omega
        simp [F16_0, okB, geB, leB, d, d']
  have loop : ∀ (ps : List (Int × Bd)) (x0 x1 x2 x3 x4 : Option D), ∃ s, frGo [] (.tup [.name 2, .tup [.name 3, .name 4]]) (evB (callN T k) F16_0) (ps.map fun p => .tup [.int p.1, bdD p.2]) [x0, x1, x2, x3, x4] m = if ps.all (fun p => okB p.1 p.2) then .ok (.next s) m else .ok (.ret (.bl false)) m := by
    intro ps
    induction ps with
    | nil => intro x0 x1 x2 x3 x4; exact ⟨_, rfl⟩
    | cons p ps ih =>
      intro x0 x1 x2 x3 x4
      obtain ⟨s, e⟩ := ih x0 x1 (some (.int p.1)) (some (oi p.2.1)) (some (oi p.2.2))
      refine ⟨s, ?_⟩
      have e2 : frGo [] (.tup [.name 2, .tup [.name 3, .name 4]]) (evB (callN T k) F16_0) ((p :: ps).map fun p => .tup [.int p.1, bdD p.2]) [x0, x1, x2, x3, x4] m = frTurn (.tup [.name 2, .tup [.name 3, .name 4]]) (evB (callN T k) F16_0) (frGo [] (.tup [.name 2, .tup [.name 3, .name 4]]) (evB (callN T k) F16_0) (ps.map fun p => .tup [.int p.1, bdD p.2])) (.tup [.int p.1, bdD p.2]) [x0, x1, x2, x3, x4] m := rfl
      rw [e2]
      unfold frTurn
      have e3 : bindTg (.tup [.name 2, .tup [.name 3, .name 4]]) (.tup [.int p.1, bdD p.2]) [x0, x1, x2, x3, x4] = some [x0, x1, some (.int p.1), some (oi p.2.1), some (oi p.2.2)] := by simp [bdD]
      rw [e3, optB_some, R.bind_ok, turn]
      by_cases c : okB p.1 p.2 = true
      · simp only [c, if_true, R.bind_ok, e, List.all_cons, Bool.true_and]
      · simp [c]
  obtain ⟨s, e⟩ := loop (st.zip bs) (some (.tup (bs.map bdD))) (some (.tup (st.map .int))) none none none
  rw [call_of F16]
  refine run_no (f := F16) rfl rfl ?_
  have hin : inB bs st = (st.zip bs).all fun p => okB p.1 p.2 := rfl
  rw [← zip_bd] at e
  rw [hin]
  by_cases c : ((st.zip bs).all fun p => okB p.1 p.2) = true
  · rw [c] at e ⊢
    simp only [if_true] at e
    simp [F16, e]
  · have c' : ((st.zip bs).all fun p => okB p.1 p.2) = false := by simpa using c
    rw [c'] at e ⊢
    simp only [Bool.false_eq_true, if_false] at e
    simp [F16, e]
theorem fr_map {α β : Type} (en : α → D) (f : β → α → β → Prop) (I : List α → β → SD → Hd → Prop) {i : Nat} {body : SD → Hd → R Fl} {ns : List α} {b0 : β} {s : SD} {m : Hd} (h0 : I [] b0 s m)
    (hs : ∀ (pre : List α) (x : α) (post : List α) (b : β) (s : SD) (m : Hd), ns = pre ++ x :: post → I pre b s m → Is (body (s.set i (some (en x))) m) fun fl m' => ∃ s' b', fl = .next s' ∧ I (pre ++ [x]) b' s' m') :
    Is (frGo [] (.name i) body (ns.map en) s m) fun fl m' => ∃ s' b', fl = .next s' ∧ I ns b' s' m' := by
  have gen : ∀ (post pre : List α) (b : β) (s : SD) (m : Hd), ns = pre ++ post → I pre b s m → Is (frGo [] (.name i) body (post.map en) s m) fun fl m' => ∃ s' b', fl = .next s' ∧ I ns b' s' m' := by
    intro post
    induction post with
    | nil =>
      intro pre b s m e h
      rw [List.append_nil] at e
      subst e
      simp only [List.map_nil, frGo, guOk, List.all_nil, ifs_true, is_ok]
      exact ⟨s, b, rfl, h⟩
    | cons x post ih =>
      intro pre b s m e h
      obtain ⟨fl, m', e1, s', b', rfl, h'⟩ := (hs pre x post b s m e h).ok
      have e2 : frGo [] (.name i) body ((x :: post).map en) s m = frGo [] (.name i) body (post.map en) s' m' := by
        show ifs (guOk [] m) (frTurn (.name i) body (frGo [] (.name i) body (post.map en)) (en x) s m) = _
        unfold frTurn
        rw [show guOk [] m = true from rfl, ifs_true, bind_n, optB_some, R.bind_ok, e1]
        rfl
      rw [e2]
      exact ih (pre ++ [x]) b' s' m' (by rw [e]; simp) h'
  exact gen ns [] b0 s m rfl h0
theorem bounds_turn [HasFn T 8 F8] (k n p : Nat) (m1 : Hd) (bs : List Bd) (x : Int) (x1 x4 x5 x6 : Option D) (hb : isBox m1 n) (hp : m1.length = p) (hl : bs.length ≤ 1000) :
    ∃ y4 y5 y6 m2 b, evB (callN T (k+1)) F14_0 [some (.ref n), x1, some (.ref p), some (.int x), x4, x5, x6] (m1 ++ [.lst (bs.map bdD)]) = .ok (.next [some (.ref n), x1, some (.ref p), some (.int x), y4, y5, y6]) (m2 ++ [.lst ((bs ++ [b]).map bdD)]) ∧ Boxed n m1 m2 := by
  obtain ⟨i1, m2, e1, l1, u1, b1⟩ := take_app (T := T) k n m1 [.lst (bs.map bdD)] 9 hb (by omega) (by omega)
  have h1 := b1.is hb
  obtain ⟨i2, m3, e2, l2, u2, b2⟩ := take_app (T := T) k n m2 [.lst (bs.map bdD)] 2000000001 h1 (by omega) (by omega)
  have h2 := b2.is h1
  obtain ⟨i3, m4, e3, l3, u3, b3⟩ := take_app (T := T) k n m3 [.lst (bs.map bdD)] 4 h2 (by omega) (by omega)
  have h3 := b3.is h2
  obtain ⟨i4, m5, e4, l4, u4, b4⟩ := take_app (T := T) k n m4 [.lst (bs.map bdD)] 5 h3 (by omega) (by omega)
  have h4 := b4.is h3
  obtain ⟨i5, m6, e5, l5, u5, b5⟩ := take_app (T := T) k n m5 [.lst (bs.map bdD)] 1000000 h4 (by omega) (by omega)
  have h5 := b5.is h4
  obtain ⟨i6, m7, e6, l6, u6, b6⟩ := take_app (T := T) k n m6 [.lst (bs.map bdD)] 3 h5 (by omega) (by omega)
  have h6 := b6.is h5
  obtain ⟨i7, m8, e7, l7, u7, b7⟩ := take_app (T := T) k n m7 [.lst (bs.map bdD)] 5 h6 (by omega) (by omega)
  have h7 := b7.is h6
  obtain ⟨i8, m9, e8, l8, u8, b8⟩ := take_app (T := T) k n m8 [.lst (bs.map bdD)] 1000000 h7 (by omega) (by omega)
  have h8 := b8.is h7
  obtain ⟨i9, m10, e9, l9, u9, b9⟩ := take_app (T := T) k n m9 [.lst (bs.map bdD)] 3 h8 (by omega) (by omega)
  have h9 := b9.is h8
  obtain ⟨i10, m11, e10, l10, u10, b10⟩ := take_app (T := T) k n m10 [.lst (bs.map bdD)] 3 h9 (by omega) (by omega)
  have h10 := b10.is h9
  obtain ⟨i11, m12, e11, l11, u11, b11⟩ := take_app (T := T) k n m11 [.lst (bs.map bdD)] 3 h10 (by omega) (by omega)
  obtain ⟨a, ea⟩ : ∃ a : Int, atD [.int 0, .int 0, .int (i1 - 4), .int (i2 - 1000000000)] i3 = some (.int a) := by
    have : i3 = 0 ∨ i3 = 1 ∨ i3 = 2 ∨ i3 = 3 := by omega
    rcases this with rfl | rfl | rfl | rfl
    · exact ⟨_, at_0⟩
    · exact ⟨_, at_1⟩
    · exact ⟨_, at_2⟩
    · exact ⟨_, at_3⟩
  have three : ∀ (u v w i : Int), 0 ≤ i → i < 3 → ∃ a : Int, atD [.int u, .int v, .int w] i = some (.int a) := by
    intro u v w i h h'
    have : i = 0 ∨ i = 1 ∨ i = 2 := by omega
    rcases this with rfl | rfl | rfl
    · exact ⟨_, at_0⟩
    · exact ⟨_, at_1⟩
    · exact ⟨_, at_2⟩
  obtain ⟨c, ec⟩ := three 0 i4 i5 i6 l6 u6
  obtain ⟨d, ed⟩ := three 0 i7 i8 i9 l9 u9
  have pick : ∀ (u i : Int), 0 ≤ i → i < 3 → ∃ o : Option Int, atD [.int u, .int u, .non] i = some (oi o) := by
    intro u i h h'
    have : i = 0 ∨ i = 1 ∨ i = 2 := by omega
    rcases this with rfl | rfl | rfl
    · exact ⟨some u, at_0⟩
    · exact ⟨some u, at_1⟩
    · exact ⟨none, at_2⟩
  obtain ⟨o1, eo1⟩ := pick (x + a - c) i10 l10 u10
  obtain ⟨o2, eo2⟩ := pick (x + a + d) i11 l11 u11
  have hbx : Boxed n m1 m12 := (((((((((b1.trans b2).trans b3).trans b4).trans b5).trans b6).trans b7).trans b8).trans b9).trans b10).trans b11
  have hl12 : m12.length = p := by rw [hbx.len, hp]
  have hl9 : m10.length = p := by rw [((((((((b1.trans b2).trans b3).trans b4).trans b5).trans b6).trans b7).trans b8).trans b9).len, hp]
  refine ⟨some (.int (x + a)), some (.int (x + a - c)), some (.int (x + a + d)), m12, (o1, o2), ?_, hbx⟩
  have gl := get_len (o := .lst (bs.map bdD)) hl12
  have gl9 := get_len (o := .lst (bs.map bdD)) hl9
  have sl := set_len (o := .lst (bs.map bdD)) (o' := .lst (bs.map bdD ++ [.tup [oi o1, oi o2]])) hl12
  have hln : (bs.map bdD).length < 16777216 := by rw [List.length_map]; omega
  have d1 : small 2 = true := by decide
  have d2 : small 10 = true := by decide
  have d3 : bs.length < 16777216 := by omega
  simp [F14_0, e1, e2, e3, e4, e5, e6, e7, e8, e9, e10, e11, ea, ec, ed, eo1, eo2, gl, gl9, sl, d1, d2, d3, -small_iff, bdD]
end
end Dx
/-! LbJ: drawn boxes, legal stands, texts of answers -/
namespace Dx
open PySem
theorem und_bds {k : Nat} : ∀ {l : List Bd}, D.undL k (l.map bdD) = true
  | [] => rfl
  | e :: l => by
    show (D.und k (bdD e) && D.undL k (l.map bdD)) = true
    rw [und_bds (l := l)]
    obtain ⟨a, b⟩ := e
    cases a <;> cases b <;> rfl
theorem eq_nil {m : Hd} : eqD m (.lst []) (.lst []) = some true := by
  show eqF m (.lst []) (.lst []) = _
  rfl
section
variable {T : Tb}
def BI (n p : Nat) (m : Hd) (st : List Int) (pre : List Int) (bs : List Bd) (s : SD) (m' : Hd) : Prop := (∃ y3 y4 y5 y6, s = [some (.ref n), some (.tup (st.map .int)), some (.ref p), y3, y4, y5, y6]) ∧ bs.length = pre.length ∧ ∃ m1, m' = m1 ++ [.lst (bs.map bdD)] ∧ Boxed n m m1
theorem bounds_step [HasFn T 8 F8] (k n : Nat) (m : Hd) (st : List Int) (hb : isBox m n) (hl : st.length ≤ 1000) (pre : List Int) (x : Int) (post : List Int) (bs : List Bd) (s : SD) (m' : Hd) (e : st = pre ++ x :: post) (hI : BI n m.length m st pre bs s m') :
    Is (evB (callN T (k+1)) F14_0 (s.set 3 (some (D.int x))) m') fun fl m' => ∃ s' b', fl = .next s' ∧ BI n m.length m st (pre ++ [x]) b' s' m' := by
  obtain ⟨⟨y3, y4, y5, y6, rfl⟩, hl2, m1, rfl, b1⟩ := hI
  have hl3 := congrArg List.length e
  rw [List.length_append] at hl3
  obtain ⟨z4, z5, z6, m2, b, ev, b2⟩ := bounds_turn (T := T) k n m.length m1 bs x (some (.tup (st.map .int))) y4 y5 y6 (b1.is hb) b1.len (by omega)
  have e2 : ([some (.ref n), some (.tup (st.map .int)), some (.ref m.length), y3, y4, y5, y6] : SD).set 3 (some (D.int x)) = [some (.ref n), some (.tup (st.map .int)), some (.ref m.length), some (.int x), y4, y5, y6] := rfl
  rw [e2, ev]
  exact ⟨_, bs ++ [b], rfl, ⟨_, _, _, _, rfl⟩, by simp [hl2], m2, rfl, b1.trans b2⟩
theorem bounds_is [HasFn T 8 F8] [HasFn T 14 F14] (k n : Nat) (m : Hd) (st : List Int) (hb : isBox m n) (hl : st.length ≤ 1000) :
    ∃ (bs : List Bd) (m' : Hd), callN T (k+2) 14 [.ref n, .tup (st.map .int)] m = .ok (.tup (bs.map bdD)) m' ∧ Boxed n m m' ∧ bs.length = st.length := by
  have L := fr_map (en := D.int) (i := 3) (body := evB (callN T (k+1)) F14_0) (ns := st) (β := List Bd) (fun (_ : List Bd) (_ : Int) (_ : List Bd) => True) (BI n m.length m st)
    (b0 := []) (s := [some (.ref n), some (.tup (st.map .int)), some (.ref m.length), none, none, none, none]) (m := m ++ [.lst []]) ⟨⟨_, _, _, _, rfl⟩, rfl, m, rfl, Boxed.refl hb⟩ fun pre x post b s m' e h => bounds_step k n m st hb hl pre x post b s m' e h
  obtain ⟨fl, m', e1, s', bs, rfl, ⟨y3, y4, y5, y6, rfl⟩, hl2, m1, rfl, b1⟩ := L.ok
  refine ⟨bs, m1, ?_, b1, hl2⟩
  rw [call_of F14, run_gc (m' := m1 ++ [.lst (bs.map bdD)]) (d := .tup (bs.map bdD)) rfl rfl ?_ (by simp only [D.und]; exact und_bds) (b1.keep hb), b1.cut]
  have gl := get_len (o := .lst (bs.map bdD)) (show m1.length = m.length from b1.len)
  have bt : biD .tuple [.ref m.length] (m1 ++ [.lst (bs.map bdD)]) = .ok (.tup (bs.map bdD)) (m1 ++ [.lst (bs.map bdD)]) := by
    simp only [biD, sq_ref, gl, Option.bind_some, itemsO_l]
  simp [F14, e1, bt]
theorem legal_is [HasFn T 15 F15] (k : Nat) (m : Hd) (N : List Str) (ts : AL) (st : List Int) (hN : N.length ≤ 15) (ht : ts.length ≤ 1000) (hl : st.length = N.length) (hg : grd ∉ N) (hn : N.Nodup) (hk : ∀ e ∈ ts, e.1.1 ∈ N ++ [grd] ∧ e.1.2 ∈ N ++ [grd]) (hleg : ∀ e ∈ ts, plc N st e.1.2 - plc N st e.1.1 ≤ e.2) :
    callN T (k+1) 15 [webD N ts, .tup (st.map .int)] m = .ok (.bl true) m := by
  have wd : webD N ts = .tup [.nms N, .tup (ts.map triD)] := rfl
  have nd : (N ++ [grd]).Nodup := by
    rw [List.nodup_append]
    refine ⟨hn, by simp, fun a ha b hb e => ?_⟩
    simp only [List.mem_cons, List.not_mem_nil, or_false] at hb
    exact hg (by rw [← hb, ← e]; exact ha)
  have key1 : lcGo [] (lcStep (.name 3) [some (webD N ts), some (.tup (st.map .int)), none, none, none] (evT (callN T k) (.or (.not (.val (.bi (.isinst .int) [.var 3]))) (.val (.bi (.isinst .bool) [.var 3])))) (evE (callN T k) (.var 3))) (st.map .int) m = .ok [] m := by
    have : ∀ d ∈ st.map D.int, lcStep (.name 3) [some (webD N ts), some (.tup (st.map .int)), none, none, none] (evT (callN T k) (.or (.not (.val (.bi (.isinst .int) [.var 3]))) (.val (.bi (.isinst .bool) [.var 3])))) (evE (callN T k) (.var 3)) d m = .ok ((fun _ => none) d) m := by
      intro d hd
      obtain ⟨x, hx, rfl⟩ := List.mem_map.mp hd
      have e1 : biD (.isinst .int) [.int x] m = .ok (.bl true) m := rfl
      have e2 : biD (.isinst .bool) [.int x] m = .ok (.bl false) m := rfl
      simp [lcStep, e1, e2]
    rw [lc_read rfl this]
    simp
  have key2 : ∀ m' : Hd, lcGo [] (lcStep (.name 4) [some (webD N ts), some (.tup (st.map .int)), some (.dct false (encS (N.zip st ++ [(grd, 0)]))), none, none] (evT (callN T k) (.cmp .gt (.bin false .sub (.ix (.var 2) (.ix (.var 4) (.con (.int 1)))) (.ix (.var 2) (.ix (.var 4) (.con (.int 0))))) (.ix (.var 4) (.con (.int 2))))) (evE (callN T k) (.var 4))) (ts.map triD) m' = .ok [] m' := by
    intro m'
    have : ∀ d ∈ ts.map triD, lcStep (.name 4) [some (webD N ts), some (.tup (st.map .int)), some (.dct false (encS (N.zip st ++ [(grd, 0)]))), none, none] (evT (callN T k) (.cmp .gt (.bin false .sub (.ix (.var 2) (.ix (.var 4) (.con (.int 1)))) (.ix (.var 2) (.ix (.var 4) (.con (.int 0))))) (.ix (.var 4) (.con (.int 2))))) (evE (callN T k) (.var 4)) d m' = .ok ((fun _ => none) d) m' := by
      intro d hd
      obtain ⟨e, he, rfl⟩ := List.mem_map.mp hd
      have p1 := plc_find hl hg (hk e he).1
      have p2 := plc_find hl hg (hk e he).2
      have q := hleg e he
      have q' : ¬ e.2 < plc N st e.1.2 - plc N st e.1.1 := by omega
      simp [lcStep, triD, p1, p2, keyOk, isK, q']
    rw [lc_read rfl this]
    simp
  have hz : zipD (N.map .str ++ [.str grd]) (st.map .int ++ [.int 0]) = (N.zip st ++ [(grd, 0)]).map fun e : Str × Int => .tup [.str e.1, .int e.2] := by
    have : N.map D.str ++ [.str grd] = (N ++ [grd]).map .str := by simp
    rw [this]
    have : st.map D.int ++ [.int 0] = (st ++ [0]).map .int := by simp
    rw [this, zip_map, List.zip_append hl.symm]
    rfl
  have hp : pairsD false ((N.zip st ++ [(grd, 0)]).map fun e : Str × Int => .tup [.str e.1, .int e.2]) [] = some (encS (N.zip st ++ [(grd, 0)])) := by
    have := pairsS (l := N.zip st ++ [(grd, 0)]) (a := [])
    simp only [List.nil_append] at this
    refine this ?_
    rw [List.map_append, List.map_fst_zip (by omega)]
    exact nd
  have hd : biD (.dict false) [.lst (zipD (N.map .str ++ [.str grd]) (st.map .int ++ [.int 0]))] m = newD false (encS (N.zip st ++ [(grd, 0)])) m := by
    rw [hz]
    have : ((N.zip st ++ [(grd, 0)]).map fun e : Str × Int => D.tup [.str e.1, .int e.2]).length < sizeLine := by
      rw [List.length_map, List.length_append, List.length_zip, line_eq]
      simp
      omega
    show (match (if ((N.zip st ++ [(grd, 0)]).map fun e : Str × Int => D.tup [.str e.1, .int e.2]).length < sizeLine then pairsD false ((N.zip st ++ [(grd, 0)]).map fun e : Str × Int => .tup [.str e.1, .int e.2]) [] else none) with
      | some kvs => newD false kvs m
      | none => R.no) = _
    rw [if_pos this, hp]
  rw [call_of F15, run_gc (m' := m ++ [.dead]) (d := .bl true) rfl rfl ?_ rfl keep_same, take_same]
  have g1 : Str.ofString "ground" = grd := rfl
  have d1 : N.length ≤ 16777216 := by omega
  have d2 : N.length + 1 ≤ 16777216 := by omega
  have d3 : N.length + 1 ≤ 1000 := by omega
  have d4 : ts.length ≤ 16777216 := by omega
  have e1 : biD (.isinst .tuple) [.tup (st.map .int)] m = .ok (.bl true) m := rfl
  have bl1 : ∀ m : Hd, biD (.list false) [.nms N] m = .ok (.lst (N.map .str)) m := fun _ => rfl
  have bl2 : ∀ m : Hd, biD (.list false) [.tup (st.map .int)] m = .ok (.lst (st.map .int)) m := fun _ => rfl
  simp only [wd] at key1 key2 ⊢
  simp [F15, e1, hl, d1, d2, d3, d4, key1, key2, eq_nil, bl1, bl2, g1, hd, newD]
end
end Dx
/-! LbK: how great the ways are; texts of ends -/
namespace Dx
open PySem
def Bnd (f : Fw) (b : Int) : Prop := ∀ a c w, f a c = some w → -b ≤ w ∧ w ≤ b
theorem plF_bnd {f : Fw} {v : Str} {b : Int} (hb : 0 ≤ b) (h : Bnd f b) : Bnd (plF f v) (2 * b) := by
  intro a c w e
  rcases cmb_some e with e | ⟨p, q, e1, e2, rfl⟩
  · have := h _ _ _ e; omega
  · have := h _ _ _ e1
    have := h _ _ _ e2
    omega
theorem cube_bnd {ns : List Str} {P : Str → Int} : ∀ (ms : List Str) (l : AL) (b : Int), 0 ≤ b → (∀ m ∈ ms, m ∈ ns) → Inv0 ns P (fwOf l) → Bnd (fwOf l) b → Bnd (fwOf (ms.foldl (fun l m => planeA ns l m) l)) (b * 2 ^ ms.length)
  | [], l, b, _, _, _, h => by simpa using h
  | v :: ms, l, b, hb, hs, I, h => by
    have hv := hs v List.mem_cons_self
    have e := plane_is I hv
    have := cube_bnd ms (planeA ns l v) (2 * b) (by omega) (fun m hm => hs m (List.mem_cons_of_mem _ hm)) (by rw [e]; exact plF_inv I) (by rw [e]; exact plF_bnd hb h)
    rw [List.length_cons, Int.pow_succ]
    rw [show b * (2 ^ ms.length * 2) = 2 * b * 2 ^ ms.length by rw [Int.mul_comm (2 ^ ms.length) 2, ← Int.mul_assoc, Int.mul_comm b 2]]
    exact this
theorem ways_bnd {N : List Str} {P : Str → Int} {ts : AL} (h : TieOk (N ++ [grd]) P ts) (hN : N.length ≤ 15) : Bnd (waysF N ts) 100000000000000 := by
  have I : Inv0 (N ++ [grd]) P (fwOf (diaA (N ++ [grd]) (putsA [] ts))) := by rw [ini2 h.nd]; exact ini_inv h
  have B : Bnd (fwOf (diaA (N ++ [grd]) (putsA [] ts))) 1000000000 := by
    rw [ini2 h.nd]
    intro a c w e
    unfold iniF at e
    split at e
    · cases e; omega
    · have := h.ok _ (look_mem e); exact ⟨this.2.2.2.2.1, this.2.2.2.2.2⟩
  have C := cube_bnd (N ++ [grd]) _ 1000000000 (by omega) (fun _ h => h) I B
  intro a c w e
  have := C a c w e
  have p : (2 : Int) ^ (N ++ [grd]).length ≤ 2 ^ 16 := by
    have hl : (N ++ [grd]).length ≤ 16 := by simp; omega
    exact_mod_cast Nat.pow_le_pow_right (by decide) hl
  have p2 : (2 : Int) ^ 16 = 65536 := by decide
  rw [p2] at p
  omega
theorem tame_ois : ∀ {xs : List (Option Int)}, (∀ o ∈ xs, ∀ i, o = some i → Short i) → D.tameL (xs.map oi) = true
  | [], _ => rfl
  | none :: xs, h => by
    simp only [List.map_cons, oi_n, tameL_c, tame_n, Bool.true_and]
    exact tame_ois fun o ho => h o (List.mem_cons_of_mem _ ho)
  | some i :: xs, h => by
    simp only [List.map_cons, oi_s, tameL_c, Bool.and_eq_true, tame_i]
    exact ⟨h _ List.mem_cons_self i rfl, tame_ois fun o ho => h o (List.mem_cons_of_mem _ ho)⟩
theorem dep_ois : ∀ {xs : List (Option Int)}, D.depL (xs.map oi) = 0
  | [] => rfl
  | none :: xs => by simp [dep_ois (xs := xs)]
  | some i :: xs => by simp [dep_ois (xs := xs)]
theorem sz_ois : ∀ {xs : List (Option Int)}, D.szL (xs.map oi) ≤ 171 * xs.length
  | [] => by simp
  | none :: xs => by
    have := sz_ois (xs := xs)
    simp only [List.map_cons, oi_n, D.szL, D.sz, List.length_cons]
    omega
  | some i :: xs => by
    have := sz_ois (xs := xs)
    simp only [List.map_cons, oi_s, D.szL, D.sz, List.length_cons]
    omega
theorem repr_ois {m : Hd} {xs : List (Option Int)} (h : ∀ o ∈ xs, ∀ i, o = some i → Short i) (hl : xs.length ≤ 100) : biD .repr [.tup (xs.map oi)] m = .ok (.str (D.text (.tup (xs.map oi)))) m :=
  repr_T (tame_ois h) (by rw [dep_ois]; omega) (by rw [szOk_iff]; have := sz_ois (xs := xs); omega)
theorem repr_two {m : Hd} {xs ys : List (Option Int)} (h : ∀ o ∈ xs, ∀ i, o = some i → Short i) (g : ∀ o ∈ ys, ∀ i, o = some i → Short i) (hl : xs.length ≤ 100) (gl : ys.length ≤ 100) : biD .repr [.tup [.tup (xs.map oi), .tup (ys.map oi)]] m = .ok (.str (D.text (.tup [.tup (xs.map oi), .tup (ys.map oi)]))) m := by
  refine repr_T ?_ ?_ ?_
  · simp only [tameL_c, tame_t, tameL_n, Bool.and_true, Bool.and_eq_true]
    exact ⟨tame_ois h, tame_ois g⟩
  · simp only [D.depL, D.dep, dep_ois]
    omega
  · rw [szOk_iff]
    have := sz_ois (xs := xs)
    have := sz_ois (xs := ys)
    simp only [D.szL, D.sz]
    omega
theorem any_non : ∀ {xs : List (Option Int)}, ((D.pyL (xs.map oi)).any fun y => PyData.eqv y (D.py .non)) = decide (none ∈ xs)
  | [] => rfl
  | none :: xs => by
    simp only [List.map_cons, oi_n, D.pyL, D.py, List.any_cons]
    have : PyData.eqv .none .none = true := rfl
    simp [this]
  | some i :: xs => by
    have ih := any_non (xs := xs)
    simp only [D.py] at ih
    simp only [List.map_cons, oi_s, D.pyL, D.py, List.any_cons]
    have : PyData.eqv (.int i) .none = false := rfl
    rw [this, Bool.false_or, ih]
    simp
theorem mem_non {m : Hd} {xs : List (Option Int)} (h : ∀ o ∈ xs, ∀ i, o = some i → Short i) : inD m .non (.tup (xs.map oi)) = some (decide (none ∈ xs)) := by
  have t := tame_ois h
  obtain ⟨_, h2, _, _⟩ := tame_showL t
  have e : inD m .non (.tup (xs.map oi)) = memD .non (xs.map oi) := rfl
  rw [e]
  unfold memD
  have f := tame_flatL t
  have c : (D.flat .non && SeqAt.shaped (D.py .non) && D.flatL (xs.map oi) && PyData.canLayAll0 (D.pyL (xs.map oi))) = true := by
    rw [f, h2]; rfl
  rw [if_pos c]
  congr 1
  exact any_non
theorem short_le {i : Int} (h1 : -100000000000000 ≤ i) (h2 : i ≤ 100000000000000) : Short i := short_of (by omega) (by omega)
/-- a row of numbers by names -/
theorem plc_row {g : Str → Option Int} {x : Str} : ∀ {N : List Str} {st : List Int}, N.map g = st.map some → x ∈ N → g x = some (plc N st x)
  | [], _, _, h => nomatch h
  | a :: N, [], e, _ => by simp at e
  | a :: N, b :: st, e, h => by
    simp only [List.map_cons, List.cons.injEq] at e
    unfold plc
    simp only [List.zip_cons_cons, lookS]
    by_cases c : a = x
    · subst c; simp [e.1]
    · simp only [c, if_false]
      rcases List.mem_cons.mp h with h | h
      · exact absurd h.symm c
      · exact plc_row e.2 h
theorem none_free : ∀ {xs : List (Option Int)}, none ∉ xs → ∃ st : List Int, xs = st.map some
  | [], _ => ⟨[], rfl⟩
  | none :: xs, h => absurd List.mem_cons_self h
  | some i :: xs, h => by
    obtain ⟨st, e⟩ := none_free fun z => h (List.mem_cons_of_mem _ z)
    exact ⟨i :: st, by rw [e]; rfl⟩
theorem ois_ints {st : List Int} : (st.map some).map oi = st.map D.int := by
  rw [List.map_map]
  rfl
/-- the lowest and the highest are legal -/
theorem lows_legal {N : List Str} {P : Str → Int} {ts : AL} {st : List Int} (W : WaysOk N P ts (waysF N ts)) (tk : TieOk (N ++ [grd]) P ts) (hg : grd ∉ N) (e : lowsF N (waysF N ts) = st.map some) : ∀ t ∈ ts, plc N st t.1.2 - plc N st t.1.1 ≤ t.2 := by
  have key : ∀ x ∈ N ++ [grd], ∃ v, waysF N ts x grd = some v ∧ plc N st x = -v := by
    intro x hx
    by_cases c : x ∈ N
    · have := plc_row (g := fun x => (waysF N ts x grd).map fun v => -v) e c
      cases q : waysF N ts x grd with
      | none => rw [q] at this; cases this
      | some v =>
        rw [q] at this
        exact ⟨v, rfl, (Option.some.inj this).symm⟩
    · have hxg : x = grd := by
        rcases List.mem_append.mp hx with h | h
        · exact absurd h c
        · simpa using h
      subst hxg
      exact ⟨0, W.inv.dg grd hx, plc_grd hg⟩
  intro t ht
  have o := tk.ok t ht
  obtain ⟨p, e1, q1⟩ := key _ o.1
  obtain ⟨q, e2, q2⟩ := key _ o.2.1
  obtain ⟨r, e3, q3⟩ := W.tie t ht
  obtain ⟨u, e4, q4⟩ := W.tri _ _ _ _ _ e3 e2
  rw [e1] at e4
  cases e4
  omega
theorem highs_legal {N : List Str} {P : Str → Int} {ts : AL} {st : List Int} (W : WaysOk N P ts (waysF N ts)) (tk : TieOk (N ++ [grd]) P ts) (hg : grd ∉ N) (e : highsF N (waysF N ts) = st.map some) : ∀ t ∈ ts, plc N st t.1.2 - plc N st t.1.1 ≤ t.2 := by
  have key : ∀ x ∈ N ++ [grd], waysF N ts grd x = some (plc N st x) := by
    intro x hx
    by_cases c : x ∈ N
    · exact plc_row (g := fun x => waysF N ts grd x) e c
    · have hxg : x = grd := by
        rcases List.mem_append.mp hx with h | h
        · exact absurd h c
        · simpa using h
      subst hxg
      rw [plc_grd hg]
      exact W.inv.dg grd hx
  intro t ht
  have o := tk.ok t ht
  have e1 := key _ o.1
  have e2 := key _ o.2.1
  obtain ⟨r, e3, q3⟩ := W.tie t ht
  obtain ⟨u, e4, q4⟩ := W.tri _ _ _ _ _ e1 e3
  rw [e2] at e4
  cases e4
  omega
theorem ends_short {N : List Str} {P : Str → Int} {ts : AL} (h : TieOk (N ++ [grd]) P ts) (hN : N.length ≤ 15) : (∀ o ∈ lowsF N (waysF N ts), ∀ i, o = some i → Short i) ∧ ∀ o ∈ highsF N (waysF N ts), ∀ i, o = some i → Short i := by
  have B := ways_bnd h hN
  refine ⟨fun o ho i e => ?_, fun o ho i e => ?_⟩
  · subst e
    obtain ⟨x, _, q⟩ := List.mem_map.mp ho
    cases w : waysF N ts x grd with
    | none => rw [w] at q; cases q
    | some v =>
      rw [w] at q
      have q : -v = i := Option.some.inj q
      have := B _ _ _ w
      exact short_le (by omega) (by omega)
  · subst e
    obtain ⟨x, _, q⟩ := List.mem_map.mp ho
    have := B _ _ _ q
    exact short_le (by omega) (by omega)
end Dx
namespace Dx
open PySem
theorem big_small {i : Int} (h1 : -1000000 ≤ i) (h2 : i ≤ 1000000) : bigI i = true := by
  unfold bigI
  simp only [decide_eq_true_eq]
  omega
theorem rng_ok {a b : Int} {m : Hd} (ha : bigI a = true) (hb : bigI b = true) : rngD (.int a) (.int b) m = .ok (rangeD a b, []) m := by
  have e : rngD (.int a) (.int b) m = ifs (bigI a && bigI b) (.ok (rangeD a b, []) m) := rfl
  rw [e, ha, hb]
  rfl
theorem rng_map {b : Int} : rangeD 0 b = (List.range b.toNat).map fun j : Nat => D.int ((0 : Int) + (j : Nat)) := by unfold rangeD; simp
theorem sl_ref {b : Bool} {p : Nat} {xs : List D} {lo hi : Option Int} {m : Hd} (h : m[p]? = some (.lst xs)) : slD b (.ref p) lo hi m = mkL b (cut xs lo hi) m := by
  unfold slD
  simp only [sq, h]
theorem at_mapG {α : Type} {f : α → D} {l : List α} {i : Int} (h0 : 0 ≤ i) (h1 : i < l.length) : ∃ x, x ∈ l ∧ atD (l.map f) i = some (f x) := by
  have hj : i.toNat < l.length := by omega
  exact ⟨l[i.toNat], List.getElem_mem _, by rw [at_in h0 (by simpa using h1), List.getElem?_map, List.getElem?_eq_getElem hj]; rfl⟩
/-! the least number of each pair, whatever the order -/
theorem look_minA {l : AL} {e : Pr × Int} {p : Pr} : look (minA l e) p = if e.1 = p then some (mn e.2 ((look l p).getD e.2)) else look l p := by
  unfold minA
  rw [look_put]
  by_cases h : e.1 = p
  · subst h; simp
  · simp [h]
theorem mins_spec {p : Pr} : ∀ {ts l : AL} {w : Int}, look (ts.foldl minA l) p = some w ↔ ((p, w) ∈ ts ∨ look l p = some w) ∧ (∀ e ∈ ts, e.1 = p → w ≤ e.2) ∧ ∀ u, look l p = some u → w ≤ u
  | [], l, w => by
    simp only [List.foldl_nil, List.not_mem_nil, false_or, false_imp_iff, implies_true, true_and]
    exact ⟨fun h => ⟨h, fun u hu => by rw [h] at hu; cases hu; exact Int.le_refl _⟩, fun h => h.1⟩
  | e :: ts, l, w => by
    rw [List.foldl_cons, mins_spec (ts := ts) (l := minA l e) (w := w), look_minA]
    by_cases c : e.1 = p
    · subst c
      simp only [if_true, Option.some.injEq, List.mem_cons]
      obtain ⟨q, v⟩ := e
      cases hl : look l q with
      | none =>
        simp only [Option.getD_none, mn_eq, Int.min_self, reduceCtorEq, or_false, false_imp_iff, implies_true, and_true]
        constructor
        · rintro ⟨h1, h2, h3⟩
          refine ⟨h1.elim .inr fun h => .inl (by rw [h]), fun e' he' hq => ?_⟩
          rcases he' with rfl | he'
          · exact h3 _ rfl
          · exact h2 _ he' hq
        · rintro ⟨h1, h2⟩
          refine ⟨h1.elim (fun h => .inr ?_) .inl, fun e' he' hq => h2 _ (.inr he') hq, fun u hu => ?_⟩
          · cases h; rfl
          · subst hu; exact h2 _ (.inl rfl) rfl
      | some u =>
        simp only [Option.getD_some, mn_eq, Option.some.injEq]
        constructor
        · rintro ⟨h1, h2, h3⟩
          have h4 := h3 _ rfl
          refine ⟨?_, fun e' he' hq => ?_, fun u' hu' => by omega⟩
          · rcases h1 with h1 | h1
            · exact .inl (.inr h1)
            · by_cases c : v ≤ u
              · exact .inl (.inl (by rw [← h1]; congr 1; omega))
              · exact .inr (by omega)
          · rcases he' with rfl | he'
            · show w ≤ v; omega
            · exact h2 _ he' hq
        · rintro ⟨h1, h2, h3⟩
          have h4 := h3 _ rfl
          have h5 := h2 _ (.inl rfl) rfl
          simp only at h5
          refine ⟨?_, fun e' he' hq => h2 _ (.inr he') hq, fun u' hu' => by omega⟩
          rcases h1 with (h1 | h1) | h1
          · cases h1; exact .inr (by omega)
          · exact .inl h1
          · exact .inr (by omega)
    · simp only [c, if_false, List.mem_cons]
      constructor
      · rintro ⟨h1, h2, h3⟩
        refine ⟨h1.imp .inr id, fun e' he' hq => ?_, h3⟩
        rcases he' with rfl | he'
        · exact absurd hq c
        · exact h2 _ he' hq
      · rintro ⟨h1, h2, h3⟩
        refine ⟨h1.imp (fun h => h.elim (fun h => absurd (by rw [← h]) c) id) id, fun e' he' hq => h2 _ (.inr he') hq, h3⟩
theorem look_ext {a b : Option Int} (h : ∀ w, a = some w ↔ b = some w) : a = b := by
  cases a with
  | none =>
    cases b with
    | none => rfl
    | some v => exact absurd ((h v).mpr rfl) (by simp)
  | some v => exact ((h v).mp rfl).symm
theorem mins_rev {ts : AL} {p : Pr} : look (minsA ts.reverse) p = look (minsA ts) p := by
  apply look_ext
  intro w
  unfold minsA
  rw [mins_spec, mins_spec]
  simp [look]
theorem rows_mem {l : AL} {p : Pr} {w : Int} (hn : (l.map (·.1)).Nodup) : (p, w) ∈ l ↔ look l p = some w := by
  constructor
  · intro h
    induction l with
    | nil => cases h
    | cons e l ih =>
      simp only [List.map_cons, List.nodup_cons] at hn
      unfold look
      rcases List.mem_cons.mp h with rfl | h
      · simp
      · have : e.1 ≠ p := fun z => hn.1 (by rw [z]; exact List.mem_map.mpr ⟨_, h, rfl⟩)
        rw [if_neg this]
        exact ih hn.2 h
  · exact look_mem
theorem mins_self {l : AL} {p : Pr} (hn : (l.map (·.1)).Nodup) : look (minsA l) p = look l p := by
  apply look_ext
  intro w
  unfold minsA
  rw [mins_spec, rows_mem hn]
  simp only [look, reduceCtorEq, or_false, false_imp_iff, implies_true, and_true]
  refine ⟨fun h => h.1, fun h => ⟨h, fun e he hq => ?_⟩⟩
  obtain ⟨q, v⟩ := e
  simp only at hq
  subst hq
  rw [rows_mem hn, h] at he
  cases he
  exact Int.le_refl _
theorem keys_mem {l : AL} {p : Pr} : p ∈ l.map (·.1) ↔ (look l p).isSome = true := by
  rw [← look_has]
  simp [hasA]
theorem rows_same {l z : AL} (hl : (l.map (·.1)).Nodup) (hz : (z.map (·.1)).Nodup) (h : ∀ p, look l p = look z p) : rowsOf l = rowsOf z := by
  have hp : (l.map (·.1)).Perm (z.map (·.1)) := (List.perm_ext_iff_of_nodup hl hz).mpr fun p => by rw [keys_mem, keys_mem, h p]
  have hk : keysOf l = keysOf z := by
    have h1 := keys_sorted (l := l)
    have h2 := keys_sorted (l := z)
    refine List.Perm.eq_of_pairwise (le := fun a b => lePr a b = true) (fun a b _ _ h1 h2 => ltPr_total (lePr_iff.mp h2) ?_) h1 h2 ((keys_perm.trans hp).trans keys_perm.symm)
    exact lePr_iff.mp h1
  unfold rowsOf
  rw [hk]
  apply List.map_congr_left
  intro p _
  rw [h p]
/-! the same data are equal -/
theorem eq_same {m : Hd} {x y : D} (h : fz m x = fz m y) (ht : D.tame (fz m x) = true) (hd : D.dep (fz m x) ≤ 64) : eqF m x y = some true := by
  rw [eqF_tame ht (by rw [← h]; exact ht) hd (by rw [← h]; exact hd), ← h]
  congr 1
  exact PySem.SeqAt.eqv_refl _ (tame_show ht).2.1
theorem eqD_ref {m : Hd} {n : Nat} {y : D} : eqD m (.ref n) y = eqF m (.ref n) y := rfl
theorem eqD_lst {m : Hd} {xs : List D} {y : D} : eqD m (.lst xs) y = eqF m (.lst xs) y := rfl
theorem eqD_tup {m : Hd} {xs : List D} {y : D} : eqD m (.tup xs) y = eqF m (.tup xs) y := rfl
theorem tame_tris : ∀ {l : AL}, (∀ e ∈ l, lowS e.1.1 ∧ lowS e.1.2 ∧ Short e.2) → D.tameL (l.map triD) = true
  | [], _ => rfl
  | e :: l, h => by
    obtain ⟨h1, h2, h3⟩ := h e List.mem_cons_self
    have ih := tame_tris (l := l) fun e he => h e (List.mem_cons_of_mem _ he)
    simp only [List.map_cons, tameL_c, ih, Bool.and_true, triD, tame_t, tameL_n, Bool.and_eq_true, tame_i]
    exact ⟨by simpa only [D.tame] using strOk_low h1, by simpa only [D.tame] using strOk_low h2, h3⟩
theorem sz_tris : ∀ {l : AL}, (∀ e ∈ l, e.1.1.length ≤ 6 ∧ e.1.2.length ≤ 6) → D.szL (l.map triD) ≤ 200 * l.length
  | [], _ => by simp
  | e :: l, h => by
    obtain ⟨h1, h2⟩ := h e List.mem_cons_self
    have ih := sz_tris (l := l) fun e he => h e (List.mem_cons_of_mem _ he)
    simp only [List.map_cons, D.szL, triD, D.sz, List.length_cons]
    omega
theorem dep_tris : ∀ {l : AL}, D.depL (l.map triD) ≤ 1
  | [] => by simp
  | e :: l => by
    have ih := dep_tris (l := l)
    simp only [List.map_cons, D.depL, triD, D.dep]
    omega
theorem dep_strs : ∀ {l : List Str}, D.depL (l.map .str) = 0
  | [] => rfl
  | e :: l => by
    have ih := dep_strs (l := l)
    simp only [List.map_cons, D.depL, D.dep, ih]
    rfl
/-- a web that can be shown -/
structure Shown (N : List Str) (ts : AL) : Prop where
  low : ∀ x ∈ N, lowS x ∧ x.length ≤ 6
  tie : ∀ e ∈ ts, lowS e.1.1 ∧ lowS e.1.2 ∧ Short e.2 ∧ e.1.1.length ≤ 6 ∧ e.1.2.length ≤ 6
  n : N.length ≤ 20
  t : ts.length ≤ 1000
theorem Shown.tame {N : List Str} {ts : AL} (h : Shown N ts) : D.tameL [.nms N, .tup (ts.map triD)] = true := by
  have h1 : N.all PyData.strOk = true := List.all_eq_true.mpr fun x hx => strOk_low (h.low x hx).1
  have h2 := tame_tris (l := ts) fun e he => ⟨(h.tie e he).1, (h.tie e he).2.1, (h.tie e he).2.2.1⟩
  simp only [tameL_c, tameL_n, D.tame, h1, h2, Bool.and_self]
theorem nms_sum : ∀ {N : List Str}, (∀ x ∈ N, x.length ≤ 6) → (N.map fun s => s.length + 1).sum ≤ 7 * N.length
  | [], _ => by simp
  | x :: N, h => by
    have h1 := h x List.mem_cons_self
    have ih := nms_sum (N := N) fun e he => h e (List.mem_cons_of_mem _ he)
    simp only [List.map_cons, List.sum_cons, List.length_cons]
    omega
theorem Shown.sz {N : List Str} {ts : AL} (h : Shown N ts) : D.szL [.nms N, .tup (ts.map triD)] ≤ 250000 := by
  have h1 := nms_sum (N := N) fun x hx => (h.low x hx).2
  have h2 := sz_tris (l := ts) fun e he => ⟨(h.tie e he).2.2.2.1, (h.tie e he).2.2.2.2⟩
  have := h.n
  have := h.t
  simp only [D.szL, D.sz]
  omega
theorem Shown.dep {N : List Str} {ts : AL} : D.depL [.nms N, .tup (ts.map triD)] ≤ 2 := by
  have := dep_tris (l := ts)
  simp only [D.depL, D.dep]
  omega
theorem repr_web {m : Hd} {N : List Str} {ts : AL} (h : Shown N ts) : biD .repr [webD N ts] m = .ok (.str (D.text (webD N ts))) m :=
  repr_t h.tame (by have := Shown.dep (N := N) (ts := ts); omega) (by have := h.sz; omega)
theorem eq_web {m : Hd} {N : List Str} {ts : AL} (h : Shown N ts) : eqD m (webD N ts) (webD N ts) = some true := by
  have := Shown.dep (N := N) (ts := ts)
  exact eq_same (x := webD N ts) rfl (by have := h.tame; simpa only [webD, fz_t, tame_t] using this) (by simp only [webD, fz_t, D.dep]; omega)
end Dx
/-! LbR: pulls -/
namespace Dx
open PySem
/-! ### numbers put between -/
def putF (x : Int) : Option Int → Option Int → Int
  | some l, some h => if x < l then l else if h < x then h else x
  | some l, none => if x < l then l else x
  | none, some h => if h < x then h else x
  | none, none => x
section
variable {T : Tb}
theorem put_is [HasFn T 33 F33] (k : Nat) (m : Hd) (x : Int) (lo hi : Option Int) : callN T (k+1) 33 [.int x, oi lo, oi hi] m = .ok (.int (putF x lo hi)) m := by
  rw [call_of F33]
  refine run_no (f := F33) rfl rfl ?_
  cases lo with
  | none =>
    cases hi with
    | none => simp [F33, putF]
    | some h => by_cases c : h < x <;> simp [F33, putF, c]
  | some l =>
    cases hi with
    | none => by_cases c : x < l <;> simp [F33, putF, c]
    | some h => by_cases d : x < l <;> by_cases c : h < x <;> simp [F33, putF, c, d]
theorem lput_is [HasFn T 43 F43] (k : Nat) (m : Hd) (x : Int) (lo hi : Option Int) : callN T (k+1) 43 [.int x, oi lo, oi hi] m = .ok (.int (putF x lo hi)) m := by
  rw [call_of F43]
  refine run_no (f := F43) rfl rfl ?_
  cases lo with
  | none =>
    cases hi with
    | none => simp [F43, putF]
    | some h => by_cases c : h < x <;> simp [F43, putF, c]
  | some l =>
    cases hi with
    | none => by_cases c : x < l <;> simp [F43, putF, c]
    | some h => by_cases d : x < l <;> by_cases c : h < x <;> simp [F43, putF, c, d]
theorem less_is [HasFn T 44 F44] (k : Nat) (m : Hd) (x : Int) (w : Option Int) : callN T (k+1) 44 [.int x, oi w] m = .ok (oi (w.map (x - ·))) m := by
  rw [call_of F44]
  refine run_no (f := F44) rfl rfl ?_
  cases w <;> simp [F44]
theorem off_is [HasFn T 37 F37] (k : Nat) (m : Hd) (x : Int) (w : Option Int) : callN T (k+1) 37 [.int x, oi w] m = .ok (oi (w.map (x + ·))) m := by
  rw [call_of F37]
  refine run_no (f := F37) rfl rfl ?_
  cases w <;> simp [F37]
theorem run_keep {call : Nat → List D → Hd → R D} {f : Fn} {ds : List D} {m m' : Hd} {d : D} (hp : ds.length = f.pars) (hg : f.gc = true) (e : evB call f.body (ds.map some ++ List.replicate (f.slots - f.pars) none) m = .ok (.ret d) m') (hu : D.und m.length d = false) : runFn call f ds m = .ok d m' := by
  unfold runFn
  rw [if_pos hp, hg, e]
  show leave true m (.ok d m') = _
  simp [leave, hu]
/-! ### a list that grows -/
theorem fr_app {α : Type} (en g : α → D) {tg : Tg} {body : SD → Hd → R Fl} {ns : List α} {s : SD} {m : Hd} (J : SD → Prop) (h0 : J s) (B : Nat) (hB : ns.length ≤ B)
    (hs : ∀ x ∈ ns, ∀ (l : List D) (s : SD), J s → l.length ≤ B → ∃ s1 s', bindTg tg (en x) s = some s1 ∧ body s1 (m ++ [.lst l]) = .ok (.next s') (m ++ [.lst (l ++ [g x])]) ∧ J s') :
    ∃ s', frGo [] tg body (ns.map en) s (m ++ [.lst []]) = .ok (.next s') (m ++ [.lst (ns.map g)]) ∧ J s' := by
  have L := fr_en (en := en) (tg := tg) (g := []) (body := body) (ns := ns) (b0 := ([] : List D)) (s := s) (m := m ++ [.lst []])
    (fun (pre : List α) (l : List D) (s : SD) (m' : Hd) => J s ∧ m' = m ++ [.lst l] ∧ l = pre.map g)
    ⟨h0, rfl, rfl⟩ (fun _ _ _ _ _ => rfl) (by
      intro pre x post l s m' hd hI
      obtain ⟨hJ, rfl, rfl⟩ := hI
      have hx : x ∈ ns := by rw [hd]; simp
      have hln := congrArg List.length hd
      rw [List.length_append, List.length_cons] at hln
      obtain ⟨s1, s', e1, e2, hJ'⟩ := hs x hx (pre.map g) s hJ (by rw [List.length_map]; omega)
      refine ⟨s1, e1, ?_⟩
      rw [e2]
      exact ⟨s', _, rfl, hJ', rfl, by simp⟩)
  obtain ⟨fl, m', e1, s', l, rfl, hJ, rfl, rfl⟩ := L.ok
  exact ⟨s', e1, hJ⟩
theorem fz_last {m : Hd} {p : Nat} (hp : m.length = p) {xs : List D} : fzD (.ref p) (m ++ [.lst xs]) = .ok (.lst xs) (m ++ [.dead]) := by
  have gl := get_len (o := .lst xs) hp
  have sl := set_len (o := .lst xs) (o' := .dead) hp
  unfold fzD
  simp only [gl, sl]
/-! ### what a pull makes of places -/
def heldF (f : Fw) (x : Str) (v : Int) : Int := putF v ((f x grd).map fun w => -w) (f grd x)
def betB (f : Fw) (x : Str) (q : Int) (o : Str) : Bd := ((f o x).map (q - ·), (f x o).map (q + ·))
def betF (f : Fw) (N : List Str) (x : Str) (q : Int) : List Bd := N.map (betB f x q)
def movF (st : List Int) (bs : List Bd) : List Int := (st.zip bs).map fun p => putF p.1 p.2.1 p.2.2
def ledF (f : Fw) (N : List Str) (st : List Int) (x : Str) (v : Int) : List Int := movF st (betF f N x (heldF f x v))
theorem find_gd {X : AL} {f : Fw} (h : fwOf X = f) (a b : Str) : (find (enc X) (.tup [.str a, .str b])).getD .non = oi (f a b) := by
  rw [find_fw h]
  cases f a b <;> rfl
theorem mty_dct {m : Hd} {t : Bool} {kvs : List (D × D)} : mtTy m (.dct t kvs) .get2 = true := rfl
theorem held_is [HasFn T 33 F33] [HasFn T 36 F36] (k : Nat) (m : Hd) (X : AL) (f : Fw) (h : fwOf X = f) (x : Str) (v : Int) : callN T (k+2) 36 [.dct true (enc X), .str x, .int v] m = .ok (.int (heldF f x v)) m := by
  have g1 : Str.ofString "ground" = grd := rfl
  have e1 := find_gd h x grd
  have e2 := find_gd h grd x
  have e3 := put_is (T := T) k m v ((f x grd).map fun w => -w) (f grd x)
  rw [call_of F36]
  refine run_no (f := F36) rfl rfl ?_
  cases c : f x grd with
  | none =>
    rw [c] at e1 e3
    simp only [oi_n, Option.map_none] at e1 e3
    simp [F36, g1, e1, e2, e3, mty_dct, heldF, c]
  | some w =>
    rw [c] at e1 e3
    simp only [oi_s, Option.map_some] at e1 e3
    simp [F36, g1, e1, e2, e3, mty_dct, heldF, c]
theorem between_turn [HasFn T 37 F37] (k : Nat) (m : Hd) (X : AL) (f : Fw) (h : fwOf X = f) (x o : Str) (q : Int) (p : Nat) (hp : m.length = p) (l : List D) (hl : l.length ≤ 1000) (x0 x6 x7 : Option D) :
    evB (callN T (k+1)) F38_0 [x0, some (.dct true (enc X)), some (.str x), some (.int q), some (.ref p), some (.str o), x6, x7] (m ++ [.lst l]) =
      .ok (.next [x0, some (.dct true (enc X)), some (.str x), some (.int q), some (.ref p), some (.str o), some (oi (f x o)), some (oi (f o x))]) (m ++ [.lst (l ++ [bdD (betB f x q o)])]) := by
  have e1 := find_gd h x o
  have e2 := find_gd h o x
  have e3 := off_is (T := T) k (m ++ [.lst l]) q (f x o)
  have gl := get_len (o := .lst l) hp
  have sl := set_len (o := .lst l) (o' := .lst (l ++ [bdD (betB f x q o)])) hp
  have d1 : l.length < 16777216 := by omega
  simp only [bdD, betB] at sl ⊢
  cases c : f o x with
  | none =>
    rw [c] at e2 sl
    simp only [oi_n, Option.map_none] at e2 sl
    simp [F38_0, e1, e2, e3, gl, sl, mty_dct, d1]
  | some w =>
    rw [c] at e2 sl
    simp only [oi_s, Option.map_some] at e2 sl
    simp [F38_0, e1, e2, e3, gl, sl, mty_dct, d1]
theorem und_bd {k : Nat} {l : List Bd} : D.und k (.lst (l.map bdD)) = true := by simp only [D.und]; exact und_bds
theorem between_is [HasFn T 37 F37] [HasFn T 38 F38] (k : Nat) (m : Hd) (N : List Str) (ts : AL) (X : AL) (f : Fw) (h : fwOf X = f) (hN : N.length ≤ 100) (x : Str) (q : Int) :
    callN T (k+2) 38 [webD N ts, .dct true (enc X), .str x, .int q] m = .ok (.lst ((betF f N x q).map bdD)) m := by
  obtain ⟨s', e1, y5, y6, y7, rfl⟩ := fr_app (tg := .name 5) (body := evB (callN T (k+1)) F38_0) (m := m) D.str (fun o => bdD (betB f x q o)) (ns := N)
    (s := [some (webD N ts), some (.dct true (enc X)), some (.str x), some (.int q), some (.ref m.length), none, none, none])
    (fun s => ∃ y5 y6 y7, s = [some (webD N ts), some (.dct true (enc X)), some (.str x), some (.int q), some (.ref m.length), y5, y6, y7]) ⟨_, _, _, rfl⟩ 1000 (by omega) (by
      rintro o ho l s ⟨y5, y6, y7, rfl⟩ hl
      exact ⟨_, _, rfl, between_turn k m X f h x o q m.length rfl l hl _ y6 y7, _, _, _, rfl⟩)
  have hm : N.map (fun o => bdD (betB f x q o)) = (betF f N x q).map bdD := by unfold betF; rw [List.map_map]; rfl
  rw [hm] at e1
  rw [call_of F38, run_gc (m' := m ++ [.dead]) (d := .lst ((betF f N x q).map bdD)) rfl rfl ?_ und_bd keep_same, take_same]
  have fl := fz_last (m := m) rfl (xs := (betF f N x q).map bdD)
  have wd : webD N ts = .tup [.nms N, .tup (ts.map triD)] := rfl
  simp only [wd] at e1 ⊢
  simp [F38, e1, fl]
theorem stretches_is [HasFn T 0 F0] [HasFn T 1 F1] [HasFn T 2 F2] [HasFn T 33 F33] [HasFn T 36 F36] [HasFn T 37 F37] [HasFn T 38 F38] [HasFn T 39 F39] (k : Nat) (m : Hd) (N : List Str) (P : Str → Int) (ts : AL) (hN : N.length ≤ 15) (ht : ts.length ≤ 1000) (tk : TieOk (N ++ [grd]) P ts) (x : Str) (v : Int) :
    callN T (k+3) 39 [webD N ts, .str x, .int v] m = .ok (.lst ((betF (waysF N ts) N x (heldF (waysF N ts) x v)).map bdD)) m := by
  have e1 := tbl_is (T := T) k m N ts hN ht
  have fw := ways_prog tk
  generalize cubeA (N ++ [grd]) (putsA (diaA (N ++ [grd]) []) (putsA [] ts)) = X at e1 fw
  have e2 := held_is (T := T) k m X _ fw x v
  have e3 := between_is (T := T) k m N ts X _ fw (by omega) x (heldF (waysF N ts) x v)
  rw [call_of F39]
  refine run_no (f := F39) rfl rfl ?_
  simp [F39, e1, e2, e3]
theorem put_rows {g : Gu} {step : D → Hd → R (Option D)} {m : Hd} {st : List Int} {bs : List Bd} (hg : guOk g m = true) (h : ∀ (x : Int) (b : Bd), step (.tup [.int x, bdD b]) m = .ok (some (.int (putF x b.1 b.2))) m) : lcGo g step (zipD (st.map .int) (bs.map bdD)) m = .ok ((movF st bs).map .int) m := by
  rw [zip_bd]
  have : ∀ d ∈ ((st.zip bs).map fun p => D.tup [.int p.1, bdD p.2]), step d m = .ok (some ((fun d => match d with
      | .tup [.int x, .tup [a, b]] => .int (putF x (match a with | .int i => some i | _ => none) (match b with | .int i => some i | _ => none))
      | _ => .non) d)) m := by
    intro d hd
    obtain ⟨p, hp, rfl⟩ := List.mem_map.mp hd
    obtain ⟨x, b1, b2⟩ := p
    rw [h]
    cases b1 <;> cases b2 <;> rfl
  rw [lc_map hg this, List.map_map]
  unfold movF
  rw [List.map_map]
  congr 1
  apply List.map_congr_left
  rintro ⟨x, b1, b2⟩ _
  simp only [Function.comp, bdD]
  cases b1 <;> cases b2 <;> rfl
theorem zip_len {st : List Int} {bs : List Bd} : (zipD (st.map .int) (bs.map bdD)).length ≤ st.length := by
  rw [zip_bd, List.length_map, List.length_zip]
  omega
theorem moved_is [HasFn T 33 F33] [HasFn T 40 F40] (k : Nat) (m : Hd) (st : List Int) (bs : List Bd) (hl : st.length ≤ 100) : callN T (k+2) 40 [.tup (st.map .int), .lst (bs.map bdD)] m = .ok (.tup ((movF st bs).map .int)) m := by
  have key := put_rows (g := []) (m := m) rfl (st := st) (bs := bs) (step := lcStep (.tup [.name 2, .tup [.name 3, .name 4]]) [some (.tup (st.map .int)), some (.lst (bs.map bdD)), none, none, none] (evT (callN T (k+1)) .yes) (evE (callN T (k+1)) (.call 33 [.var 2, .var 3, .var 4] [.inl 0, .inl 1, .inl 2]))) fun x b => by
    have e := put_is (T := T) k m x b.1 b.2
    simp [lcStep, bdD, e]
  have hz := zip_len (st := st) (bs := bs)
  have hz' : (zipD (st.map .int) (bs.map bdD)).length ≤ 16777216 := by omega
  rw [call_of F40]
  refine run_no (f := F40) rfl rfl ?_
  simp [F40, hz', key]
theorem led_is [HasFn T 0 F0] [HasFn T 1 F1] [HasFn T 2 F2] [HasFn T 33 F33] [HasFn T 36 F36] [HasFn T 37 F37] [HasFn T 38 F38] [HasFn T 39 F39] [HasFn T 40 F40] [HasFn T 41 F41] (k : Nat) (m : Hd) (N : List Str) (P : Str → Int) (ts : AL) (st : List Int) (hN : N.length ≤ 15) (ht : ts.length ≤ 1000) (tk : TieOk (N ++ [grd]) P ts) (hl : st.length ≤ 100) (x : Str) (v : Int) :
    callN T (k+4) 41 [webD N ts, .tup (st.map .int), .str x, .int v] m = .ok (.tup ((ledF (waysF N ts) N st x v).map .int)) m := by
  have e1 := stretches_is (T := T) k m N P ts hN ht tk x v
  have e2 := moved_is (T := T) (k+1) m st (betF (waysF N ts) N x (heldF (waysF N ts) x v)) hl
  rw [call_of F41]
  refine run_no (f := F41) rfl rfl ?_
  simp only [Nat.add_assoc, Nat.reduceAdd] at e2
  simp [F41, e1, e2, ledF]
/-! ### the law's own -/
theorem bylen_turn [HasFn T 44 F44] (k : Nat) (m : Hd) (X : AL) (f : Fw) (h : fwOf X = f) (x o : Str) (q : Int) (p : Nat) (hp : m.length = p) (l : List D) (hl : l.length ≤ 1000) (x0 x3 x7 : Option D) :
    evB (callN T (k+1)) F45_0 [x0, some (.dct true (enc X)), some (.str x), x3, some (.int q), some (.ref p), some (.str o), x7] (m ++ [.lst l]) =
      .ok (.next [x0, some (.dct true (enc X)), some (.str x), x3, some (.int q), some (.ref p), some (.str o), some (oi (f x o))]) (m ++ [.lst (l ++ [bdD (betB f x q o)])]) := by
  have e1 := find_gd h x o
  have e2 := find_gd h o x
  have e3 := less_is (T := T) k (m ++ [.lst l]) q (f o x)
  have gl := get_len (o := .lst l) hp
  have sl := set_len (o := .lst l) (o' := .lst (l ++ [bdD (betB f x q o)])) hp
  have d1 : l.length < 16777216 := by omega
  simp only [bdD, betB] at sl ⊢
  cases c : f x o with
  | none =>
    rw [c] at e1 sl
    simp only [oi_n, Option.map_none] at e1 sl
    simp [F45_0, e1, e2, e3, gl, sl, mty_dct, d1]
  | some w =>
    rw [c] at e1 sl
    simp only [oi_s, Option.map_some] at e1 sl
    simp [F45_0, e1, e2, e3, gl, sl, mty_dct, d1]
theorem bylen_is [HasFn T 43 F43] [HasFn T 44 F44] [HasFn T 45 F45] (k : Nat) (m : Hd) (N : List Str) (ts : AL) (X : AL) (f : Fw) (h : fwOf X = f) (hN : N.length ≤ 100) (x : Str) (v : Int) :
    callN T (k+2) 45 [webD N ts, .dct true (enc X), .str x, .int v] m = .ok (.tup [.int (heldF f x v), .ref m.length]) (m ++ [.lst ((betF f N x (heldF f x v)).map bdD)]) := by
  obtain ⟨s', e1, y6, y7, rfl⟩ := fr_app (tg := .name 6) (body := evB (callN T (k+1)) F45_0) (m := m) D.str (fun o => bdD (betB f x (heldF f x v) o)) (ns := N)
    (s := [some (webD N ts), some (.dct true (enc X)), some (.str x), some (.int v), some (.int (heldF f x v)), some (.ref m.length), none, none])
    (fun s => ∃ y6 y7, s = [some (webD N ts), some (.dct true (enc X)), some (.str x), some (.int v), some (.int (heldF f x v)), some (.ref m.length), y6, y7]) ⟨_, _, rfl⟩ 1000 (by omega) (by
      rintro o ho l s ⟨y6, y7, rfl⟩ hl
      exact ⟨_, _, rfl, bylen_turn k m X f h x o (heldF f x v) m.length rfl l hl _ _ y7, _, _, rfl⟩)
  have hm : N.map (fun o => bdD (betB f x (heldF f x v) o)) = (betF f N x (heldF f x v)).map bdD := by unfold betF; rw [List.map_map]; rfl
  rw [hm] at e1
  have g1 : Str.ofString "ground" = grd := rfl
  have f1 := find_gd h x grd
  have f2 := find_gd h grd x
  have e2 := less_is (T := T) k m 0 (f x grd)
  have e3 := lput_is (T := T) k m v ((f x grd).map (0 - ·)) (f grd x)
  have hh : putF v ((f x grd).map (0 - ·)) (f grd x) = heldF f x v := by
    unfold heldF
    congr 1
    cases f x grd <;> simp
  rw [hh] at e3
  simp only [Int.zero_sub] at e2 e3
  rw [call_of F45, run_keep (m' := m ++ [.lst ((betF f N x (heldF f x v)).map bdD)]) (d := .tup [.int (heldF f x v), .ref m.length]) rfl rfl ?_ (by simp [D.und, D.undL])]
  have wd : webD N ts = .tup [.nms N, .tup (ts.map triD)] := rfl
  simp only [wd] at e1 ⊢
  simp [F45, g1, f1, f2, e2, e3, e1, mty_dct]
theorem lbet_is [HasFn T 13 F13] [HasFn T 43 F43] [HasFn T 44 F44] [HasFn T 45 F45] [HasFn T 46 F46] (k : Nat) (m : Hd) (N : List Str) (ts : AL) (hN : N.length ≤ 15) (ht : ts.length ≤ 1000) (x : Str) (v : Int) :
    callN T (k+3) 46 [webD N ts, .str x, .int v] m = .ok (.tup [.int (heldF (waysF N ts) x v), .ref m.length]) (m ++ [.lst ((betF (waysF N ts) N x (heldF (waysF N ts) x v)).map bdD)]) := by
  have e1 := ltbl_is (T := T) (k+1) m N ts hN ht
  have fw : fwOf (cubeA (N ++ [grd]) (diaA (N ++ [grd]) (putsA [] ts))) = waysF N ts := rfl
  generalize cubeA (N ++ [grd]) (diaA (N ++ [grd]) (putsA [] ts)) = X at e1 fw
  have e2 := bylen_is (T := T) k m N ts X _ fw (by omega) x v
  rw [call_of F46]
  refine run_no (f := F46) rfl rfl ?_
  simp only [Nat.add_assoc, Nat.reduceAdd] at e1
  simp [F46, e1, e2]
theorem lled_is [HasFn T 13 F13] [HasFn T 43 F43] [HasFn T 44 F44] [HasFn T 45 F45] [HasFn T 46 F46] [HasFn T 47 F47] (k : Nat) (m : Hd) (N : List Str) (ts : AL) (st : List Int) (hN : N.length ≤ 15) (ht : ts.length ≤ 1000) (hl : st.length ≤ 100) (x : Str) (v : Int) :
    callN T (k+4) 47 [webD N ts, .tup (st.map .int), .str x, .int v] m = .ok (.tup ((ledF (waysF N ts) N st x v).map .int)) (m ++ [.lst ((betF (waysF N ts) N x (heldF (waysF N ts) x v)).map bdD)]) := by
  have e1 := lbet_is (T := T) k m N ts hN ht x v
  generalize hB : betF (waysF N ts) N x (heldF (waysF N ts) x v) = bs at e1
  have gl := get_len (m := m) (o := .lst (bs.map bdD)) rfl
  have hg : guOk (guOf (m ++ [.lst (bs.map bdD)]) (.ref m.length)) (m ++ [.lst (bs.map bdD)]) = true := by
    simp [guOf, guOk, D.beqL_refl]
  have key := put_rows (m := m ++ [.lst (bs.map bdD)]) hg (st := st) (bs := bs) (step := lcStep (.tup [.name 5, .tup [.name 6, .name 7]]) [some (webD N ts), some (.tup (st.map .int)), some (.str x), some (.int v), some (.ref m.length), none, none, none] (evT (callN T (k+3)) .yes) (evE (callN T (k+3)) (.call 43 [.var 5, .var 6, .var 7] [.inl 0, .inl 1, .inl 2]))) fun y b => by
    have e := lput_is (T := T) (k+2) (m ++ [.lst (bs.map bdD)]) y b.1 b.2
    simp only [Nat.add_assoc, Nat.reduceAdd] at e
    simp [lcStep, bdD, e]
  have hz := zip_len (st := st) (bs := bs)
  have hz' : (zipD (st.map .int) (bs.map bdD)).length ≤ 16777216 := by omega
  rw [call_of F47]
  refine run_no (f := F47) rfl rfl ?_
  simp [F47, e1, hz', key, gl, ledF, hB]
end
end Dx
/-! LbS: stands looked at -/
namespace Dx
open PySem
/-- a walk that may be left -/
theorem fr_find {α : Type} (en : α → D) (test : α → Option D) {tg : Tg} {g : Gu} {body : SD → Hd → R Fl} {m : Hd} (J : SD → Prop) (hg : guOk g m = true) : ∀ {ns : List α} {s : SD}, J s →
    (∀ x ∈ ns, ∀ s, J s → ∃ s1, bindTg tg (en x) s = some s1 ∧ ((∃ d, test x = some d ∧ body s1 m = .ok (.ret d) m) ∨ (test x = none ∧ ∃ s', body s1 m = .ok (.next s') m ∧ J s'))) →
    (∃ d, ns.findSome? test = some d ∧ frGo g tg body (ns.map en) s m = .ok (.ret d) m) ∨ (ns.findSome? test = none ∧ ∃ s', frGo g tg body (ns.map en) s m = .ok (.next s') m ∧ J s')
  | [], s, h0, hs => .inr ⟨rfl, s, by simp only [List.map_nil, frGo, hg, ifs_true], h0⟩
  | x :: ns, s, h0, hs => by
    obtain ⟨s1, e1, h⟩ := hs x List.mem_cons_self s h0
    have e2 : frGo g tg body ((x :: ns).map en) s m = (body s1 m).bind fun f m2 => match f with
      | .next s2 => frGo g tg body (ns.map en) s2 m2
      | .ret d => .ok (.ret d) m2 := by
      show ifs (guOk g m) (frTurn tg body (frGo g tg body (ns.map en)) (en x) s m) = _
      unfold frTurn
      rw [hg, ifs_true, e1, optB_some, R.bind_ok]
      all_goals rfl
    rcases h with ⟨d, t, e⟩ | ⟨t, s', e, hJ⟩
    · exact .inl ⟨d, by simp [List.findSome?_cons, t], by rw [e2, e]; rfl⟩
    · rcases fr_find en test J hg (ns := ns) hJ fun y hy => hs y (List.mem_cons_of_mem _ hy) with ⟨d, t2, e3⟩ | ⟨t2, s2, e3, hJ2⟩
      · exact .inl ⟨d, by simp [List.findSome?_cons, t, t2], by rw [e2, e]; exact e3⟩
      · exact .inr ⟨by simp [List.findSome?_cons, t, t2], s2, by rw [e2, e]; exact e3, hJ2⟩
theorem fz_lastD {m : Hd} {p : Nat} (hp : m.length = p) {t : Bool} {kvs : List (D × D)} : fzD (.ref p) (m ++ [.dct t kvs]) = .ok (.dct t kvs) (m ++ [.dead]) := by
  have gl := get_len (o := .dct t kvs) hp
  have sl := set_len (o := .dct t kvs) (o' := .dead) hp
  unfold fzD
  simp only [gl, sl]
theorem dc_zip {step : D → Hd → R (Option (D × D))} {m : Hd} : ∀ {l a : SL}, ((a ++ l).map (·.1)).Nodup → (∀ e ∈ l, step (.tup [.str e.1, .int e.2]) m = .ok (some (.str e.1, .int e.2)) m) → dcGo false [] step (l.map fun e => .tup [.str e.1, .int e.2]) (encS a) m = .ok (encS (a ++ l)) m
  | [], a, _, h => by
    rw [List.append_nil]
    rfl
  | e :: l, a, hn, h => by
    have hn' : ((a ++ [e] ++ l).map (·.1)).Nodup := by rw [List.append_assoc]; exact hn
    have hnew : e.1 ∉ a.map (·.1) := by
      rw [List.map_append, List.map_cons, List.nodup_append] at hn
      exact fun z => hn.2.2 _ z _ List.mem_cons_self rfl
    have e1 : put (encS a) (.str e.1) (.int e.2) = encS (a ++ [e]) := putS_new hnew
    show ifs (guOk [] m) ((step (.tup [.str e.1, .int e.2]) m).bind _) = _
    rw [show guOk [] m = true from rfl, ifs_true, h e List.mem_cons_self, R.bind_ok]
    show ifs (keyOk false (.str e.1)) (dcGo false [] step (l.map fun e => .tup [.str e.1, .int e.2]) (put (encS a) (.str e.1) (.int e.2)) m) = _
    rw [show keyOk false (.str e.1) = true from rfl, ifs_true, e1, dc_zip hn' fun x hx => h x (List.mem_cons_of_mem _ hx), List.append_assoc]
    rfl
theorem zip_keys {N : List Str} {st : List Int} (hl : st.length = N.length) (hn : N.Nodup) : ((N.zip st).map (·.1)).Nodup := by
  rw [List.map_fst_zip (by omega)]
  exact hn
theorem und_encS {k : Nat} : ∀ {l : SL}, D.undP k (encS l) = true
  | [] => rfl
  | e :: l => by
    show (D.und k (.str e.1) && D.und k (.int e.2) && D.undP k (encS l)) = true
    rw [und_encS (l := l)]
    rfl
/-- the tie that first doesn't hold -/
def tieTest (P : Str → Int) (p : (Pr × Int) × Nat) : Option D := if p.1.2 < P p.1.1.2 - P p.1.1.1 then some (.int ((0 : Int) + (p.2 : Nat))) else none
def unhF (P : Str → Int) (ts : AL) : D := ((ts.zipIdx.findSome? (tieTest P))).getD .non
theorem unh_none {P : Str → Int} {ts : AL} (h : ∀ e ∈ ts, P e.1.2 - P e.1.1 ≤ e.2) : unhF P ts = .non := by
  have : ts.zipIdx.findSome? (tieTest P) = none := by
    rw [List.findSome?_eq_none_iff]
    rintro ⟨e, i⟩ hp
    have := h e (List.fst_mem_of_mem_zipIdx hp)
    unfold tieTest
    rw [if_neg (by simp only; omega)]
  unfold unhF
  rw [this]
  rfl
theorem enum_tris {ts : AL} : enumD 0 (ts.map triD) = ts.zipIdx.map fun p => D.tup [.int ((0 : Int) + (p.2 : Nat)), triD p.1] := by
  unfold enumD
  rw [List.zipIdx_map, List.map_map]
  rfl
theorem mem_nms {m : Hd} {x : Str} {ys : List Str} (hx : lowS x) (hy : ∀ y ∈ ys, lowS y) : inD m (.str x) (.nms ys) = some (decide (x ∈ ys)) := mem_strs (m := m) hx hy
section
variable {T : Tb}
theorem places_is [HasFn T 31 F31] (k : Nat) (m : Hd) (N : List Str) (ts : AL) (st : List Int) (hN : N.length ≤ 100) (hl : st.length = N.length) (hn : N.Nodup) (hg : grd ∉ N) :
    callN T (k+1) 31 [webD N ts, .tup (st.map .int)] m = .ok (.dct false (encS (N.zip st ++ [(grd, 0)]))) m := by
  have key : dcGo false [] (dcStep (.tup [.name 3, .name 4]) [some (webD N ts), some (.tup (st.map .int)), none, none, none] (evT (callN T k) .yes) (evE (callN T k) (.var 3)) (evE (callN T k) (.var 4))) (zipD (N.map .str) (st.map .int)) [] m = .ok (encS (N.zip st)) m := by
    rw [zip_map]
    have := dc_zip (a := []) (l := N.zip st) (m := m) (step := dcStep (.tup [.name 3, .name 4]) [some (webD N ts), some (.tup (st.map .int)), none, none, none] (evT (callN T k) .yes) (evE (callN T k) (.var 3)) (evE (callN T k) (.var 4))) (zip_keys hl hn) fun e he => by simp [dcStep]
    exact this
  have g1 : Str.ofString "ground" = grd := rfl
  have hz : (zipD (N.map .str) (st.map .int)).length ≤ 16777216 := by
    rw [zip_map, List.length_map, List.length_zip]; omega
  have gl := get_len (m := m) (o := .dct false (encS (N.zip st))) rfl
  have pn : put (encS (N.zip st)) (.str grd) (.int 0) = encS (N.zip st ++ [(grd, 0)]) := putS_new (by rw [List.map_fst_zip (by omega)]; exact hg)
  have sl := set_len (m := m) (o := .dct false (encS (N.zip st))) (o' := .dct false (encS (N.zip st ++ [(grd, 0)]))) rfl
  have fl := fz_lastD (m := m) rfl (t := false) (kvs := encS (N.zip st ++ [(grd, 0)]))
  have d1 : (encS (N.zip st)).length < 16777216 := by simp [encS, List.length_zip]; omega
  have ko : keyOk false (.str grd) = true := rfl
  rw [call_of F31, run_gc (m' := m ++ [.dead]) (d := .dct false (encS (N.zip st ++ [(grd, 0)]))) rfl rfl ?_ (by simp only [D.und]; exact und_encS) keep_same, take_same]
  have wd : webD N ts = .tup [.nms N, .tup (ts.map triD)] := rfl
  simp only [wd] at key ⊢
  simp [F31, key, hz, newD, g1, ko, d1, pn, fl]
theorem unheld_is [HasFn T 31 F31] [HasFn T 32 F32] (k : Nat) (m : Hd) (N : List Str) (ts : AL) (st : List Int) (hN : N.length ≤ 100) (hl : st.length = N.length) (hn : N.Nodup) (hg : grd ∉ N) (hk : ∀ e ∈ ts, e.1.1 ∈ N ++ [grd] ∧ e.1.2 ∈ N ++ [grd]) :
    callN T (k+2) 32 [webD N ts, .tup (st.map .int)] m = .ok (unhF (plc N st) ts) m := by
  have e1 := places_is (T := T) k m N ts st hN hl hn hg
  have F := fr_find (en := fun p : (Pr × Int) × Nat => D.tup [.int ((0 : Int) + (p.2 : Nat)), triD p.1]) (tieTest (plc N st)) (tg := .tup [.name 3, .tup [.name 4, .name 5, .name 6]]) (g := []) (body := evB (callN T (k+1)) F32_0) (m := m)
    (fun s => ∃ y3 y4 y5 y6, s = [some (webD N ts), some (.tup (st.map .int)), some (.dct false (encS (N.zip st ++ [(grd, 0)]))), y3, y4, y5, y6]) rfl (ns := ts.zipIdx) (s := [some (webD N ts), some (.tup (st.map .int)), some (.dct false (encS (N.zip st ++ [(grd, 0)]))), none, none, none, none]) ⟨_, _, _, _, rfl⟩ (by
      rintro ⟨e, i⟩ hp s ⟨y3, y4, y5, y6, rfl⟩
      have he := List.fst_mem_of_mem_zipIdx hp
      have p1 := plc_find hl hg (hk e he).1
      have p2 := plc_find hl hg (hk e he).2
      refine ⟨[some (webD N ts), some (.tup (st.map .int)), some (.dct false (encS (N.zip st ++ [(grd, 0)]))), some (.int ((0 : Int) + (i : Nat))), some (.str e.1.1), some (.str e.1.2), some (.int e.2)], by simp [triD], ?_⟩
      by_cases c : e.2 < plc N st e.1.2 - plc N st e.1.1
      · refine .inl ⟨.int ((0 : Int) + (i : Nat)), by simp only [tieTest, c, if_true], ?_⟩
        simp [F32_0, p1, p2, keyOk, isK, c]
      · refine .inr ⟨by simp only [tieTest, c, if_false], [some (webD N ts), some (.tup (st.map .int)), some (.dct false (encS (N.zip st ++ [(grd, 0)]))), some (.int ((0 : Int) + (i : Nat))), some (.str e.1.1), some (.str e.1.2), some (.int e.2)], ?_, some (.int ((0 : Int) + (i : Nat))), some (.str e.1.1), some (.str e.1.2), some (.int e.2), rfl⟩
        simp [F32_0, p1, p2, keyOk, isK, c])
  rw [← enum_tris] at F
  rw [call_of F32]
  refine run_no (f := F32) rfl rfl ?_
  have wd : webD N ts = .tup [.nms N, .tup (ts.map triD)] := rfl
  unfold unhF
  rcases F with ⟨d, t, e⟩ | ⟨t, s', e, y3, y4, y5, y6, rfl⟩
  · rw [t]
    simp only [wd] at e1 e ⊢
    simp [F32, e1, e]
  · rw [t]
    simp only [wd] at e1 e ⊢
    simp [F32, e1, e]
/-- a legal stand -/
structure Legal (N : List Str) (ts : AL) (st : List Int) : Prop where
  len : st.length = N.length
  tie : ∀ e ∈ ts, plc N st e.1.2 - plc N st e.1.1 ≤ e.2
theorem lstand_is [HasFn T 19 F19] [HasFn T 31 F31] [HasFn T 32 F32] [HasFn T 34 F34] (k : Nat) (m : Hd) (N : List Str) (ts : AL) (st : List Int) (hN : N.length ≤ 100) (h : Legal N ts st) (hn : N.Nodup) (hg : grd ∉ N) (hk : ∀ e ∈ ts, e.1.1 ∈ N ++ [grd] ∧ e.1.2 ∈ N ++ [grd]) :
    callN T (k+3) 34 [webD N ts, .tup (st.map .int)] m = .ok .non m := by
  have e1 := unheld_is (T := T) k m N ts st hN h.len hn hg hk
  rw [unh_none h.tie] at e1
  have k1 : lcGo [] (lcStep (.name 3) [some (webD N ts), some (.tup (st.map .int)), none, none] (evT (callN T (k+2)) .yes) (evE (callN T (k+2)) (.call 19 [.var 3] [.inl 0]))) (st.map .int) m = .ok (List.replicate st.length (.bl true)) m := by
    have := lc_const (ds := st.map D.int) (c := .bl true) (m := m) (step := lcStep (.name 3) [some (webD N ts), some (.tup (st.map .int)), none, none] (evT (callN T (k+2)) .yes) (evE (callN T (k+2)) (.call 19 [.var 3] [.inl 0]))) fun d hd => by
      obtain ⟨x, hx, rfl⟩ := List.mem_map.mp hd
      have e := whole_is (T := T) (k+1) m x
      simp [lcStep, e]
    rwa [List.length_map] at this
  have wd : webD N ts = .tup [.nms N, .tup (ts.map triD)] := rfl
  have hl := h.len
  have d1 : N.length ≤ 16777216 := by omega
  rw [call_of F34]
  simp only [wd] at k1 e1 ⊢
  refine run_non (f := F34) (s := [some (.tup [.nms N, .tup (ts.map triD)]), some (.tup (st.map .int)), some .non, none]) rfl rfl ?_
  rw [hl] at k1
  simp [F34, e1, k1, hl, d1, all_rep]
theorem lname_is [HasFn T 35 F35] (k : Nat) (m : Hd) (N : List Str) (ts : AL) (x : Str) (hx : x ∈ N) (hN : ∀ y ∈ N, lowS y) : callN T (k+1) 35 [webD N ts, .str x] m = .ok .non m := by
  have e1 := mem_nms (m := m) (hN x hx) hN
  have wd : webD N ts = .tup [.nms N, .tup (ts.map triD)] := rfl
  rw [call_of F35]
  simp only [wd]
  refine run_non (f := F35) (s := [some (.tup [.nms N, .tup (ts.map triD)]), some (.str x)]) rfl rfl ?_
  simp [F35, e1, hx]
theorem pulled_is [HasFn T 0 F0] [HasFn T 1 F1] [HasFn T 2 F2] [HasFn T 19 F19] [HasFn T 31 F31] [HasFn T 32 F32] [HasFn T 33 F33] [HasFn T 34 F34] [HasFn T 35 F35] [HasFn T 36 F36] [HasFn T 37 F37] [HasFn T 38 F38] [HasFn T 39 F39] [HasFn T 40 F40] [HasFn T 41 F41] [HasFn T 42 F42]
    (k : Nat) (m : Hd) (N : List Str) (P : Str → Int) (ts : AL) (st : List Int) (hN : N.length ≤ 15) (ht : ts.length ≤ 1000) (tk : TieOk (N ++ [grd]) P ts) (h : Legal N ts st) (sm : SmallL N) (x : Str) (hx : x ∈ N) (v : Int) :
    callN T (k+5) 42 [webD N ts, .tup (st.map .int), .str x, .int v] m = .ok (.tup ((ledF (waysF N ts) N st x v).map .int)) m := by
  have hl := h.len
  have e1 := lname_is (T := T) (k+3) m N ts x hx fun y hy => (sm.2.1 y hy).1
  have e2 := lstand_is (T := T) (k+1) m N ts st (by omega) h sm.1 sm.2.2 fun e he => ⟨(tk.ok e he).1, (tk.ok e he).2.1⟩
  have e3 := led_is (T := T) k m N P ts st hN ht tk (by omega) x v
  rw [call_of F42]
  refine run_no (f := F42) rfl rfl ?_
  simp only [Nat.add_assoc, Nat.reduceAdd] at e1 e2
  simp [F42, e1, e2, e3]
end
end Dx
/-! LbT: what a pull leaves legal -/
namespace Dx
open PySem
theorem put_cases (x : Int) (lo hi : Option Int) : (putF x lo hi = x ∧ (∀ l, lo = some l → l ≤ x) ∧ ∀ h, hi = some h → x ≤ h) ∨ (∃ l, lo = some l ∧ x < l ∧ putF x lo hi = l) ∨ ∃ h, hi = some h ∧ h < x ∧ putF x lo hi = h := by
  cases lo with
  | none =>
    cases hi with
    | none => exact .inl ⟨rfl, (fun _ z => nomatch z), fun _ z => nomatch z⟩
    | some h =>
      by_cases c : h < x
      · exact .inr (.inr ⟨h, rfl, c, by simp [putF, c]⟩)
      · exact .inl ⟨by simp [putF, c], (fun _ z => nomatch z), fun _ z => by cases z; omega⟩
  | some l =>
    by_cases d : x < l
    · exact .inr (.inl ⟨l, rfl, d, by cases hi <;> simp [putF, d]⟩)
    · cases hi with
      | none => exact .inl ⟨by simp [putF, d], (fun _ z => by cases z; omega), fun _ z => nomatch z⟩
      | some h =>
        by_cases c : h < x
        · exact .inr (.inr ⟨h, rfl, c, by simp [putF, d, c]⟩)
        · exact .inl ⟨by simp [putF, d, c], (fun _ z => by cases z; omega), fun _ z => by cases z; omega⟩
theorem put_ge {x : Int} {lo hi : Option Int} {l : Int} (e : lo = some l) (h : ∀ u, hi = some u → l ≤ u) : l ≤ putF x lo hi := by
  rcases put_cases x lo hi with ⟨q, q1, _⟩ | ⟨l', q1, q2, q⟩ | ⟨u, q1, q2, q⟩
  · rw [q]; exact q1 l e
  · rw [e] at q1; cases q1; omega
  · rw [q]; exact h u q1
theorem put_le {x : Int} {lo hi : Option Int} {u : Int} (e : hi = some u) (h : ∀ l, lo = some l → l ≤ u) : putF x lo hi ≤ u := by
  rcases put_cases x lo hi with ⟨q, _, q1⟩ | ⟨l', q1, q2, q⟩ | ⟨u', q1, q2, q⟩
  · rw [q]; exact q1 u e
  · rw [q]; exact h l' q1
  · rw [e] at q1; cases q1; omega
/-- each thing's place behind, by its place ahead -/
def gF (f : Fw) (x : Str) (q : Int) (S : Str → Int) (o : Str) : Int := putF (S o) (betB f x q o).1 (betB f x q o).2
theorem bet_lo {f : Fw} {x o : Str} {q l : Int} (h : (betB f x q o).1 = some l) : ∃ a, f o x = some a ∧ l = q - a := by
  obtain ⟨a, h1, h2⟩ := Option.map_eq_some_iff.mp h
  exact ⟨a, h1, h2.symm⟩
theorem bet_hi {f : Fw} {x o : Str} {q l : Int} (h : (betB f x q o).2 = some l) : ∃ a, f x o = some a ∧ l = q + a := by
  obtain ⟨a, h1, h2⟩ := Option.map_eq_some_iff.mp h
  exact ⟨a, h1, h2.symm⟩
theorem lo_bet {f : Fw} {x o : Str} {q a : Int} (h : f o x = some a) : (betB f x q o).1 = some (q - a) := by unfold betB; rw [h]; rfl
theorem hi_bet {f : Fw} {x o : Str} {q a : Int} (h : f x o = some a) : (betB f x q o).2 = some (q + a) := by unfold betB; rw [h]; rfl
theorem held_b {f : Fw} {x : Str} {v : Int} (hp : ∀ a b, f x grd = some a → f grd x = some b → -a ≤ b) : (∀ a, f x grd = some a → -a ≤ heldF f x v) ∧ ∀ b, f grd x = some b → heldF f x v ≤ b := by
  unfold heldF
  refine ⟨fun a e => ?_, fun b e => ?_⟩
  · exact put_ge (by rw [e]; rfl) fun u hu => hp a u e hu
  · refine put_le e fun l hl => ?_
    obtain ⟨a, h1, h2⟩ := Option.map_eq_some_iff.mp hl
    have := hp a b h1 e
    omega
/-- the ways' sums, and a stand that they let -/
structure Pot (f : Fw) (S : Str → Int) : Prop where
  pot : ∀ a b w, f a b = some w → S b - S a ≤ w
  tri : ∀ a m b p q, f a m = some p → f m b = some q → ∃ r, f a b = some r ∧ r ≤ p + q
theorem g_legal {f : Fw} {S : Str → Int} {x : Str} {q : Int} (h : Pot f S) {j k : Str} {w : Int} (e : f j k = some w) : gF f x q S k - gF f x q S j ≤ w := by
  have lohi : ∀ o l u, (betB f x q o).1 = some l → (betB f x q o).2 = some u → l ≤ u := by
    intro o l u h1 h2
    obtain ⟨a, c1, rfl⟩ := bet_lo h1
    obtain ⟨b, c2, rfl⟩ := bet_hi h2
    have := h.pot _ _ _ c1
    have := h.pot _ _ _ c2
    omega
  have lo : ∀ l, (betB f x q k).1 = some l → ∃ l', (betB f x q j).1 = some l' ∧ l - w ≤ l' := by
    intro l hl
    obtain ⟨a, c, rfl⟩ := bet_lo hl
    obtain ⟨r, hr, hle⟩ := h.tri _ _ _ _ _ e c
    exact ⟨_, lo_bet hr, by omega⟩
  have hi : ∀ u, (betB f x q j).2 = some u → ∃ u', (betB f x q k).2 = some u' ∧ u' ≤ u + w := by
    intro u hu
    obtain ⟨a, c, rfl⟩ := bet_hi hu
    obtain ⟨r, hr, hle⟩ := h.tri _ _ _ _ _ c e
    exact ⟨_, hi_bet hr, by omega⟩
  have hs := h.pot _ _ _ e
  unfold gF
  have gj : S j ≤ putF (S j) (betB f x q j).1 (betB f x q j).2 ∨ ∃ u, (betB f x q j).2 = some u ∧ putF (S j) (betB f x q j).1 (betB f x q j).2 = u := by
    rcases put_cases (S j) (betB f x q j).1 (betB f x q j).2 with ⟨z, _⟩ | ⟨l, _, z1, z⟩ | ⟨u, z1, _, z⟩
    · exact .inl (by omega)
    · exact .inl (by omega)
    · exact .inr ⟨u, z1, z⟩
  rcases put_cases (S k) (betB f x q k).1 (betB f x q k).2 with ⟨z, z1, z2⟩ | ⟨l, z1, z2, z⟩ | ⟨u, z1, z2, z⟩
  · rcases gj with g | ⟨u, g1, g2⟩
    · omega
    · obtain ⟨u', y1, y2⟩ := hi u g1
      have := z2 u' y1
      omega
  · obtain ⟨l', y1, y2⟩ := lo l z1
    have := put_ge (x := S j) y1 fun u hu => lohi j l' u y1 hu
    omega
  · rcases gj with g | ⟨u', g1, g2⟩
    · omega
    · obtain ⟨u'', y1, y2⟩ := hi u' g1
      rw [z1] at y1
      cases y1
      omega
theorem g_ground {f : Fw} {S : Str → Int} {x : Str} {v : Int} (h : Pot f S) (hS : S grd = 0) : gF f x (heldF f x v) S grd = 0 := by
  obtain ⟨h1, h2⟩ := held_b (f := f) (x := x) (v := v) fun a b e1 e2 => by
    have := h.pot _ _ _ e1
    have := h.pot _ _ _ e2
    omega
  unfold gF
  rw [hS]
  rcases put_cases 0 (betB f x (heldF f x v) grd).1 (betB f x (heldF f x v) grd).2 with ⟨z, _⟩ | ⟨l, z1, z2, z⟩ | ⟨u, z1, z2, z⟩
  · exact z
  · obtain ⟨a, c, rfl⟩ := bet_lo z1
    have := h2 a c
    omega
  · obtain ⟨a, c, rfl⟩ := bet_hi z1
    have := h1 a c
    omega
theorem mov_plc {b : Str → Bd} : ∀ {N : List Str} {st : List Int}, st.length = N.length → ∀ {o : Str}, o ∈ N → plc N (movF st (N.map b)) o = putF (plc N st o) (b o).1 (b o).2
  | [], _, _, o, ho => nomatch ho
  | x :: N, [], hl, o, ho => by simp at hl
  | x :: N, i :: st, hl, o, ho => by
    have ih := mov_plc (b := b) (N := N) (st := st) (by simpa using hl) (o := o)
    have e : movF (i :: st) ((x :: N).map b) = putF i (b x).1 (b x).2 :: movF st (N.map b) := rfl
    rw [e]
    unfold plc at ih ⊢
    simp only [List.zip_cons_cons, lookS]
    by_cases c : x = o
    · subst c; simp
    · simp only [c, if_false]
      rcases List.mem_cons.mp ho with rfl | ho
      · exact absurd rfl c
      · exact ih ho
theorem mov_len {st : List Int} {bs : List Bd} : (movF st bs).length = min st.length bs.length := by simp [movF]
theorem led_len {f : Fw} {N : List Str} {st : List Int} {x : Str} {v : Int} (hl : st.length = N.length) : (ledF f N st x v).length = N.length := by
  unfold ledF betF
  rw [mov_len, List.length_map]
  omega
theorem led_plc {f : Fw} {N : List Str} {st : List Int} {x : Str} {v : Int} (hl : st.length = N.length) (hg : grd ∉ N) (h : Pot f (plc N st)) {o : Str} (ho : o ∈ N ++ [grd]) : plc N (ledF f N st x v) o = gF f x (heldF f x v) (plc N st) o := by
  rcases List.mem_append.mp ho with ho | ho
  · exact mov_plc hl ho
  · rw [List.mem_singleton.mp ho, g_ground h (plc_grd hg), plc_grd hg]
theorem tk_stand {N : List Str} {P : Str → Int} {ts : AL} {st : List Int} (tk : TieOk (N ++ [grd]) P ts) (h : Legal N ts st) : TieOk (N ++ [grd]) (plc N st) ts :=
  ⟨tk.nd, fun e he => by
    obtain ⟨h1, h2, h3, _, h5, h6⟩ := tk.ok e he
    exact ⟨h1, h2, h3, h.tie e he, h5, h6⟩⟩
theorem pot_stand {N : List Str} {P : Str → Int} {ts : AL} {st : List Int} (tk : TieOk (N ++ [grd]) P ts) (h : Legal N ts st) : Pot (waysF N ts) (plc N st) := by
  have W := ways_ok (tk_stand tk h)
  exact ⟨W.inv.pot, W.tri⟩
theorem led_legal {N : List Str} {P : Str → Int} {ts : AL} {st : List Int} (tk : TieOk (N ++ [grd]) P ts) (h : Legal N ts st) (hg : grd ∉ N) (x : Str) (v : Int) : Legal N ts (ledF (waysF N ts) N st x v) := by
  have pt := pot_stand tk h
  refine ⟨led_len h.len, fun e he => ?_⟩
  obtain ⟨h1, h2, _⟩ := tk.ok e he
  obtain ⟨r, hr, hle⟩ := (ways_ok tk).tie e he
  rw [led_plc h.len hg pt h1, led_plc h.len hg pt h2]
  have := g_legal (x := x) (q := heldF (waysF N ts) x v) pt hr
  omega
/-! how great the numbers are -/
theorem put_bnd {x B : Int} {lo hi : Option Int} (hx : -B ≤ x ∧ x ≤ B) (hl : ∀ l, lo = some l → -B ≤ l ∧ l ≤ B) (hh : ∀ l, hi = some l → -B ≤ l ∧ l ≤ B) : -B ≤ putF x lo hi ∧ putF x lo hi ≤ B := by
  rcases put_cases x lo hi with ⟨z, _⟩ | ⟨l, z1, z2, z⟩ | ⟨u, z1, z2, z⟩
  · rw [z]; exact hx
  · rw [z]; exact hl l z1
  · rw [z]; exact hh u z1
theorem held_bnd {f : Fw} {x : Str} {v C B : Int} (hf : Bnd f C) (hv : -B ≤ v ∧ v ≤ B) (hC : C ≤ B) : -B ≤ heldF f x v ∧ heldF f x v ≤ B := by
  unfold heldF
  refine put_bnd hv (fun l hl => ?_) fun l hl => ?_
  · obtain ⟨a, c, rfl⟩ := Option.map_eq_some_iff.mp hl
    have := hf _ _ _ c
    omega
  · have := hf _ _ _ hl
    omega
theorem led_bnd {f : Fw} {N : List Str} {st : List Int} {x : Str} {v C B : Int} (hf : Bnd f C) (hv : -B ≤ v ∧ v ≤ B) (hC : C ≤ B) (hC0 : 0 ≤ C) (hs : ∀ i ∈ st, -B ≤ i ∧ i ≤ B) : ∀ i ∈ ledF f N st x v, -(B + C) ≤ i ∧ i ≤ B + C := by
  intro i hi
  obtain ⟨⟨y, b⟩, hp, rfl⟩ := List.mem_map.mp hi
  have hy := hs y (List.of_mem_zip hp).1
  obtain ⟨o, _, rfl⟩ := List.mem_map.mp (List.of_mem_zip hp).2
  have hq := held_bnd (x := x) hf hv hC
  refine put_bnd (B := B + C) (by omega) (fun l hl => ?_) fun l hl => ?_
  · obtain ⟨a, c, rfl⟩ := bet_lo hl
    have := hf _ _ _ c
    omega
  · obtain ⟨a, c, rfl⟩ := bet_hi hl
    have := hf _ _ _ c
    omega
/-! stands shown -/
theorem tame_ints : ∀ {l : List Int}, (∀ i ∈ l, Short i) → D.tameL (l.map .int) = true
  | [], _ => rfl
  | i :: l, h => by
    have ih := tame_ints (l := l) fun e he => h e (List.mem_cons_of_mem _ he)
    simp only [List.map_cons, tameL_c, ih, Bool.and_true, tame_i]
    exact h i List.mem_cons_self
theorem dep_ints : ∀ {l : List Int}, D.depL (l.map .int) = 0
  | [] => rfl
  | i :: l => by
    have ih := dep_ints (l := l)
    simp only [List.map_cons, D.depL, D.dep, ih]
    rfl
theorem sz_ints : ∀ {l : List Int}, D.szL (l.map .int) = 171 * l.length
  | [] => rfl
  | i :: l => by
    have ih := sz_ints (l := l)
    simp only [List.map_cons, D.szL, D.sz, ih, List.length_cons]
    omega
theorem repr_stand {m : Hd} {st : List Int} (h : ∀ i ∈ st, Short i) (hl : st.length ≤ 100) : biD .repr [.tup (st.map .int)] m = .ok (.str (D.text (.tup (st.map .int)))) m :=
  repr_t (tame_ints h) (by rw [dep_ints]; omega) (by rw [sz_ints]; omega)
theorem eq_stand {m : Hd} {st : List Int} (h : ∀ i ∈ st, Short i) : eqD m (.tup (st.map .int)) (.tup (st.map .int)) = some true :=
  eq_same (x := .tup (st.map .int)) rfl (by simpa only [fz_t, tame_t] using tame_ints h) (by simp only [fz_t, D.dep, dep_ints]; omega)
theorem repr_wst {m : Hd} {N : List Str} {ts : AL} {st : List Int} (w : Shown N ts) (ht : ts.length ≤ 200) (h : ∀ i ∈ st, Short i) (hl : st.length ≤ 100) : biD .repr [.tup [webD N ts, .tup (st.map .int)]] m = .ok (.str (D.text (.tup [webD N ts, .tup (st.map .int)]))) m := by
  have h1 := w.tame
  have h2 := Shown.dep (N := N) (ts := ts)
  have h3 := nms_sum (N := N) fun x hx => (w.low x hx).2
  have h4 := sz_tris (l := ts) fun e he => ⟨(w.tie e he).2.2.2.1, (w.tie e he).2.2.2.2⟩
  have := w.n
  refine repr_t (by simp only [webD, tameL_c, tame_t, tameL_n, Bool.and_true] at h1 ⊢; simp only [h1, tame_ints h]; rfl) (by simp only [webD, D.depL, D.dep, dep_ints] at h2 ⊢; omega) ?_
  simp only [webD, D.szL, D.sz, sz_ints]
  omega
theorem shown_of {N : List Str} {P : Str → Int} {ts : AL} (sm : SmallL N) (tk : TieOk (N ++ [grd]) P ts) (hN : N.length ≤ 15) (ht : ts.length ≤ 1000) : Shown N ts := by
  have low : ∀ x ∈ N ++ [grd], lowS x ∧ x.length ≤ 6 := by
    intro x hx
    rcases List.mem_append.mp hx with hx | hx
    · exact ⟨(sm.2.1 x hx).1, (sm.2.1 x hx).2.2⟩
    · rw [List.mem_singleton.mp hx]; exact ⟨low_grd, by decide⟩
  refine ⟨fun x hx => low x (List.mem_append_left _ hx), fun e he => ?_, by omega, ht⟩
  obtain ⟨o1, o2, _, _, o3, o4⟩ := tk.ok e he
  exact ⟨(low _ o1).1, (low _ o2).1, short_of (by omega) (by omega), (low _ o1).2, (low _ o2).2⟩
section
variable {T : Tb}
/-- a drawn place -/
theorem lplace_is [HasFn T 8 F8] [HasFn T 48 F48] (k n : Nat) (m : Hd) (N : List Str) (ts : AL) (x : D) (near : Int) (hb : isBox m n) (ht : ts.length ≤ 1000) (hts : ∀ e ∈ ts, -1000000000 ≤ e.2 ∧ e.2 ≤ 1000000000) :
    ∃ (v : Int) (m' : Hd), callN T (k+2) 48 [.ref n, webD N ts, x, .int near] m = .ok (.int v) m' ∧ Boxed n m m' ∧ near - 1000000000 ≤ v ∧ v ≤ near + 1000000000 := by
  have key : lcGo [] (lcStep (.tup [.name 6, .name 7, .name 8]) [some (.ref n), some (webD N ts), some x, some (.int near), none, none, none, none, none] (evT (callN T (k+1)) .yes) (evE (callN T (k+1)) (.bi .abs [.var 8]))) (ts.map triD) m = .ok ((ts.map fun e => if e.2 < 0 then -e.2 else e.2).map .int) m := by
    have : ∀ d ∈ ts.map triD, lcStep (.tup [.name 6, .name 7, .name 8]) [some (.ref n), some (webD N ts), some x, some (.int near), none, none, none, none, none] (evT (callN T (k+1)) .yes) (evE (callN T (k+1)) (.bi .abs [.var 8])) d m = .ok (some ((fun d => match d with | .tup [_, _, .int i] => .int (if i < 0 then -i else i) | _ => .non) d)) m := by
      intro d hd
      obtain ⟨e, he, rfl⟩ := List.mem_map.mp hd
      simp [lcStep, triD]
    rw [lc_map rfl this, List.map_map, List.map_map]
    rfl
  generalize hA : (ts.map fun e => if e.2 < 0 then -e.2 else e.2) ++ [1, 10] = A
  have hAl : A.length = ts.length + 2 := by rw [← hA]; simp
  have hAb : ∀ i ∈ A, 0 ≤ i ∧ i ≤ 1000000000 := by
    intro i hi
    rw [← hA] at hi
    rcases List.mem_append.mp hi with hi | hi
    · obtain ⟨e, he, rfl⟩ := List.mem_map.mp hi
      have := hts e he
      split <;> omega
    · simp only [List.mem_cons, List.not_mem_nil, or_false] at hi
      rcases hi with rfl | rfl <;> omega
  have hA' : (ts.map fun e => if e.2 < 0 then -e.2 else e.2).map D.int ++ [.int 1, .int 10] = A.map .int := by rw [← hA]; simp
  obtain ⟨i1, m1, e1, l1, u1, b1⟩ := take_is (T := T) k n m 7 hb (by omega) (by omega)
  have h1 := b1.is hb
  obtain ⟨i2, m2, e2, l2, u2, b2⟩ := take_is (T := T) k n m1 60 h1 (by omega) (by omega)
  have h2 := b2.is h1
  obtain ⟨i3, m3, e3, l3, u3, b3⟩ := take_is (T := T) k n m2 A.length h2 (by omega) (by omega)
  have h3 := b3.is h2
  obtain ⟨a, ha, ea⟩ := at_mapG (f := D.int) (l := A) l3 u3
  obtain ⟨i4, m4, e4, l4, u4, b4⟩ := take_is (T := T) k n m3 1000000000 h3 (by omega) (by omega)
  have h4 := b4.is h3
  obtain ⟨i5, m5, e5, l5, u5, b5⟩ := take_is (T := T) k n m4 2 h4 (by omega) (by omega)
  have h5 := b5.is h4
  obtain ⟨i6, m6, e6, l6, u6, b6⟩ := take_is (T := T) k n m5 6 h5 (by omega) (by omega)
  have hab := hAb a ha
  obtain ⟨s, es, hs⟩ : ∃ s : Int, atD [.int 1, .int (-1)] i5 = some (.int s) ∧ (s = 1 ∨ s = -1) := by
    have : i5 = 0 ∨ i5 = 1 := by omega
    rcases this with rfl | rfl
    · exact ⟨_, at_0, .inl rfl⟩
    · exact ⟨_, at_1, .inr rfl⟩
  obtain ⟨z, ez, z0, z1⟩ : ∃ z : Int, atD [.int 0, .int 1, .int 1, .int 2, .int 2, .int 3] i6 = some (.int z) ∧ 0 ≤ z ∧ z < 4 := by
    have : i6 = 0 ∨ i6 = 1 ∨ i6 = 2 ∨ i6 = 3 ∨ i6 = 4 ∨ i6 = 5 := by omega
    rcases this with rfl | rfl | rfl | rfl | rfl | rfl
    · exact ⟨0, rfl, by omega, by omega⟩
    · exact ⟨1, rfl, by omega, by omega⟩
    · exact ⟨1, rfl, by omega, by omega⟩
    · exact ⟨2, rfl, by omega, by omega⟩
    · exact ⟨2, rfl, by omega, by omega⟩
    · exact ⟨3, rfl, by omega, by omega⟩
  obtain ⟨w, ew, w0, w1⟩ : ∃ w : Int, atD [.int i1, .int i2, .int a, .int i4] z = some (.int w) ∧ 0 ≤ w ∧ w ≤ 1000000000 := by
    have : z = 0 ∨ z = 1 ∨ z = 2 ∨ z = 3 := by omega
    rcases this with rfl | rfl | rfl | rfl
    · exact ⟨_, at_0, by omega, by omega⟩
    · exact ⟨_, at_1, by omega, by omega⟩
    · exact ⟨_, at_2, by omega, by omega⟩
    · exact ⟨_, at_3, by omega, by omega⟩
  refine ⟨near + s * w, m6, ?_, (((((b1.trans b2).trans b3).trans b4).trans b5).trans b6), ?_, ?_⟩
  · have d1 : ts.length ≤ 16777216 := by omega
    have d2 : ts.length + 2 ≤ 16777216 := by omega
    have d3 : small s = true := by rcases hs with rfl | rfl <;> decide
    have d4 : small 10 = true := by decide
    rw [hAl] at e3
    simp only [Int.natCast_add, Int.cast_ofNat_Int] at e3
    have wd : webD N ts = .tup [.nms N, .tup (ts.map triD)] := rfl
    rw [call_of F48]
    refine run_no (f := F48) rfl rfl ?_
    simp only [wd] at key ⊢
    simp [F48, key, hA', hAl, d1, d2, d3, d4, e1, e2, e3, e4, e5, e6, ea, es, ez, ew, -small_iff, -List.map_map]
  · rcases hs with rfl | rfl <;> omega
  · rcases hs with rfl | rfl <;> omega
end
end Dx
/-! LbV: heights or a ring: the walk -/
namespace Dx
open PySem
/-- a dict by the names, each with a value -/
def encM (ns : List Str) (v : Str → D) : List (D × D) := ns.map fun x => (.str x, v x)
theorem find_encM {v : Str → D} {x : Str} : ∀ {ns : List Str}, x ∈ ns → find (encM ns v) (.str x) = some (v x)
  | [], h => nomatch h
  | y :: ns, h => by
    unfold find
    simp only [encM, List.map_cons, List.find?_cons, beq_str]
    by_cases c : y = x
    · subst c; simp
    · simp only [c, decide_false]
      rcases List.mem_cons.mp h with rfl | h
      · exact absurd rfl c
      · have := find_encM (v := v) h
        unfold find at this
        exact this
theorem put_encM {ns : List Str} {v : Str → D} {k : Str} {d : D} (h : k ∈ ns) : put (encM ns v) (.str k) d = encM ns (updF v k d) := by
  unfold put
  have h1 : ((encM ns v).any fun p => D.beq p.1 (.str k)) = true := by
    rw [List.any_eq_true]
    exact ⟨(.str k, v k), List.mem_map.mpr ⟨k, h, rfl⟩, by simp [beq_str]⟩
  rw [if_pos h1]
  unfold encM
  rw [List.map_map]
  apply List.map_congr_left
  intro x _
  simp only [Function.comp, beq_str]
  by_cases c : x = k
  · subst c; simp
  · simp [c, upd_other c]
@[simp] theorem encM_len {ns : List Str} {v : Str → D} : (encM ns v).length = ns.length := by simp [encM]
def hD (ns : List Str) (h : Str → Int) : O := .dct false (encM ns fun x => .int (h x))
def bD (ns : List Str) (b : Str → Str) : O := .dct false (encM ns fun x => .str (b x))
theorem upd_hD {ns : List Str} {h : Str → Int} {k : Str} {i : Int} (hk : k ∈ ns) : O.dct false (put (encM ns fun x => .int (h x)) (.str k) (.int i)) = hD ns (updF h k i) := by
  rw [put_encM hk]
  unfold hD
  congr 2
  funext x
  unfold updF
  split <;> rfl
theorem upd_bD {ns : List Str} {b : Str → Str} {k j : Str} (hk : k ∈ ns) : O.dct false (put (encM ns fun x => .str (b x)) (.str k) (.str j)) = bD ns (updF b k j) := by
  rw [put_encM hk]
  unfold bD
  congr 2
  funext x
  unfold updF
  split <;> rfl
section
variable {m : Hd} {o1 o2 o : O} {p : Nat}
theorem get2_0 (h : m.length = p) : (m ++ [o1, o2])[p]? = some o1 := by subst h; simp
theorem get2_1 (h : m.length = p) : (m ++ [o1, o2])[p + 1]? = some o2 := by subst h; simp
theorem set2_0 (h : m.length = p) : (m ++ [o1, o2]).set p o = m ++ [o, o2] := by subst h; simp
theorem set2_1 (h : m.length = p) : (m ++ [o1, o2]).set (p + 1) o = m ++ [o1, o] := by
  subst h
  rw [List.set_append_right _ _ (by omega)]
  simp
end
def lsD : Option Str → D
  | none => .non
  | some x => .str x
/-- what the ties' dict holds -/
structure EsOk (ns : List Str) (es : AL) : Prop where
  nd : (es.map (·.1)).Nodup
  ok : ∀ e ∈ es, e.1.1 ∈ ns ∧ e.1.2 ∈ ns ∧ e.1.1 ≠ e.1.2
  n : ns.Nodup
  nl : ns.length ≤ 100
  el : es.length ≤ 10000
theorem EsOk.look {ns : List Str} {es : AL} (h : EsOk ns es) {e : Pr × Int} (he : e ∈ es) : Dx.look es e.1 = some e.2 := (rows_mem (l := es) (p := e.1) (w := e.2) h.nd).mp he
theorem EsOk.nodup {ns : List Str} {es : AL} (h : EsOk ns es) : es.Nodup := by
  have := h.nd
  rw [List.nodup_iff_pairwise_ne, List.pairwise_map] at this
  rw [List.nodup_iff_pairwise_ne]
  exact this.imp fun {a b} h e => h (by rw [e])
def hp2 (ns : List Str) (m : Hd) (s : HS) : Hd := m ++ [hD ns s.h, bD ns s.b]
section
variable {T : Tb}
theorem rel_walk {call : Nat → List D → Hd → R D} {ns : List Str} {es : AL} (h : EsOk ns es) (m : Hd) (p : Nat) (hp : m.length = p) (s : HS) (e : Pr × Int) (he : e ∈ es) (x0 x2 x8 : Option D) :
    evB call F51_0 [x0, some (.dct true (enc es)), x2, some (.ref p), some (.ref (p+1)), some (lsD s.last), some (.str e.1.1), some (.str e.1.2), x8] (hp2 ns m s) =
      .ok (.next [x0, some (.dct true (enc es)), x2, some (.ref p), some (.ref (p+1)), some (lsD (relH s e).last), some (.str e.1.1), some (.str e.1.2), x8]) (hp2 ns m (relH s e)) := by
  obtain ⟨⟨j, k⟩, w⟩ := e
  obtain ⟨hj, hk, _⟩ := h.ok _ he
  have hl := h.look he
  simp only at hj hk hl ⊢
  have f1 : find (enc es) (.tup [.str j, .str k]) = some (.int w) := by rw [find_enc2, hl]; rfl
  have g0 : (hp2 ns m s)[p]? = some (hD ns s.h) := get2_0 hp
  have gj : getD (hp2 ns m s) (.ref p) (.str j) = some (.int (s.h j)) := by
    rw [get_ref, g0]
    exact find_encM (v := fun x => .int (s.h x)) hj
  have gk : getD (hp2 ns m s) (.ref p) (.str k) = some (.int (s.h k)) := by
    rw [get_ref, g0]
    exact find_encM (v := fun x => .int (s.h x)) hk
  have gt : getD (hp2 ns m s) (.dct true (enc es)) (.tup [.str j, .str k]) = some (.int w) := f1
  by_cases c : s.h j + w < s.h k
  · have er : relH s ((j, k), w) = ⟨updF s.h k (s.h j + w), updF s.b k j, some k⟩ := by unfold relH; rw [if_pos c]
    have d1 : decide (ns.length < sizeLine) = true := decide_eq_true (by rw [line_eq]; have := h.nl; omega)
    have s1 : setD (.ref p) (.str k) (.int (s.h j + w)) (hp2 ns m s) = .ok () (m ++ [hD ns (updF s.h k (s.h j + w)), bD ns s.b]) := by
      rw [set_ref, g0, optB_some, R.bind_ok]
      have : setO (hD ns s.h) (.str k) (.int (s.h j + w)) = some (hD ns (updF s.h k (s.h j + w))) := by
        show (if keyOk false (.str k) && decide ((encM ns fun x => D.int (s.h x)).length < sizeLine) then some (O.dct false (put (encM ns fun x => .int (s.h x)) (.str k) (.int (s.h j + w)))) else none) = _
        rw [encM_len, d1, upd_hD hk]
        rfl
      rw [this, optB_some, R.bind_ok]
      congr 1
      exact set2_0 hp
    have s2 : setD (.ref (p+1)) (.str k) (.str j) (m ++ [hD ns (updF s.h k (s.h j + w)), bD ns s.b]) = .ok () (m ++ [hD ns (updF s.h k (s.h j + w)), bD ns (updF s.b k j)]) := by
      rw [set_ref, get2_1 hp, optB_some, R.bind_ok]
      have : setO (bD ns s.b) (.str k) (.str j) = some (bD ns (updF s.b k j)) := by
        show (if keyOk false (.str k) && decide ((encM ns fun x => D.str (s.b x)).length < sizeLine) then some (O.dct false (put (encM ns fun x => .str (s.b x)) (.str k) (.str j))) else none) = _
        rw [encM_len, d1, upd_bD hk]
        rfl
      rw [this, optB_some, R.bind_ok]
      congr 1
      exact set2_1 hp
    rw [er]
    simp [F51_0, gj, gk, f1, c, asgM, bindMs, s1, s2, -get_ref, -set_ref]
    exact ⟨rfl, rfl⟩
  · have er : relH s ((j, k), w) = s := by unfold relH; rw [if_neg c]
    rw [er]
    simp [F51_0, gj, gk, f1, c, -get_ref]
theorem turn_walk {call : Nat → List D → Hd → R D} {ns : List Str} {es : AL} (h : EsOk ns es) (m : Hd) (p : Nat) (hp : m.length = p) (s : HS) (x0 x2 x5 x6 x7 x8 : Option D) :
    ∃ y6 y7, evB call F51_1 [x0, some (.dct true (enc es)), x2, some (.ref p), some (.ref (p+1)), x5, x6, x7, x8] (hp2 ns m s) =
      if (turnH es s).last = none then .ok (.ret (.tup [.str "heights", .ref p])) (hp2 ns m (turnH es s)) else .ok (.next [x0, some (.dct true (enc es)), x2, some (.ref p), some (.ref (p+1)), some (lsD (turnH es s).last), y6, y7, x8]) (hp2 ns m (turnH es s)) := by
  obtain ⟨fl, m', e1, s', b', rfl, ⟨y6, y7, rfl⟩, rfl, rfl⟩ := (fr_en (en := fun e : Pr × Int => kyD e.1) (tg := .tup [.name 6, .name 7]) (g := []) (body := evB call F51_0) (ns := es) (b0 := ({ s with last := none } : HS)) (s := [x0, some (.dct true (enc es)), x2, some (.ref p), some (.ref (p+1)), some .non, x6, x7, x8]) (m := hp2 ns m s)
    (fun (pre : AL) (t : HS) (sl : SD) (m' : Hd) => (∃ y6 y7, sl = [x0, some (.dct true (enc es)), x2, some (.ref p), some (.ref (p+1)), some (lsD t.last), y6, y7, x8]) ∧ m' = hp2 ns m t ∧ t = pre.foldl relH { s with last := none })
    ⟨⟨_, _, rfl⟩, rfl, rfl⟩ (fun _ _ _ _ _ => rfl) (by
      intro pre e post t sl m' hd hI
      obtain ⟨⟨y6, y7, rfl⟩, rfl, rfl⟩ := hI
      have he : e ∈ es := by rw [hd]; simp
      refine ⟨[x0, some (.dct true (enc es)), x2, some (.ref p), some (.ref (p+1)), some (lsD (pre.foldl relH { s with last := none }).last), some (.str e.1.1), some (.str e.1.2), x8], by simp [kyD], ?_⟩
      rw [rel_walk h m p hp _ e he]
      exact ⟨_, _, rfl, ⟨_, _, rfl⟩, rfl, by rw [List.foldl_append]; rfl⟩)).ok
  have hw : ∀ m : Hd, wq m (.dct true (enc es)) = some (es.map fun e => kyD e.1) := fun m => by
    show some ((enc es).map (·.1)) = _
    unfold enc
    rw [List.map_map]
    rfl
  have ht : es.foldl relH { s with last := none } = turnH es s := rfl
  rw [ht] at e1
  refine ⟨y6, y7, ?_⟩
  have gg : ∀ m : Hd, guOf m (.dct true (enc es)) = [] := fun _ => rfl
  by_cases c : (turnH es s).last = none
  · rw [if_pos c]
    rw [c] at e1
    simp [F51_1, hw, gg, e1, lsD]
  · rw [if_neg c]
    cases q : (turnH es s).last with
    | none => exact absurd q c
    | some x =>
      rw [q] at e1
      simp [F51_1, hw, gg, e1, lsD]
def goH (es : AL) : Nat → HS → Bool × HS
  | 0, s => (false, s)
  | n + 1, s => if (turnH es s).last = none then (true, turnH es s) else goH es n (turnH es s)
theorem go_walk {call : Nat → List D → Hd → R D} {ns : List Str} {es : AL} (h : EsOk ns es) (m : Hd) (p : Nat) (hp : m.length = p) (x0 x8 : Option D) : ∀ (ds : List D) (s : HS) (x2 x6 x7 : Option D),
    ∃ y2 y6 y7, frGo [] (.name 2) (evB call F51_1) ds [x0, some (.dct true (enc es)), x2, some (.ref p), some (.ref (p+1)), some (lsD s.last), x6, x7, x8] (hp2 ns m s) =
      if (goH es ds.length s).1 = true then .ok (.ret (.tup [.str "heights", .ref p])) (hp2 ns m (goH es ds.length s).2) else .ok (.next [x0, some (.dct true (enc es)), y2, some (.ref p), some (.ref (p+1)), some (lsD (goH es ds.length s).2.last), y6, y7, x8]) (hp2 ns m (goH es ds.length s).2)
  | [], s, x2, x6, x7 => ⟨x2, x6, x7, rfl⟩
  | d :: ds, s, x2, x6, x7 => by
    obtain ⟨y6, y7, e⟩ := turn_walk (call := call) h m p hp s x0 (some d) (some (lsD s.last)) x6 x7 x8
    have e2 : ∀ q, frGo [] (.name 2) (evB call F51_1) (d :: ds) [x0, some (.dct true (enc es)), x2, some (.ref p), some (.ref (p+1)), q, x6, x7, x8] (hp2 ns m s) = (evB call F51_1 [x0, some (.dct true (enc es)), some d, some (.ref p), some (.ref (p+1)), q, x6, x7, x8] (hp2 ns m s)).bind fun f m2 => match f with
      | .next s2 => frGo [] (.name 2) (evB call F51_1) ds s2 m2
      | .ret d => .ok (.ret d) m2 := fun q => rfl
    by_cases c : (turnH es s).last = none
    · rw [if_pos c] at e
      refine ⟨x2, x6, x7, ?_⟩
      rw [e2, e]
      have : goH es (d :: ds).length s = (true, turnH es s) := by
        show (if (turnH es s).last = none then (true, turnH es s) else goH es ds.length (turnH es s)) = _
        rw [if_pos c]
      rw [this]
      rfl
    · rw [if_neg c] at e
      obtain ⟨z2, z6, z7, e3⟩ := go_walk h m p hp x0 x8 ds (turnH es s) (some d) y6 y7
      refine ⟨z2, z6, z7, ?_⟩
      rw [e2, e]
      have : goH es (d :: ds).length s = goH es ds.length (turnH es s) := by
        show (if (turnH es s).last = none then (true, turnH es s) else goH es ds.length (turnH es s)) = _
        rw [if_neg c]
      rw [this]
      exact e3
theorem go_walk1 {call : Nat → List D → Hd → R D} {ns : List Str} {es : AL} (h : EsOk ns es) (m : Hd) (p : Nat) (hp : m.length = p) (x0 x8 : Option D) (d : D) (ds : List D) (s : HS) (x2 x5 x6 x7 : Option D) :
    ∃ y2 y6 y7, frGo [] (.name 2) (evB call F51_1) (d :: ds) [x0, some (.dct true (enc es)), x2, some (.ref p), some (.ref (p+1)), x5, x6, x7, x8] (hp2 ns m s) =
      if (goH es (d :: ds).length s).1 = true then .ok (.ret (.tup [.str "heights", .ref p])) (hp2 ns m (goH es (d :: ds).length s).2) else .ok (.next [x0, some (.dct true (enc es)), y2, some (.ref p), some (.ref (p+1)), some (lsD (goH es (d :: ds).length s).2.last), y6, y7, x8]) (hp2 ns m (goH es (d :: ds).length s).2) := by
  obtain ⟨y6, y7, e⟩ := turn_walk (call := call) h m p hp s x0 (some d) x5 x6 x7 x8
  have e2 : frGo [] (.name 2) (evB call F51_1) (d :: ds) [x0, some (.dct true (enc es)), x2, some (.ref p), some (.ref (p+1)), x5, x6, x7, x8] (hp2 ns m s) = (evB call F51_1 [x0, some (.dct true (enc es)), some d, some (.ref p), some (.ref (p+1)), x5, x6, x7, x8] (hp2 ns m s)).bind fun f m2 => match f with
    | .next s2 => frGo [] (.name 2) (evB call F51_1) ds s2 m2
    | .ret d => .ok (.ret d) m2 := rfl
  by_cases c : (turnH es s).last = none
  · rw [if_pos c] at e
    refine ⟨x2, x6, x7, ?_⟩
    rw [e2, e]
    have : goH es (d :: ds).length s = (true, turnH es s) := by
      show (if (turnH es s).last = none then (true, turnH es s) else goH es ds.length (turnH es s)) = _
      rw [if_pos c]
    rw [this]
    rfl
  · rw [if_neg c] at e
    obtain ⟨z2, z6, z7, e3⟩ := go_walk (call := call) h m p hp x0 x8 ds (turnH es s) (some d) y6 y7
    refine ⟨z2, z6, z7, ?_⟩
    rw [e2, e]
    have : goH es (d :: ds).length s = goH es ds.length (turnH es s) := by
      show (if (turnH es s).last = none then (true, turnH es s) else goH es ds.length (turnH es s)) = _
      rw [if_neg c]
    rw [this]
    exact e3
theorem go_spec {ns : List Str} {es : AL} (h : EsOk ns es) : ∀ (n i : Nat) (s : HS) (g : Gh), HI es i [] s g → ((goH es n s).1 = true ∧ ∀ e ∈ es, (goH es n s).2.h e.1.2 ≤ (goH es n s).2.h e.1.1 + e.2) ∨ ((goH es n s).1 = false ∧ (n = 0 ∨ ((goH es n s).2.last ≠ none ∧ ∃ g', HI es (i + n) [] (goH es n s).2 g')))
  | 0, i, s, g, I => .inr ⟨rfl, .inl rfl⟩
  | n + 1, i, s, g, I => by
    obtain ⟨g', I'⟩ := turn_inv (fun e he => (h.ok e he).2.2) h.nodup I
    by_cases c : (turnH es s).last = none
    · have e : goH es (n + 1) s = (true, turnH es s) := by
        show (if (turnH es s).last = none then (true, turnH es s) else goH es n (turnH es s)) = _
        rw [if_pos c]
      rw [e]
      exact .inl ⟨rfl, stays I' (by omega) c⟩
    · have e : goH es (n + 1) s = goH es n (turnH es s) := by
        show (if (turnH es s).last = none then (true, turnH es s) else goH es n (turnH es s)) = _
        rw [if_neg c]
      rw [e]
      rcases go_spec h n (i + 1) (turnH es s) g' I' with q | ⟨q, z | ⟨z, g2, I2⟩⟩
      · exact .inl q
      · subst z
        refine .inr ⟨q, .inr ⟨c, g', I'⟩⟩
      · exact .inr ⟨q, .inr ⟨z, g2, by rw [show i + (n + 1) = i + 1 + n by omega]; exact I2⟩⟩
/-! ### the ring -/
def pairsR (r : List Str) : List Pr := r.zip (r.drop 1 ++ r.take 1)
structure BadRing (es : AL) (r : List Str) : Prop where
  nd : r.Nodup
  two : 2 ≤ r.length
  ties : ∀ p ∈ pairsR r, ∃ w, (p, w) ∈ es
  neg : ((pairsR r).map fun p => (Dx.look es p).getD 0).sum < 0
def backR (b : Str → Str) (y : Str) (p : Nat) : List Str := ((List.range p).map fun t => itB b t y).reverse
theorem back_pairs {b : Str → Str} {y : Str} {q : Nat} (h : itB b (q + 1) y = y) : pairsR (backR b y (q + 1)) = ((List.range q).map fun t => (itB b (t + 1) y, itB b t y)).reverse ++ [(itB b (q + 1) y, itB b q y)] := by
  have e1 : backR b y (q + 1) = itB b q y :: ((List.range q).map fun t => itB b t y).reverse := by
    unfold backR
    rw [List.range_succ, List.map_append, List.reverse_append]
    rfl
  have e2 : backR b y (q + 1) = ((List.range q).map fun t => itB b (t + 1) y).reverse ++ [y] := by
    unfold backR
    rw [List.range_succ_eq_map, List.map_cons, List.reverse_cons, List.map_map]
    rfl
  unfold pairsR
  have e3 : (backR b y (q + 1)).drop 1 ++ (backR b y (q + 1)).take 1 = ((List.range q).map fun t => itB b t y).reverse ++ [itB b q y] := by rw [e1]; rfl
  rw [e3, e2, List.zip_append (by simp), h]
  congr 1
  rw [← List.map_reverse, ← List.map_reverse, ← List.map_reverse, List.zip_map']
theorem on_bad {ns : List Str} {es : AL} (h : EsOk ns es) {s : HS} {y : Str} {p : Nat} (o : OnRing es s y p) : BadRing es (backR s.b y p) := by
  have two := o.two
  obtain ⟨q, rfl⟩ : ∃ q, p = q + 1 := ⟨p - 1, by omega⟩
  have hp := back_pairs (b := s.b) (y := y) (q := q) o.back
  refine ⟨?_, by simp [backR]; omega, fun z hz => ?_, ?_⟩
  · unfold backR
    rw [List.nodup_iff_pairwise_ne, List.pairwise_reverse, List.pairwise_map]
    refine (List.pairwise_lt_range).imp_of_mem fun {a b} ha hb hab e => ?_
    have hb' := List.mem_range.mp hb
    have : itB s.b (q + 1 - b + a) y = y := by
      rw [itB_add, ← e, ← itB_add, show q + 1 - b + b = q + 1 by omega, o.back]
    exact o.first _ (by omega) (by omega) this
  · rw [hp] at hz
    rcases List.mem_append.mp hz with hz | hz
    · obtain ⟨t, ht, rfl⟩ := List.mem_map.mp (List.mem_reverse.mp hz)
      exact o.ties t
    · rw [List.mem_singleton.mp hz]
      exact o.ties q
  · have := o.neg (fun p => (Dx.look es p).getD 0) fun e he => by rw [h.look he]; rfl
    rw [hp, List.map_append, List.sum_append, List.map_reverse, List.sum_reverse, List.map_map]
    rw [List.range_succ, List.map_append, List.sum_append] at this
    exact this
theorem wh_run {c : SD → Hd → R Bool} {body : SD → Hd → R Fl} (S : Nat → SD) (M : Nat → Hd) (k : Nat) (hc : ∀ t, t < k → c (S t) (M t) = .ok true (M t)) (hb : ∀ t, t < k → body (S t) (M t) = .ok (.next (S (t + 1))) (M (t + 1))) (he : c (S k) (M k) = .ok false (M k)) : ∀ (r t n : Nat), t + r = k → r < n → whGo c body n (S t) (M t) = .ok (.next (S k)) (M k)
  | 0, t, n, h, hn => by
    have : t = k := by omega
    subst this
    obtain ⟨n, rfl⟩ : ∃ n', n = n' + 1 := ⟨n - 1, by omega⟩
    show (c (S t) (M t)).bind _ = _
    rw [he]
    rfl
  | r + 1, t, n, h, hn => by
    obtain ⟨n, rfl⟩ : ∃ n', n = n' + 1 := ⟨n - 1, by omega⟩
    show (c (S t) (M t)).bind _ = _
    rw [hc t (by omega), R.bind_ok]
    show (body (S t) (M t)).bind _ = _
    rw [hb t (by omega), R.bind_ok]
    exact wh_run S M k hc hb he r (t + 1) n (by omega) (by omega)
theorem back_is [HasFn T 50 F50] (k : Nat) (m : Hd) (ns : List Str) (b : Str → Str) (hb : ∀ x ∈ ns, b x ∈ ns) (x : Str) (hx : x ∈ ns) (q p : Nat) (hq : m[q]? = some (bD ns b)) (hl : ns.length ≤ 100) (p1 : 1 ≤ p) (pl : p ≤ 100) (bk : itB b p (itB b ns.length x) = itB b ns.length x) (fst : ∀ t, 1 ≤ t → t < p → itB b t (itB b ns.length x) ≠ itB b ns.length x) :
    callN T (k+1) 50 [.str x, .ref q] m = .ok (.tup ((backR b (itB b ns.length x) p).map .str)) m := by
  have inN : ∀ y, y ∈ ns → ∀ t, itB b t y ∈ ns := by
    intro y hy t
    induction t with
    | zero => exact hy
    | succ t ih => exact hb _ ih
  have gb : ∀ (m' : Hd), m'[q]? = some (bD ns b) → ∀ z ∈ ns, getD m' (.ref q) (.str z) = some (.str (b z)) := by
    intro m' hm z hz
    rw [get_ref, hm]
    exact find_encM (v := fun x => .str (b x)) hz
  obtain ⟨fl, m', e1, s', _, rfl, ⟨y3, rfl⟩, hm⟩ := (fr_en (en := fun j : Nat => D.int ((0 : Int) + (j : Nat))) (tg := .name 3) (g := []) (body := evB (callN T k) F50_0) (ns := List.range ns.length) (b0 := ()) (s := [some (.str x), some (.ref q), some (.str x), none, none]) (m := m)
    (fun (pre : List Nat) (_ : Unit) (s : SD) (m' : Hd) => (∃ y3, s = [some (.str x), some (.ref q), some (.str (itB b pre.length x)), y3, none]) ∧ m' = m) ⟨⟨_, rfl⟩, rfl⟩ (fun _ _ _ _ _ => rfl) (by
      intro pre j post _ s m' hd hI
      obtain ⟨⟨y3, rfl⟩, rfl⟩ := hI
      refine ⟨[some (.str x), some (.ref q), some (.str (itB b pre.length x)), some (.int ((0 : Int) + (j : Nat))), none], rfl, ?_⟩
      have := gb m' hq _ (inN x hx pre.length)
      simp [F50_0, this, itB, -get_ref])).ok
  rw [hm] at e1
  clear hm
  simp only [List.length_range] at e1
  rw [show ((List.range ns.length).map fun j : Nat => D.int ((0 : Int) + (j : Nat))) = rangeD 0 (ns.length : Int) by rw [rng_map]; simp] at e1
  generalize hy : itB b ns.length x = y at e1 bk fst
  have hyN : y ∈ ns := by rw [← hy]; exact inN x hx _
  obtain ⟨p', rfl⟩ : ∃ p', p = p' + 1 := ⟨p - 1, by omega⟩
  have qlt : q < m.length := (List.getElem?_eq_some_iff.mp hq).1
  let S : Nat → SD := fun _ => [some (.str x), some (.ref q), some (.str y), y3, some (.ref m.length)]
  let F : Nat → List D := fun t => (List.range (t + 1)).map fun t => D.str (itB b t y)
  let M : Nat → Hd := fun t => m ++ [.lst (F t)]
  have Fl : ∀ t, (F t).length = t + 1 := fun t => by simp [F]
  have gq : ∀ t, (M t)[q]? = some (bD ns b) := fun t => by
    show (m ++ [O.lst (F t)])[q]? = _
    rw [List.getElem?_append_left qlt, hq]
  have gl : ∀ t, (M t)[m.length]? = some (.lst (F t)) := fun t => get_len rfl
  have gn : ∀ t, getD (M t) (.ref m.length) (.int (-1)) = some (.str (itB b t y)) := fun t => by
    rw [get_ref, gl]
    show atD (F t) (-1) = _
    unfold atD ixNat
    rw [Fl]
    have c1 : ¬ (0 : Int) ≤ -1 := by omega
    have c2 : -((t + 1 : Nat) : Int) ≤ -1 := by omega
    have c3 : ((-1 : Int) + ((t + 1 : Nat) : Int)).toNat = t := by omega
    rw [if_neg c1, if_pos c2, c3]
    show (F t)[t]? = _
    simp [F]
  have cnd : ∀ t, evT (callN T k) (.cmp .ne (.ix (.var 1) (.ix (.var 4) (.neg (.con (.int 1))))) (.var 2)) (S t) (M t) = .ok (!decide (itB b (t + 1) y = y)) (M t) := fun t => by
    have g2 := gb (M t) (gq t) _ (inN y hyN t)
    have g1 := gn t
    simp [S, g1, g2, itB, -get_ref]
    exact decide_eq_decide.mpr Iff.rfl
  have w := wh_run (c := evT (callN T k) (.cmp .ne (.ix (.var 1) (.ix (.var 4) (.neg (.con (.int 1))))) (.var 2))) (body := evB (callN T k) F50_1) S M p' (fun t ht => by
      rw [cnd t]
      have := fst (t + 1) (by omega) (by omega)
      simp [this]) (fun t ht => by
      have g2 := gb (M t) (gq t) _ (inN y hyN t)
      have g1 := gn t
      have g0 := gl t
      have d1 : (F t).length < 16777216 := by rw [Fl]; omega
      have sl : (M t).set m.length (.lst (F t ++ [.str (b (itB b t y))])) = M (t + 1) := by
        show (m ++ [O.lst (F t)]).set m.length _ = _
        rw [set_last]
        show _ = m ++ [O.lst (F (t + 1))]
        have : F (t + 1) = F t ++ [.str (b (itB b t y))] := by
          show (List.range (t + 1 + 1)).map _ = _
          rw [List.range_succ, List.map_append]
          rfl
        rw [this]
      simp [F50_1, S, g0, g1, g2, d1, sl, -get_ref]) (by rw [cnd p', bk]; simp) p' 0 loopF (by omega) (by unfold loopF; omega)
  have m0 : M 0 = m ++ [.lst [.str y]] := rfl
  have rv : revD false (.ref m.length) (M p') = .ok (.lst ((backR b y (p' + 1)).map .str)) (M p') := by
    have e : revD false (.ref m.length) (M p') = match sq (M p') (.ref m.length) with
      | some xs => mkL false xs.reverse (M p')
      | none => .no := by
      unfold revD
      cases sq (M p') (.ref m.length) <;> rfl
    rw [e, sq_r (gl p')]
    show R.ok (D.lst (F p').reverse) (M p') = _
    congr 2
    unfold backR
    rw [List.map_reverse, List.map_map]
    rfl
  have ln : biD .len [.ref q] m = .ok (.int (ns.length : Int)) m := by
    rw [bi_len_ref, hq]
    simp [bD]
  have er : rngD (.int 0) (.int (ns.length : Int)) m = .ok (rangeD 0 ns.length, []) m := rng_ok (by decide) (big_small (by omega) (by omega))
  rw [call_of F50, run_gc (m' := M p') (d := .tup ((backR b y (p' + 1)).map .str)) rfl rfl ?_ (by simp only [D.und]; exact und_strs) keep_same, take_same]
  rw [m0] at w
  have w' : whGo (evT (callN T k) (.cmp .ne (.ix (.var 1) (.ix (.var 4) (.neg (.con (.int 1))))) (.var 2))) (evB (callN T k) F50_1) loopF [some (.str x), some (.ref q), some (.str y), y3, some (.ref m.length)] (m ++ [.lst [.str y]]) = .ok (.next [some (.str x), some (.ref q), some (.str y), y3, some (.ref m.length)]) (M p') := w
  have ib : ∀ (s : SD), varD s 1 m = .ok (.ref q) m → evI (callN T k) (.rng (.con (.int 0)) (.bi .len [.var 1])) s m = .ok (rangeD 0 ns.length, []) m := by
    intro s hs
    rw [ev_31, ev_1, R.bind_ok, ev_17, ev_22, ev_0, hs, R.bind_ok]
    rw [show evEs (callN T k) [] s m = .ok [] m from ev_21, R.bind_ok, R.bind_ok, ln, R.bind_ok, er]
  have q1 : evS (callN T k) (.asg (.name 2) (.var 0)) [some (.str x), some (.ref q), none, none, none] m = .ok (.next [some (.str x), some (.ref q), some (.str x), none, none]) m := by simp
  have q2 : evS (callN T k) (.fr (.name 3) (.rng (.con (.int 0)) (.bi .len [.var 1])) F50_0) [some (.str x), some (.ref q), some (.str x), none, none] m = .ok (.next [some (.str x), some (.ref q), some (.str y), y3, none]) m := by
    rw [ev_39, ib _ rfl, R.bind_ok]
    exact e1
  have q3 : evS (callN T k) (.asg (.name 4) (.lst true [.var 2])) [some (.str x), some (.ref q), some (.str y), y3, none] m = .ok (.next [some (.str x), some (.ref q), some (.str y), y3, some (.ref m.length)]) (m ++ [.lst [.str y]]) := by simp
  have q4 : evS (callN T k) (.whl (.cmp .ne (.ix (.var 1) (.ix (.var 4) (.neg (.con (.int 1))))) (.var 2)) F50_1) [some (.str x), some (.ref q), some (.str y), y3, some (.ref m.length)] (m ++ [.lst [.str y]]) = .ok (.next [some (.str x), some (.ref q), some (.str y), y3, some (.ref m.length)]) (M p') := by
    rw [ev_40]
    exact w'
  have q5 : evS (callN T k) (.ret (.bi .tuple [.rev false (.var 4)])) [some (.str x), some (.ref q), some (.str y), y3, some (.ref m.length)] (M p') = .ok (.ret (.tup ((backR b y (p' + 1)).map .str))) (M p') := by simp [rv, -List.map_reverse]
  show evB (callN T k) [_, _, _, _, _] [some (.str x), some (.ref q), none, none, none] m = _
  rw [ev_44, q1, R.bind_ok, is_seq_next, ev_44, q2, R.bind_ok, is_seq_next, ev_44, q3, R.bind_ok, is_seq_next, ev_44, q4, R.bind_ok, is_seq_next, ev_44, q5]
  rfl
end
end Dx
/-! LbW: heights or a ring, let by -/
namespace Dx
open PySem
theorem putM_new {a : List Str} {v : Str → D} {k : Str} (h : k ∉ a) : put (encM a v) (.str k) (v k) = encM (a ++ [k]) v := by
  unfold put
  have h1 : ((encM a v).any fun p => D.beq p.1 (.str k)) = false := by
    rw [List.any_eq_false]
    intro p hp
    obtain ⟨x, hx, rfl⟩ := List.mem_map.mp hp
    simp only [beq_str, decide_eq_true_eq]
    intro e
    exact h (by rw [← e]; exact hx)
  rw [h1]
  simp [encM]
theorem dc_names {step : D → Hd → R (Option (D × D))} {m : Hd} {v : Str → D} : ∀ {l a : List Str}, (a ++ l).Nodup → (∀ x ∈ l, step (.str x) m = .ok (some (.str x, v x)) m) → dcGo false [] step (l.map .str) (encM a v) m = .ok (encM (a ++ l) v) m
  | [], a, _, h => by
    rw [List.append_nil]
    rfl
  | x :: l, a, hn, h => by
    have hn' : (a ++ [x] ++ l).Nodup := by rw [List.append_assoc]; exact hn
    have hnew : x ∉ a := by
      rw [List.nodup_append] at hn
      exact fun z => hn.2.2 _ z _ List.mem_cons_self rfl
    show ifs (guOk [] m) ((step (.str x) m).bind _) = _
    rw [show guOk [] m = true from rfl, ifs_true, h x List.mem_cons_self, R.bind_ok]
    show ifs (keyOk false (.str x)) (dcGo false [] step (l.map .str) (put (encM a v) (.str x) (v x)) m) = _
    rw [show keyOk false (.str x) = true from rfl, ifs_true, putM_new hnew, dc_names hn' fun y hy => h y (List.mem_cons_of_mem _ hy), List.append_assoc]
    rfl
theorem puts_self : ∀ {z l : AL}, ((l ++ z).map (·.1)).Nodup → putsA l z = l ++ z
  | [], l, _ => by simp [putsA]
  | e :: z, l, h => by
    have h' : ((l ++ [e] ++ z).map (·.1)).Nodup := by rw [List.append_assoc]; exact h
    have hnew : hasA l e.1 = false := by
      rw [List.map_append, List.map_cons, List.nodup_append] at h
      unfold hasA
      rw [List.any_eq_false]
      intro y hy
      simp only [decide_eq_true_eq]
      intro q
      exact h.2.2 _ (List.mem_map.mpr ⟨y, hy, q⟩) _ List.mem_cons_self rfl
    have e1 : putA l e.1 e.2 = l ++ [e] := by
      unfold putA
      rw [hnew]
      rfl
    show putsA (putA l e.1 e.2) z = _
    rw [e1, puts_self h', List.append_assoc]
    rfl
theorem plc_map {g : Str → Int} {x : Str} : ∀ {N : List Str}, x ∈ N → plc N (N.map g) x = g x
  | [], h => nomatch h
  | y :: N, h => by
    unfold plc
    simp only [List.map_cons, List.zip_cons_cons, lookS]
    by_cases c : y = x
    · subst c; simp
    · simp only [c, if_false]
      rcases List.mem_cons.mp h with rfl | h
      · exact absurd rfl c
      · exact plc_map (g := g) h
section
variable {T : Tb}
theorem hr_is [HasFn T 50 F50] [HasFn T 51 F51] (k : Nat) (m : Hd) (ns : List Str) (es : AL) (h : EsOk ns es) (h1 : 1 ≤ ns.length) :
    (∃ s : HS, callN T (k+2) 51 [.tup (ns.map .str), .dct true (enc es)] m = .ok (.tup [.str "heights", .ref m.length]) (hp2 ns m s) ∧ ∀ e ∈ es, s.h e.1.2 ≤ s.h e.1.1 + e.2) ∨
    ∃ r : List Str, callN T (k+2) 51 [.tup (ns.map .str), .dct true (enc es)] m = .ok (.tup [.str "ring", .tup (r.map .str)]) m ∧ BadRing es r ∧ ∀ x ∈ r, x ∈ ns := by
  have k1 : ∀ m' : Hd, dcGo false [] (dcStep (.name 8) [some (.tup (ns.map .str)), some (.dct true (enc es)), none, none, none, none, none, none, none] (evT (callN T (k+1)) .yes) (evE (callN T (k+1)) (.var 8)) (evE (callN T (k+1)) (.con (.int 0)))) (ns.map .str) [] m' = .ok (encM ns fun x => .int (ini.h x)) m' := fun m' =>
    dc_names (a := []) (l := ns) (m := m') (v := fun x => .int (ini.h x)) h.n fun x hx => by simp [dcStep]; rfl
  have k2 : ∀ m' : Hd, dcGo false [] (dcStep (.name 8) [some (.tup (ns.map .str)), some (.dct true (enc es)), none, none, none, none, none, none, none] (evT (callN T (k+1)) .yes) (evE (callN T (k+1)) (.var 8)) (evE (callN T (k+1)) (.var 8))) (ns.map .str) [] m' = .ok (encM ns fun x => .str (ini.b x)) m' := fun m' =>
    dc_names (a := []) (l := ns) (m := m') (v := fun x => .str (ini.b x)) h.n fun x hx => by simp [dcStep]; rfl
  have nl := h.nl
  have d1 : ns.length ≤ 16777216 := by omega
  let S0 : SD := [some (.tup (ns.map .str)), some (.dct true (enc es)), none, some (.ref m.length), some (.ref (m.length + 1)), none, none, none, none]
  have q1 : evS (callN T (k+1)) (.asg (.tup [.name 3, .name 4]) (.tup [.dc false [8] (.name 8) (.seq (.var 0)) (.yes) (.var 8) (.con (.int 0)), .dc false [8] (.name 8) (.seq (.var 0)) (.yes) (.var 8) (.var 8)])) [some (.tup (ns.map .str)), some (.dct true (enc es)), none, none, none, none, none, none, none] m = .ok (.next S0) (hp2 ns m ini) := by
    have e2 : m ++ [O.dct false (encM ns fun x => .int (ini.h x))] ++ [O.dct false (encM ns fun x => .str (ini.b x))] = hp2 ns m ini := by rw [List.append_assoc]; rfl
    simp [k1, k2, d1, newD, S0]
    exact rfl
  have ib : ∀ (s : SD) (m' : Hd), varD s 0 m' = .ok (.tup (ns.map .str)) m' → evI (callN T (k+1)) (.rng (.con (.int 0)) (.bin false .add (.bi .len [.var 0]) (.con (.int 1)))) s m' = .ok (rangeD 0 (ns.length + 1 : Nat), []) m' := by
    intro s m' hs
    have hb : biD .len [.tup (ns.map .str)] m' = .ok (.int (ns.length : Int)) m' := by rw [bi_len_t, List.length_map]
    rw [ev_31, ev_1, R.bind_ok, ev_2, ev_17, ev_22, ev_0, hs, R.bind_ok]
    rw [show evEs (callN T (k+1)) [] s m' = .ok [] m' from ev_21, R.bind_ok, R.bind_ok, hb, R.bind_ok, ev_1, R.bind_ok, bop_add, R.bind_ok]
    rw [show ((ns.length : Int) + 1) = ((ns.length + 1 : Nat) : Int) by omega]
    exact rng_ok (by decide) (big_small (by omega) (by omega))
  obtain ⟨d0, ds, hds, hdl⟩ : ∃ d0 ds, rangeD 0 ((ns.length + 1 : Nat) : Int) = d0 :: ds ∧ (d0 :: ds).length = ns.length + 1 := by
    have hl : (rangeD 0 ((ns.length + 1 : Nat) : Int)).length = ns.length + 1 := by rw [range_len]; omega
    cases hr : rangeD 0 ((ns.length + 1 : Nat) : Int) with
    | nil => rw [hr] at hl; simp at hl
    | cons a b => exact ⟨a, b, rfl, by rw [← hr]; exact hl⟩
  obtain ⟨y2, y6, y7, e1⟩ := go_walk1 (call := callN T (k+1)) h m m.length rfl (some (.tup (ns.map .str))) none d0 ds ini none none none none
  rw [hdl] at e1
  rcases go_spec h (ns.length + 1) 0 ini _ ini_inv0 with ⟨g1, pot⟩ | ⟨g1, z | ⟨g2, g', I⟩⟩
  · rw [if_pos g1] at e1
    refine .inl ⟨(goH es (ns.length + 1) ini).2, ?_, pot⟩
    rw [call_of F51, run_keep (m' := hp2 ns m (goH es (ns.length + 1) ini).2) (d := .tup [.str "heights", .ref m.length]) rfl rfl ?_ (by simp [D.und, D.undL])]
    have q2 : evS (callN T (k+1)) (.fr (.name 2) (.rng (.con (.int 0)) (.bin false .add (.bi .len [.var 0]) (.con (.int 1)))) F51_1) S0 (hp2 ns m ini) = .ok (.ret (.tup [.str "heights", .ref m.length])) (hp2 ns m (goH es (ns.length + 1) ini).2) := by
      rw [ev_39, ib _ _ rfl, R.bind_ok, hds]
      exact e1
    show evB (callN T (k+1)) [_, _, _] [some (.tup (ns.map .str)), some (.dct true (enc es)), none, none, none, none, none, none, none] m = _
    rw [ev_44, q1, R.bind_ok, is_seq_next, ev_44, q2]
    rfl
  · omega
  · rw [g1] at e1
    simp only [Bool.false_eq_true, if_false] at e1
    rw [Nat.zero_add] at I
    generalize hs : (goH es (ns.length + 1) ini).2 = s at e1 g2 I
    obtain ⟨x, hx⟩ := Option.ne_none_iff_exists'.mp g2
    have hux := I.ls x hx
    have hxn : x ∈ ns := by
      obtain ⟨w, h2, _⟩ := I.tie x (by omega)
      exact (h.ok _ h2).2.1
    have hbn : ∀ y ∈ ns, s.b y ∈ ns := by
      intro y hy
      by_cases c : g'.u y = 0
      · rw [I.u0 y c]; exact hy
      · obtain ⟨w, h2, _⟩ := I.tie y (by omega)
        exact (h.ok _ h2).1
    obtain ⟨p, pl, onr⟩ := ring_found h.ok I hx
    have two := onr.two
    have e3 := back_is (T := T) k (hp2 ns m s) ns s.b hbn x hxn (m.length + 1) p (get2_1 rfl) nl (by omega) (by omega) onr.back onr.first
    refine .inr ⟨backR s.b (itB s.b ns.length x) p, ?_, on_bad h onr, fun z hz => ?_⟩
    · rw [call_of F51, run_gc (m' := hp2 ns m s) (d := .tup [.str "ring", .tup ((backR s.b (itB s.b ns.length x) p).map .str)]) rfl rfl ?_ (by simp only [D.und, D.undL]; rw [und_strs]; rfl) keep_same]
      · rw [show hp2 ns m s = m ++ [hD ns s.h, bD ns s.b] from rfl, take_same]
      · have q2 : evS (callN T (k+1)) (.fr (.name 2) (.rng (.con (.int 0)) (.bin false .add (.bi .len [.var 0]) (.con (.int 1)))) F51_1) S0 (hp2 ns m ini) = .ok (.next [some (.tup (ns.map .str)), some (.dct true (enc es)), y2, some (.ref m.length), some (.ref (m.length + 1)), some (.str x), y6, y7, none]) (hp2 ns m s) := by
          rw [ev_39, ib _ _ rfl, R.bind_ok, hds]
          rw [hx] at e1
          exact e1
        have q3 : evS (callN T (k+1)) (.ret (.tup [.con (.str "ring"), .call 50 [.var 5, .var 4] [.inl 0, .inl 1]])) [some (.tup (ns.map .str)), some (.dct true (enc es)), y2, some (.ref m.length), some (.ref (m.length + 1)), some (.str x), y6, y7, none] (hp2 ns m s) = .ok (.ret (.tup [.str "ring", .tup ((backR s.b (itB s.b ns.length x) p).map .str)])) (hp2 ns m s) := by
          simp [e3]
        show evB (callN T (k+1)) [_, _, _] [some (.tup (ns.map .str)), some (.dct true (enc es)), none, none, none, none, none, none, none] m = _
        rw [ev_44, q1, R.bind_ok, is_seq_next, ev_44, q2, R.bind_ok, is_seq_next, ev_44, q3]
        rfl
    · obtain ⟨t, _, rfl⟩ := List.mem_map.mp (List.mem_reverse.mp hz)
      have inN : ∀ y, y ∈ ns → ∀ t, itB s.b t y ∈ ns := by
        intro y hy t
        induction t with
        | zero => exact hy
        | succ t ih => exact hbn _ ih
      exact inN _ (inN x hxn _) _
/-- a web whose ties are between its names -/
structure Net (N : List Str) (ts : AL) : Prop where
  sm : SmallL N
  n1 : 1 ≤ N.length
  n2 : N.length ≤ 15
  nd : (ts.map (·.1)).Nodup
  ok : ∀ e ∈ ts, e.1.1 ∈ N ++ [grd] ∧ e.1.2 ∈ N ++ [grd] ∧ e.1.1 ≠ e.1.2
  tl : ts.length ≤ 1000
theorem nodup_grd {N : List Str} (h : SmallL N) : (N ++ [grd]).Nodup := by
  rw [List.nodup_append]
  refine ⟨h.1, by simp, fun a ha b hb e => ?_⟩
  simp only [List.mem_cons, List.not_mem_nil, or_false] at hb
  exact h.2.2 (by rw [← show grd = ("ground" : Str) from rfl, ← hb, ← e]; exact ha)
theorem Net.es {N : List Str} {ts : AL} (h : Net N ts) : EsOk (N ++ [grd]) ts := ⟨h.nd, h.ok, nodup_grd h.sm, by have := h.n2; simp; omega, by have := h.tl; omega⟩
theorem Net.num {N : List Str} {ts : AL} (h : Net N ts) : putsA [] ts = ts := puts_self (by simpa using h.nd)
/-- the stand by heights -/
def stF (N : List Str) (h : Str → Int) : List Int := N.map fun x => h x - h grd
theorem st_legal {N : List Str} {ts : AL} {h : Str → Int} (n : Net N ts) (hp : ∀ e ∈ ts, h e.1.2 ≤ h e.1.1 + e.2) : Legal N ts (stF N h) := by
  have key : ∀ x ∈ N ++ [grd], plc N (stF N h) x = h x - h grd := by
    intro x hx
    rcases List.mem_append.mp hx with hx | hx
    · exact plc_map hx
    · rw [List.mem_singleton.mp hx, plc_grd n.sm.2.2]; omega
  refine ⟨by simp [stF], fun e he => ?_⟩
  obtain ⟨h1, h2, _⟩ := n.ok e he
  rw [key _ h1, key _ h2]
  have := hp e he
  omega
theorem letby_is [HasFn T 0 F0] [HasFn T 1 F1] [HasFn T 50 F50] [HasFn T 51 F51] [HasFn T 53 F53] (k : Nat) (m : Hd) (N : List Str) (ts : AL) (h : Net N ts) :
    (∃ (st : List Int) (e : Hd), callN T (k+3) 53 [webD N ts] m = .ok (.tup [.str "stand", .tup (st.map .int)]) (m ++ e) ∧ Legal N ts st) ∨
    ∃ r : List Str, callN T (k+3) 53 [webD N ts] m = .ok (.tup [.str "ring", .tup (r.map .str)]) m ∧ BadRing ts r ∧ ∀ x ∈ r, x ∈ N ++ [grd] := by
  have e1 := nof_is (T := T) (k+1) m N ts h.n2
  have e2 := num_is (T := T) (k+1) m N ts h.tl
  rw [h.num] at e2
  have g1 : Str.ofString "ground" = grd := rfl
  have ng : grd ∈ N ++ [grd] := by simp
  rcases hr_is (T := T) k m (N ++ [grd]) ts h.es (by simp) with ⟨s, e3, pot⟩ | ⟨r, e3, br, hr⟩
  · refine .inl ⟨stF N s.h, [hD (N ++ [grd]) s.h, bD (N ++ [grd]) s.b], ?_, st_legal h pot⟩
    have g0 : (hp2 (N ++ [grd]) m s)[m.length]? = some (hD (N ++ [grd]) s.h) := get2_0 rfl
    have gx : ∀ x ∈ N ++ [grd], getD (hp2 (N ++ [grd]) m s) (.ref m.length) (.str x) = some (.int (s.h x)) := by
      intro x hx
      rw [get_ref, g0]
      exact find_encM (v := fun x => .int (s.h x)) hx
    have key : lcGo [] (lcStep (.name 3) [some (webD N ts), some (.str "heights"), some (.ref m.length), none] (evT (callN T (k+2)) .yes) (evE (callN T (k+2)) (.bin false .sub (.ix (.var 2) (.var 3)) (.ix (.var 2) (.con (.str grd)))))) (N.map .str) (hp2 (N ++ [grd]) m s) = .ok ((stF N s.h).map .int) (hp2 (N ++ [grd]) m s) := by
      rw [lc_strs (f := fun x => .int (s.h x - s.h grd)) fun x hx => ?_]
      · unfold stF
        rw [List.map_map]
        rfl
      · have g2 := gx x (List.mem_append_left _ hx)
        have g3 := gx grd ng
        simp [lcStep, g2, g3, -get_ref]
    have d1 : N.length ≤ 16777216 := by have := h.n2; omega
    have wd : webD N ts = .tup [.nms N, .tup (ts.map triD)] := rfl
    rw [call_of F53]
    refine run_no (f := F53) rfl rfl ?_
    simp only [wd] at e1 e2 key ⊢
    simp only [List.map_append, List.map_cons, List.map_nil] at e1 e3
    have ne : ¬ ("heights" : Str) = "ring" := by decide
    have hh : hp2 (N ++ [grd]) m s = m ++ [hD (N ++ [grd]) s.h, bD (N ++ [grd]) s.b] := rfl
    rw [← hh]
    simp [F53, e1, e2, e3, g1, key, d1, ne, -List.append_assoc]
  · refine .inr ⟨r, ?_, br, hr⟩
    have wd : webD N ts = .tup [.nms N, .tup (ts.map triD)] := rfl
    rw [call_of F53]
    refine run_no (f := F53) rfl rfl ?_
    simp only [wd] at e1 e2 ⊢
    simp only [List.map_append, List.map_cons, List.map_nil] at e1 e3
    simp [F53, e1, e2, e3]
end
end Dx
/-! LbX: ways are the least; a tie left out -/
namespace Dx
open PySem
theorem cmb_low {x y z gx gy gz : Option Int} {g : Option Int} (h1 : ∀ w, x = some w → ∃ u, g = some u ∧ u ≤ w) (h2 : ∀ p q, y = some p → z = some q → ∃ u, g = some u ∧ u ≤ p + q) : ∀ w, cmb x y z = some w → ∃ u, g = some u ∧ u ≤ w := by
  intro w hw
  rcases cmb_some hw with h | ⟨p, q, e1, e2, rfl⟩
  · exact h1 w h
  · exact h2 p q e1 e2
def TriF (g : Fw) : Prop := ∀ a m b p q, g a m = some p → g m b = some q → ∃ r, g a b = some r ∧ r ≤ p + q
theorem rel_low {l : AL} {g : Fw} (t : TriF g) (h : Low (fwOf l) g) (m a b : Str) : Low (fwOf (relA l m a b)) g := by
  rw [rel_fw]
  intro a' b' w hw
  unfold relF at hw
  by_cases c : a = a' ∧ b = b'
  · obtain ⟨rfl, rfl⟩ := c
    simp only [and_self, if_true] at hw
    refine cmb_low (gx := none) (gy := none) (gz := none) (fun w hw => h _ _ w hw) (fun p q e1 e2 => ?_) w hw
    obtain ⟨u1, f1, l1⟩ := h _ _ _ e1
    obtain ⟨u2, f2, l2⟩ := h _ _ _ e2
    obtain ⟨r, f3, l3⟩ := t _ _ _ _ _ f1 f2
    exact ⟨r, f3, by omega⟩
  · rw [if_neg c] at hw
    exact h _ _ w hw
theorem row_low {g : Fw} (t : TriF g) (ns : List Str) (m a : Str) : ∀ {l : AL}, Low (fwOf l) g → Low (fwOf (rowA ns l m a)) g := by
  unfold rowA
  induction ns with
  | nil => exact fun h => h
  | cons b ns ih => exact fun h => ih (rel_low t h m a b)
theorem plane_low {g : Fw} (t : TriF g) (ns : List Str) (m : Str) : ∀ (as : List Str) {l : AL}, Low (fwOf l) g → Low (fwOf (as.foldl (fun l a => rowA ns l m a) l)) g
  | [], _, h => h
  | a :: as, l, h => plane_low t ns m as (row_low t ns m a h)
theorem cube_low {g : Fw} (t : TriF g) (ns : List Str) : ∀ (ms : List Str) {l : AL}, Low (fwOf l) g → Low (fwOf (ms.foldl (fun l m => planeA ns l m) l)) g
  | [], _, h => h
  | m :: ms, l, h => cube_low t ns ms (plane_low t ns m ns h)
theorem ways_low {N : List Str} {ts : AL} (nd : (ts.map (·.1)).Nodup) {g : Fw} (gd : ∀ a ∈ N ++ [grd], ∃ u, g a a = some u ∧ u ≤ 0) (t : TriF g) (gt : ∀ e ∈ ts, ∃ u, g e.1.1 e.1.2 = some u ∧ u ≤ e.2) : Low (waysF N ts) g := by
  refine cube_low t _ _ ?_
  rw [ini2 nd]
  intro a b w hw
  unfold iniF at hw
  by_cases c : a = b ∧ a ∈ N ++ [grd]
  · rw [if_pos c] at hw
    cases hw
    obtain ⟨rfl, hm⟩ := c
    exact gd a hm
  · rw [if_neg c] at hw
    exact gt _ ((rows_mem nd).mpr hw)
theorem low_eq {f g : Fw} (h1 : Low f g) (h2 : Low g f) : f = g := by
  funext a b
  cases e : f a b with
  | none =>
    cases e2 : g a b with
    | none => rfl
    | some w =>
      obtain ⟨u, hu, _⟩ := h2 _ _ _ e2
      rw [e] at hu
      cases hu
  | some w =>
    obtain ⟨u, hu, l1⟩ := h1 _ _ _ e
    obtain ⟨v, hv, l2⟩ := h2 _ _ _ hu
    rw [e] at hv
    cases hv
    rw [hu]
    congr 1
    omega
theorem ways_look {N : List Str} {ts ts' : AL} (n1 : (ts.map (·.1)).Nodup) (n2 : (ts'.map (·.1)).Nodup) (h : ∀ p, look ts p = look ts' p) : waysF N ts = waysF N ts' := by
  unfold waysF
  refine cube_same _ ?_
  rw [ini2 n1, ini2 n2]
  funext a b
  unfold iniF
  rw [h]
/-- without the tie of a number -/
def dropT (ts : AL) (i : Nat) : AL := ts.take i ++ ts.drop (i + 1)
theorem drop_sub {ts : AL} {i : Nat} : List.Sublist (dropT ts i) ts := by
  unfold dropT
  have : ts = ts.take i ++ ts.drop i := (List.take_append_drop i ts).symm
  conv => rhs; rw [this]
  exact List.Sublist.append_left (by rw [← List.drop_drop]; exact List.drop_sublist _ _) _
theorem drop_tk {N : List Str} {P : Str → Int} {ts : AL} {i : Nat} (h : TieOk N P ts) : TieOk N P (dropT ts i) := ⟨(drop_sub.map _).nodup h.nd, fun e he => h.ok e (drop_sub.subset he)⟩
theorem drop_len {ts : AL} {i : Nat} : (dropT ts i).length ≤ ts.length := drop_sub.length_le
theorem mem_drop {ts : AL} {i : Nat} (hi : i < ts.length) {e : Pr × Int} (he : e ∈ ts) : e = ts[i] ∨ e ∈ dropT ts i := by
  have : ts = ts.take i ++ ts[i] :: ts.drop (i + 1) := by rw [← List.drop_eq_getElem_cons hi, List.take_append_drop]
  rw [this] at he
  rcases List.mem_append.mp he with he | he
  · exact .inr (List.mem_append_left _ he)
  · rcases List.mem_cons.mp he with he | he
    · exact .inl he
    · exact .inr (List.mem_append_right _ he)
theorem not_drop {ts : AL} {i : Nat} (hi : i < ts.length) (hn : (ts.map (·.1)).Nodup) {e : Pr × Int} (he : e ∈ dropT ts i) : e.1 ≠ ts[i].1 := by
  have : ts = ts.take i ++ ts[i] :: ts.drop (i + 1) := by rw [← List.drop_eq_getElem_cons hi, List.take_append_drop]
  rw [this, List.map_append, List.map_cons, List.nodup_append] at hn
  obtain ⟨h1, h2, h3⟩ := hn
  rcases List.mem_append.mp he with he | he
  · exact h3 _ (List.mem_map.mpr ⟨e, he, rfl⟩) _ List.mem_cons_self
  · intro q
    exact (List.nodup_cons.mp h2).1 (by rw [← q]; exact List.mem_map.mpr ⟨e, he, rfl⟩)
/-- a tie without which no way is longer -/
def ndB (N : List Str) (ts : AL) (i : Nat) : Bool := match ts[i]? with
  | some e => match waysF N (dropT ts i) e.1.1 e.1.2 with
    | some w => decide (w ≤ e.2)
    | none => false
  | none => false
theorem ndB_eq {N : List Str} {ts : AL} {i : Nat} (hi : i < ts.length) : ndB N ts i = match waysF N (dropT ts i) ts[i].1.1 ts[i].1.2 with
    | some w => decide (w ≤ ts[i].2)
    | none => false := by unfold ndB; rw [List.getElem?_eq_getElem hi]
theorem alike_tame : D.tame (.tup [.str "alike"]) = true := by
  simp only [tame_t, tameL_c, tameL_n, Bool.and_true, D.tame]
  refine strOk_low fun c hc => ?_
  have e : (Str.ofString "alike").cps.toList = [97, 108, 105, 107, 101] := by decide
  rw [e] at hc
  have : ∀ c ∈ [97, 108, 105, 107, 101], 97 ≤ c ∧ c < 123 := by decide
  exact this c hc
theorem eq_alike {m : Hd} : eqD m (.tup [.str "alike"]) (.tup [.str "alike"]) = some true := by
  have h : D.tame (.tup [.str "alike"]) = true ∧ D.dep (.tup [.str "alike"]) ≤ 64 := ⟨alike_tame, by simp only [D.dep, D.depL]; omega⟩
  generalize D.str (Str.ofString "alike") = d at h ⊢
  rw [eqD_tup]
  exact eq_same (x := .tup [d]) rfl h.1 h.2
theorem nd_ways {N : List Str} {P : Str → Int} {ts : AL} {i : Nat} (tk : TieOk (N ++ [grd]) P ts) (hi : i < ts.length) (h : ndB N ts i = true) : waysF N ts = waysF N (dropT ts i) := by
  have W := ways_ok tk
  have W' := ways_ok (drop_tk (i := i) tk)
  unfold ndB at h
  rw [List.getElem?_eq_getElem hi] at h
  simp only at h
  cases c : waysF N (dropT ts i) ts[i].1.1 ts[i].1.2 with
  | none => rw [c] at h; cases h
  | some w =>
    rw [c] at h
    have hw : w ≤ ts[i].2 := by simpa using h
    refine low_eq (ways_low tk.nd (fun a ha => ⟨0, W'.inv.dg a ha, Int.le_refl _⟩) W'.tri fun e he => ?_) (ways_low (drop_tk (i := i) tk).nd (fun a ha => ⟨0, W.inv.dg a ha, Int.le_refl _⟩) W.tri fun e he => W.tie e (drop_sub.subset he))
    rcases mem_drop hi he with rfl | he
    · exact ⟨w, c, hw⟩
    · exact W'.tie e he
def ndL (N : List Str) (ts : AL) : List Int := ((List.range ts.length).filter (ndB N ts)).map fun i : Nat => (i : Int)
theorem nd_mem {N : List Str} {ts : AL} {i : Int} (h : i ∈ ndL N ts) : ∃ j : Nat, i = j ∧ j < ts.length ∧ ndB N ts j = true := by
  obtain ⟨j, hj, rfl⟩ := List.mem_map.mp h
  rw [List.mem_filter, List.mem_range] at hj
  exact ⟨j, rfl, hj.1, hj.2⟩
section
variable {T : Tb}
theorem cut_drop {ts : AL} {i : Nat} : cut (ts.map triD) none (some (i : Int)) ++ cut (ts.map triD) (some ((i : Int) + 1)) none = (dropT ts i).map triD := by
  rw [cut_to (by omega), cut_from (by omega)]
  unfold dropT
  rw [List.map_append, List.map_take, List.map_drop]
  congr 2
theorem at_tri {ts : AL} {i : Nat} (hi : i < ts.length) : atD (ts.map triD) (i : Int) = some (triD ts[i]) := by
  rw [at_in (by omega) (by rw [List.length_map]; omega), List.getElem?_map]
  simp [hi]
theorem isneed_is [HasFn T 0 F0] [HasFn T 1 F1] [HasFn T 2 F2] [HasFn T 65 F65] (k : Nat) (m : Hd) (N : List Str) (P : Str → Int) (ts : AL) (hN : N.length ≤ 15) (ht : ts.length ≤ 1000) (tk : TieOk (N ++ [grd]) P ts) (i : Nat) (hi : i < ts.length) :
    callN T (k+3) 65 [webD N ts, .int (i : Int)] m = .ok (.bl (ndB N ts i)) m := by
  have e1 := tbl_is (T := T) k m N (dropT ts i) hN (by have := drop_len (ts := ts) (i := i); omega)
  have fw := ways_prog (drop_tk (i := i) tk)
  generalize cubeA (N ++ [grd]) (putsA (diaA (N ++ [grd]) []) (putsA [] (dropT ts i))) = X at e1 fw
  have ff := find_fw fw ts[i].1.1 ts[i].1.2
  have nb : ndB N ts i = match waysF N (dropT ts i) ts[i].1.1 ts[i].1.2 with
    | some w => decide (w ≤ ts[i].2)
    | none => false := by unfold ndB; rw [List.getElem?_eq_getElem hi]
  have at1 := at_tri hi
  have cd := cut_drop (ts := ts) (i := i)
  have wd : ∀ ts : AL, webD N ts = .tup [.nms N, .tup (ts.map triD)] := fun _ => rfl
  have l1 : (cut (ts.map triD) none (some (i : Int))).length + (cut (ts.map triD) (some ((i : Int) + 1)) none).length ≤ 16777216 := by
    have := congrArg List.length cd
    rw [List.length_append, List.length_map] at this
    have := drop_len (ts := ts) (i := i)
    omega
  rw [call_of F65]
  refine run_no (f := F65) rfl rfl ?_
  rw [nb]
  simp only [wd] at e1 ⊢
  rw [← cd] at e1
  cases c : waysF N (dropT ts i) ts[i].1.1 ts[i].1.2 with
  | none =>
    rw [c] at ff
    simp [F65, at1, triD, isAbs, l1, e1, in_dct, ff]
  | some w =>
    rw [c] at ff
    simp [F65, at1, triD, isAbs, l1, e1, in_dct, ff]
theorem ev_rng {call : Nat → List D → Hd → R D} {x : Ex} {s : SD} {m : Hd} {i : Int} (h : evE call x s m = .ok (.int i) m) (h0 : -1000000 ≤ i) (h1 : i ≤ 1000000) : evI call (.rng (.con (.int 0)) x) s m = .ok (rangeD 0 i, []) m := by
  rw [ev_31, ev_1, R.bind_ok, h, R.bind_ok]
  exact rng_ok (by decide) (big_small h0 h1)
theorem fm_filter {α β : Type} {p : α → Bool} {f : α → β} : ∀ {xs : List α}, (xs.filterMap fun j => if p j then some (f j) else none) = (xs.filter p).map f
  | [] => rfl
  | x :: xs => by
    have ih := fm_filter (p := p) (f := f) (xs := xs)
    cases c : p x <;> simp [List.filterMap_cons, List.filter_cons, c, ih]
theorem needless_is [HasFn T 0 F0] [HasFn T 1 F1] [HasFn T 2 F2] [HasFn T 65 F65] [HasFn T 66 F66] (k : Nat) (m : Hd) (N : List Str) (P : Str → Int) (ts : AL) (hN : N.length ≤ 15) (ht : ts.length ≤ 1000) (tk : TieOk (N ++ [grd]) P ts) :
    callN T (k+4) 66 [webD N ts] m = .ok (.tup ((ndL N ts).map .int)) m := by
  have key : lcGo [] (lcStep (.name 1) [some (webD N ts), none] (evT (callN T (k+3)) (.val (.call 65 [.var 0, .var 1] [.inl 0, .inl 1]))) (evE (callN T (k+3)) (.var 1))) (rangeD 0 (ts.length : Int)) m = .ok ((ndL N ts).map .int) m := by
    have : ∀ d ∈ rangeD 0 (ts.length : Int), lcStep (.name 1) [some (webD N ts), none] (evT (callN T (k+3)) (.val (.call 65 [.var 0, .var 1] [.inl 0, .inl 1]))) (evE (callN T (k+3)) (.var 1)) d m = .ok ((fun d => match d with | .int i => if ndB N ts i.toNat then some (.int i) else none | _ => none) d) m := by
      intro d hd
      obtain ⟨j, rfl, hj⟩ := mem_range hd
      have hj' : j < ts.length := by omega
      have e1 := isneed_is (T := T) k m N P ts hN ht tk j hj'
      simp only [Int.zero_add]
      cases c : ndB N ts j <;> rw [c] at e1 <;> simp [lcStep, e1, c]
    rw [lc_read rfl this]
    congr 1
    unfold ndL
    rw [rng_map, Int.toNat_natCast, List.filterMap_map, List.map_map]
    have e : ((fun d => match d with | D.int i => if ndB N ts i.toNat then some (D.int i) else none | _ => none) ∘ fun j : Nat => D.int ((0 : Int) + (j : Nat))) = fun j => if ndB N ts j then some ((D.int ∘ fun i : Nat => (i : Int)) j) else none := by
      funext j
      simp
    rw [e, fm_filter]
  have hl : (rangeD 0 (ts.length : Int)).length ≤ 16777216 := by rw [range_len]; omega
  have bl : biD .len [.tup (ts.map triD)] m = .ok (.int (ts.length : Int)) m := by rw [bi_len_t, List.length_map]
  have wd : webD N ts = .tup [.nms N, .tup (ts.map triD)] := rfl
  rw [call_of F66]
  refine run_no (f := F66) rfl rfl ?_
  have ib : evI (callN T (k+3)) (.rng (.con (.int 0)) (.bi .len [.ix (.var 0) (.con (.int 1))])) [some (webD N ts), none] m = .ok (rangeD 0 ts.length, []) m := by
    refine ev_rng ?_ (by omega) (by omega)
    simp only [wd]
    simp
  have el : evE (callN T (k+3)) (.lc false [1] (.name 1) (.rng (.con (.int 0)) (.bi .len [.ix (.var 0) (.con (.int 1))])) (.val (.call 65 [.var 0, .var 1] [.inl 0, .inl 1])) (.var 1)) [some (webD N ts), none] m = .ok (.lst ((ndL N ts).map .int)) m := by
    rw [ev_19, ib, R.bind_ok]
    have : decide ((rangeD 0 (ts.length : Int)).length ≤ sizeLine) = true := decide_eq_true (by rw [line_eq]; exact hl)
    simp only [this, ifs_true]
    rw [show wipeD [some (webD N ts), none] [1] = [some (webD N ts), none] from rfl, key]
    rfl
  show evB (callN T (k+3)) [.ret (.bi .tuple [_])] [some (webD N ts), none] m = _
  rw [ev_44, ev_37, ev_17, ev_22, el]
  rfl
/-! webs alike -/
theorem need_is [HasFn T 62 F62] (k : Nat) (m : Hd) (N : List Str) (ts ts' : AL) (hN : N.length ≤ 100) (hlow : ∀ x ∈ N, lowS x) : callN T (k+1) 62 [webD N ts, webD N ts'] m = .ok .non m := by
  obtain ⟨fl, m', e1, s', _, rfl, ⟨y2, rfl⟩, hm⟩ := (fr_en (en := fun j : Nat => D.int ((0 : Int) + (j : Nat))) (tg := .name 2) (g := []) (body := evB (callN T k) F62_0) (ns := List.range N.length) (b0 := ()) (s := [some (webD N ts), some (webD N ts'), none, some (.nms N), some (.nms N)]) (m := m)
    (fun (_ : List Nat) (_ : Unit) (s : SD) (m' : Hd) => (∃ y2, s = [some (webD N ts), some (webD N ts'), y2, some (.nms N), some (.nms N)]) ∧ m' = m) ⟨⟨_, rfl⟩, rfl⟩ (fun _ _ _ _ _ => rfl) (by
      intro pre j post _ s m' hd hI
      obtain ⟨⟨y2, rfl⟩, rfl⟩ := hI
      refine ⟨[some (webD N ts), some (webD N ts'), some (.int ((0 : Int) + (j : Nat))), some (.nms N), some (.nms N)], rfl, ?_⟩
      obtain ⟨d, ed, tm, dp⟩ : ∃ d, slD false (.nms N) (some (0 + (j : Int))) (some (0 + (j : Int) + 1)) m' = .ok d m' ∧ D.tame (fz m' d) = true ∧ D.dep (fz m' d) ≤ 64 ∧ True := by
        have e : slD false (.nms N) (some (0 + (j : Int))) (some (0 + (j : Int) + 1)) m' = if sIx N.length 0 (some (0 + (j : Int))) = 0 ∧ sIx N.length N.length (some (0 + (j : Int) + 1)) = N.length then .ok (.nms N) m' else .ok (.tup (cut (N.map .str) (some (0 + (j : Int))) (some (0 + (j : Int) + 1)))) m' := rfl
        rw [e]
        split
        · exact ⟨.nms N, rfl, by simp only [fz_n, D.tame]; exact List.all_eq_true.mpr fun x hx => strOk_low (hlow x hx), by simp only [fz_n, D.dep]; omega, trivial⟩
        · refine ⟨_, rfl, ?_, ?_, trivial⟩
          · simp only [fz_t, tame_t]
            have : ∃ L : List Str, cut (N.map D.str) (some (0 + (j : Int))) (some (0 + (j : Int) + 1)) = L.map .str ∧ ∀ x ∈ L, x ∈ N := by
              unfold cut
              rw [← List.map_drop, ← List.map_take]
              exact ⟨_, rfl, fun x hx => List.mem_of_mem_drop (List.mem_of_mem_take hx)⟩
            obtain ⟨L, hL, hm⟩ := this
            rw [hL]
            exact tame_strs fun x hx => hlow x (hm x hx)
          · simp only [fz_t, D.dep]
            have : ∃ L : List Str, cut (N.map D.str) (some (0 + (j : Int))) (some (0 + (j : Int) + 1)) = L.map .str := by
              unfold cut
              rw [← List.map_drop, ← List.map_take]
              exact ⟨_, rfl⟩
            obtain ⟨L, hL⟩ := this
            rw [hL, dep_strs]
            omega
      have q : eqF m' d d = some true := eq_same rfl tm dp.1
      have q' : eqD m' d d = some true := by
        cases d with
        | str s => exact eq_ss.trans (by simp)
        | _ => exact q
      simp only [Int.zero_add] at ed ⊢
      simp [F62_0, isAbs, part, ed, q'])).ok
  rw [hm, show ((List.range N.length).map fun j : Nat => D.int ((0 : Int) + (j : Nat))) = rangeD 0 (N.length : Int) by rw [rng_map]; simp] at e1
  have wd : ∀ ts : AL, webD N ts = .tup [.nms N, .tup (ts.map triD)] := fun _ => rfl
  rw [call_of F62]
  refine run_non (f := F62) (s := [some (webD N ts), some (webD N ts'), y2, some (.nms N), some (.nms N)]) rfl rfl ?_
  have ib : ∀ s : SD, varD s 3 m = .ok (.nms N) m → varD s 4 m = .ok (.nms N) m → evI (callN T k) (.rng (.con (.int 0)) (.bi .max2 [.bi .len [.var 3], .bi .len [.var 4]])) s m = .ok (rangeD 0 N.length, []) m := by
    intro s h3 h4
    refine ev_rng ?_ (by omega) (by omega)
    simp [h3, h4]
  have q1 : evS (callN T k) (.asg (.tup [.name 3, .name 4]) (.tup [.ix (.var 0) (.con (.int 0)), .ix (.var 1) (.con (.int 0))])) [some (webD N ts), some (webD N ts'), none, none, none] m = .ok (.next [some (webD N ts), some (webD N ts'), none, some (.nms N), some (.nms N)]) m := by
    simp only [wd]
    simp
  have q2 : evS (callN T k) (.fr (.name 2) (.rng (.con (.int 0)) (.bi .max2 [.bi .len [.var 3], .bi .len [.var 4]])) F62_0) [some (webD N ts), some (webD N ts'), none, some (.nms N), some (.nms N)] m = .ok (.next [some (webD N ts), some (webD N ts'), y2, some (.nms N), some (.nms N)]) m := by
    rw [ev_39, ib _ rfl rfl, R.bind_ok]
    exact e1
  show evB (callN T k) [_, _] [some (webD N ts), some (webD N ts'), none, none, none] m = _
  rw [ev_44, q1, R.bind_ok, is_seq_next, ev_44, q2]
  rfl
theorem same_turn {call : Nat → List D → Hd → R D} (m : Hd) (X Y : AL) (f : Fw) (hX : fwOf X = f) (hY : fwOf Y = f) (x0 x1 x2 x3 x6 x7 : Option D) :
    ∃ y6 y7, evB call F64_1 [x0, x1, x2, x3, some (.dct true (enc X)), some (.dct true (enc Y)), x6, x7] m = .ok (.next [x0, x1, x2, x3, some (.dct true (enc X)), some (.dct true (enc Y)), y6, y7]) m := by
  obtain ⟨fl, m', e1, s', _, rfl, ⟨y6, y7, rfl⟩, hm⟩ := (fr_en (en := fun e : Pr × Int => kyD e.1) (tg := .tup [.name 6, .name 7]) (g := []) (body := evB call F64_0) (ns := Y) (b0 := ()) (s := [x0, x1, x2, x3, some (.dct true (enc X)), some (.dct true (enc Y)), x6, x7]) (m := m)
    (fun (_ : AL) (_ : Unit) (s : SD) (m' : Hd) => (∃ y6 y7, s = [x0, x1, x2, x3, some (.dct true (enc X)), some (.dct true (enc Y)), y6, y7]) ∧ m' = m) ⟨⟨_, _, rfl⟩, rfl⟩ (fun _ _ _ _ _ => rfl) (by
      intro pre e post _ s m' hd hI
      obtain ⟨⟨y6, y7, rfl⟩, rfl⟩ := hI
      have he : e ∈ Y := by rw [hd]; simp
      obtain ⟨w, hw⟩ := look_in (List.mem_map.mpr ⟨e, he, rfl⟩ : e.1 ∈ Y.map (·.1))
      have fY := find_fw hY e.1.1 e.1.2
      have fX := find_fw hX e.1.1 e.1.2
      have hf : f e.1.1 e.1.2 = some w := by rw [← hY]; exact hw
      rw [hf] at fY fX
      refine ⟨[x0, x1, x2, x3, some (.dct true (enc X)), some (.dct true (enc Y)), some (.str e.1.1), some (.str e.1.2)], by simp [kyD], ?_⟩
      simp [F64_0, in_dct, fX, fY])).ok
  rw [hm] at e1
  refine ⟨y6, y7, ?_⟩
  have hw : wq m (.dct true (enc Y)) = some (Y.map fun e => kyD e.1) := by
    show some ((enc Y).map (·.1)) = _
    unfold enc
    rw [List.map_map]
    rfl
  have gg : guOf m (.dct true (enc Y)) = [] := rfl
  simp [F64_1, hw, gg, e1]
theorem same_is [HasFn T 0 F0] [HasFn T 1 F1] [HasFn T 2 F2] [HasFn T 62 F62] [HasFn T 64 F64] (k : Nat) (m : Hd) (N : List Str) (P : Str → Int) (ts ts' : AL) (hN : N.length ≤ 15) (ht : ts.length ≤ 1000) (ht' : ts'.length ≤ 1000) (tk : TieOk (N ++ [grd]) P ts) (tk' : TieOk (N ++ [grd]) P ts') (hlow : ∀ x ∈ N, lowS x) (he : waysF N ts = waysF N ts') :
    callN T (k+3) 64 [webD N ts, webD N ts'] m = .ok (.tup [.str "alike"]) m := by
  have e0 := need_is (T := T) (k+1) m N ts ts' (by omega) hlow
  have e1 := tbl_is (T := T) k m N ts hN ht
  have e2 := tbl_is (T := T) k m N ts' hN ht'
  have f1 := ways_prog tk
  have f2 := ways_prog tk'
  generalize cubeA (N ++ [grd]) (putsA (diaA (N ++ [grd]) []) (putsA [] ts)) = X at e1 f1
  generalize cubeA (N ++ [grd]) (putsA (diaA (N ++ [grd]) []) (putsA [] ts')) = Y at e2 f2
  rw [← he] at f2
  obtain ⟨a6, a7, t1⟩ := same_turn (call := callN T (k+2)) m X Y _ f1 f2 (some (webD N ts)) (some (webD N ts')) (some (.lst [.dct true (enc X), .dct true (enc Y)])) (some (webD N ts)) none none
  obtain ⟨b6, b7, t2⟩ := same_turn (call := callN T (k+2)) m Y X _ f2 f1 (some (webD N ts)) (some (webD N ts')) (some (.lst [.dct true (enc X), .dct true (enc Y)])) (some (webD N ts')) a6 a7
  rw [call_of F64]
  refine run_no (f := F64) rfl rfl ?_
  have rv : revD false (.lst [.dct true (enc X), .dct true (enc Y)]) m = .ok (.lst [.dct true (enc Y), .dct true (enc X)]) m := rfl
  have z3 : zip3D [webD N ts, webD N ts'] [.dct true (enc X), .dct true (enc Y)] [.dct true (enc Y), .dct true (enc X)] = [.tup [webD N ts, .dct true (enc X), .dct true (enc Y)], .tup [webD N ts', .dct true (enc Y), .dct true (enc X)]] := rfl
  have gg : ∀ xs : List D, guOf m (.lst xs) = [] := fun _ => rfl
  simp [F64, e0, e1, e2, rv, z3, gg, frGo, frTurn, guOk, t1, t2]
theorem box2_is [HasFn T 67 F67] (k : Nat) (m : Hd) (ns : List Int) (j : Int) (h0 : 0 ≤ j) (h1 : ns.length < 2^62) :
    ∃ m', callN T (k+1) 67 [.scr ns, .int j] m = .ok (.ref m.length) m' ∧ isBox m' m.length ∧ m'.length = m.length + 1 ∧ ∀ i, i < m.length → m'[i]? = m[i]? := by
  have : Is (callN T (k+1) 67 [.scr ns, .int j] m) fun d m' => ∃ a b, d = .ref m.length ∧ m' = m ++ [.lst [.int a, .int b, .int 0]] := by
    rw [call_of F67]
    by_cases c1 : j < ns.length
    · obtain ⟨v, e⟩ := at_scr h0 c1
      simp [-getElem?_pos, runFn, F67, e, c1]
    · by_cases c2 : 0 < ns.length
      · obtain ⟨v, e⟩ := at_scr (ns := ns) (j := j % ns.length) (Int.emod_nonneg _ (by omega)) (Int.emod_lt_of_pos _ (by omega))
        simp [-getElem?_pos, runFn, F67, e, c1, c2]
      · simp [-getElem?_pos, runFn, F67, c1, c2]
  obtain ⟨d, m', e, a, b, rfl, rfl⟩ := this.ok
  exact ⟨_, e, ⟨a, b, 0, by simp⟩, by simp, fun i hi => by rw [List.getElem?_append_left hi]⟩
theorem by2_is [HasFn T 11 F11] (k : Nat) (m : Hd) (q : Nat) (N : List Str) (l : AL) (hq : m[q]? = some (.dct true (enc l))) (hl : l.length ≤ 1000) :
    callN T (k+1) 11 [.nms N, .ref q] m = .ok (webD N (rowsOf l)) m := by
  obtain ⟨s1, s2⟩ := sort_rows (l := l)
  have key : lcGo [] (lcStep (.tup [.name 2, .name 3]) [some (.nms N), some (.ref q), none, none] (evT (callN T k) .yes) (evE (callN T k) (.tup [.var 2, .var 3, .ix (.var 1) (.tup [.var 2, .var 3])]))) ((keysOf l).map kyD) m = .ok ((rowsOf l).map triD) m := by
    have : ∀ d ∈ (keysOf l).map kyD, lcStep (.tup [.name 2, .name 3]) [some (.nms N), some (.ref q), none, none] (evT (callN T k) .yes) (evE (callN T k) (.tup [.var 2, .var 3, .ix (.var 1) (.tup [.var 2, .var 3])])) d m = .ok (some ((fun d => match prD d with | some p => triD (p, (look l p).getD 0) | none => .non) d)) m := by
      intro d hd
      obtain ⟨p, hp, rfl⟩ := List.mem_map.mp hd
      obtain ⟨v, hv⟩ := look_in (keys_perm.mem_iff.mp hp)
      obtain ⟨a, b⟩ := p
      simp [lcStep, kyD, prD, find_enc2, hv, triD, hq]
    rw [lc_map rfl this, List.map_map]
    congr 1
    unfold rowsOf
    rw [List.map_map]
    apply List.map_congr_left
    intro p hp
    simp only [Function.comp, prD_ky]
  rw [call_of F11]
  refine run_no (f := F11) rfl rfl ?_
  have e2 : biD (.sorted false) [.lst ((enc l).map (·.1))] m = .ok (.lst ((keysOf l).map kyD)) m := by
    show ifs (sortable ((enc l).map (·.1)) && decide (((enc l).map (·.1)).length ≤ 1000)) (mkL false (sortD ((enc l).map (·.1))) m) = _
    rw [s1, s2]
    have : decide (((enc l).map (·.1)).length ≤ 1000) = true := by simpa using hl
    rw [this]
    rfl
  have e3 : biD (.list false) [.ref q] m = .ok (.lst ((enc l).map (·.1))) m := by
    simp only [biD, dq, hq]
    rfl
  have hk : (keysOf l).length ≤ 16777216 := by
    have := (keys_perm (l := l)).length_eq
    simp only [List.length_map] at this
    omega
  simp [F11, e2, e3, hk, key, -List.map_map, webD]
theorem pyL_mem {x : D} : ∀ {xs : List D}, x ∈ xs → D.py x ∈ D.pyL xs
  | [], h => nomatch h
  | y :: xs, h => by
    unfold D.pyL
    rcases List.mem_cons.mp h with rfl | h
    · exact List.mem_cons_self
    · exact List.mem_cons_of_mem _ (pyL_mem h)
theorem mem_yes {x : D} {xs : List D} (hx : D.tame x = true) (hd : D.dep x ≤ 64) (hxs : D.tameL xs = true) (hm : x ∈ xs) : memD x xs = some true := by
  obtain ⟨_, h2, _, _⟩ := tame_show hx
  obtain ⟨_, g2, _, _⟩ := tame_showL hxs
  have a := dep_py x
  have s1 : SeqAt.shaped (D.py x) = true := by unfold SeqAt.shaped; rw [h2, decide_eq_true (by omega)]; rfl
  unfold memD
  rw [if_pos (by rw [tame_flat hx, s1, tame_flatL hxs, g2]; rfl)]
  congr 1
  rw [List.any_eq_true]
  exact ⟨D.py x, pyL_mem hm, PySem.SeqAt.eqv_refl _ h2⟩
theorem tame_kys : ∀ {l : List Pr}, (∀ p ∈ l, lowS p.1 ∧ lowS p.2) → D.tameL (l.map kyD) = true
  | [], _ => rfl
  | p :: l, h => by
    obtain ⟨h1, h2⟩ := h p List.mem_cons_self
    have ih := tame_kys (l := l) fun e he => h e (List.mem_cons_of_mem _ he)
    simp only [List.map_cons, tameL_c, ih, Bool.and_true, kyD, tame_t, tameL_n, Bool.and_eq_true]
    exact ⟨by simpa only [D.tame] using strOk_low h1, by simpa only [D.tame] using strOk_low h2⟩
theorem dep_kys : ∀ {l : List Pr}, D.depL (l.map kyD) ≤ 1
  | [] => by simp
  | p :: l => by
    have ih := dep_kys (l := l)
    simp only [List.map_cons, D.depL, kyD, D.dep]
    omega
/-- whether a list, a tuple is empty -/
theorem eq_emptyL {m : Hd} {xs : List D} (ht : D.tameL xs = true) (hd : D.depL xs ≤ 60) : eqD m (.lst xs) (.lst []) = some xs.isEmpty := by
  rw [eqD_lst, eqF_tame (by simpa only [fz_l, tame_l] using ht) rfl (by simp only [fz_l, D.dep]; omega) (by simp only [fz_l, D.dep, D.depL]; omega)]
  cases xs with
  | nil => rfl
  | cons a r => simp only [fz_l, D.py, D.pyL, PyData.eqv, List.isEmpty_cons]; rfl
theorem eq_emptyT {m : Hd} {xs : List D} (ht : D.tameL xs = true) (hd : D.depL xs ≤ 60) : eqD m (.tup xs) (.tup []) = some xs.isEmpty := by
  rw [eqD_tup, eqF_tame (by simpa only [fz_t, tame_t] using ht) rfl (by simp only [fz_t, D.dep]; omega) (by simp only [fz_t, D.dep, D.depL]; omega)]
  cases xs with
  | nil => rfl
  | cons a r => simp only [fz_t, D.py, D.pyL, PyData.eqv, List.isEmpty_cons]; rfl
end
end Dx
namespace Dx
open PySem
theorem evB_app {call : Nat → List D → Hd → R D} : ∀ {a b : List Sm} {s : SD} {m : Hd}, evB call (a ++ b) s m = (evB call a s m).bind (seqD (evB call b))
  | [], b, s, m => by
    rw [List.nil_append, ev_43]
    rfl
  | x :: a, b, s, m => by
    rw [List.cons_append, ev_44, ev_44]
    cases e : evS call x s m with
    | exc c fs m1 => rfl
    | no => rfl
    | ok f m1 =>
      rw [R.bind_ok, R.bind_ok]
      cases f with
      | next s1 => rw [is_seq_next, is_seq_next, evB_app]
      | ret d => rfl
theorem evB_next {call : Nat → List D → Hd → R D} {a b : List Sm} {s s1 : SD} {m m1 : Hd} (h : evB call a s m = .ok (.next s1) m1) : evB call (a ++ b) s m = evB call b s1 m1 := by
  rw [evB_app, h]
  rfl
theorem lc_keys {step : D → Hd → R (Option D)} {m : Hd} {c : Pr → Bool} : ∀ {L : List Pr}, (∀ p ∈ L, step (kyD p) m = .ok (if c p then some (kyD p) else none) m) → lcGo [] step (L.map kyD) m = .ok ((L.filter c).map kyD) m
  | [], _ => rfl
  | p :: L, h => by
    have e : lcGo [] step ((p :: L).map kyD) m = (step (kyD p) m).bind fun o m1 => (lcGo [] step (L.map kyD) m1).bind fun r m2 => .ok (o.toList ++ r) m2 := rfl
    rw [e, h p List.mem_cons_self, R.bind_ok, lc_keys fun q hq => h q (List.mem_cons_of_mem _ hq), R.bind_ok]
    cases q : c p <;> simp [List.filter_cons, q]
theorem ties_dict {call : Nat → List D → Hd → R D} {m : Hd} {ts : AL} (hl : ts.length ≤ 1000) (hn : (ts.map (·.1)).Nodup) : biD (.dict true) [.lst (ts.map fun e => .tup [kyD e.1, .int e.2])] m = .ok (.ref m.length) (m ++ [.dct true (enc ts)]) := by
  have hp := pairs_enc (z := ts) (l := [])
  rw [puts_self (by simpa using hn)] at hp
  have : (ts.map fun e => D.tup [kyD e.1, .int e.2]).length < sizeLine := by
    rw [List.length_map, line_eq]
    omega
  show (match (if (ts.map fun e => D.tup [kyD e.1, .int e.2]).length < sizeLine then pairsD true (ts.map fun e => .tup [kyD e.1, .int e.2]) [] else none) with
    | some kvs => newD true kvs m
    | none => R.no) = _
  have hp' : pairsD true (ts.map fun e => .tup [kyD e.1, .int e.2]) [] = some (enc ts) := hp
  rw [if_pos this, hp']
  rfl
theorem ways_len {N : List Str} {ts : AL} : (cubeA (N ++ [grd]) (diaA (N ++ [grd]) (putsA [] ts))).length ≤ ts.length + (N.length + 1) + (N.length + 1) * ((N.length + 1) * (N.length + 1)) := by
  have h1 := cube_length (ns := N ++ [grd]) (ms := N ++ [grd]) (l := diaA (N ++ [grd]) (putsA [] ts))
  have h2 := dia_length (ns := N ++ [grd]) (l := putsA [] ts)
  have h3 := puts_length (z := ts) (l := [])
  simp only [List.length_append, List.length_cons, List.length_nil, Nat.zero_add] at h1 h2 h3
  unfold cubeA
  omega
end Dx
namespace Qk54
open Dx PySem
theorem due_turn (k : Nat) (m : Hd) (p : Nat) (hp : m.length = p) (N : List Str) (P : Str → Int) (ts : AL) (hN : N.length ≤ 15) (ht : ts.length ≤ 1000) (tk : TieOk (N ++ [grd]) P ts) (i : Nat) (hi : i < ts.length) (l : List D) (hl : l.length ≤ 1000) (x3 : Option D) :
    ∃ y3, evB (callN T (k+1)) F68_0 [some (webD N ts), some (.ref p), some (.int (i : Int)), x3, some (.str ts[i].1.1), some (.str ts[i].1.2), some (.int ts[i].2)] (m ++ [.lst l]) =
      .ok (.next [some (webD N ts), some (.ref p), some (.int (i : Int)), y3, some (.str ts[i].1.1), some (.str ts[i].1.2), some (.int ts[i].2)]) (m ++ [.lst (l ++ if ndB N ts i then [.int i] else [])]) := by
  have e1 := ltbl_is (T := T) k (m ++ [.lst l]) N (dropT ts i) hN (by have := drop_len (ts := ts) (i := i); omega)
  have fw : fwOf (cubeA (N ++ [grd]) (diaA (N ++ [grd]) (putsA [] (dropT ts i)))) = waysF N (dropT ts i) := rfl
  generalize cubeA (N ++ [grd]) (diaA (N ++ [grd]) (putsA [] (dropT ts i))) = X at e1 fw
  have ff := find_fw fw ts[i].1.1 ts[i].1.2
  have nb := ndB_eq (N := N) hi
  have cd := cut_drop (ts := ts) (i := i)
  have wd : ∀ ts : AL, webD N ts = .tup [.nms N, .tup (ts.map triD)] := fun _ => rfl
  have l1 : (cut (ts.map triD) none (some (i : Int))).length + (cut (ts.map triD) (some ((i : Int) + 1)) none).length ≤ 16777216 := by
    have := congrArg List.length cd
    rw [List.length_append, List.length_map] at this
    have := drop_len (ts := ts) (i := i)
    omega
  have gl := get_len (o := .lst l) hp
  have sl := set_len (o := .lst l) (o' := .lst (l ++ [.int i])) hp
  have d1 : l.length < 16777216 := by omega
  refine ⟨some (.dct true (enc X)), ?_⟩
  rw [nb]
  simp only [wd] at e1 ⊢
  rw [← cd] at e1
  cases c : waysF N (dropT ts i) ts[i].1.1 ts[i].1.2 with
  | none =>
    rw [c] at ff
    simp [F68_0, isAbs, l1, e1, in_dct, ff]
  | some w =>
    rw [c] at ff
    by_cases q : w ≤ ts[i].2
    · simp [F68_0, isAbs, l1, e1, in_dct, ff, q, gl, sl, d1]
    · simp [F68_0, isAbs, l1, e1, in_dct, ff, q]
theorem due_is (k : Nat) (m : Hd) (N : List Str) (P : Str → Int) (ts : AL) (hN : N.length ≤ 15) (ht : ts.length ≤ 1000) (tk : TieOk (N ++ [grd]) P ts) : callN T (k+2) 68 [webD N ts] m = .ok (.tup ((ndL N ts).map .int)) m := by
  obtain ⟨fl, m', e1, s', l, rfl, ⟨y2, y3, y4, y5, y6, rfl⟩, rfl, hl⟩ := (fr_en (en := fun p : (Pr × Int) × Nat => D.tup [.int ((0 : Int) + (p.2 : Nat)), triD p.1]) (tg := .tup [.name 2, .tup [.name 4, .name 5, .name 6]]) (g := []) (body := evB (callN T (k+1)) F68_0) (ns := ts.zipIdx) (b0 := ([] : List D)) (s := [some (webD N ts), some (.ref m.length), none, none, none, none, none]) (m := m ++ [.lst []])
    (fun (pre : List ((Pr × Int) × Nat)) (l : List D) (s : SD) (m' : Hd) => (∃ y2 y3 y4 y5 y6, s = [some (webD N ts), some (.ref m.length), y2, y3, y4, y5, y6]) ∧ m' = m ++ [.lst l] ∧ l = (((List.range pre.length).filter (ndB N ts)).map fun i : Nat => (i : Int)).map .int)
    ⟨⟨_, _, _, _, _, rfl⟩, rfl, rfl⟩ (fun _ _ _ _ _ => rfl) (by
      rintro pre ⟨e, i⟩ post l s m' hd hI
      obtain ⟨⟨y2, y3, y4, y5, y6, rfl⟩, rfl, rfl⟩ := hI
      have hg : ts.zipIdx[pre.length]? = some (e, i) := by rw [hd]; simp
      rw [List.getElem?_zipIdx] at hg
      obtain ⟨e', he', hpi⟩ := Option.map_eq_some_iff.mp hg
      simp only [Prod.mk.injEq, Nat.zero_add] at hpi
      obtain ⟨rfl, rfl⟩ := hpi
      obtain ⟨hi, he''⟩ := List.getElem?_eq_some_iff.mp he'
      subst he''
      obtain ⟨z3, ev⟩ := due_turn k m m.length rfl N P ts hN ht tk pre.length hi ((((List.range pre.length).filter (ndB N ts)).map fun i : Nat => (i : Int)).map .int) (by
        simp only [List.length_map]
        have := List.length_filter_le (ndB N ts) (List.range pre.length)
        rw [List.length_range] at this
        omega) y3
      refine ⟨[some (webD N ts), some (.ref m.length), some (.int (pre.length : Int)), y3, some (.str ts[pre.length].1.1), some (.str ts[pre.length].1.2), some (.int ts[pre.length].2)], by simp [triD], ?_⟩
      rw [ev]
      refine ⟨_, _, rfl, ⟨_, _, _, _, _, rfl⟩, rfl, ?_⟩
      rw [List.length_append, List.length_cons, List.length_nil, List.range_succ, List.filter_append, List.map_append, List.map_append]
      congr 1
      cases c : ndB N ts pre.length <;> simp [List.filter_cons, c])).ok
  rw [← enum_tris] at e1
  rw [List.length_zipIdx] at hl
  have hl2 : l = (ndL N ts).map .int := hl
  rw [hl2] at e1
  have gl := get_len (m := m) (o := .lst ((ndL N ts).map .int)) rfl
  have bt : biD .tuple [.ref m.length] (m ++ [.lst ((ndL N ts).map .int)]) = .ok (.tup ((ndL N ts).map .int)) (m ++ [.lst ((ndL N ts).map .int)]) := by
    simp only [biD, sq_ref, gl, Option.bind_some, itemsO_l]
  have wd : webD N ts = .tup [.nms N, .tup (ts.map triD)] := rfl
  rw [call_of F68, run_gc (m' := m ++ [.lst ((ndL N ts).map .int)]) (d := .tup ((ndL N ts).map .int)) rfl rfl ?_ (by simp only [D.und]; exact und_ints) keep_same, take_same]
  simp only [wd] at e1 ⊢
  simp [F68, e1, bt]
theorem ndL_short {N : List Str} {ts : AL} (ht : ts.length ≤ 1000) : ∀ i ∈ ndL N ts, Short i := by
  intro i hi
  obtain ⟨j, rfl, hj, _⟩ := nd_mem hi
  exact short_of (by omega) (by omega)
theorem ndL_len {N : List Str} {ts : AL} : (ndL N ts).length ≤ ts.length := by
  unfold ndL
  rw [List.length_map]
  have := List.length_filter_le (ndB N ts) (List.range ts.length)
  rwa [List.length_range] at this
theorem one_a (call : Nat → List D → Hd → R D) (n : Nat) (m : Hd) (W : D) (L : List Int) (e1 : call 66 [W] m = .ok (.tup (L.map .int)) m) (e2 : call 68 [W] m = .ok (.tup (L.map .int)) m)
    (r : ∀ m : Hd, biD .repr [.tup (L.map .int)] m = .ok (.str (D.text (.tup (L.map .int)))) m) (em : eqD m (.tup (L.map .int)) (.tup []) = some true) (x0 x1 x3 x5 x6 x7 x8 x9 x10 x11 x12 x13 x14 x15 : Option D) :
    evB call F69_0 [x0, x1, some (.ref n), x3, some W, x5, x6, x7, x8, x9, x10, x11, x12, x13, x14, x15] m = .ok (.next [x0, x1, some (.ref n), x3, some W, x5, x6, x7, x8, x9, x10, some (.tup (L.map .int)), x12, x13, x14, x15]) m := by
  simp [F69_0, e1, e2, r, em]
theorem one_b (call : Nat → List D → Hd → R D) (n : Nat) (m m2 : Hd) (N : List Str) (ts : AL) (L : List Int) (i : Int) (j : Nat) (e1 : call 66 [webD N ts] m = .ok (.tup (L.map .int)) m) (e2 : call 68 [webD N ts] m = .ok (.tup (L.map .int)) m)
    (r : ∀ m : Hd, biD .repr [.tup (L.map .int)] m = .ok (.str (D.text (.tup (L.map .int)))) m) (em : eqD m (.tup (L.map .int)) (.tup []) = some false) (e3 : call 8 [.ref n, .int (L.length : Int)] m = .ok (.int i) m2) (ev : atD (L.map .int) i = some (.int (j : Int)))
    (e4 : call 64 [webD N ts, webD N (dropT ts j)] m2 = .ok (.tup [.str "alike"]) m2) (hl : ts.length ≤ 1000) (x0 x1 x3 x5 x6 x7 x8 x9 x10 x11 x12 x13 x14 x15 : Option D) :
    evB call F69_0 [x0, x1, some (.ref n), x3, some (webD N ts), x5, x6, x7, x8, x9, x10, x11, x12, x13, x14, x15] m = .ok (.next [x0, x1, some (.ref n), x3, some (webD N ts), x5, x6, x7, x8, x9, x10, some (.tup (L.map .int)), x12, some (.int (j : Int)), x14, x15]) m2 := by
  have cd := cut_drop (ts := ts) (i := j)
  have l1 : (cut (ts.map triD) none (some (j : Int))).length + (cut (ts.map triD) (some ((j : Int) + 1)) none).length ≤ 16777216 := by
    have := congrArg List.length cd
    rw [List.length_append, List.length_map] at this
    have := drop_len (ts := ts) (i := j)
    omega
  have al := eq_alike (m := m2)
  have wd : ∀ ts : AL, webD N ts = .tup [.nms N, .tup (ts.map triD)] := fun _ => rfl
  simp only [wd] at e1 e2 e4 ⊢
  rw [← cd] at e4
  simp [F69_0, e1, e2, r, em, e3, ev, isAbs, l1, e4, al]
theorem one (n : Nat) (m : Hd) (N : List Str) (P : Str → Int) (ts : AL) (hb : isBox m n) (hN : N.length ≤ 15) (ht : ts.length ≤ 100) (tk : TieOk (N ++ [grd]) P ts) (hlow : ∀ x ∈ N, lowS x) (x0 x1 x3 x5 x6 x7 x8 x9 x10 x11 x12 x13 x14 x15 : Option D) :
    ∃ y11 y13 m', evB (callN T 5) F69_0 [x0, x1, some (.ref n), x3, some (webD N ts), x5, x6, x7, x8, x9, x10, x11, x12, x13, x14, x15] m = .ok (.next [x0, x1, some (.ref n), x3, some (webD N ts), x5, x6, x7, x8, x9, x10, y11, x12, y13, x14, x15]) m' ∧ Boxed n m m' := by
  have e1 : callN T 5 66 [webD N ts] m = .ok (.tup ((ndL N ts).map .int)) m := needless_is (T := T) 1 m N P ts hN (by omega) tk
  have e2 : callN T 5 68 [webD N ts] m = .ok (.tup ((ndL N ts).map .int)) m := due_is 3 m N P ts hN (by omega) tk
  have r := fun m : Hd => repr_stand (m := m) (ndL_short (N := N) (ts := ts) (by omega)) (by have := ndL_len (N := N) (ts := ts); omega)
  have em : eqD m (.tup ((ndL N ts).map .int)) (.tup []) = some ((ndL N ts).map D.int).isEmpty := eq_emptyT (tame_ints (ndL_short (by omega))) (by rw [dep_ints]; omega)
  by_cases c : ndL N ts = []
  · have ne : ((ndL N ts).map D.int).isEmpty = true := by rw [c]; rfl
    exact ⟨_, _, m, one_a (callN T 5) n m (webD N ts) (ndL N ts) e1 e2 r (by rw [em, ne]) x0 x1 x3 x5 x6 x7 x8 x9 x10 x11 x12 x13 x14 x15, Boxed.refl hb⟩
  · have hl := ndL_len (N := N) (ts := ts)
    have hp : 0 < (ndL N ts).length := List.length_pos_iff.mpr c
    obtain ⟨i, m2, e3, l3, u3, b3⟩ := take_is (T := T) 4 n m (ndL N ts).length hb (by omega) (by omega)
    obtain ⟨v, hv, ev⟩ := at_mapG (f := D.int) (l := ndL N ts) l3 u3
    obtain ⟨j, rfl, hj, hnd⟩ := nd_mem hv
    have e4 : callN T 5 64 [webD N ts, webD N (dropT ts j)] m2 = .ok (.tup [.str "alike"]) m2 := same_is (T := T) 2 m2 N P ts (dropT ts j) hN (by omega) (by have := drop_len (ts := ts) (i := j); omega) tk (drop_tk tk) hlow (nd_ways tk hj hnd)
    have ne : ((ndL N ts).map D.int).isEmpty = false := by
      cases h : ndL N ts with
      | nil => exact absurd h c
      | cons a r => rfl
    exact ⟨_, _, m2, one_b (callN T 5) n m m2 N ts (ndL N ts) i j e1 e2 r (by rw [em, ne]) e3 ev e4 (by omega) x0 x1 x3 x5 x6 x7 x8 x9 x10 x11 x12 x13 x14 x15, b3⟩
end Qk54
namespace Qk54
open Dx PySem
def fst1 (ts : AL) (p : Pr) : Bool := decide (p.1 ≠ p.2) && (Dx.look ts p).isNone
def fst2 (X : AL) (p : Pr) : Bool := decide (((if (Dx.look X p).getD 0 < 0 then -(Dx.look X p).getD 0 else (Dx.look X p).getD 0)) < 999999991)
def L2 (X ts : AL) : List Pr := ((keysOf X).filter (fst1 ts)).filter (fst2 X)
theorem keys_look {X : AL} {p : Pr} (h : p ∈ keysOf X) : ∃ w, Dx.look X p = some w := look_in (keys_perm.mem_iff.mp h)
theorem pre (call : Nat → List D → Hd → R D) (ns : List Int) (j : Int) (n : Nat) (m m0 m1 : Hd) (N : List Str) (ts X : AL) (st : List Int) (e0 : call 67 [.scr ns, .int j] m = .ok (.ref n) m0) (e1 : call 12 [.ref n, .int 8] m0 = .ok (.tup [webD N ts, .tup (st.map .int)]) m1)
    (e2 : call 13 [webD N ts] m1 = .ok (.dct true (enc X)) m1) (hX : X.length ≤ 1000) (ht : ts.length ≤ 1000) (hn : (ts.map (·.1)).Nodup) (x2 x3 x4 x5 x6 x7 x8 x9 x10 x11 x12 x13 x14 x15 : Option D) :
    evB call (F69_1.take 5) [some (.scr ns), some (.int j), x2, x3, x4, x5, x6, x7, x8, x9, x10, x11, x12, x13, x14, x15] m = .ok (.next [some (.scr ns), some (.int j), some (.ref n), some (.lst ((L2 X ts).map kyD)), x4, some (webD N ts), some (.tup (st.map .int)), some (.dct true (enc X)), some (.ref m1.length), x9, x10, x11, x12, x13, x14, x15]) (m1 ++ [.dct true (enc ts)]) := by
  have wd : webD N ts = .tup [.nms N, .tup (ts.map triD)] := rfl
  have w1 : ∀ m : Hd, getD m (webD N ts) (.int 1) = some (.tup (ts.map triD)) := fun m => by rw [wd, get_t, at_1]
  have k1 : lcGo [] (lcStep (.tup [.name 14, .name 1, .name 15]) [some (.scr ns), none, some (.ref n), x3, x4, some (webD N ts), some (.tup (st.map .int)), x7, x8, x9, x10, x11, x12, x13, none, none] (evT call .yes) (evE call (.tup [.tup [.var 14, .var 1], .var 15]))) (ts.map triD) m1 = .ok (ts.map fun e => .tup [kyD e.1, .int e.2]) m1 := by
    have : ∀ d ∈ ts.map triD, lcStep (.tup [.name 14, .name 1, .name 15]) [some (.scr ns), none, some (.ref n), x3, x4, some (webD N ts), some (.tup (st.map .int)), x7, x8, x9, x10, x11, x12, x13, none, none] (evT call .yes) (evE call (.tup [.tup [.var 14, .var 1], .var 15])) d m1 = .ok (some ((fun d => match d with | .tup [a, b, c] => .tup [.tup [a, b], c] | _ => .non) d)) m1 := by
      intro d hd
      obtain ⟨e, he, rfl⟩ := List.mem_map.mp hd
      simp [lcStep, triD]
    rw [lc_map rfl this, List.map_map]
    rfl
  have k2 := ties_dict (call := call) (m := m1) ht hn
  obtain ⟨s1, s2⟩ := sort_rows (l := X)
  have gl := get_len (m := m1) (o := .dct true (enc ts)) rfl
  have k3 : lcGo [] (lcStep (.name 12) [some (.scr ns), some (.int j), some (.ref n), x3, x4, some (webD N ts), some (.tup (st.map .int)), some (.dct true (enc X)), some (.ref m1.length), x9, x10, x11, none, x13, x14, x15] (evT call (.and (.cmp .ne (.ix (.var 12) (.con (.int 0))) (.ix (.var 12) (.con (.int 1)))) (.cmp .notin (.var 12) (.var 8)))) (evE call (.var 12))) ((keysOf X).map kyD) (m1 ++ [.dct true (enc ts)]) = .ok (((keysOf X).filter (fst1 ts)).map kyD) (m1 ++ [.dct true (enc ts)]) := by
    refine lc_keys fun p hp => ?_
    obtain ⟨a, b⟩ := p
    have hin : inD (m1 ++ [.dct true (enc ts)]) (.tup [.str a, .str b]) (.ref m1.length) = some (Dx.look ts (a, b)).isSome := by
      show (match sq _ (D.ref m1.length) with | some ys => memD _ ys | none => match dq _ (D.ref m1.length) with | some (t, kvs) => if keyOk t (D.tup [.str a, .str b]) then some (find kvs (.tup [.str a, .str b])).isSome else none | none => none) = _
      simp only [sq_ref, gl, Option.bind_some, itemsO, dq]
      rw [keyOk_t2, if_pos rfl, find_enc2]
      cases Dx.look ts (a, b) <;> rfl
    by_cases c : a = b
    · simp [lcStep, kyD, fst1, c]
    · cases q : Dx.look ts (a, b) with
      | none => rw [q] at hin; simp [lcStep, kyD, fst1, c, hin, q]
      | some v => rw [q] at hin; simp [lcStep, kyD, fst1, c, hin, q]
  have k4 : lcGo [] (lcStep (.name 12) [some (.scr ns), some (.int j), some (.ref n), some (.lst (((keysOf X).filter (fst1 ts)).map kyD)), x4, some (webD N ts), some (.tup (st.map .int)), some (.dct true (enc X)), some (.ref m1.length), x9, x10, x11, none, x13, x14, x15] (evT call (.cmp .lt (.bi .abs [.ix (.var 7) (.var 12)]) (.bin false .sub (.bin false .pow (.con (.int 10)) (.con (.int 9))) (.con (.int 9))))) (evE call (.var 12))) (((keysOf X).filter (fst1 ts)).map kyD) (m1 ++ [.dct true (enc ts)]) = .ok ((L2 X ts).map kyD) (m1 ++ [.dct true (enc ts)]) := by
    refine lc_keys (L := (keysOf X).filter (fst1 ts)) (c := fst2 X) fun p hp => ?_
    obtain ⟨w, hw⟩ := keys_look (List.mem_filter.mp hp).1
    obtain ⟨a, b⟩ := p
    have d3 : small 10 = true := by decide
    have ff : find (enc X) (.tup [.str a, .str b]) = some (.int w) := by rw [find_enc2, hw]; rfl
    by_cases c : (if w < 0 then -w else w) < 999999991
    · have c' : fst2 X (a, b) = true := by unfold fst2; rw [hw]; simpa using c
      simp [lcStep, kyD, ff, c, c', d3, -small_iff]
    · have c' : fst2 X (a, b) = false := by unfold fst2; rw [hw]; simpa using c
      simp [lcStep, kyD, ff, c, c', d3, -small_iff]
  have b3 : ∀ m : Hd, biD (.list false) [.dct true (enc X)] m = .ok (.lst ((enc X).map (·.1))) m := fun m => rfl
  have b4 : ∀ m : Hd, biD (.sorted false) [.lst ((enc X).map (·.1))] m = .ok (.lst ((keysOf X).map kyD)) m := fun m => by
    show ifs (sortable ((enc X).map (·.1)) && decide (((enc X).map (·.1)).length ≤ 1000)) (mkL false (sortD ((enc X).map (·.1))) m) = _
    rw [s1, s2]
    have : decide (((enc X).map (·.1)).length ≤ 1000) = true := by simpa using hX
    rw [this]
    rfl
  have hk : (keysOf X).length ≤ 16777216 := by
    have := (keys_perm (l := X)).length_eq
    simp only [List.length_map] at this
    omega
  have hk2 : ((keysOf X).filter (fst1 ts)).length ≤ 16777216 := by
    have := List.length_filter_le (fst1 ts) (keysOf X)
    omega
  have d1 : ts.length ≤ 16777216 := by omega
  simp [F69_1, e0, e1, e2, w1, k1, k2, k3, k4, b3, b4, hk, hk2, d1, -List.map_map, -small_iff]
/-- nothing is put in -/
theorem mid0 (call : Nat → List D → Hd → R D) (m : Hd) (N : List Str) (ts X : AL) (hE : eqD m (.lst ((L2 X ts).map kyD)) (.lst []) = some true) (x0 x1 x2 x4 x6 x7 x8 x9 x10 x11 x12 x13 x14 x15 : Option D) :
    evB call ((F69_1.drop 5).take 2) [x0, x1, x2, some (.lst ((L2 X ts).map kyD)), x4, some (webD N ts), x6, x7, x8, x9, x10, x11, x12, x13, x14, x15] m = .ok (.next [x0, x1, x2, some (.lst ((L2 X ts).map kyD)), x4, some (webD N ts), x6, x7, x8, some (webD N ts), some .non, x11, x12, x13, x14, x15]) m := by
  simp [F69_1, hE]
/-- a tie is put in -/
theorem mid1 (call : Nat → List D → Hd → R D) (m2 m3 m4 m5 : Hd) (n q : Nat) (N : List Str) (ts X : AL) (K : List Pr) (M : Hd) (a b : Str) (w i i4 i5 s : Int) (W2 : D) (hE : eqD M (.lst (K.map kyD)) (.lst []) = some false)
    (e3 : call 8 [.ref n, .int (K.length : Int)] M = .ok (.int i) m2) (ea : atD (K.map kyD) i = some (.tup [.str a, .str b])) (ew : find (enc X) (.tup [.str a, .str b]) = some (.int w))
    (e4 : call 8 [.ref n, .int 9] m2 = .ok (.int i4) m3) (e5 : call 8 [.ref n, .int 2] m3 = .ok (.int i5) m4) (es : atD [.int 0, .int i4] i5 = some (.int s)) (hs : setD (.ref q) (.tup [.str a, .str b]) (.int (w + s)) m4 = .ok () m5)
    (e6 : call 11 [.nms N, .ref q] m5 = .ok W2 m5) (x0 x1 x4 x6 x9 x10 x11 x12 x13 x14 x15 : Option D) :
    evB call ((F69_1.drop 5).take 2) [x0, x1, some (.ref n), some (.lst (K.map kyD)), x4, some (webD N ts), x6, some (.dct true (enc X)), some (.ref q), x9, x10, x11, x12, x13, x14, x15] M = .ok (.next [x0, x1, some (.ref n), some (.lst (K.map kyD)), x4, some (webD N ts), x6, some (.dct true (enc X)), some (.ref q), some W2, some (.tup [.str a, .str b]), x11, x12, x13, x14, x15]) m5 := by
  have wd : webD N ts = .tup [.nms N, .tup (ts.map triD)] := rfl
  have w0 : ∀ m : Hd, getD m (webD N ts) (.int 0) = some (.nms N) := fun m => by rw [wd, get_t, at_0]
  simp [F69_1, hE, e3, ea, ew, e4, e5, es, hs, e6, w0, -set_ref]
/-- the three webs -/
theorem three (n : Nat) (m : Hd) (N : List Str) (P : Str → Int) (ts ts2 : AL) (hb : isBox m n) (hN : N.length ≤ 15) (ht : ts.length ≤ 100) (ht2 : ts2.length ≤ 100) (tk : TieOk (N ++ [grd]) P ts) (tk2 : TieOk (N ++ [grd]) P ts2) (hlow : ∀ x ∈ N, lowS x) (x0 x1 x3 x4 x6 x7 x8 x10 x11 x12 x13 x14 x15 : Option D) :
    ∃ y4 y11 y13 m', evB (callN T 5) ((F69_1.drop 7).take 1) [x0, x1, some (.ref n), x3, x4, some (webD N ts), x6, x7, x8, some (webD N ts2), x10, x11, x12, x13, x14, x15] m = .ok (.next [x0, x1, some (.ref n), x3, y4, some (webD N ts), x6, x7, x8, some (webD N ts2), x10, y11, x12, y13, x14, x15]) m' ∧ Boxed n m m' := by
  obtain ⟨a11, a13, m1, e1, b1⟩ := one n m N P ts hb hN ht tk hlow x0 x1 x3 (some (webD N ts)) x6 x7 x8 (some (webD N ts2)) x10 x11 x12 x13 x14 x15
  obtain ⟨c11, c13, m2, e2, b2⟩ := one n m1 N P ts2 (b1.is hb) hN ht2 tk2 hlow x0 x1 x3 (some (webD N ts)) x6 x7 x8 (some (webD N ts2)) x10 a11 x12 a13 x14 x15
  obtain ⟨d11, d13, m3, e3, b3⟩ := one n m2 N P ts (b2.is (b1.is hb)) hN ht tk hlow x0 x1 x3 (some (webD N ts)) x6 x7 x8 (some (webD N ts2)) x10 c11 x12 c13 x14 x15
  refine ⟨some (webD N ts), d11, d13, m3, ?_, (b1.trans b2).trans b3⟩
  have h : ∀ call : Nat → List D → Hd → R D, evB call F69_0 [x0, x1, some (.ref n), x3, some (webD N ts), some (webD N ts), x6, x7, x8, some (webD N ts2), x10, x11, x12, x13, x14, x15] m = .ok (.next [x0, x1, some (.ref n), x3, some (webD N ts), some (webD N ts), x6, x7, x8, some (webD N ts2), x10, a11, x12, a13, x14, x15]) m1 →
      evB call F69_0 [x0, x1, some (.ref n), x3, some (webD N ts2), some (webD N ts), x6, x7, x8, some (webD N ts2), x10, a11, x12, a13, x14, x15] m1 = .ok (.next [x0, x1, some (.ref n), x3, some (webD N ts2), some (webD N ts), x6, x7, x8, some (webD N ts2), x10, c11, x12, c13, x14, x15]) m2 →
      evB call F69_0 [x0, x1, some (.ref n), x3, some (webD N ts), some (webD N ts), x6, x7, x8, some (webD N ts2), x10, c11, x12, c13, x14, x15] m2 = .ok (.next [x0, x1, some (.ref n), x3, some (webD N ts), some (webD N ts), x6, x7, x8, some (webD N ts2), x10, d11, x12, d13, x14, x15]) m3 →
      evB call ((F69_1.drop 7).take 1) [x0, x1, some (.ref n), x3, x4, some (webD N ts), x6, x7, x8, some (webD N ts2), x10, x11, x12, x13, x14, x15] m = .ok (.next [x0, x1, some (.ref n), x3, some (webD N ts), some (webD N ts), x6, x7, x8, some (webD N ts2), x10, d11, x12, d13, x14, x15]) m3 := by
    intro call h1 h2 h3
    simp [F69_1, frGo, frTurn, guOk, h1, h2, h3]
  exact h (callN T 5) e1 e2 e3
theorem end0 (call : Nat → List D → Hd → R D) (m : Hd) (x0 x1 x2 x3 x4 x5 x6 x7 x8 x9 x11 x12 x13 x14 x15 : Option D) :
    evB call (F69_1.drop 8) [x0, x1, x2, x3, x4, x5, x6, x7, x8, x9, some .non, x11, x12, x13, x14, x15] m = .ok (.next [x0, x1, x2, x3, x4, x5, x6, x7, x8, x9, some .non, x11, x12, x13, x14, x15]) m := by
  simp [F69_1]
theorem end1 (call : Nat → List D → Hd → R D) (m : Hd) (N : List Str) (ts2 : AL) (p : Pr) (h68 : call 66 [webD N ts2] m = .ok (.tup ((ndL N ts2).map .int)) m) (ht : ts2.length ≤ 1000) (i : Nat) (hi : i < ts2.length) (hp : ts2[i].1 = p) (hnd : ndB N ts2 i = true) (hlow : ∀ e ∈ ts2, lowS e.1.1 ∧ lowS e.1.2)
    (x0 x1 x2 x3 x4 x5 x6 x7 x8 x11 x12 x13 x14 x15 : Option D) :
    evB call (F69_1.drop 8) [x0, x1, x2, x3, x4, x5, x6, x7, x8, some (webD N ts2), some (.tup [.str p.1, .str p.2]), x11, x12, x13, x14, x15] m = .ok (.next [x0, x1, x2, x3, x4, x5, x6, x7, x8, some (webD N ts2), some (.tup [.str p.1, .str p.2]), x11, x12, x13, x14, x15]) m := by
  have wd : webD N ts2 = .tup [.nms N, .tup (ts2.map triD)] := rfl
  have w1 : ∀ m : Hd, getD m (webD N ts2) (.int 1) = some (.tup (ts2.map triD)) := fun m => by rw [wd, get_t, at_1]
  let ky : Int → D := fun i => match ts2[i.toNat]? with | some e => kyD e.1 | none => .non
  have k1 : lcGo [] (lcStep (.name 13) [x0, x1, x2, x3, x4, x5, x6, x7, x8, some (webD N ts2), some (.tup [.str p.1, .str p.2]), x11, x12, none, x14, x15] (evT call .yes) (evE call (.sl false (.ix (.ix (.var 9) (.con (.int 1))) (.var 13)) (.con .non) (.con (.int 2))))) ((ndL N ts2).map .int) m = .ok ((ndL N ts2).map ky) m := by
    have : ∀ d ∈ (ndL N ts2).map D.int, lcStep (.name 13) [x0, x1, x2, x3, x4, x5, x6, x7, x8, some (webD N ts2), some (.tup [.str p.1, .str p.2]), x11, x12, none, x14, x15] (evT call .yes) (evE call (.sl false (.ix (.ix (.var 9) (.con (.int 1))) (.var 13)) (.con .non) (.con (.int 2)))) d m = .ok (some ((fun d => match d with | .int i => ky i | _ => .non) d)) m := by
      intro d hd
      obtain ⟨v, hv, rfl⟩ := List.mem_map.mp hd
      obtain ⟨j, rfl, hj, _⟩ := nd_mem hv
      have a1 := at_tri hj
      have c2 : cut [D.str ts2[j].1.1, .str ts2[j].1.2, .int ts2[j].2] none (some 2) = [.str ts2[j].1.1, .str ts2[j].1.2] := rfl
      have kj : ky (j : Int) = .tup [.str ts2[j].1.1, .str ts2[j].1.2] := by
        show (match ts2[((j : Int)).toNat]? with | some e => kyD e.1 | none => .non) = _
        rw [Int.toNat_natCast, List.getElem?_eq_getElem hj]
        rfl
      simp [lcStep, w1, a1, triD, isAbs, c2, kj]
    rw [lc_map rfl this, List.map_map]
    rfl
  have hm : inD m (.tup [.str p.1, .str p.2]) (.lst ((ndL N ts2).map ky)) = some true := by
    have hl := hlow _ (List.getElem_mem hi)
    rw [hp] at hl
    refine mem_yes (by
      simp only [tame_t, tameL_c, tameL_n, Bool.and_true, Bool.and_eq_true]
      exact ⟨by simpa only [D.tame] using strOk_low hl.1, by simpa only [D.tame] using strOk_low hl.2⟩) (by simp only [D.dep, D.depL]; omega) ?_ ?_
    · have : (ndL N ts2).map ky = ((ndL N ts2).map fun i => ((ts2[i.toNat]?).getD (p, 0)).1).map kyD := by
        rw [List.map_map]
        apply List.map_congr_left
        intro v hv
        obtain ⟨j, rfl, hj, _⟩ := nd_mem hv
        show (match ts2[((j : Int)).toNat]? with | some e => kyD e.1 | none => .non) = kyD ((ts2[((j : Int)).toNat]?).getD (p, 0)).1
        rw [Int.toNat_natCast, List.getElem?_eq_getElem hj]
        rfl
      rw [this]
      refine tame_kys fun q hq => ?_
      obtain ⟨v, hv, rfl⟩ := List.mem_map.mp hq
      obtain ⟨j, rfl, hj, _⟩ := nd_mem hv
      rw [Int.toNat_natCast, List.getElem?_eq_getElem hj]
      exact hlow _ (List.getElem_mem hj)
    · refine List.mem_map.mpr ⟨(i : Int), ?_, ?_⟩
      · unfold ndL
        exact List.mem_map.mpr ⟨i, List.mem_filter.mpr ⟨List.mem_range.mpr hi, hnd⟩, rfl⟩
      · show (match ts2[((i : Int)).toNat]? with | some e => kyD e.1 | none => .non) = _
        rw [Int.toNat_natCast, List.getElem?_eq_getElem hi]
        show kyD ts2[i].1 = _
        rw [hp]
        rfl
  have d1 : (ndL N ts2).length ≤ 16777216 := by have := ndL_len (N := N) (ts := ts2); omega
  simp [F69_1, h68, k1, hm, d1]
end Qk54
namespace Qk54
open Dx PySem
theorem look_drop {ts : AL} {i : Nat} (hi : i < ts.length) (hn : (ts.map (·.1)).Nodup) (r : Pr) : Dx.look (dropT ts i) r = if r = ts[i].1 then none else Dx.look ts r := by
  have nd : ((dropT ts i).map (·.1)).Nodup := (drop_sub.map _).nodup hn
  by_cases c : r = ts[i].1
  · rw [if_pos c]
    cases q : Dx.look (dropT ts i) r with
    | none => rfl
    | some w =>
      have := not_drop hi hn (look_mem q)
      exact absurd c this
  · rw [if_neg c]
    apply look_ext
    intro w
    rw [← rows_mem nd, ← rows_mem hn]
    refine ⟨fun h => drop_sub.subset h, fun h => ?_⟩
    rcases mem_drop hi h with e | e
    · exact absurd (by rw [← e]) c
    · exact e
/-- the tie that is put in -/
theorem put_in {N : List Str} {P : Str → Int} {ts : AL} (tk : TieOk (N ++ [grd]) P ts) {p : Pr} {w v : Int} (hw : waysF N ts p.1 p.2 = some w) (hv : w ≤ v) (hp : p.1 ≠ p.2) (hn : Dx.look ts p = none) (b1 : -1000000000 ≤ v) (b2 : v ≤ 1000000000) :
    TieOk (N ++ [grd]) P (rowsOf (putA ts p v)) ∧ (rowsOf (putA ts p v)).length ≤ ts.length + 1 ∧ ∃ (i : Nat) (hi : i < (rowsOf (putA ts p v)).length), (rowsOf (putA ts p v))[i].1 = p ∧ ndB N (rowsOf (putA ts p v)) i = true := by
  have W := ways_ok tk
  have s1 := W.inv.sup _ _ _ hw
  have s2 := W.inv.pot _ _ _ hw
  have t1 : TieOk (N ++ [grd]) P (putA ts p v) := tk.put (a := p.1) (b := p.2) s1.1 s1.2 hp (by omega) b1 b2
  obtain ⟨t2, l2⟩ := rows_ok t1
  have hl := put_length (l := ts) (p := p) (i := v)
  refine ⟨t2, by omega, ?_⟩
  generalize hT : rowsOf (putA ts p v) = ts2 at t2 l2
  have lk : ∀ r, Dx.look ts2 r = if p = r then some v else Dx.look ts r := fun r => by rw [← hT, rows_look, look_put]
  have hm : (p, v) ∈ ts2 := look_mem (by rw [lk, if_pos rfl])
  obtain ⟨i, hi, he⟩ := List.getElem_of_mem hm
  refine ⟨i, hi, by rw [he], ?_⟩
  rw [ndB_eq hi, he]
  have hd : waysF N (dropT ts2 i) = waysF N ts := ways_look (drop_tk (i := i) t2).nd tk.nd fun r => by
    rw [look_drop hi t2.nd, he, lk]
    by_cases c : r = p
    · subst c; rw [if_pos rfl, hn]
    · rw [if_neg c, if_neg (Ne.symm c)]
  simp only [hd, hw]
  simpa using hv
theorem F_eq : F69_1 = F69_1.take 5 ++ ((F69_1.drop 5).take 2 ++ ((F69_1.drop 7).take 1 ++ F69_1.drop 8)) := rfl
theorem cell (ns : List Int) (hn : ns.length ≤ 63) (j : Int) (hj : 0 ≤ j) (x2 x3 x4 x5 x6 x7 x8 x9 x10 x11 x12 x13 x14 x15 : Option D) (m : Hd) :
    Is (evB (callN T 5) F69_1 [some (.scr ns), some (.int j), x2, x3, x4, x5, x6, x7, x8, x9, x10, x11, x12, x13, x14, x15] m) fun f _ => ∃ y2 y3 y4 y5 y6 y7 y8 y9 y10 y11 y12 y13 y14 y15, f = .next [some (.scr ns), some (.int j), y2, y3, y4, y5, y6, y7, y8, y9, y10, y11, y12, y13, y14, y15] := by
  obtain ⟨m0, e0, h0, _, _⟩ := box2_is (T := T) 4 m ns j hj (by omega)
  obtain ⟨N, ts, st, m1, e1, b1, W⟩ := web_is (T := T) 2 m.length m0 8 h0 (by omega) (by omega)
  have h1 := b1.is h0
  have n2 := W.n2
  have tl := W.tl
  have e2 := ltbl_is (T := T) 4 m1 N ts (by omega) (by omega)
  have fw : fwOf (cubeA (N ++ [grd]) (diaA (N ++ [grd]) (putsA [] ts))) = waysF N ts := rfl
  have hXl := ways_len (N := N) (ts := ts)
  have hX9 : (N.length + 1) * ((N.length + 1) * (N.length + 1)) ≤ 9 * (9 * 9) := Nat.mul_le_mul (by omega) (Nat.mul_le_mul (by omega) (by omega))
  generalize cubeA (N ++ [grd]) (diaA (N ++ [grd]) (putsA [] ts)) = X at e2 fw hXl
  have hX : X.length ≤ 1000 := by omega
  have p1 := pre (callN T 5) ns j m.length m m0 m1 N ts X st e0 e1 e2 hX (by omega) W.tk.nd x2 x3 x4 x5 x6 x7 x8 x9 x10 x11 x12 x13 x14 x15
  have hlow : ∀ x ∈ N, lowS x := fun x hx => (W.sm.2.1 x hx).1
  have sh := shown_of W.sm W.tk (by omega) (by omega)
  have kin : ∀ p ∈ L2 X ts, (∃ w, Dx.look X p = some w ∧ (if w < 0 then -w else w) < 999999991) ∧ p.1 ≠ p.2 ∧ Dx.look ts p = none := by
    intro p hp
    obtain ⟨h2, h3⟩ := List.mem_filter.mp hp
    obtain ⟨h4, h5⟩ := List.mem_filter.mp h2
    obtain ⟨w, hw⟩ := keys_look h4
    unfold fst2 at h3
    unfold fst1 at h5
    rw [hw] at h3
    simp only [Option.getD_some, decide_eq_true_eq, Bool.and_eq_true, Option.isNone_iff_eq_none, ne_eq] at h3 h5
    exact ⟨⟨w, hw, h3⟩, h5.1, h5.2⟩
  have low : ∀ x ∈ N ++ [grd], lowS x := by
    intro x hx
    rcases List.mem_append.mp hx with hx | hx
    · exact hlow x hx
    · rw [List.mem_singleton.mp hx]; exact low_grd
  have WO := ways_ok W.tk
  have kys : D.tameL ((L2 X ts).map kyD) = true := tame_kys fun p hp => by
    obtain ⟨⟨w, hw, _⟩, _⟩ := kin p hp
    have : waysF N ts p.1 p.2 = some w := by rw [← fw]; exact hw
    have s1 := WO.inv.sup _ _ _ this
    exact ⟨low _ s1.1, low _ s1.2⟩
  have hE := fun m : Hd => eq_emptyL (m := m) kys (by have := dep_kys (l := L2 X ts); omega)
  have hM : isBox (m1 ++ [O.dct true (enc ts)]) m.length := h1.app
  by_cases c : L2 X ts = []
  · have hE0 : eqD (m1 ++ [.dct true (enc ts)]) (.lst ((L2 X ts).map kyD)) (.lst []) = some true := by rw [hE, c]; rfl
    have p2 := mid0 (callN T 5) (m1 ++ [.dct true (enc ts)]) N ts X hE0 (some (.scr ns)) (some (.int j)) (some (.ref m.length)) x4 (some (.tup (st.map .int))) (some (.dct true (enc X))) (some (.ref m1.length)) x9 x10 x11 x12 x13 x14 x15
    obtain ⟨y4, y11, y13, m2, p3, _⟩ := three m.length (m1 ++ [.dct true (enc ts)]) N (plc N st) ts ts hM (by omega) (by omega) (by omega) W.tk W.tk hlow (some (.scr ns)) (some (.int j)) (some (.lst ((L2 X ts).map kyD))) x4 (some (.tup (st.map .int))) (some (.dct true (enc X))) (some (.ref m1.length)) (some .non) x11 x12 x13 x14 x15
    have p4 := end0 (callN T 5) m2 (some (.scr ns)) (some (.int j)) (some (.ref m.length)) (some (.lst ((L2 X ts).map kyD))) y4 (some (webD N ts)) (some (.tup (st.map .int))) (some (.dct true (enc X))) (some (.ref m1.length)) (some (webD N ts)) y11 x12 y13 x14 x15
    rw [F_eq, evB_next p1, evB_next p2, evB_next p3, p4]
    exact ⟨_, _, _, _, _, _, _, _, _, _, _, _, _, _, rfl⟩
  · have hp0 : 0 < (L2 X ts).length := List.length_pos_iff.mpr c
    have hE1 : eqD (m1 ++ [.dct true (enc ts)]) (.lst ((L2 X ts).map kyD)) (.lst []) = some false := by
      rw [hE]
      cases h : L2 X ts with
      | nil => exact absurd h c
      | cons a r => rfl
    have hLl : (L2 X ts).length ≤ 1000 := by
      have a1 := List.length_filter_le (fst2 X) ((keysOf X).filter (fst1 ts))
      have a2 := List.length_filter_le (fst1 ts) (keysOf X)
      have a3 := (keys_perm (l := X)).length_eq
      rw [List.length_map] at a3
      unfold L2
      omega
    obtain ⟨i, m2, t1, l1, u1, b2⟩ := take_app (T := T) 4 m.length m1 [O.dct true (enc ts)] (L2 X ts).length h1 (by omega) (by omega)
    have h2 := b2.is h1
    obtain ⟨p, hp, ep⟩ := at_mapG (f := kyD) (l := L2 X ts) l1 u1
    obtain ⟨⟨w, hw, hwb⟩, hne, hnl⟩ := kin p hp
    obtain ⟨i4, m3, t2, l4, u4, b3⟩ := take_app (T := T) 4 m.length m2 [O.dct true (enc ts)] 9 h2 (by omega) (by omega)
    have h3 := b3.is h2
    obtain ⟨i5, m4, t3, l5, u5, b4⟩ := take_app (T := T) 4 m.length m3 [O.dct true (enc ts)] 2 h3 (by omega) (by omega)
    have h4 := b4.is h3
    obtain ⟨s, es, s0, s1⟩ : ∃ s : Int, atD [.int 0, .int i4] i5 = some (.int s) ∧ 0 ≤ s ∧ s ≤ 8 := by
      have : i5 = 0 ∨ i5 = 1 := by omega
      rcases this with rfl | rfl
      · exact ⟨_, at_0, by omega, by omega⟩
      · exact ⟨_, at_1, by omega, by omega⟩
    have hwf : waysF N ts p.1 p.2 = some w := by rw [← fw]; exact hw
    obtain ⟨t2k, t2l, k, hk, hkp, hkn⟩ := put_in W.tk hwf (v := w + s) (by omega) hne hnl (by split at hwb <;> omega) (by split at hwb <;> omega)
    have hq : m4.length = m1.length := by rw [((b2.trans b3).trans b4).len]
    have gl := get_len (m := m4) (o := .dct true (enc ts)) hq
    have hs : setD (.ref m1.length) (.tup [.str p.1, .str p.2]) (.int (w + s)) (m4 ++ [.dct true (enc ts)]) = .ok () (m4 ++ [.dct true (enc (putA ts p (w + s)))]) := by
      rw [set_ref, gl, optB_some, R.bind_ok, setO_d]
      have d1 : decide ((enc ts).length < sizeLine) = true := decide_eq_true (by rw [enc_len, line_eq]; omega)
      rw [keyOk_t2, d1, put_enc2]
      show R.ok () ((m4 ++ [O.dct true (enc ts)]).set m1.length (O.dct true (enc (putA ts p (w + s))))) = _
      rw [set_len hq]
    have t4 : callN T 5 11 [.nms N, .ref m1.length] (m4 ++ [.dct true (enc (putA ts p (w + s)))]) = .ok (webD N (rowsOf (putA ts p (w + s)))) (m4 ++ [.dct true (enc (putA ts p (w + s)))]) :=
      by2_is (T := T) 4 _ m1.length N (putA ts p (w + s)) (get_len hq) (by have := put_length (l := ts) (p := p) (i := w + s); omega)
    generalize rowsOf (putA ts p (w + s)) = ts2 at t2k t2l hk hkp hkn t4
    have ew : find (enc X) (.tup [.str p.1, .str p.2]) = some (.int w) := by rw [find_enc2]; show (Dx.look X p).map _ = _; rw [hw]; rfl
    have t1' : callN T 5 8 [.ref m.length, .int ((L2 X ts).length : Int)] (m1 ++ [.dct true (enc ts)]) = .ok (.int i) (m2 ++ [.dct true (enc ts)]) := t1
    have t2' : callN T 5 8 [.ref m.length, .int 9] (m2 ++ [.dct true (enc ts)]) = .ok (.int i4) (m3 ++ [.dct true (enc ts)]) := t2
    have t3' : callN T 5 8 [.ref m.length, .int 2] (m3 ++ [.dct true (enc ts)]) = .ok (.int i5) (m4 ++ [.dct true (enc ts)]) := t3
    clear t1 t2 t3
    have h5 : isBox (m4 ++ [O.dct true (enc (putA ts p (w + s)))]) m.length := h4.app
    generalize m4 ++ [O.dct true (enc (putA ts p (w + s)))] = M5 at hs t4 h5
    obtain ⟨call, hcall⟩ : ∃ call, call = callN T 5 := ⟨_, rfl⟩
    rw [← hcall] at t1' t2' t3' t4
    have p2 := mid1 call (m2 ++ [.dct true (enc ts)]) (m3 ++ [.dct true (enc ts)]) (m4 ++ [.dct true (enc ts)]) M5 m.length m1.length N ts X (L2 X ts) (m1 ++ [.dct true (enc ts)]) p.1 p.2 w i i4 i5 s (webD N ts2) hE1 t1' ep ew t2' t3' es hs t4
      (some (.scr ns)) (some (.int j)) x4 (some (.tup (st.map .int))) x9 x10 x11 x12 x13 x14 x15
    rw [hcall] at p2
    obtain ⟨y4, y11, y13, m5, p3, b5⟩ := three m.length M5 N (plc N st) ts ts2 h5 (by omega) (by omega) (by omega) W.tk t2k hlow (some (.scr ns)) (some (.int j)) (some (.lst ((L2 X ts).map kyD))) x4 (some (.tup (st.map .int))) (some (.dct true (enc X))) (some (.ref m1.length)) (some (.tup [.str p.1, .str p.2])) x11 x12 x13 x14 x15
    have h68 : callN T 5 66 [webD N ts2] m5 = .ok (.tup ((ndL N ts2).map .int)) m5 := needless_is (T := T) 1 m5 N (plc N st) ts2 (by omega) (by omega) t2k
    have p4 := end1 (callN T 5) m5 N ts2 p h68 (by omega) k hk hkp hkn (fun e he => ⟨low _ (t2k.ok e he).1, low _ (t2k.ok e he).2.1⟩) (some (.scr ns)) (some (.int j)) (some (.ref m.length)) (some (.lst ((L2 X ts).map kyD))) y4 (some (webD N ts)) (some (.tup (st.map .int))) (some (.dct true (enc X))) (some (.ref m1.length)) y11 x12 y13 x14 x15
    rw [F_eq, evB_next p1, evB_next p2, evB_next p3, p4]
    exact ⟨_, _, _, _, _, _, _, _, _, _, _, _, _, _, rfl⟩
theorem law : Law T 6 69 63 := by
  intro ns hn
  have : Is (callN T 6 69 [.scr ns] []) fun d m => d = .bl true := by
    rw [call_of F69]
    simp [-getElem?_pos, runFn, F69, rngD, bigI]
    refine ⟨by split <;> split <;> omega, ?_⟩
    generalize hX : (if 1 < if (ns.length : Int) < 4 then (ns.length : Int) else 4 then if (ns.length : Int) < 4 then (ns.length : Int) else 4 else 1) = X
    have hfr : Is (frGo [] (Tg.name 1) (evB (callN T 5) F69_1) (rangeD 0 X) [some (D.scr ns), none, none, none, none, none, none, none, none, none, none, none, none, none, none, none] []) fun f m => ∃ s, f = .next s := by
      refine fr_inv (fun _ s m => ∃ y1 y2 y3 y4 y5 y6 y7 y8 y9 y10 y11 y12 y13 y14 y15, s = [some (.scr ns), y1, y2, y3, y4, y5, y6, y7, y8, y9, y10, y11, y12, y13, y14, y15]) ⟨_, _, _, _, _, _, _, _, _, _, _, _, _, _, _, rfl⟩ (fun _ _ _ _ => rfl) (fun pre d post s m hd hI => ?_) (fun s m _ => ⟨s, rfl⟩)
      obtain ⟨y1, y2, y3, y4, y5, y6, y7, y8, y9, y10, y11, y12, y13, y14, y15, rfl⟩ := hI
      have hmem : d ∈ rangeD 0 X := by rw [hd]; simp
      obtain ⟨j, hj, rfl⟩ := List.mem_map.mp hmem
      refine ⟨[some (.scr ns), some (.int ((0 : Int) + (j : Nat))), y2, y3, y4, y5, y6, y7, y8, y9, y10, y11, y12, y13, y14, y15], by rw [bind_n]; rfl, (cell ns hn ((0 : Int) + (j : Nat)) (by omega) y2 y3 y4 y5 y6 y7 y8 y9 y10 y11 y12 y13 y14 y15 m).imp fun f m' h => ?_⟩
      obtain ⟨z2, z3, z4, z5, z6, z7, z8, z9, z10, z11, z12, z13, z14, z15, rfl⟩ := h
      exact ⟨_, _, _, _, _, _, _, _, _, _, _, _, _, _, _, rfl⟩
    obtain ⟨f, m', e, s', rfl⟩ := hfr.ok
    rw [e]
    simp [leave_b, leave, D.und, keepOk]
  obtain ⟨a, m', e, rfl⟩ := this.ok
  exact ⟨_, e⟩
end Qk54
open PySem PySem.W PyProof.Rows
set_option maxRecDepth 100000 in
set_option maxHeartbeats 0 in
theorem PySem.Challenge.cw_slackweb_k54_needless_ties_holds : PySem.Challenge.rw_slackweb_k54_needless_ties.Holds := by
  w_on; o_law; k_head; (case hw => w_witness2)
  k_fill
  refine Dx.law_end (l := PySem.Challenge.rw_slackweb_k54_needless_ties) (k := 6) (x := "_law_script") Qk54.law rfl (by decide) rfl ⟨rfl, by decide, by decide⟩ (fun w h Y => PySem.W.kIn_of Y) ?F
  case F =>
    intro w mg fa h KX G hmg
    refine' Qk54.mk 6 KX G hmg ?n50 ?l50 ?c50 ?k50 ?n51 ?l51 ?c51 ?k51 ?n26 ?l26 ?c26 ?k26 ?n27 ?l27 ?c27 ?k27 ?n0 ?l0 ?c0 ?k0 ?n1 ?l1 ?c1 ?k1 ?n53 ?l53 ?c53 ?k53 ?n2 ?l2 ?c2 ?k2 ?n62 ?l62 ?c62 ?k62 ?n63 ?l63 ?c63 ?k63 ?n64 ?l64 ?c64 ?k64 ?n65 ?l65 ?c65 ?k65 ?n66 ?l66 ?c66 ?k66 ?n67 ?l67 ?c67 ?k67 ?n8 ?l8 ?c8 ?k8 ?n9 ?l9 ?c9 ?k9 ?n10 ?l10 ?c10 ?k10 ?n11 ?l11 ?c11 ?k11 ?n12 ?l12 ?c12 ?k12 ?n13 ?l13 ?c13 ?k13 ?n68 ?l68 ?c68 ?k68 ?n69 ?l69 ?c69 ?k69 ?z0 ?z1 ?z2 ?z3 ?z4 ?z5 ?z6 ?z7 ?z8 ?z9 ?z10 ?z11 ?z12 ?z13 ?glo0
    (case n50 => k_is)
    (case l50 => k_is)
    (case c50 => k_is)
    (case k50 => k_is)
    (case n51 => k_is)
    (case l51 => k_is)
    (case c51 => k_is)
    (case k51 => k_is)
    (case n26 => k_is)
    (case l26 => k_is)
    (case c26 => k_is)
    (case k26 => k_is)
    (case n27 => k_is)
    (case l27 => k_is)
    (case c27 => k_is)
    (case k27 => k_is)
    (case n0 => k_is)
    (case l0 => k_is)
    (case c0 => k_is)
    (case k0 => k_is)
    (case n1 => k_is)
    (case l1 => k_is)
    (case c1 => k_is)
    (case k1 => k_is)
    (case n53 => k_is)
    (case l53 => k_is)
    (case c53 => k_is)
    (case k53 => k_is)
    (case n2 => k_is)
    (case l2 => k_is)
    (case c2 => k_is)
    (case k2 => k_is)
    (case n62 => k_is)
    (case l62 => k_is)
    (case c62 => k_is)
    (case k62 => k_is)
    (case n63 => k_is)
    (case l63 => k_is)
    (case c63 => k_is)
    (case k63 => k_is)
    (case n64 => k_is)
    (case l64 => k_is)
    (case c64 => k_is)
    (case k64 => k_is)
    (case n65 => k_is)
    (case l65 => k_is)
    (case c65 => k_is)
    (case k65 => k_is)
    (case n66 => k_is)
    (case l66 => k_is)
    (case c66 => k_is)
    (case k66 => k_is)
    (case n67 => k_is)
    (case l67 => k_is)
    (case c67 => k_is)
    (case k67 => k_is)
    (case n8 => k_is)
    (case l8 => k_is)
    (case c8 => k_is)
    (case k8 => k_is)
    (case n9 => k_is)
    (case l9 => k_is)
    (case c9 => k_is)
    (case k9 => k_is)
    (case n10 => k_is)
    (case l10 => k_is)
    (case c10 => k_is)
    (case k10 => k_is)
    (case n11 => k_is)
    (case l11 => k_is)
    (case c11 => k_is)
    (case k11 => k_is)
    (case n12 => k_is)
    (case l12 => k_is)
    (case c12 => k_is)
    (case k12 => k_is)
    (case n13 => k_is)
    (case l13 => k_is)
    (case c13 => k_is)
    (case k13 => k_is)
    (case n68 => k_is)
    (case l68 => k_is)
    (case c68 => k_is)
    (case k68 => k_is)
    (case n69 => k_is)
    (case l69 => k_is)
    (case c69 => k_is)
    (case k69 => k_is)
    (case z0 => k_is)
    (case z1 => k_is)
    (case z2 => k_is)
    (case z3 => k_is)
    (case z4 => k_is)
    (case z5 => k_is)
    (case z6 => k_is)
    (case z7 => k_is)
    (case z8 => k_is)
    (case z9 => k_is)
    (case z10 => k_is)
    (case z11 => k_is)
    (case z12 => k_is)
    (case z13 => k_is)
    (case glo0 => k_is)
