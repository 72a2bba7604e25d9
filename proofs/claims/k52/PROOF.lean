import PyProof.Rows.All
import Wide.All
import OpenK.AllK
import Wide.FinOn
import HandS.ForMost
import HandS.Ends
import HandS.TupAny
import HandS.Deep
import HandS.Style
import HandS.IsInst
import HandS.Text
import KE.KDictPairs
import KE.KRevSl
import HandS.SetFor
import HandS.Strs
import HandS.Flow
import HandS.Comp
import HandS.Iter
import HandS.Zip
import HandS.Small
import HandS.Defaults
import HandS.WordsList
import PySem.Challenge.RW_whatfailed_k52_whole_forms_spoilt
set_option Elab.async false
set_option linter.all false
set_option maxRecDepth 100000
/-! Ev0: data, the core language, the evaluator. -/
namespace Ev
open PySem
/-- the objects of the module -/
class KK where
  K : PySem.W.Frag

/-! ## data -/
inductive D where
  | non | bl (b : Bool) | int (i : Int) | str (x : Str)
  | tup (ds : List D) | lst (ds : List D) | dct (kvs : List (D × D))
  | ref (n : Nat) | exc (c : Nat) | scr (ns : List Int)
  deriving Inhabited

mutual
def D.beq : D → D → Bool
  | .non, .non => true
  | .bl a, .bl b => a == b
  | .int a, .int b => a == b
  | .str a, .str b => a == b
  | .tup a, .tup b => D.beqL a b
  | .lst a, .lst b => D.beqL a b
  | .dct a, .dct b => D.beqP a b
  | .ref a, .ref b => a == b
  | .exc a, .exc b => a == b
  | .scr a, .scr b => a == b
  | _, _ => false
def D.beqL : List D → List D → Bool
  | [], [] => true
  | a :: as, b :: bs => D.beq a b && D.beqL as bs
  | _, _ => false
def D.beqP : List (D × D) → List (D × D) → Bool
  | [], [] => true
  | (a, x) :: as, (b, y) :: bs => D.beq a b && D.beq x y && D.beqP as bs
  | _, _ => false
end
mutual
theorem D.eq_of_beq : ∀ a b : D, D.beq a b = true → a = b
  | .non, .non, _ => rfl
  | .bl a, .bl b, h => by simp [D.beq] at h; rw [h]
  | .int a, .int b, h => by simp [D.beq] at h; rw [h]
  | .str a, .str b, h => by simp [D.beq] at h; rw [h]
  | .tup a, .tup b, h => by rw [D.beq] at h; rw [D.eq_of_beqL a b h]
  | .lst a, .lst b, h => by rw [D.beq] at h; rw [D.eq_of_beqL a b h]
  | .dct a, .dct b, h => by rw [D.beq] at h; rw [D.eq_of_beqP a b h]
  | .ref a, .ref b, h => by simp [D.beq] at h; rw [h]
  | .exc a, .exc b, h => by simp [D.beq] at h; rw [h]
  | .scr a, .scr b, h => by simp [D.beq] at h; rw [h]
  | .non, .bl _, h | .non, .int _, h | .non, .str _, h | .non, .tup _, h | .non, .lst _, h | .non, .dct _, h | .non, .ref _, h | .non, .exc _, h | .non, .scr _, h
  | .bl _, .non, h | .bl _, .int _, h | .bl _, .str _, h | .bl _, .tup _, h | .bl _, .lst _, h | .bl _, .dct _, h | .bl _, .ref _, h | .bl _, .exc _, h | .bl _, .scr _, h
  | .int _, .non, h | .int _, .bl _, h | .int _, .str _, h | .int _, .tup _, h | .int _, .lst _, h | .int _, .dct _, h | .int _, .ref _, h | .int _, .exc _, h | .int _, .scr _, h
  | .str _, .non, h | .str _, .bl _, h | .str _, .int _, h | .str _, .tup _, h | .str _, .lst _, h | .str _, .dct _, h | .str _, .ref _, h | .str _, .exc _, h | .str _, .scr _, h
  | .tup _, .non, h | .tup _, .bl _, h | .tup _, .int _, h | .tup _, .str _, h | .tup _, .lst _, h | .tup _, .dct _, h | .tup _, .ref _, h | .tup _, .exc _, h | .tup _, .scr _, h
  | .lst _, .non, h | .lst _, .bl _, h | .lst _, .int _, h | .lst _, .str _, h | .lst _, .tup _, h | .lst _, .dct _, h | .lst _, .ref _, h | .lst _, .exc _, h | .lst _, .scr _, h
  | .dct _, .non, h | .dct _, .bl _, h | .dct _, .int _, h | .dct _, .str _, h | .dct _, .tup _, h | .dct _, .lst _, h | .dct _, .ref _, h | .dct _, .exc _, h | .dct _, .scr _, h
  | .ref _, .non, h | .ref _, .bl _, h | .ref _, .int _, h | .ref _, .str _, h | .ref _, .tup _, h | .ref _, .lst _, h | .ref _, .dct _, h | .ref _, .exc _, h | .ref _, .scr _, h
  | .exc _, .non, h | .exc _, .bl _, h | .exc _, .int _, h | .exc _, .str _, h | .exc _, .tup _, h | .exc _, .lst _, h | .exc _, .dct _, h | .exc _, .ref _, h | .exc _, .scr _, h
  | .scr _, .non, h | .scr _, .bl _, h | .scr _, .int _, h | .scr _, .str _, h | .scr _, .tup _, h | .scr _, .lst _, h | .scr _, .dct _, h | .scr _, .ref _, h | .scr _, .exc _, h => by simp [D.beq] at h
theorem D.eq_of_beqL : ∀ a b : List D, D.beqL a b = true → a = b
  | [], [], _ => rfl
  | a :: as, b :: bs, h => by
    rw [D.beqL, Bool.and_eq_true] at h
    rw [D.eq_of_beq a b h.1, D.eq_of_beqL as bs h.2]
  | [], _ :: _, h | _ :: _, [], h => by simp [D.beqL] at h
theorem D.eq_of_beqP : ∀ a b : List (D × D), D.beqP a b = true → a = b
  | [], [], _ => rfl
  | (a, x) :: as, (b, y) :: bs, h => by
    rw [D.beqP, Bool.and_eq_true, Bool.and_eq_true] at h
    rw [D.eq_of_beq a b h.1.1, D.eq_of_beq x y h.1.2, D.eq_of_beqP as bs h.2]
  | [], _ :: _, h | _ :: _, [], h => by simp [D.beqP] at h
end
mutual
theorem D.beq_refl : ∀ a : D, D.beq a a = true
  | .non => rfl
  | .bl a | .int a | .str a | .ref a | .exc a | .scr a => by simp [D.beq]
  | .tup a | .lst a => by rw [D.beq]; exact D.beqL_refl a
  | .dct a => by rw [D.beq]; exact D.beqP_refl a
theorem D.beqL_refl : ∀ a : List D, D.beqL a a = true
  | [] => rfl
  | a :: as => by rw [D.beqL, D.beq_refl a, D.beqL_refl as]; rfl
theorem D.beqP_refl : ∀ a : List (D × D), D.beqP a a = true
  | [] => rfl
  | (a, x) :: as => by rw [D.beqP, D.beq_refl a, D.beq_refl x, D.beqP_refl as]; rfl
end
instance : BEq D := ⟨D.beq⟩
instance : LawfulBEq D where
  eq_of_beq := fun {a b} h => D.eq_of_beq a b h
  rfl := fun {a} => D.beq_refl a
instance : DecidableEq D := fun a b => if h : D.beq a b = true then .isTrue (D.eq_of_beq a b h) else .isFalse fun e => h (e ▸ D.beq_refl a)

/-- what stands in a mutable place -/
inductive Cell where
  | lst (ds : List D) | dct (kvs : List (D × D)) | ins (c : Nat) (fs : List (Str × D))
  deriving Inhabited, DecidableEq
abbrev HpE := List Cell
abbrev EnvE := List (Option D)

inductive Res (α : Type) where
  | ok (a : α) (h : HpE) | exc (c : Nat) (h : HpE) | stuck

def Res.bind {α β : Type} (r : Res α) (f : α → HpE → Res β) : Res β := match r with
  | .ok a h => f a h | .exc c h => .exc c h | .stuck => .stuck

/-- the value as it may be read: a mutable place's content -/
def look (h : HpE) : D → D
  | .ref n => match h[n]? with
    | some (.lst ds) => .lst ds
    | some (.dct kvs) => .dct kvs
    | _ => .ref n
  | d => d

/-! ## operators -/
inductive Ty where | int | bool | str | tuple | list
  deriving DecidableEq
inductive Op where
  | add | sub | mul | fdiv | mod | pow | neg
  | eq | ne | lt | le | gt | ge | inn | notIn | inG (neg : Bool) (ds : List D) | isN | notN | isB (b : Bool) | notB (b : Bool) | not
  | len | isi (t : Ty) | isE (c : Nat) | all | any | tupleOf | listOf | dictOf | sortedSet | intOf | strOf | min2 | max2
  | ix | sl2 | slL | slH | sl0 | rev | mkTup | mkLst
  | append | extend | pop | popAt | setIx | newL | newD
  deriving DecidableEq

def sz : Nat := 16777216
theorem sz_eq : sz = sizeLine := rfl

def isKeyD : D → Bool
  | .int _ => true | .str _ => true | _ => false
/-- a key of a dict: an int, a text, a tuple of these -/
def isKeyT : D → Bool
  | .tup ds => ds.all isKeyD | _ => false

/-- a key that is served -/
def kOk (kvs : List (D × D)) (k : D) : Bool := isKeyD k
def dget (kvs : List (D × D)) (k : D) : Option D := (kvs.find? fun kv => decide (kv.1 = k)).map (·.2)
def dput (kvs : List (D × D)) (k v : D) : List (D × D) :=
  if (kvs.any fun kv => decide (kv.1 = k)) = true then kvs.map fun kv => if kv.1 = k then (kv.1, v) else kv else kvs ++ [(k, v)]

/-! Python's ==: of data that flat64 tells -/
mutual
def eqv : D → D → Bool
  | .non, .non => true
  | .bl a, .bl b => a == b
  | .bl a, .int j => (if a then 1 else 0) == j
  | .int i, .bl b => i == (if b then 1 else 0)
  | .int i, .int j => i == j
  | .str x, .str y => x == y
  | .lst xs, .lst ys => eqvL xs ys
  | .tup xs, .tup ys => eqvL xs ys
  | _, _ => false
def eqvL : List D → List D → Bool
  | [], [] => true
  | x :: xs, y :: ys => eqv x y && eqvL xs ys
  | _, _ => false
end
mutual
def dep : D → Option Nat
  | .non | .bl _ | .int _ => some 0
  | .str x => if PyData.strOk x = true then some 0 else none
  | .tup ds | .lst ds => (depL ds).map (· + 1)
  | .dct _ | .ref _ | .exc _ | .scr _ => none
def depL : List D → Option Nat
  | [] => some 0
  | d :: ds => match dep d, depL ds with
    | some a, some b => some (max a b)
    | _, _ => none
end
def flat64 (d : D) : Bool := match dep d with | some n => decide (n ≤ 60) | none => false

def ixN (n : Nat) (i : Int) : Option Nat := if 0 ≤ i then (if i < n then some i.toNat else none) else if -(n : Int) ≤ i then some (i + n).toNat else none
def sIx (n d : Nat) : Option Int → Nat
  | none => d
  | some v => if v < 0 then (v + n).toNat else min v.toNat n
def cut {α : Type} (xs : List α) (lo hi : Option Int) : List α := (xs.drop (sIx xs.length 0 lo)).take (sIx xs.length xs.length hi - sIx xs.length 0 lo)
def ints? : List D → Option (List Int)
  | [] => some []
  | .int i :: r => (ints? r).map (i :: ·)
  | _ => none
def strs? : List D → Option (List Str)
  | [] => some []
  | .str i :: r => (strs? r).map (i :: ·)
  | _ => none
def bls? : List D → Option (List Bool)
  | [] => some []
  | .bl i :: r => (bls? r).map (i :: ·)
  | _ => none
def pairs? : List D → Option (List (D × D))
  | [] => some []
  | .tup [k, v] :: r => (pairs? r).map ((k, v) :: ·)
  | _ => none
def big (i : Int) : Prop := -(2 ^ 64) < i ∧ i < 2 ^ 64
instance (i : Int) : Decidable (big i) := inferInstanceAs (Decidable (_ ∧ _))

def ltStr (x y : Str) : Bool := decide (x.cps.toList < y.cps.toList)
def insI (i : Int) : List Int → List Int
  | [] => [i]
  | j :: r => if i < j then i :: j :: r else if i = j then j :: r else j :: insI i r
def sortSetI (xs : List Int) : List Int := xs.foldr insI []
def insS (i : Str) : List Str → List Str
  | [] => [i]
  | j :: r => if ltStr i j then i :: j :: r else if i = j then j :: r else j :: insS i r
def sortSetS (xs : List Str) : List Str := xs.foldr insS []

/-- x in xs, each place compared -/
def memD (x : D) (xs : List D) : Bool := xs.any fun y => eqv y x

/-! the pure operators, over values as they may be read; none: not served -/
def oAdd : D → D → Option D
  | .int i, .int j => some (.int (i + j))
  | .str x, .str y => if x.length + y.length ≤ sz then some (.str (x ++ y)) else none
  | .tup xs, .tup ys => if xs.length + ys.length ≤ sz then some (.tup (xs ++ ys)) else none
  | .lst xs, .lst ys => if xs.length + ys.length ≤ sz then some (.lst (xs ++ ys)) else none
  | _, _ => none
def oInt (C : Int → Int → Bool) (f : Int → Int → Int) : D → D → Option D
  | .int i, .int j => if C i j = true then some (.int (f i j)) else none
  | _, _ => none
def oCmp (f : Int → Int → Bool) : D → D → Option D
  | .int i, .int j => some (.bl (f i j))
  | _, _ => none
def oLt : D → D → Option D
  | .int i, .int j => some (.bl (decide (i < j)))
  | .str x, .str y => some (.bl (ltStr x y))
  | _, _ => none
def oEq (neg : Bool) (a b : D) : Option D := if flat64 a = true ∧ flat64 b = true then some (.bl (if neg then !eqv a b else eqv a b)) else none
def oIn (neg : Bool) : D → D → Option D
  | .str x, .str y => some (.bl (if neg then (Builtin.Str.occurrences y x 0 y.length 1).isEmpty else !(Builtin.Str.occurrences y x 0 y.length 1).isEmpty))
  | x, .tup ys => if flat64 x = true ∧ ys.all flat64 = true then some (.bl (if neg then !memD x ys else memD x ys)) else none
  | x, .lst ys => if flat64 x = true ∧ ys.all flat64 = true then some (.bl (if neg then !memD x ys else memD x ys)) else none
  | x, .dct kvs => if kOk kvs x = true then some (.bl (if neg then !(dget kvs x).isSome else (dget kvs x).isSome)) else none
  | _, _ => none
def oLen : D → Option D
  | .str x => if x.length ≤ sz then some (.int x.length) else none
  | .tup xs => some (.int xs.length)
  | .lst xs => some (.int xs.length)
  | .scr xs => some (.int xs.length)
  | _ => none
def oIsi (t : Ty) : D → Option D
  | .non => some (.bl false)
  | .bl _ => some (.bl (t == .int || t == .bool))
  | .int _ => some (.bl (t == .int))
  | .str _ => some (.bl (t == .str))
  | .tup _ => some (.bl (t == .tuple))
  | .lst _ => some (.bl (t == .list))
  | _ => none
def oAll : D → Option D
  | .lst xs => (bls? xs).map fun bs => .bl (bs.all id)
  | _ => none
def oAny : D → Option D
  | .lst xs => (bls? xs).map fun bs => .bl (bs.any id)
  | _ => none
def oTuple : D → Option D
  | .lst xs => some (.tup xs)
  | .tup xs => some (.tup xs)
  | _ => none
def oList : D → Option D
  | .lst xs => some (.lst xs)
  | .tup xs => some (.lst xs)
  | _ => none
def mkDct (ps : List (D × D)) : List (D × D) := ps.foldl (fun acc kv => dput acc kv.1 kv.2) []
def oDict : D → Option D
  | .tup xs => match pairs? xs with
    | some ps => if ps.all (fun kv => isKeyD kv.1) = true then some (.dct (mkDct ps)) else none
    | none => none
  | _ => none
def oSortedSet : D → Option D
  | .tup xs => match ints? xs with
    | some is => if is.length < 64 then some (.lst ((sortSetI is).map .int)) else none
    | none => none
  | _ => none
def oIntOf : D → Option D
  | .int i => some (.int i)
  | .bl b => some (.int (if b then 1 else 0))
  | _ => none
def oStrOf : D → Option D
  | .int i => if i.natAbs.log2 < 1920 then some (.str (toString i : String)) else none
  | _ => none
def oIx : D → D → Option D
  | .tup xs, .int i => (ixN xs.length i).bind fun j => xs[j]?
  | .lst xs, .int i => (ixN xs.length i).bind fun j => xs[j]?
  | .str x, .int i => if x.length ≤ sz then ((ixN x.length i).bind fun j => x.cps.toList[j]?).map fun c => .str ⟨#[c]⟩ else none
  | .scr xs, .int i => (ixN xs.length i).bind fun j => xs[j]?.map .int
  | .dct kvs, k => if kOk kvs k = true then dget kvs k else none
  | _, _ => none
def oSl (x : D) (lo hi : Option Int) : Option D := match x with
  | .tup xs => some (.tup (cut xs lo hi))
  | .lst xs => some (.lst (cut xs lo hi))
  | .str x => if x.length ≤ sz then some (.str ⟨(cut x.cps.toList lo hi).toArray⟩) else none
  | _ => none
def intV : D → Option Int
  | .int i => some i
  | _ => none
def oRev : D → Option D
  | .tup xs => some (.tup xs.reverse)
  | _ => none
def d1 (f : D → Option D) : List D → Option D
  | [a] => f a
  | _ => none
def d2 (f : D → D → Option D) : List D → Option D
  | [a, b] => f a b
  | _ => none
def d3 (f : D → D → D → Option D) : List D → Option D
  | [a, b, c] => f a b c
  | _ => none
def opP : Op → List D → Option D
  | .add => d2 oAdd
  | .sub => d2 (oInt (fun _ _ => true) fun i j => i - j)
  | .mul => d2 (oInt (fun i j => decide (big i ∨ big j)) fun i j => i * j)
  | .fdiv => d2 (oInt (fun _ j => decide (j ≠ 0 ∧ j.natAbs < 1073741824)) fun i j => i.fdiv j)
  | .mod => d2 (oInt (fun _ j => decide (j ≠ 0)) fun i j => i.fmod j)
  | .pow => d2 (oInt (fun i j => decide (0 ≤ j ∧ j ≤ 1000000 ∧ i.natAbs < 2 ^ 64)) fun i j => i ^ j.toNat)
  | .neg => d1 fun a => match a with | .int i => some (.int (-i)) | _ => none
  | .eq => d2 (oEq false)
  | .ne => d2 (oEq true)
  | .lt => d2 oLt
  | .le => d2 (oCmp fun i j => decide (i ≤ j))
  | .gt => d2 (oCmp fun i j => decide (j < i))
  | .ge => d2 (oCmp fun i j => decide (j ≤ i))
  | .inn => d2 (oIn false)
  | .notIn => d2 (oIn true)
  | .inG neg ds => d1 fun x => oIn neg x (.tup ds)
  | .isN => d1 fun x => some (.bl (decide (x = .non)))
  | .notN => d1 fun x => some (.bl (!decide (x = .non)))
  | .isB b => d1 fun x => match x with | .bl a => some (.bl (decide (a = b))) | _ => none
  | .notB b => d1 fun x => match x with | .bl a => some (.bl (!decide (a = b))) | _ => none
  | .len => d1 oLen
  | .isi t => d1 (oIsi t)
  | .all => d1 oAll
  | .any => d1 oAny
  | .tupleOf => d1 oTuple
  | .listOf => d1 oList
  | .dictOf => d1 oDict
  | .sortedSet => d1 oSortedSet
  | .intOf => d1 oIntOf
  | .strOf => d1 oStrOf
  | .ix => d2 oIx
  | .sl2 => d3 fun x a b => (intV a).bind fun i => (intV b).bind fun j => oSl x (some i) (some j)
  | .slL => d2 fun x a => (intV a).bind fun i => oSl x (some i) none
  | .slH => d2 fun x b => (intV b).bind fun j => oSl x none (some j)
  | .sl0 => d1 fun x => oSl x none none
  | .rev => d1 oRev
  | .mkTup => fun xs => if xs.length ≤ sz then some (.tup xs) else none
  | .mkLst => fun xs => if xs.length ≤ sz then some (.lst xs) else none
  | _ => fun _ => none

/-- the operators that change a place -/
def mAppend : List D → HpE → Option (D × HpE)
  | [.ref n, d], h => match h[n]? with
    | some (.lst ds) => if ds.length < sz then some (.non, h.set n (.lst (ds ++ [d]))) else none
    | _ => none
  | _, _ => none
def mExtend : List D → HpE → Option (D × HpE)
  | [.ref n, e], h => match h[n]?, look h e with
    | some (.lst ds), .lst es => if ds.length + es.length ≤ sz then some (.non, h.set n (.lst (ds ++ es))) else none
    | _, _ => none
  | _, _ => none
def mPop : List D → HpE → Option (D × HpE)
  | [.ref n], h => match h[n]? with
    | some (.lst ds) => ds.getLast?.map fun d => (d, h.set n (.lst ds.dropLast))
    | _ => none
  | _, _ => none
def mPopAt : List D → HpE → Option (D × HpE)
  | [.ref n, .int i], h => match h[n]? with
    | some (.lst ds) => if -(2 ^ 63) ≤ i ∧ i < 2 ^ 63 then (ixN ds.length i).bind fun k => ds[k]?.map fun d => (d, h.set n (.lst (ds.eraseIdx k))) else none
    | _ => none
  | _, _ => none
def mSet : List D → HpE → Option (D × HpE)
  | [.ref n, k, v], h => match h[n]? with
    | some (.lst ds) => (intV k).bind fun i => (ixN ds.length i).map fun j => (.non, h.set n (.lst (ds.set j v)))
    | some (.dct kvs) => if kOk kvs k = true then (if kvs.length < sz then some (.non, h.set n (.dct (dput kvs k v))) else none) else none
    | _ => none
  | _, _ => none
def opM : Op → List D → HpE → Option (D × HpE)
  | .append => mAppend
  | .extend => mExtend
  | .pop => mPop
  | .popAt => mPopAt
  | .setIx => mSet
  | .newL => fun ds h => if ds.length ≤ sz then some (.ref h.length, h ++ [.lst ds]) else none
  | .newD => fun ds h => match ds with
    | [] => some (.ref h.length, h ++ [.dct []])
    | _ => none
  | _ => fun _ _ => none
def isMut : Op → Bool
  | .append | .extend | .pop | .popAt | .setIx | .newL | .newD => true
  | _ => false
def truth (h : HpE) (d : D) : Option Bool := match look h d with
  | .non => some false
  | .bl b => some b
  | .int i => some (i != 0)
  | .str x => if x.length ≤ sz then some (x.length != 0) else none
  | .tup xs => some (!xs.isEmpty)
  | .lst xs => some (!xs.isEmpty)
  | .dct xs => some (!xs.isEmpty)
  | _ => none
def opEv (o : Op) (ds : List D) (h : HpE) : Res D :=
  if isMut o then match opM o ds h with
    | some (d, h') => .ok d h'
    | none => .stuck
  else match o with
    | .mkTup | .mkLst => match opP o ds with
      | some d => .ok d h
      | none => .stuck
    | .not => match ds with
      | [d] => match truth h d with
        | some b => .ok (.bl (!b)) h
        | none => .stuck
      | _ => .stuck
    | _ => match opP o (ds.map (look h)) with
      | some d => .ok d h
      | none => .stuck

/-! ## the core language -/
/-- a target of names -/
inductive NT where
  | name (i : Nat) | tup (ts : List NT)
/-- what a loop walks -/
inductive IK where
  | plain | range | zip | enum
  deriving DecidableEq
mutual
inductive C where
  | var (i : Nat) | lit (d : D) | glb (g : Nat)
  | op (o : Op) (es : CL) | and (a b : C) | or (a b : C) | ite (c a b : C)
  | chain (o1 o2 : Op) (a b c : C)
  | call (f : Nat) (es : CL)
  | mth (o : Op) (r : C) (es : CL)
  | comp (own : List Nat) (t : NT) (k : IK) (it : CL) (ifs : CL) (e : C)
inductive CL where
  | nil | cons (e : C) (es : CL)
end
inductive T where
  | name (i : Nat) | tup (ts : List T) | sub (o i : C)
mutual
inductive S where
  | expr (e : C) | asg (t : T) (e : C) | ret (e : C) | ite (c : C) (a b : SL)
  | for (t : NT) (k : IK) (it : CL) (body : SL) | brk | cnt | pass
inductive SL where
  | nil | cons (s : S) (r : SL)
end
/-- a def: its parameters, its slots, its defaults -/
structure Fn where
  np : Nat
  ns : Nat
  dfl : List D
  body : SL

/-! ## the evaluator -/
abbrev CallF := Nat → List D → HpE → Res D
/-- what a source gives, item by item -/
def asIter : D → Option (List D)
  | .tup xs => some xs
  | .lst xs => some xs
  | .scr xs => some (xs.map .int)
  | .str x => if x.length ≤ sz then some (x.cps.toList.map fun c => .str ⟨#[c]⟩) else none
  | _ => none
def rangeL (lo hi : Int) : List D := (List.range (hi - lo).toNat).map fun (i : Nat) => .int (lo + i)
def smallI (i : Int) : Prop := -(2 ^ 62) ≤ i ∧ i < 2 ^ 62
instance (i : Int) : Decidable (smallI i) := inferInstanceAs (Decidable (_ ∧ _))
def zipL : List D → List D → List D
  | a :: as, b :: bs => .tup [a, b] :: zipL as bs
  | _, _ => []
def enumL : Nat → List D → List D
  | _, [] => []
  | n, a :: as => .tup [.int n, a] :: enumL (n + 1) as
def isSeqD : D → Bool
  | .tup _ => true | .lst _ => true | _ => false
def items : IK → List D → Option (List D)
  | .plain, [d] => asIter d
  | .range, [.int j] => if smallI j then some (rangeL 0 j) else none
  | .range, [.int i, .int j] => if smallI i ∧ smallI j then some (rangeL i j) else none
  | .zip, [.tup xs, .tup ys] => some (zipL xs ys)
  | .zip, [.lst xs, .lst ys] => some (zipL xs ys)
  | .enum, [.lst xs] => some (enumL 0 xs)
  | _, _ => none

mutual
def asgNT : NT → D → EnvE → Option EnvE
  | .name i, d, env => if i < env.length then some (env.set i (some d)) else none
  | .tup ts, d, env => match d with
    | .tup ds => if ts.length = ds.length then asgNTs ts ds env else none
    | _ => none
def asgNTs : List NT → List D → EnvE → Option EnvE
  | [], [], env => some env
  | t :: ts, d :: ds, env => match asgNT t d env with
    | some env' => asgNTs ts ds env'
    | none => none
  | _, _, _ => none
end
def wipeE (env : EnvE) : List Nat → EnvE
  | [] => env
  | v :: vs => (wipeE env vs).set v none

/-- the turns of a comprehension -/
def compL (src : List D) (h0 : List D) (f : D → HpE → Res (Option D)) : List D → HpE → List D → Res (List D)
  | [], h, acc => if acc.length ≤ sz then .ok acc h else .stuck
  | d :: ds, h, acc => match f d h with
    | .ok (some x) h' => if src.map (look h') = h0 then compL src h0 f ds h' (acc ++ [x]) else .stuck
    | .ok none h' => if src.map (look h') = h0 then compL src h0 f ds h' acc else .stuck
    | _ => .stuck

/-- what a method asks of its receiver -/
def recvOk : Op → D → Bool
  | .append, .lst _ | .extend, .lst _ | .pop, .lst _ | .popAt, .lst _ => true
  | _, _ => false
def ofO {α : Type} (o : Option α) (h : HpE) : Res α := match o with
  | some a => .ok a h
  | none => .stuck
def slot (env : EnvE) (i : Nat) : Option D := match env[i]? with
  | some (some d) => some d
  | _ => none
def blOf : D → Option Bool
  | .bl b => some b
  | _ => none
/-- by a truth value; s where there is none -/
@[inline] def sel {α : Type} (o : Option Bool) (t f s : α) : α := match o with
  | some true => t | some false => f | none => s
mutual
def evC (G : List D) (call : CallF) : C → EnvE → HpE → Res D
  | .var i, env, h => ofO (slot env i) h
  | .lit d, _, h => .ok d h
  | .glb g, _, h => ofO G[g]? h
  | .op o es, env, h => (evL G call es env h).bind fun ds h => opEv o ds h
  | .and a b, env, h => (evC G call a env h).bind fun d h => sel (truth h d) (evC G call b env h) (.ok d h) .stuck
  | .or a b, env, h => (evC G call a env h).bind fun d h => sel (truth h d) (.ok d h) (evC G call b env h) .stuck
  | .ite c a b, env, h => (evC G call c env h).bind fun d h => sel (truth h d) (evC G call a env h) (evC G call b env h) .stuck
  | .chain o1 o2 a b c, env, h => (evC G call a env h).bind fun x h => (evC G call b env h).bind fun y h => (opEv o1 [x, y] h).bind fun z h => sel (blOf z) ((evC G call c env h).bind fun w h => opEv o2 [y, w] h) (.ok z h) .stuck
  | .call f es, env, h => (evL G call es env h).bind fun ds h => call f ds h
  | .mth o r es, env, h => (evC G call r env h).bind fun d h => if recvOk o (look h d) = true then (evL G call es env h).bind fun ds h => opEv o (d :: ds) h else .stuck
  | .comp own t k it ifs e, env, h => (evL G call it env h).bind fun ds h => (ofO (items k (ds.map (look h))) h).bind fun xs h =>
    (compL ds (ds.map (look h)) (fun x h => (ofO (asgNT t x (wipeE env own)) h).bind fun env' h => (evIf G call ifs env' h).bind fun b h => if b = true then (evC G call e env' h).bind fun d h => .ok (some d) h else .ok none h) xs h []).bind fun ys h => .ok (.lst ys) h
def evL (G : List D) (call : CallF) : CL → EnvE → HpE → Res (List D)
  | .nil, _, h => .ok [] h
  | .cons e es, env, h => (evC G call e env h).bind fun d h => (evL G call es env h).bind fun ds h => .ok (d :: ds) h
def evIf (G : List D) (call : CallF) : CL → EnvE → HpE → Res Bool
  | .nil, _, h => .ok true h
  | .cons c cs, env, h => (evC G call c env h).bind fun d h => sel (truth h d) (evIf G call cs env h) (.ok false h) .stuck
end

/-! ## statements -/
inductive Out where
  | nx (env : EnvE) (h : HpE) | ret (d : D) (h : HpE) | brk (env : EnvE) (h : HpE) | cnt (env : EnvE) (h : HpE) | stuck
def Res.out {α : Type} (r : Res α) (f : α → HpE → Out) : Out := match r with
  | .ok a h => f a h | .exc _ _ => .stuck | .stuck => .stuck

mutual
def asgT (G : List D) (call : CallF) : T → D → EnvE → HpE → Res EnvE
  | .name i, d, env, h => if i < env.length then .ok (env.set i (some d)) h else .stuck
  | .tup ts, d, env, h => match d with
    | .tup ds => if ts.length = ds.length then asgTs G call ts ds env h else .stuck
    | _ => .stuck
  | .sub o i, d, env, h => (evC G call o env h).bind fun od h => (evC G call i env h).bind fun id h => (opEv .setIx [od, id, d] h).bind fun _ h => .ok env h
def asgTs (G : List D) (call : CallF) : List T → List D → EnvE → HpE → Res EnvE
  | [], [], env, h => .ok env h
  | t :: ts, d :: ds, env, h => (asgT G call t d env h).bind fun env h => asgTs G call ts ds env h
  | _, _, _, _ => .stuck
end
/-- the turns of a for -/
def forL (src : List D) (h0 : List D) (f : D → EnvE → HpE → Out) : List D → EnvE → HpE → Out
  | [], env, h => .nx env h
  | d :: ds, env, h => match f d env h with
    | .nx env' h' => if src.map (look h') = h0 then forL src h0 f ds env' h' else .stuck
    | .cnt env' h' => if src.map (look h') = h0 then forL src h0 f ds env' h' else .stuck
    | .brk env' h' => .nx env' h'
    | .ret d h' => .ret d h'
    | .stuck => .stuck
mutual
def exS (G : List D) (call : CallF) : S → EnvE → HpE → Out
  | .expr e, env, h => (evC G call e env h).out fun _ h => .nx env h
  | .asg t e, env, h => (evC G call e env h).out fun d h => (asgT G call t d env h).out fun env h => .nx env h
  | .ret e, env, h => (evC G call e env h).out fun d h => .ret d h
  | .ite c a b, env, h => (evC G call c env h).out fun d h => sel (truth h d) (exL G call a env h) (exL G call b env h) .stuck
  | .for t k it body, env, h => (evL G call it env h).out fun ds h => (ofO (items k (ds.map (look h))) h).out fun xs h =>
    forL ds (ds.map (look h)) (fun x env h => (ofO (asgNT t x env) h).out fun env' h => exL G call body env' h) xs env h
  | .brk, env, h => .brk env h
  | .cnt, env, h => .cnt env h
  | .pass, env, h => .nx env h
def exL (G : List D) (call : CallF) : SL → EnvE → HpE → Out
  | .nil, env, h => .nx env h
  | .cons s r, env, h => match exS G call s env h with
    | .nx env h => exL G call r env h
    | o => o
end

/-! ## calls: what a def made for itself alone is let go -/
mutual
def frzW (f : Nat → Option D) : D → Option D
  | .ref n => f n
  | .tup ds => (frzL f ds).map .tup
  | .lst ds => (frzL f ds).map .lst
  | .dct kvs => (frzP f kvs).map .dct
  | d => some d
def frzL (f : Nat → Option D) : List D → Option (List D)
  | [] => some []
  | d :: ds => match frzW f d, frzL f ds with
    | some e, some es => some (e :: es)
    | _, _ => none
def frzP (f : Nat → Option D) : List (D × D) → Option (List (D × D))
  | [] => some []
  | (k, d) :: ds => match frzW f k, frzW f d, frzP f ds with
    | some k', some e, some es => some ((k', e) :: es)
    | _, _, _ => none
end
/-- a value without places of its own: those below n0 stay -/
def frz (n0 : Nat) (h : HpE) : Nat → D → Option D
  | 0 => frzW fun n => if n < n0 then some (.ref n) else none
  | k + 1 => frzW fun n => if n < n0 then some (.ref n) else match h[n]? with
    | some (.lst ds) => (frzL (fun m => frz n0 h k (.ref m)) ds).map .lst
    | some (.dct kvs) => (frzP (fun m => frz n0 h k (.ref m)) kvs).map .dct
    | _ => none
mutual
def below (n0 : Nat) : D → Bool
  | .ref n => decide (n < n0)
  | .tup ds => belowL n0 ds
  | .lst ds => belowL n0 ds
  | .dct kvs => belowP n0 kvs
  | _ => true
def belowL (n0 : Nat) : List D → Bool
  | [] => true
  | d :: ds => below n0 d && belowL n0 ds
def belowP (n0 : Nat) : List (D × D) → Bool
  | [] => true
  | (k, d) :: ds => below n0 k && below n0 d && belowP n0 ds
end
def cellBelow (n0 : Nat) : Cell → Bool
  | .lst ds => belowL n0 ds
  | .dct kvs => belowP n0 kvs
  | .ins _ fs => fs.all fun p => below n0 p.2
/-- the end of a call that began with n0 places -/
def fin (n0 : Nat) (d : D) (h : HpE) : Res D :=
  if h.length ≤ n0 then .ok d h else
    if (h.take n0).all (cellBelow n0) then match frz n0 h 4 d with
      | some d' => .ok d' (h.take n0)
      | none => .ok d h
    else .ok d h
def callBody (G : List D) (fns : List Fn) (call : CallF) : CallF := fun f ds h => match fns[f]? with
  | none => .stuck
  | some fn =>
    let as := ds ++ fn.dfl.drop (fn.dfl.length - (fn.np - ds.length))
    if as.length = fn.np ∧ ds.length ≤ fn.np then match exL G call fn.body (as.map some ++ List.replicate (fn.ns - fn.np) none) h with
      | .nx _ h' => fin h.length .non h'
      | .ret d h' => fin h.length d h'
      | _ => .stuck
    else .stuck
def callF (G : List D) (fns : List Fn) : Nat → CallF
  | 0 => fun _ _ _ => .stuck
  | n + 1 => callBody G fns (callF G fns n)
end Ev

/-! Ev1: how data stand in the heap. -/
namespace Ev
open PySem PySem.Spec PyProof.Rows L2

variable [KK]

def keyD : Key → D
  | .inl i => .int i
  | .inr x => .str x
def keyT (ks : List Key) : D := .tup (ks.map keyD)

/-- a tuple's object -/
def tob (us : List Value) : Obj := { cls := .type "tuple", data := .seq us.toArray }
/-- a tuple that is known to its object -/
def TupAt (H : Hp) (a : Addr) (vs : List V) : Prop := ∃ us, H a = some (.frz (tob us) (.tup vs))
theorem TupAt.sq {K : PySem.W.Frag} {H : Hp} {a : Addr} {vs : List V} (t : TupAt H a vs) : SqT K H a vs := let ⟨_, e⟩ := t; .inl (.inr ⟨_, e⟩)
theorem TupAt.rd {H : Hp} {a : Addr} {vs : List V} (t : TupAt H a vs) : Rd H a (.tup vs) := let ⟨_, e⟩ := t; .inr ⟨_, e⟩
/-- the places that no value but a mutable one may lean on -/
def Oc (Z : Addr → Prop) (ρ : Nat → Addr) (n : Nat) : Addr → Prop := fun a => Z a ∨ ∃ m, m < n ∧ ρ m = a

/-- a list of the module's own -/
def KL (a : Addr) (vs : List V) : Prop := ∃ (o : Obj) (its : Array Value) (n : Nat), KK.K.lookup a = some o ∧ o.cls = .type "list" ∧ o.dict = none ∧ o.data = .seq its n ∧ its.size ≤ sizeLine ∧ Vals vs its.toList
section
variable (H : Hp) (Z : Addr → Prop) (ρ : Nat → Addr) (n : Nat)
mutual
inductive R : V → D → Prop
  | non : R .non .non
  | bl (b : Bool) : R (.bl b) (.bl b)
  | int (i : Int) : R (.int i) (.int i)
  | str (x : Str) : R (.str x) (.str x)
  | tup {a : Addr} {vs : List V} {ds : List D} : TupAt H a vs → RL vs ds → R (.ref a) (.tup ds)
  | lst {a : Addr} {vs : List V} {ds : List D} : Rd H a (.lst vs) → ¬ Oc Z ρ n a → RL vs ds → R (.ref a) (.lst ds)
  | dk {a : Addr} {ks : List (Key × V)} {kvs : List (D × D)} : H a = some (.dK ks) → ¬ Oc Z ρ n a → RK ks kvs → R (.ref a) (.dct kvs)
  | ref {m : Nat} : m < n → R (.ref (ρ m)) (.ref m)
  | scrH {a : Addr} {ns : List Int} : Rd H a (.lst (ns.map V.int)) → ¬ Oc Z ρ n a → R (.ref a) (.scr ns)
  | scrK {a : Addr} {ns : List Int} : KL a (ns.map V.int) → R (.ref a) (.scr ns)
inductive RL : List V → List D → Prop
  | nil : RL [] []
  | cons {v : V} {d : D} {vs : List V} {ds : List D} : R v d → RL vs ds → RL (v :: vs) (d :: ds)
inductive RK : List (Key × V) → List (D × D) → Prop
  | nil : RK [] []
  | cons {k : Key} {v : V} {d : D} {vs : List (Key × V)} {ds : List (D × D)} : R v d → RK vs ds → RK ((k, v) :: vs) ((keyD k, d) :: ds)
end
/-- a dict's content -/
def RD (a : Addr) (kvs : List (D × D)) : Prop := ∃ ks, H a = some (.dK ks) ∧ RK H Z ρ n ks kvs
def RF : List (Str × V) → List (Str × D) → Prop := Paired fun p q => p.1 = q.1 ∧ R H Z ρ n p.2 q.2
/-- a mutable place -/
def CellR (a : Addr) : Cell → Prop
  | .lst ds => ∃ vs, H a = some (.lst vs) ∧ RL H Z ρ n vs ds
  | .dct kvs => ∃ ks, H a = some (.dK ks) ∧ RK H Z ρ n ks kvs
  | .ins c fs => False
end

structure Sim (H : Hp) (Z : Addr → Prop) (ρ : Nat → Addr) (h : HpE) : Prop where
  inj : ∀ i j, i < h.length → j < h.length → ρ i = ρ j → i = j
  nz : ∀ i, i < h.length → ¬ Z (ρ i)
  zt : ∀ a, Z a → H a ≠ none
  cell : ∀ i c, h[i]? = some c → CellR H Z ρ h.length (ρ i) c

structure Ext (H : Hp) (ρ : Nat → Addr) (n : Nat) (H' : Hp) (ρ' : Nat → Addr) (n' : Nat) : Prop where
  len : n ≤ n'
  old : ∀ i, i < n → ρ' i = ρ i
  new : ∀ i, n ≤ i → i < n' → H (ρ' i) = none
  keep : ∀ a o, H a = some o → (∀ i, i < n → ρ i ≠ a) → H' a = some o

section
variable {H H' H'' : Hp} {Z Z0 : Addr → Prop} {ρ ρ' ρ'' : Nat → Addr} {n n' n'' : Nat} {h h' : HpE}

theorem CellR.there {a : Addr} {c : Cell} (x : CellR H Z ρ n a c) : ∃ o, H a = some o ∧ (∀ vs, o ≠ .tup vs) ∧ ∀ ob u, o ≠ .frz ob u := by
  cases c with
  | lst ds => obtain ⟨vs, e, _⟩ := x; exact ⟨_, e, (by intro _ q; cases q), by intro _ _ q; cases q⟩
  | dct kvs =>
    obtain ⟨_, e, _⟩ := x
    exact ⟨_, e, (by intro _ q; cases q), by intro _ _ q; cases q⟩
  | ins c fs => exact x.elim
theorem Sim.there (S : Sim H Z ρ h) {i : Nat} (hi : i < h.length) : ∃ o, H (ρ i) = some o ∧ (∀ vs, o ≠ .tup vs) ∧ ∀ ob u, o ≠ .frz ob u :=
  (S.cell i h[i] (List.getElem?_eq_getElem hi)).there

theorem Ext.refl : Ext H ρ n H ρ n := ⟨Nat.le_refl _, fun _ _ => rfl, fun i h1 h2 => absurd h2 (by omega), fun _ _ e _ => e⟩
theorem Ext.trans (e1 : Ext H ρ n H' ρ' h'.length) (S : Sim H' Z ρ' h') (e2 : Ext H' ρ' h'.length H'' ρ'' n'') : Ext H ρ n H'' ρ'' n'' where
  len := Nat.le_trans e1.len e2.len
  old := fun i hi => (e2.old i (Nat.lt_of_lt_of_le hi e1.len)).trans (e1.old i hi)
  new := fun i h1 h2 => by
    by_cases hi : i < h'.length
    · rw [e2.old i hi]; exact e1.new i h1 hi
    · have q := e2.new i (by omega) h2
      cases e : H (ρ'' i) with
      | none => rfl
      | some o =>
        have := e1.keep _ o e fun j hj z => ?_
        · rw [q] at this; cases this
        · obtain ⟨o', e', _⟩ := S.there (Nat.lt_of_lt_of_le hj e1.len)
          rw [e1.old j hj, z, q] at e'
          cases e'
  keep := fun a o e hn => by
    refine e2.keep a o (e1.keep a o e hn) fun i hi => ?_
    by_cases hin : i < n
    · rw [e1.old i hin]; exact hn i hin
    · intro z
      have := e1.new i (by omega) hi
      rw [z, e] at this; cases this
/-- a new object that no place is -/
theorem Ext.laid {p : Addr} {o : HO} (hp : H p = none) : Ext H ρ n (upd H p o) ρ n :=
  ⟨Nat.le_refl _, fun _ _ => rfl, fun i h1 h2 => absurd h2 (by omega), fun a o e _ => by rw [upd_ne (ne_of_none e hp)]; exact e⟩

theorem Rd.keep {a : Addr} {u : HO} (e : Ext H ρ n H' ρ' n') (hn : ∀ i, i < n → ρ i ≠ a) (r : Rd H a u) : Rd H' a u := by
  rcases r with r | ⟨o, r⟩
  · exact .inl (e.keep a _ r hn)
  · exact .inr ⟨o, e.keep a _ r hn⟩
theorem Rd.some {a : Addr} {u : HO} (r : Rd H a u) : ∃ o, H a = some o := by
  rcases r with r | ⟨o, r⟩
  · exact ⟨_, r⟩
  · exact ⟨_, r⟩
theorem Oc.keep {a : Addr} {o : HO} (e : Ext H ρ n H' ρ' n') (ha : H a = some o) (h : ¬ Oc Z ρ n a) : ¬ Oc Z ρ' n' a := by
  rintro (z | ⟨m, hm, z⟩)
  · exact h (.inl z)
  · by_cases q : m < n
    · exact h (.inr ⟨m, q, by rw [← e.old m q]; exact z⟩)
    · have := e.new m (by omega) hm
      rw [z, ha] at this; cases this
theorem not_cell {a : Addr} (h : ¬ Oc Z ρ n a) : ∀ i, i < n → ρ i ≠ a := fun i hi z => h (.inr ⟨i, hi, z⟩)
theorem Sim.tup_ne (S : Sim H Z ρ h) {a : Addr} {vs : List V} (r : Rd H a (.tup vs)) : ∀ i, i < h.length → ρ i ≠ a := fun i hi z => by
  obtain ⟨o, e, h1, h2⟩ := S.there hi
  rcases r with r | ⟨o', r⟩
  · rw [z, r] at e; cases e; exact h1 _ rfl
  · rw [z, r] at e; cases e; exact h2 _ _ rfl
mutual
theorem R.keep (S : Sim H Z0 ρ h) (e : Ext H ρ h.length H' ρ' n') : ∀ {v : V} {d : D}, R H Z ρ h.length v d → R H' Z ρ' n' v d
  | _, _, .non => .non
  | _, _, .bl b => .bl b
  | _, _, .int i => .int i
  | _, _, .str x => .str x
  | _, _, .tup r l => .tup (let ⟨us, q⟩ := r; ⟨us, e.keep _ _ q (S.tup_ne r.rd)⟩) (RL.keep S e l)
  | _, _, .lst r o l => let ⟨_, ha⟩ := Rd.some r; .lst (Rd.keep e (not_cell o) r) (Oc.keep e ha o) (RL.keep S e l)
  | _, _, .dk r o l => .dk (e.keep _ _ r (not_cell o)) (Oc.keep e r o) (RK.keep S e l)
  | _, _, .ref (m := m) hm => by rw [← e.old m hm]; exact .ref (Nat.lt_of_lt_of_le hm e.len)
  | _, _, .scrH r o => let ⟨_, ha⟩ := Rd.some r; .scrH (Rd.keep e (not_cell o) r) (Oc.keep e ha o)
  | _, _, .scrK k => .scrK k
theorem RL.keep (S : Sim H Z0 ρ h) (e : Ext H ρ h.length H' ρ' n') : ∀ {vs : List V} {ds : List D}, RL H Z ρ h.length vs ds → RL H' Z ρ' n' vs ds
  | _, _, .nil => .nil
  | _, _, .cons r l => .cons (R.keep S e r) (RL.keep S e l)
theorem RK.keep (S : Sim H Z0 ρ h) (e : Ext H ρ h.length H' ρ' n') : ∀ {vs : List (Key × V)} {ds : List (D × D)}, RK H Z ρ h.length vs ds → RK H' Z ρ' n' vs ds
  | _, _, .nil => .nil
  | _, _, .cons r l => .cons (R.keep S e r) (RK.keep S e l)
end
theorem CellR.keep (S : Sim H Z0 ρ h) (e : Ext H ρ h.length H' ρ' n') {a : Addr} {c : Cell} (ha : H' a = H a) (x : CellR H Z ρ h.length a c) : CellR H' Z ρ' n' a c := by
  cases c with
  | lst ds => obtain ⟨vs, q, l⟩ := x; exact ⟨vs, ha.trans q, l.keep S e⟩
  | dct kvs =>
    obtain ⟨ks, q, l⟩ := x
    exact ⟨ks, ha.trans q, l.keep S e⟩
  | ins c fs => exact x.elim
/-- a new object, the places as they were -/
theorem Sim.laid (S : Sim H Z ρ h) {p : Addr} {o : HO} (hp : H p = none) : Sim (upd H p o) Z ρ h where
  inj := S.inj
  nz := S.nz
  zt := fun a z => by
    by_cases q : a = p
    · subst q; rw [upd_same]; intro z; cases z
    · rw [upd_ne q]; exact S.zt a z
  cell := fun i c e => by
    have hi : i < h.length := (List.getElem?_eq_some_iff.mp e).1
    obtain ⟨o', e', _⟩ := S.there hi
    exact (S.cell i c e).keep S (Ext.laid hp) (upd_ne (ne_of_none e' hp))
theorem Sim.fresh (S : Sim H Z ρ h) {p : Addr} (hp : H p = none) : ¬ Oc Z ρ h.length p := by
  rintro (z | ⟨m, hm, z⟩)
  · exact S.zt p z hp
  · obtain ⟨o', e', _⟩ := S.there hm
    rw [z, hp] at e'; cases e'
/-- a place more -/
def ρpush (ρ : Nat → Addr) (n : Nat) (p : Addr) : Nat → Addr := fun i => if i = n then p else ρ i
theorem Ext.push {p : Addr} {o : HO} (hp : H p = none) : Ext H ρ n (upd H p o) (ρpush ρ n p) (n + 1) :=
  ⟨Nat.le_succ _, fun i hi => if_neg (Nat.ne_of_lt hi), fun i h1 h2 => by
    have : i = n := by omega
    subst this
    show H (if i = i then p else ρ i) = none
    rw [if_pos rfl]; exact hp, fun a o e _ => by rw [upd_ne (ne_of_none e hp)]; exact e⟩
theorem Sim.push (S : Sim H Z ρ h) {p : Addr} {o : HO} {c : Cell} (hp : H p = none) (hc : CellR (upd H p o) Z (ρpush ρ h.length p) (h.length + 1) p c) :
    Sim (upd H p o) Z (ρpush ρ h.length p) (h ++ [c]) where
  inj := fun i j hi hj e => by
    simp only [List.length_append, List.length_singleton] at hi hj
    unfold ρpush at e
    by_cases h1 : i = h.length
    · by_cases h2 : j = h.length
      · omega
      · rw [if_pos h1, if_neg h2] at e
        obtain ⟨o', e', _⟩ := S.there (i := j) (by omega)
        rw [← e, hp] at e'; cases e'
    · by_cases h2 : j = h.length
      · rw [if_neg h1, if_pos h2] at e
        obtain ⟨o', e', _⟩ := S.there (i := i) (by omega)
        rw [e, hp] at e'; cases e'
      · rw [if_neg h1, if_neg h2] at e
        exact S.inj i j (by omega) (by omega) e
  nz := fun i hi z => by
    simp only [List.length_append, List.length_singleton] at hi
    unfold ρpush at z
    by_cases h1 : i = h.length
    · rw [if_pos h1] at z; exact S.zt p z hp
    · rw [if_neg h1] at z; exact S.nz i (by omega) z
  zt := fun a z => by
    by_cases q : a = p
    · subst q; rw [upd_same]; intro z; cases z
    · rw [upd_ne q]; exact S.zt a z
  cell := fun i c' e => by
    rw [List.length_append, List.length_singleton]
    by_cases hi : i < h.length
    · rw [List.getElem?_append_left hi] at e
      obtain ⟨o', e', _⟩ := S.there hi
      have := (S.cell i c' e).keep S (Ext.push (o := o) hp) (upd_ne (ne_of_none e' hp))
      show CellR _ Z _ _ (if i = h.length then p else ρ i) c'
      rw [if_neg (Nat.ne_of_lt hi)]
      exact this
    · have hi' : i = h.length := by
        have := (List.getElem?_eq_some_iff.mp e).1
        simp only [List.length_append, List.length_singleton] at this
        omega
      subst hi'
      rw [List.getElem?_append_right (Nat.le_refl _), Nat.sub_self] at e
      cases e
      show CellR _ Z _ _ (if h.length = h.length then p else ρ h.length) c
      rw [if_pos rfl]
      exact hc
/-- a place written -/
theorem Ext.write {m : Nat} {o : HO} (hm : m < n) : Ext H ρ n (upd H (ρ m) o) ρ n :=
  ⟨Nat.le_refl _, fun _ _ => rfl, fun i h1 h2 => absurd h2 (by omega), fun a o e hn => by rw [upd_ne (Ne.symm (hn m hm))]; exact e⟩
theorem Sim.write (S : Sim H Z ρ h) {m : Nat} {o : HO} {c : Cell} (hm : m < h.length) (hc : CellR (upd H (ρ m) o) Z ρ h.length (ρ m) c) : Sim (upd H (ρ m) o) Z ρ (h.set m c) where
  inj := by rw [List.length_set]; exact S.inj
  nz := by rw [List.length_set]; exact S.nz
  zt := fun a z => by
    by_cases q : a = ρ m
    · subst q; rw [upd_same]; intro z; cases z
    · rw [upd_ne q]; exact S.zt a z
  cell := fun i c' e => by
    rw [List.length_set]
    by_cases q : i = m
    · subst q
      rw [List.getElem?_set_self hm] at e
      cases e
      exact hc
    · rw [List.getElem?_set_ne (Ne.symm q)] at e
      have hi : i < h.length := (List.getElem?_eq_some_iff.mp e).1
      have ne : ρ i ≠ ρ m := fun z => q (S.inj i m hi hm z)
      exact (S.cell i c' e).keep S (Ext.write hm) (upd_ne ne)

/-! ### lists of data -/
theorem RL.length : ∀ {vs : List V} {ds : List D}, RL H Z ρ n vs ds → vs.length = ds.length
  | _, _, .nil => rfl
  | _, _, .cons _ l => by rw [List.length_cons, List.length_cons, l.length]
theorem RL.get : ∀ {vs : List V} {ds : List D} {i : Nat} {d : D}, RL H Z ρ n vs ds → ds[i]? = some d → ∃ v, vs[i]? = some v ∧ R H Z ρ n v d
  | _, _, _, _, .nil, e => by simp at e
  | _, _, 0, _, .cons r _, e => by simp at e; subst e; exact ⟨_, rfl, r⟩
  | _, _, i + 1, _, .cons _ l, e => by
    obtain ⟨v, h1, h2⟩ := l.get (i := i) (by simpa using e)
    exact ⟨v, by simpa using h1, h2⟩
theorem RL.getV : ∀ {vs : List V} {ds : List D} {i : Nat} {v : V}, RL H Z ρ n vs ds → vs[i]? = some v → ∃ d, ds[i]? = some d ∧ R H Z ρ n v d
  | _, _, _, _, .nil, e => by simp at e
  | _, _, 0, _, .cons r _, e => by simp at e; subst e; exact ⟨_, rfl, r⟩
  | _, _, i + 1, _, .cons _ l, e => by
    obtain ⟨v, h1, h2⟩ := l.getV (i := i) (by simpa using e)
    exact ⟨v, by simpa using h1, h2⟩
theorem RL.append : ∀ {vs ws : List V} {ds es : List D}, RL H Z ρ n vs ds → RL H Z ρ n ws es → RL H Z ρ n (vs ++ ws) (ds ++ es)
  | _, _, _, _, .nil, r => r
  | _, _, _, _, .cons r l, q => .cons r (l.append q)
theorem RL.take : ∀ {vs : List V} {ds : List D} (k : Nat), RL H Z ρ n vs ds → RL H Z ρ n (vs.take k) (ds.take k)
  | _, _, 0, _ => .nil
  | _, _, _ + 1, .nil => .nil
  | _, _, k + 1, .cons r l => .cons r (l.take k)
theorem RL.drop : ∀ {vs : List V} {ds : List D} (k : Nat), RL H Z ρ n vs ds → RL H Z ρ n (vs.drop k) (ds.drop k)
  | _, _, 0, r => r
  | _, _, _ + 1, .nil => .nil
  | _, _, k + 1, .cons _ l => l.drop k
theorem RL.set : ∀ {vs : List V} {ds : List D} {v : V} {d : D} (k : Nat), RL H Z ρ n vs ds → R H Z ρ n v d → RL H Z ρ n (vs.set k v) (ds.set k d)
  | _, _, _, _, _, .nil, _ => .nil
  | _, _, _, _, 0, .cons _ l, q => .cons q l
  | _, _, _, _, k + 1, .cons r l, q => .cons r (l.set k q)
theorem RL.eraseIdx : ∀ {vs : List V} {ds : List D} (k : Nat), RL H Z ρ n vs ds → RL H Z ρ n (vs.eraseIdx k) (ds.eraseIdx k)
  | _, _, _, .nil => .nil
  | _, _, 0, .cons _ l => l
  | _, _, k + 1, .cons r l => .cons r (l.eraseIdx k)
theorem RL.dropLast {vs : List V} {ds : List D} (r : RL H Z ρ n vs ds) : RL H Z ρ n vs.dropLast ds.dropLast := by
  rw [List.dropLast_eq_take, List.dropLast_eq_take, r.length]; exact r.take _
theorem RL.reverse : ∀ {vs : List V} {ds : List D}, RL H Z ρ n vs ds → RL H Z ρ n vs.reverse ds.reverse
  | _, _, .nil => .nil
  | _, _, .cons r l => by rw [List.reverse_cons, List.reverse_cons]; exact l.reverse.append (.cons r .nil)

/-! ### what a value is, by its datum as it may be read -/
theorem look_ref {m : Nat} {ds : List D} (e : h[m]? = some (.lst ds)) : look h (.ref m) = .lst ds := by unfold look; simp only [e]
theorem R.lstv (S : Sim H Z ρ h) {v : V} {d : D} {ds : List D} (r : R H Z ρ h.length v d) (e : look h d = .lst ds) : ∃ a vs, v = .ref a ∧ Rd H a (.lst vs) ∧ RL H Z ρ h.length vs ds := by
  cases r with
  | lst q _ l => cases e; exact ⟨_, _, rfl, q, l⟩
  | ref hm =>
    rename_i m
    unfold look at e
    simp only [List.getElem?_eq_getElem hm] at e
    have x := S.cell m h[m] (List.getElem?_eq_getElem hm)
    cases c : h[m] with
    | lst ds' =>
      rw [c] at e x
      cases e
      obtain ⟨vs, q, l⟩ := x
      exact ⟨_, vs, rfl, .inl q, l⟩
    | dct _ => rw [c] at e; cases e
    | ins _ _ => rw [c] at e; cases e
  | _ => cases e
theorem R.dctv (S : Sim H Z ρ h) {v : V} {d : D} {kvs : List (D × D)} (r : R H Z ρ h.length v d) (e : look h d = .dct kvs) : ∃ a, v = .ref a ∧ RD H Z ρ h.length a kvs := by
  cases r with
  | dk q _ l => cases e; exact ⟨_, rfl, _, q, l⟩
  | ref hm =>
    rename_i m
    unfold look at e
    simp only [List.getElem?_eq_getElem hm] at e
    have x := S.cell m h[m] (List.getElem?_eq_getElem hm)
    cases c : h[m] with
    | dct ds' =>
      rw [c] at e x
      cases e
      obtain ⟨ks, q, l⟩ := x
      exact ⟨_, rfl, ks, q, l⟩
    | lst _ => rw [c] at e; cases e
    | ins _ _ => rw [c] at e; cases e
  | _ => cases e
theorem look_of {d e : D} (hl : look h d = e) (hn : (∀ ds, e ≠ .lst ds) ∧ (∀ ds, e ≠ .dct ds) ∧ ∀ m, e ≠ .ref m) : d = e := by
  cases d with
  | ref m =>
    have k : look h (.ref m) = .ref m ∨ (∃ ds, look h (.ref m) = .lst ds) ∨ ∃ ds, look h (.ref m) = .dct ds := by
      simp only [look]
      rcases e : h[m]? with _ | c
      · exact .inl rfl
      · cases c with
        | lst ds => exact .inr (.inl ⟨ds, rfl⟩)
        | dct ds => exact .inr (.inr ⟨ds, rfl⟩)
        | ins _ _ => exact .inl rfl
    rcases k with k | ⟨ds, k⟩ | ⟨ds, k⟩
    · exact k.symm.trans hl
    · exact absurd (hl.symm.trans k) (hn.1 ds)
    · exact absurd (hl.symm.trans k) (hn.2.1 ds)
  | _ => exact hl
theorem R.tupv {v : V} {d : D} {ds : List D} (r : R H Z ρ n v d) (e : look h d = .tup ds) : ∃ a vs, v = .ref a ∧ TupAt H a vs ∧ RL H Z ρ n vs ds := by
  have := look_of e ⟨(by intro _ q; cases q), (by intro _ q; cases q), by intro _ q; cases q⟩
  subst this
  cases r with
  | tup q l => exact ⟨_, _, rfl, q, l⟩
theorem R.scrv {v : V} {d : D} {ns : List Int} (r : R H Z ρ n v d) (e : look h d = .scr ns) : ∃ a, v = .ref a ∧ SqL KK.K H a (ns.map V.int) := by
  have := look_of e ⟨(by intro _ q; cases q), (by intro _ q; cases q), by intro _ q; cases q⟩
  subst this
  cases r with
  | scrH q _ => exact ⟨_, rfl, .inl q⟩
  | scrK q => exact ⟨_, rfl, .inr q⟩
theorem R.intv {v : V} {d : D} {i : Int} (r : R H Z ρ n v d) (e : look h d = .int i) : v = .int i := by
  have := look_of e ⟨(by intro _ q; cases q), (by intro _ q; cases q), by intro _ q; cases q⟩
  subst this
  cases r; rfl
theorem R.strv {v : V} {d : D} {i : Str} (r : R H Z ρ n v d) (e : look h d = .str i) : v = .str i := by
  have := look_of e ⟨(by intro _ q; cases q), (by intro _ q; cases q), by intro _ q; cases q⟩
  subst this
  cases r; rfl
theorem R.blv {v : V} {d : D} {i : Bool} (r : R H Z ρ n v d) (e : look h d = .bl i) : v = .bl i := by
  have := look_of e ⟨(by intro _ q; cases q), (by intro _ q; cases q), by intro _ q; cases q⟩
  subst this
  cases r; rfl
theorem R.nonv {v : V} {d : D} (r : R H Z ρ n v d) (e : look h d = .non) : v = .non := by
  have := look_of e ⟨(by intro _ q; cases q), (by intro _ q; cases q), by intro _ q; cases q⟩
  subst this
  cases r; rfl
end

/-! ### another set of places kept apart -/
section
variable {H : Hp} {Z Z' : Addr → Prop} {ρ : Nat → Addr} {n : Nat} {h : HpE}
theorem Oc.z {a : Addr} {o : HO} (hz : ∀ a, Z' a → Z a ∨ H a = none) (ha : H a = some o) (q : ¬ Oc Z ρ n a) : ¬ Oc Z' ρ n a := by
  rintro (z | z)
  · rcases hz a z with z | z
    · exact q (.inl z)
    · rw [ha] at z; cases z
  · exact q (.inr z)
mutual
theorem R.z (hz : ∀ a, Z' a → Z a ∨ H a = none) : ∀ {v : V} {d : D}, R H Z ρ n v d → R H Z' ρ n v d
  | _, _, .non => .non
  | _, _, .bl b => .bl b
  | _, _, .int i => .int i
  | _, _, .str x => .str x
  | _, _, .tup r l => .tup r (RL.z hz l)
  | _, _, .lst r o l => let ⟨_, ha⟩ := Rd.some r; .lst r (Oc.z hz ha o) (RL.z hz l)
  | _, _, .dk r o l => .dk r (Oc.z hz r o) (RK.z hz l)
  | _, _, .ref hm => .ref hm
  | _, _, .scrH r o => let ⟨_, ha⟩ := Rd.some r; .scrH r (Oc.z hz ha o)
  | _, _, .scrK k => .scrK k
theorem RL.z (hz : ∀ a, Z' a → Z a ∨ H a = none) : ∀ {vs : List V} {ds : List D}, RL H Z ρ n vs ds → RL H Z' ρ n vs ds
  | _, _, .nil => .nil
  | _, _, .cons r l => .cons (R.z hz r) (RL.z hz l)
theorem RK.z (hz : ∀ a, Z' a → Z a ∨ H a = none) : ∀ {vs : List (Key × V)} {ds : List (D × D)}, RK H Z ρ n vs ds → RK H Z' ρ n vs ds
  | _, _, .nil => .nil
  | _, _, .cons r l => .cons (R.z hz r) (RK.z hz l)
end
theorem CellR.z (hz : ∀ a, Z' a → Z a ∨ H a = none) {a : Addr} {c : Cell} (x : CellR H Z ρ n a c) : CellR H Z' ρ n a c := by
  cases c with
  | lst ds => obtain ⟨vs, q, l⟩ := x; exact ⟨vs, q, l.z hz⟩
  | dct kvs => obtain ⟨ks, q, l⟩ := x; exact ⟨ks, q, l.z hz⟩
  | ins c fs => exact x.elim
/-- the places kept apart may be other ones: nothing leans on them -/
theorem Sim.z (S : Sim H Z ρ h) (hz : ∀ a, Z' a → Z a ∨ H a = none) (ht : ∀ a, Z' a → H a ≠ none) : Sim H Z' ρ h where
  inj := S.inj
  nz := fun i hi z => by
    rcases hz _ z with z | z
    · exact S.nz i hi z
    · obtain ⟨o, e, _⟩ := S.there hi
      rw [e] at z; cases z
  zt := ht
  cell := fun i c e => (S.cell i c e).z hz
end
/-! ### an object that nothing leans on is written -/
section
variable {H H' : Hp} {Z : Addr → Prop} {ρ : Nat → Addr} {n : Nat} {h : HpE}
structure Same2 (H H' : Hp) (Z : Addr → Prop) (ρ : Nat → Addr) (n : Nat) : Prop where
  tup : ∀ a ob vs, H a = some (.frz ob (.tup vs)) → H' a = some (.frz ob (.tup vs))
  oth : ∀ a o, H a = some o → ¬ Oc Z ρ n a → H' a = some o
mutual
theorem R.same (k : Same2 H H' Z ρ n) : ∀ {v : V} {d : D}, R H Z ρ n v d → R H' Z ρ n v d
  | _, _, .non => .non
  | _, _, .bl b => .bl b
  | _, _, .int i => .int i
  | _, _, .str x => .str x
  | _, _, .tup r l => .tup (let ⟨us, q⟩ := r; ⟨us, k.tup _ _ _ q⟩) (RL.same k l)
  | _, _, .lst r o l => .lst (r.elim (fun r => .inl (k.oth _ _ r o)) fun ⟨ob, r⟩ => .inr ⟨ob, k.oth _ _ r o⟩) o (RL.same k l)
  | _, _, .dk r o l => .dk (k.oth _ _ r o) o (RK.same k l)
  | _, _, .ref hm => .ref hm
  | _, _, .scrH r o => .scrH (r.elim (fun r => .inl (k.oth _ _ r o)) fun ⟨ob, r⟩ => .inr ⟨ob, k.oth _ _ r o⟩) o
  | _, _, .scrK k => .scrK k
theorem RL.same (k : Same2 H H' Z ρ n) : ∀ {vs : List V} {ds : List D}, RL H Z ρ n vs ds → RL H' Z ρ n vs ds
  | _, _, .nil => .nil
  | _, _, .cons r l => .cons (R.same k r) (RL.same k l)
theorem RK.same (k : Same2 H H' Z ρ n) : ∀ {vs : List (Key × V)} {ds : List (D × D)}, RK H Z ρ n vs ds → RK H' Z ρ n vs ds
  | _, _, .nil => .nil
  | _, _, .cons r l => .cons (R.same k r) (RK.same k l)
end
theorem Same2.write {p : Addr} {o u : HO} (hz : Z p) (hp : H p = some u) (hu : ∀ ob vs, u ≠ .frz ob (.tup vs)) : Same2 H (upd H p o) Z ρ n :=
  ⟨fun a ob vs e => by rw [upd_ne]; exact e; intro z; subst z; rw [hp] at e; cases e; exact hu _ _ rfl, fun a o' e q => by rw [upd_ne]; exact e; intro z; subst z; exact q (.inl hz)⟩
theorem Sim.writeZ (S : Sim H Z ρ h) {p : Addr} {o u : HO} (hz : Z p) (hp : H p = some u) (hu : ∀ ob vs, u ≠ .frz ob (.tup vs)) : Sim (upd H p o) Z ρ h where
  inj := S.inj
  nz := S.nz
  zt := fun a z => by
    by_cases q : a = p
    · subst q; rw [upd_same]; intro z; cases z
    · rw [upd_ne q]; exact S.zt a z
  cell := fun i c e => by
    have hi : i < h.length := (List.getElem?_eq_some_iff.mp e).1
    have ne : ρ i ≠ p := fun z => S.nz i hi (z ▸ hz)
    have x := S.cell i c e
    have k : Same2 H (upd H p o) Z ρ h.length := Same2.write hz hp hu
    cases c with
    | lst ds => obtain ⟨vs, q, l⟩ := x; exact ⟨vs, by rw [upd_ne ne]; exact q, l.same k⟩
    | dct kvs => obtain ⟨ks, q, l⟩ := x; exact ⟨ks, by rw [upd_ne ne]; exact q, l.same k⟩
    | ins c fs => exact x.elim
end
/-! ### the wanted end -/
def Post (Z : Addr → Prop) (H : Hp) (ρ : Nat → Addr) (h : HpE) (r : Res D) (Q : VK) : Prop := match r with
  | .ok d h' => ∀ v H' ρ', Ext H ρ h.length H' ρ' h'.length → Sim H' Z ρ' h' → R H' Z ρ' h'.length v d → Q v H'
  | _ => False
def PostL (Z : Addr → Prop) (H : Hp) (ρ : Nat → Addr) (h : HpE) (r : Res (List D)) (Q : List V → Hp → Prop) : Prop := match r with
  | .ok d h' => ∀ v H' ρ', Ext H ρ h.length H' ρ' h'.length → Sim H' Z ρ' h' → RL H' Z ρ' h'.length v d → Q v H'
  | _ => False
structure EnvR (H : Hp) (Z : Addr → Prop) (ρ : Nat → Addr) (n : Nat) (σ : L2.St) (env : EnvE) : Prop where
  len : env.length = σ.length
  get : ∀ (i : Nat) (d : D), env[i]? = some (some d) → ∃ v : V, σ[i]? = some (some v) ∧ R H Z ρ n v d
theorem EnvR.keep {H H' : Hp} {Z Z0 : Addr → Prop} {ρ ρ' : Nat → Addr} {h : HpE} {n' : Nat} {σ : L2.St} {env : EnvE} (S : Sim H Z0 ρ h) (e : Ext H ρ h.length H' ρ' n') (x : EnvR H Z ρ h.length σ env) : EnvR H' Z ρ' n' σ env :=
  ⟨x.len, fun i d q => let ⟨v, h1, h2⟩ := x.get i d q; ⟨v, h1, h2.keep S e⟩⟩
theorem EnvR.z {H : Hp} {Z Z' : Addr → Prop} {ρ : Nat → Addr} {n : Nat} {σ : L2.St} {env : EnvE} (hz : ∀ a, Z' a → Z a ∨ H a = none) (x : EnvR H Z ρ n σ env) : EnvR H Z' ρ n σ env :=
  ⟨x.len, fun i d q => let ⟨v, h1, h2⟩ := x.get i d q; ⟨v, h1, h2.z hz⟩⟩
theorem EnvR.set {H : Hp} {Z : Addr → Prop} {ρ : Nat → Addr} {n : Nat} {σ : L2.St} {env : EnvE} {v : V} {d : D} (x : EnvR H Z ρ n σ env) (r : R H Z ρ n v d) (i : Nat) : EnvR H Z ρ n (σ.set i (some v)) (env.set i (some d)) :=
  ⟨by rw [List.length_set, List.length_set]; exact x.len, fun j e q => by
    by_cases hj : i = j
    · subst hj
      by_cases hi : i < env.length
      · rw [List.getElem?_set_self hi] at q
        cases q
        exact ⟨v, List.getElem?_set_self (by rw [← x.len]; exact hi), r⟩
      · rw [List.getElem?_eq_none (by rw [List.length_set]; omega)] at q; cases q
    · rw [List.getElem?_set_ne hj] at q
      obtain ⟨u, h1, h2⟩ := x.get j e q
      exact ⟨u, by rw [List.getElem?_set_ne hj]; exact h1, h2⟩⟩
theorem EnvR.unset {H : Hp} {Z : Addr → Prop} {ρ : Nat → Addr} {n : Nat} {σ : L2.St} {env : EnvE} (x : EnvR H Z ρ n σ env) (i : Nat) : EnvR H Z ρ n (σ.set i none) (env.set i none) :=
  ⟨by rw [List.length_set, List.length_set]; exact x.len, fun j e q => by
    by_cases hj : i = j
    · subst hj
      by_cases hi : i < env.length
      · rw [List.getElem?_set_self hi] at q; cases q
      · rw [List.getElem?_eq_none (by rw [List.length_set]; omega)] at q; cases q
    · rw [List.getElem?_set_ne hj] at q
      obtain ⟨u, h1, h2⟩ := x.get j e q
      exact ⟨u, by rw [List.getElem?_set_ne hj]; exact h1, h2⟩⟩
theorem EnvR.wipe {H : Hp} {Z : Addr → Prop} {ρ : Nat → Addr} {n : Nat} {σ : L2.St} {env : EnvE} (x : EnvR H Z ρ n σ env) : ∀ vs : List Nat, EnvR H Z ρ n (L2.wipe σ vs) (wipeE env vs)
  | [] => x
  | v :: vs => (x.wipe vs).unset v
end Ev

/-! Ev2: the operators. -/
namespace Ev
open PySem PySem.Spec PyProof.Rows L2
variable [KK]

/-! ### data as the library's -/
mutual
def py : D → PyData
  | .non => .none
  | .bl b => .bool b
  | .int i => .int i
  | .str x => .str x
  | .tup ds => .tuple (pyL ds)
  | .lst ds => .list (pyL ds)
  | _ => .none
def pyL : List D → List PyData
  | [] => []
  | d :: ds => py d :: pyL ds
end
theorem depL_cons {d : D} {ds : List D} {n : Nat} (e : depL (d :: ds) = some n) : ∃ a b, dep d = some a ∧ depL ds = some b ∧ n = max a b := by
  unfold depL at e
  split at e
  · rename_i a b h1 h2; cases e; exact ⟨a, b, h1, h2, rfl⟩
  · cases e
theorem dep_tup {ds : List D} {n : Nat} (e : dep (.tup ds) = some n) : ∃ m, depL ds = some m ∧ n = m + 1 := by
  unfold dep at e
  cases q : depL ds with
  | none => rw [q] at e; cases e
  | some m => rw [q] at e; cases e; exact ⟨m, rfl, rfl⟩
theorem dep_lst {ds : List D} {n : Nat} (e : dep (.lst ds) = some n) : ∃ m, depL ds = some m ∧ n = m + 1 := by
  unfold dep at e
  cases q : depL ds with
  | none => rw [q] at e; cases e
  | some m => rw [q] at e; cases e; exact ⟨m, rfl, rfl⟩
theorem dep_str {x : Str} {n : Nat} (e : dep (.str x) = some n) : PyData.strOk x = true ∧ n = 0 := by
  unfold dep at e
  split at e
  · cases e; exact ⟨by assumption, rfl⟩
  · cases e
mutual
theorem py_depth : ∀ (d : D) (n : Nat), dep d = some n → (py d).depth = n ∧ (py d).canLay0 = true
  | .non, n, e | .bl _, n, e | .int _, n, e => by unfold dep at e; cases e; simp [py, PyData.depth, PyData.canLay0]
  | .str x, n, e => by
    obtain ⟨h, rfl⟩ := dep_str e
    simp [py, PyData.depth, PyData.canLay0, h]
  | .tup ds, n, e => by
    obtain ⟨m, h, rfl⟩ := dep_tup e
    obtain ⟨h1, h2⟩ := pyL_depth ds m h
    simp [py, PyData.depth, PyData.canLay0, h1, h2]
  | .lst ds, n, e => by
    obtain ⟨m, h, rfl⟩ := dep_lst e
    obtain ⟨h1, h2⟩ := pyL_depth ds m h
    simp [py, PyData.depth, PyData.canLay0, h1, h2]
  | .dct _, n, e | .ref _, n, e | .exc _, n, e | .scr _, n, e => by unfold dep at e; cases e
theorem pyL_depth : ∀ (ds : List D) (n : Nat), depL ds = some n → PyData.depthAll (pyL ds) = n ∧ PyData.canLayAll0 (pyL ds) = true
  | [], n, e => by unfold depL at e; cases e; simp [pyL, PyData.depthAll, PyData.canLayAll0]
  | d :: ds, n, e => by
    obtain ⟨a, b, h1, h2, rfl⟩ := depL_cons e
    obtain ⟨p1, p2⟩ := py_depth d a h1
    obtain ⟨q1, q2⟩ := pyL_depth ds b h2
    simp [pyL, PyData.depthAll, PyData.canLayAll0, p1, p2, q1, q2]
end
theorem flat_dep {d : D} (h : flat64 d = true) : ∃ n, dep d = some n ∧ n ≤ 60 := by
  unfold flat64 at h
  split at h
  · exact ⟨_, by assumption, of_decide_eq_true h⟩
  · cases h
theorem flat_shaped {d : D} (h : flat64 d = true) : SeqAt.shaped (py d) = true := by
  obtain ⟨n, e, hn⟩ := flat_dep h
  obtain ⟨h1, h2⟩ := py_depth d n e
  unfold SeqAt.shaped
  rw [h1, h2, Bool.true_and]
  exact decide_eq_true (by omega)
mutual
theorem py_eqv : ∀ (d e : D) (n m : Nat), dep d = some n → dep e = some m → PyData.eqv (py d) (py e) = eqv d e
  | .tup xs, .tup ys, n, m, h1, h2 => by
    obtain ⟨a, h1, _⟩ := dep_tup h1
    obtain ⟨b, h2, _⟩ := dep_tup h2
    simp only [py, PyData.eqv, eqv]
    exact py_eqvL xs ys a b h1 h2
  | .lst xs, .lst ys, n, m, h1, h2 => by
    obtain ⟨a, h1, _⟩ := dep_lst h1
    obtain ⟨b, h2, _⟩ := dep_lst h2
    simp only [py, PyData.eqv, eqv]
    exact py_eqvL xs ys a b h1 h2
  | .dct _, _, _, _, h, _ | .ref _, _, _, _, h, _ | .exc _, _, _, _, h, _ | .scr _, _, _, _, h, _ => by unfold dep at h; cases h
  | _, .dct _, _, _, _, h | _, .ref _, _, _, _, h | _, .exc _, _, _, _, h | _, .scr _, _, _, _, h => by unfold dep at h; cases h
  | .non, .non, _, _, _, _ | .non, .bl _, _, _, _, _ | .non, .int _, _, _, _, _ | .non, .str _, _, _, _, _ | .non, .tup _, _, _, _, _ | .non, .lst _, _, _, _, _
  | .bl _, .non, _, _, _, _ | .bl _, .bl _, _, _, _, _ | .bl _, .int _, _, _, _, _ | .bl _, .str _, _, _, _, _ | .bl _, .tup _, _, _, _, _ | .bl _, .lst _, _, _, _, _
  | .int _, .non, _, _, _, _ | .int _, .bl _, _, _, _, _ | .int _, .int _, _, _, _, _ | .int _, .str _, _, _, _, _ | .int _, .tup _, _, _, _, _ | .int _, .lst _, _, _, _, _
  | .str _, .non, _, _, _, _ | .str _, .bl _, _, _, _, _ | .str _, .int _, _, _, _, _ | .str _, .str _, _, _, _, _ | .str _, .tup _, _, _, _, _ | .str _, .lst _, _, _, _, _
  | .tup _, .non, _, _, _, _ | .tup _, .bl _, _, _, _, _ | .tup _, .int _, _, _, _, _ | .tup _, .str _, _, _, _, _ | .tup _, .lst _, _, _, _, _
  | .lst _, .non, _, _, _, _ | .lst _, .bl _, _, _, _, _ | .lst _, .int _, _, _, _, _ | .lst _, .str _, _, _, _, _ | .lst _, .tup _, _, _, _, _ => by simp only [py, PyData.eqv, eqv]
theorem py_eqvL : ∀ (d e : List D) (n m : Nat), depL d = some n → depL e = some m → PyData.eqvAll (pyL d) (pyL e) = eqvL d e
  | [], [], _, _, _, _ => by simp only [pyL, PyData.eqvAll, eqvL]
  | x :: xs, y :: ys, n, m, h1, h2 => by
    obtain ⟨a, b, h1, h1', _⟩ := depL_cons h1
    obtain ⟨c, d, h2, h2', _⟩ := depL_cons h2
    simp only [pyL, PyData.eqvAll, eqvL]
    rw [py_eqv x y a c h1 h2, py_eqvL xs ys b d h1' h2']
  | [], _ :: _, _, _, _, _ => by simp only [pyL, PyData.eqvAll, eqvL]
  | _ :: _, [], _, _, _, _ => by simp only [pyL, PyData.eqvAll, eqvL]
end
section
variable {K : PySem.W.Frag} {H : Hp} {Z : Addr → Prop} {ρ : Nat → Addr} {n : Nat} {h : HpE}
theorem SqL.rd {a : Addr} {vs : List V} (r : Rd H a (.lst vs)) : SqL K H a vs := .inl r
mutual
theorem R.dp : ∀ {v : V} {d : D} {m : Nat}, dep d = some m → R H Z ρ n v d → Dp K H v (py d)
  | _, _, _, _, .non => .non
  | _, _, _, _, .bl b => .bl b
  | _, _, _, _, .int i => .int i
  | _, _, _, _, .str x => .str x
  | _, _, _, e, .tup r l => let ⟨_, e', _⟩ := dep_tup e; .tup r.sq (RL.dp e' l)
  | _, _, _, e, .lst r _ l => let ⟨_, e', _⟩ := dep_lst e; .lst (.inl r) (RL.dp e' l)
  | _, _, _, e, .dk _ _ _ => by unfold dep at e; cases e
  | _, _, _, e, .ref _ => by unfold dep at e; cases e
  | _, _, _, e, .scrH _ _ => by unfold dep at e; cases e
  | _, _, _, e, .scrK _ => by unfold dep at e; cases e
theorem RL.dp : ∀ {v : List V} {d : List D} {m : Nat}, depL d = some m → RL H Z ρ n v d → DpAll K H v (pyL d)
  | _, _, _, _, .nil => .nil
  | _, _, _, e, .cons r l => let ⟨_, _, e1, e2, _⟩ := depL_cons e; .cons (R.dp e1 r) (RL.dp e2 l)
end
theorem R.dpv (S : Sim H Z ρ h) {v : V} {d : D} {m : Nat} (e : dep (look h d) = some m) (r : R H Z ρ h.length v d) : Dp K H v (py (look h d)) := by
  rcases q : look h d with _ | b | i | x | ds | ds | kvs | k | c | ns
  · rw [r.nonv q]; exact .non
  · rw [r.blv q]; exact .bl b
  · rw [r.intv q]; exact .int i
  · rw [r.strv q]; exact .str x
  · obtain ⟨a, vs, rfl, s, l⟩ := r.tupv q
    rw [q] at e
    obtain ⟨_, e', _⟩ := dep_tup e
    exact .tup s.sq (l.dp e')
  · obtain ⟨a, vs, rfl, s, l⟩ := r.lstv S q
    rw [q] at e
    obtain ⟨_, e', _⟩ := dep_lst e
    exact .lst (.inl s) (l.dp e')
  · rw [q] at e; unfold dep at e; cases e
  · rw [q] at e; unfold dep at e; cases e
  · rw [q] at e; unfold dep at e; cases e
  · rw [q] at e; unfold dep at e; cases e

/-! ### the ends -/
theorem Post.now {d : D} {Q : VK} {v : V} (p : Post Z H ρ h (.ok d h) Q) (S : Sim H Z ρ h) (r : R H Z ρ h.length v d) : Q v H := p v H ρ Ext.refl S r
theorem Post.new {d : D} {Q : VK} {p : Addr} {o : HO} (q : Post Z H ρ h (.ok d h) Q) (S : Sim H Z ρ h) (hp : H p = none) (r : R (upd H p o) Z ρ h.length (.ref p) d) : Q (.ref p) (upd H p o) :=
  q _ _ ρ (Ext.laid hp) (S.laid hp) r
theorem Sim.newL (S : Sim H Z ρ h) {p : Addr} {vs : List V} {ds : List D} (hp : H p = none) (l : RL H Z ρ h.length vs ds) : R (upd H p (.lst vs)) Z ρ h.length (.ref p) (.lst ds) :=
  .lst (.inl upd_same) (S.fresh hp) (l.keep S (Ext.laid hp))
theorem Sim.newT (S : Sim H Z ρ h) {p : Addr} {us : List Value} {vs : List V} {ds : List D} (hp : H p = none) (l : RL H Z ρ h.length vs ds) : R (upd H p (.frz (tob us) (.tup vs))) Z ρ h.length (.ref p) (.tup ds) :=
  .tup ⟨us, upd_same⟩ (l.keep S (Ext.laid hp))
theorem post_op {o : Op} {ds : List D} {h2 : HpE} {Q : VK} (hm : isMut o = false) (h1 : o ≠ .mkTup) (h2' : o ≠ .mkLst) (h3 : o ≠ .not) (p : Post Z H ρ h (opEv o ds h2) Q) :
    ∃ d, opP o (ds.map (look h2)) = some d ∧ Post Z H ρ h (.ok d h2) Q := by
  have e : opEv o ds h2 = match opP o (ds.map (look h2)) with
    | some d => .ok d h2
    | none => .stuck := by
    unfold opEv
    rw [hm]
    cases o <;> first | rfl | exact absurd rfl h1 | exact absurd rfl h2' | exact absurd rfl h3 | cases hm
  rw [e] at p
  split at p
  · exact ⟨_, by assumption, p⟩
  · exact p.elim
end

/-- a new tuple, known to its object -/
theorem tup_new {X : Cx} {pins : List (Addr × Obj)} {σ : L2.St} {H : Hp} {s : Shared} {us : List Value} {vs : List V} (I : Inv X pins σ H s) (r : Vals vs us) (hz : vs.length ≤ sizeLine) :
    Inv X pins σ (upd H s.heap.objs.size (.frz (tob us) (.tup vs))) { s with heap := s.heap.push (tob us), toks := s.toks } :=
  I.laid (fun b o e => Heap.get?_push_of_some _ e) (Nat.le_refl _) (show ObjOk X.prog X.w _ _ _ (.frz (tob us) (.tup vs)) from ⟨Heap.get?_push_size _ rfl, hz, us, r, ⟨_, Heap.get?_push_size _ rfl, rfl, _, rfl⟩⟩)
/-- an operator's reading, by values -/
def rOp (o : Op) (vs : List V) (H : Hp) (Q : VK) : Prop := ∃ Z ρ h ds, Sim H Z ρ h ∧ RL H Z ρ h.length vs ds ∧ Post Z H ρ h (opEv o ds h) Q
theorem rOp.one {o : Op} {x : V} {H : Hp} {Q : VK} (hm : isMut o = false) (h1 : o ≠ .mkTup) (h2 : o ≠ .mkLst) (h3 : o ≠ .not) (p : rOp o [x] H Q) :
    ∃ Z ρ h a d, Sim H Z ρ h ∧ R H Z ρ h.length x a ∧ opP o [look h a] = some d ∧ Post Z H ρ h (.ok d h) Q := by
  obtain ⟨Z, ρ, h, ds, S, l, p⟩ := p
  cases l with
  | cons r1 l =>
    cases l
    obtain ⟨d, e, p⟩ := post_op hm h1 h2 h3 p
    exact ⟨Z, ρ, h, _, d, S, r1, e, p⟩
theorem rOp.two {o : Op} {x y : V} {H : Hp} {Q : VK} (hm : isMut o = false) (h1 : o ≠ .mkTup) (h2 : o ≠ .mkLst) (h3 : o ≠ .not) (p : rOp o [x, y] H Q) :
    ∃ Z ρ h a b d, Sim H Z ρ h ∧ R H Z ρ h.length x a ∧ R H Z ρ h.length y b ∧ opP o [look h a, look h b] = some d ∧ Post Z H ρ h (.ok d h) Q := by
  obtain ⟨Z, ρ, h, ds, S, l, p⟩ := p
  cases l with
  | cons r1 l =>
    cases l with
    | cons r2 l =>
      cases l
      obtain ⟨d, e, p⟩ := post_op hm h1 h2 h3 p
      exact ⟨Z, ρ, h, _, _, d, S, r1, r2, e, p⟩
theorem rOp.three {o : Op} {x y z : V} {H : Hp} {Q : VK} (hm : isMut o = false) (h1 : o ≠ .mkTup) (h2 : o ≠ .mkLst) (h3 : o ≠ .not) (p : rOp o [x, y, z] H Q) :
    ∃ Z ρ h a b c d, Sim H Z ρ h ∧ R H Z ρ h.length x a ∧ R H Z ρ h.length y b ∧ R H Z ρ h.length z c ∧ opP o [look h a, look h b, look h c] = some d ∧ Post Z H ρ h (.ok d h) Q := by
  obtain ⟨Z, ρ, h, ds, S, l, p⟩ := p
  cases l with
  | cons r1 l =>
    cases l with
    | cons r2 l =>
      cases l with
      | cons r3 l =>
        cases l
        obtain ⟨d, e, p⟩ := post_op hm h1 h2 h3 p
        exact ⟨Z, ρ, h, _, _, _, d, S, r1, r2, r3, e, p⟩
section
variable {X : Cx}
theorem ev_add : OpR X (binaryOp .Add) (fun x y H Q => rOp .add [x, y] H Q) := by
  intro pins s σ H x y v u Q I rx ry w
  obtain ⟨Z, ρ, h, a, b, d, S, r1, r2, e, p⟩ := w.two rfl (by decide) (by decide) (by decide)
  clear w
  have e : oAdd (look h a) (look h b) = some d := e
  unfold oAdd at e
  split at e
  · rename_i i j h1 h2
    cases e
    exact op_add pins s σ H _ _ v u Q I rx ry ⟨i, j, r1.intv h1, r2.intv h2, p.now S (.int _)⟩
  · rename_i i j h1 h2
    split at e
    · cases e
      exact op_add_str pins s σ H _ _ v u Q I rx ry ⟨i, j, r1.strv h1, r2.strv h2, by assumption, p.now S (.str _)⟩
    · cases e
  · rename_i xs ys h1 h2
    split at e
    · cases e
      rename_i hz
      obtain ⟨a1, vs, rfl, s1, l1⟩ := r1.tupv h1
      obtain ⟨a2, ws, rfl, s2, l2⟩ := r2.tupv h2
      have hz' : vs.length + ws.length ≤ sizeLine := by rw [l1.length, l2.length]; exact hz
      cases rx
      cases ry
      obtain ⟨its, q1, p1, _⟩ := I.tuple (TupAt.sq (K := X.K) s1)
      obtain ⟨its2, q2, p2, _⟩ := I.tuple (TupAt.sq (K := X.K) s2)
      by_cases hx : vs = []
      · subst hx
        cases l1
        cases q1
        exact cat_tup0 p1 p2 ⟨.ref a2, H, I, rfl, p.now S (.tup s2 (by simpa using l2))⟩
      · refine HT.cat_tup p1 p2 (fun z => hx (q1.nil_iff.mp z)) (fun z => ?_) (fun z => ?_) (by rw [← q1.length, ← q2.length]; exact hz')
        · have e : ws = [] := q2.nil_iff.mp z
          subst e
          cases l2
          exact ⟨.ref a1, H, I, rfl, p.now S (.tup s1 (by simpa using l1))⟩
        · exact ⟨.ref _, _, tup_new I (q1.append q2) (by rw [List.length_append]; exact hz'), rfl, p.new S I.fresh (S.newT I.fresh (l1.append l2))⟩
    · cases e
  · rename_i xs ys h1 h2
    split at e
    · cases e
      rename_i hz
      obtain ⟨a1, vs, rfl, s1, l1⟩ := r1.lstv S h1
      obtain ⟨a2, ws, rfl, s2, l2⟩ := r2.lstv S h2
      obtain ⟨z1, its1, n1, q1, e1⟩ := s1.ok I.hok
      obtain ⟨z2, its2, n2, q2, e2⟩ := s2.ok I.hok
      have hz' : vs.length + ws.length ≤ sizeLine := by rw [l1.length, l2.length]; exact hz
      cases rx
      cases ry
      refine PySem.P.add_list e1 e2 ?_ (by rw [List.size_toArray, List.size_toArray, ← q1.length, ← q2.length]; exact hz')
      have ea : its1.toArray ++ its2.toArray = (its1 ++ its2).toArray := by simp
      rw [ea]
      exact ⟨.ref _, _, I.lnew (t' := s.toks) (q1.append q2) (by rw [List.length_append]; exact hz'), rfl, p.new S I.fresh (S.newL I.fresh (l1.append l2))⟩
    · cases e
  · cases e
end
end Ev

/-! Ev3: further operators. -/
namespace Ev
open PySem PySem.Spec PyProof.Rows L2
variable [KK]
section
variable {X : Cx}
theorem ev_int {o : Op} {f : Value → Value → Sem Value} {C : Int → Int → Bool} {P : Int → Int → Prop} {g : Int → Int → Int} (ho : OpR X f (rI P fun i j => .int (g i j))) (hC : ∀ i j, C i j = true → P i j)
    (he : ∀ xs, opP o xs = d2 (oInt C g) xs) (hm : isMut o = false) (h1 : o ≠ .mkTup) (h2 : o ≠ .mkLst) (h3 : o ≠ .not) : OpR X f (fun x y H Q => rOp o [x, y] H Q) := by
  intro pins s σ H x y v u Q I rx ry w
  obtain ⟨Z, ρ, h, a, b, d, S, r1, r2, e, p⟩ := w.two hm h1 h2 h3
  clear w
  rw [he] at e
  have e : oInt C g (look h a) (look h b) = some d := e
  unfold oInt at e
  split at e
  · rename_i i j q1 q2
    split at e
    · cases e
      exact ho pins s σ H _ _ v u Q I rx ry ⟨i, j, r1.intv q1, r2.intv q2, hC _ _ (by assumption), p.now S (.int _)⟩
    · cases e
  · cases e
theorem OpR.rI0 {f : Value → Value → Sem Value} {g : Int → Int → V} (h : OpR X f (L2.rI0 g)) : OpR X f (rI (fun _ _ => True) g) := fun pins s σ H x y v u Q I rx ry ⟨i, j, e1, e2, _, q⟩ => h pins s σ H x y v u Q I rx ry ⟨i, j, e1, e2, q⟩
theorem ev_sub : OpR X (binaryOp .Sub) (fun x y H Q => rOp .sub [x, y] H Q) := ev_int (OpR.rI0 op_sub) (fun _ _ _ => trivial) (fun _ => rfl) rfl (by decide) (by decide) (by decide)
theorem ev_mul : OpR X (binaryOp .Mult) (fun x y H Q => rOp .mul [x, y] H Q) := ev_int op_mul (fun i j h => (show big i ∨ big j from of_decide_eq_true h)) (fun _ => rfl) rfl (by decide) (by decide) (by decide)
theorem ev_fdiv : OpR X (binaryOp .FloorDiv) (fun x y H Q => rOp .fdiv [x, y] H Q) := ev_int op_fdivN (fun i j h => (show j ≠ 0 ∧ j.natAbs < 1073741824 from of_decide_eq_true h)) (fun _ => rfl) rfl (by decide) (by decide) (by decide)
theorem ev_mod : OpR X (binaryOp .Mod) (fun x y H Q => rOp .mod [x, y] H Q) := ev_int op_modN (fun i j h => of_decide_eq_true h) (fun _ => rfl) rfl (by decide) (by decide) (by decide)
theorem ev_pow : OpR X (binaryOp .Pow) (fun x y H Q => rOp .pow [x, y] H Q) := ev_int op_pow (fun i j h => (show 0 ≤ j ∧ j ≤ 1000000 ∧ i.natAbs < 2 ^ 64 from of_decide_eq_true h)) (fun _ => rfl) rfl (by decide) (by decide) (by decide)
theorem ev_neg : UnR X (unaryOp .USub) (fun x H Q => rOp .neg [x] H Q) := by
  intro pins s σ H x v Q I rx w
  obtain ⟨Z, ρ, h, a, d, S, r1, e, p⟩ := w.one rfl (by decide) (by decide) (by decide)
  clear w
  have e : (match look h a with | .int i => some (D.int (-i)) | _ => none) = some d := e
  split at e
  · rename_i i q
    cases e
    exact un_neg pins s σ H _ v Q I rx ⟨i, r1.intv q, p.now S (.int _)⟩
  · cases e
theorem ev_eqne {neg : Bool} {o : Op} {c : CmpOp} (hu : X.A.units + 64 < cLine) (ho : o = if neg then .ne else .eq) (hc : c = if neg then .NotEq else .Eq) : OpR X (compareOp c) (fun x y H Q => rOp o [x, y] H Q) := by
  intro pins s σ H x y v u Q I rx ry w
  have hm : isMut o = false ∧ o ≠ .mkTup ∧ o ≠ .mkLst ∧ o ≠ .not := by subst ho; cases neg <;> exact ⟨rfl, by decide, by decide, by decide⟩
  obtain ⟨Z, ρ, h, a, b, d, S, r1, r2, e, p⟩ := w.two hm.1 hm.2.1 hm.2.2.1 hm.2.2.2
  clear w
  have e : oEq neg (look h a) (look h b) = some d := by subst ho; cases neg <;> exact e
  unfold oEq at e
  split at e
  · rename_i hf
    cases e
    obtain ⟨n, e1, _⟩ := flat_dep hf.1
    obtain ⟨m, e2, _⟩ := flat_dep hf.2
    have q := py_eqv _ _ n m e1 e2
    subst hc
    cases neg with
    | false => exact op_eqD hu pins s σ H _ _ v u Q I rx ry ⟨_, _, r1.dpv S e1, r2.dpv S e2, flat_shaped hf.1, flat_shaped hf.2, by rw [q]; exact p.now S (.bl _)⟩
    | true => exact op_neD hu pins s σ H _ _ v u Q I rx ry ⟨_, _, r1.dpv S e1, r2.dpv S e2, flat_shaped hf.1, flat_shaped hf.2, by rw [q]; exact p.now S (.bl _)⟩
  · cases e
theorem ev_eq (hu : X.A.units + 64 < cLine) : OpR X (compareOp .Eq) (fun x y H Q => rOp .eq [x, y] H Q) := ev_eqne (neg := false) hu rfl rfl
theorem ev_ne (hu : X.A.units + 64 < cLine) : OpR X (compareOp .NotEq) (fun x y H Q => rOp .ne [x, y] H Q) := ev_eqne (neg := true) hu rfl rfl
theorem ev_cmp {o : Op} {f : Value → Value → Sem Value} {g : Int → Int → Bool} (ho : OpR X f (L2.rI0 fun i j => .bl (g i j)))
    (he : ∀ xs, opP o xs = d2 (oCmp g) xs) (hm : isMut o = false) (h1 : o ≠ .mkTup) (h2 : o ≠ .mkLst) (h3 : o ≠ .not) : OpR X f (fun x y H Q => rOp o [x, y] H Q) := by
  intro pins s σ H x y v u Q I rx ry w
  obtain ⟨Z, ρ, h, a, b, d, S, r1, r2, e, p⟩ := w.two hm h1 h2 h3
  clear w
  rw [he] at e
  have e : oCmp g (look h a) (look h b) = some d := e
  unfold oCmp at e
  split at e
  · rename_i i j q1 q2
    cases e
    exact ho pins s σ H _ _ v u Q I rx ry ⟨i, j, r1.intv q1, r2.intv q2, p.now S (.bl _)⟩
  · cases e
theorem ev_le : OpR X (compareOp .LtE) (fun x y H Q => rOp .le [x, y] H Q) := ev_cmp op_le (fun _ => rfl) rfl (by decide) (by decide) (by decide)
theorem ev_gt : OpR X (compareOp .Gt) (fun x y H Q => rOp .gt [x, y] H Q) := ev_cmp op_gt (fun _ => rfl) rfl (by decide) (by decide) (by decide)
theorem ev_ge : OpR X (compareOp .GtE) (fun x y H Q => rOp .ge [x, y] H Q) := ev_cmp op_ge (fun _ => rfl) rfl (by decide) (by decide) (by decide)
theorem ev_lt : OpR X (compareOp .Lt) (fun x y H Q => rOp .lt [x, y] H Q) := by
  intro pins s σ H x y v u Q I rx ry w
  obtain ⟨Z, ρ, h, a, b, d, S, r1, r2, e, p⟩ := w.two rfl (by decide) (by decide) (by decide)
  clear w
  have e : oLt (look h a) (look h b) = some d := e
  unfold oLt at e
  split at e
  · rename_i i j q1 q2
    cases e
    exact op_lt pins s σ H _ _ v u Q I rx ry ⟨i, j, r1.intv q1, r2.intv q2, p.now S (.bl _)⟩
  · rename_i i j q1 q2
    cases e
    exact op_lt_str pins s σ H _ _ v u Q I rx ry ⟨i, j, r1.strv q1, r2.strv q2, p.now S (.bl _)⟩
  · cases e
theorem ev_isN : OpR X (compareOp .Is) (fun x y H Q => y = .non ∧ rOp .isN [x] H Q) := by
  intro pins s σ H x y v u Q I rx ry ⟨ey, w⟩
  obtain ⟨Z, ρ, h, a, d, S, r1, e, p⟩ := w.one rfl (by decide) (by decide) (by decide)
  clear w
  have e : some (D.bl (decide (look h a = .non))) = some d := e
  cases e
  refine op_isN pins s σ H _ _ v u Q I rx ry ⟨ey, ?_⟩
  have q : decide (look h a = .non) = decide (x = .non) := by
    by_cases q : look h a = .non
    · rw [decide_eq_true q, decide_eq_true (r1.nonv q)]
    · rw [decide_eq_false q]
      refine (decide_eq_false fun z => q ?_).symm
      subst z
      cases r1; rfl
  rw [q] at p
  exact p.now S (.bl _)
theorem ev_notN : OpR X (compareOp .IsNot) (fun x y H Q => y = .non ∧ rOp .notN [x] H Q) := by
  intro pins s σ H x y v u Q I rx ry ⟨ey, w⟩
  obtain ⟨Z, ρ, h, a, d, S, r1, e, p⟩ := w.one rfl (by decide) (by decide) (by decide)
  clear w
  have e : some (D.bl (!decide (look h a = .non))) = some d := e
  cases e
  refine op_notN pins s σ H _ _ v u Q I rx ry ⟨ey, ?_⟩
  have q : decide (look h a = .non) = decide (x = .non) := by
    by_cases q : look h a = .non
    · rw [decide_eq_true q, decide_eq_true (r1.nonv q)]
    · rw [decide_eq_false q]
      refine (decide_eq_false fun z => q ?_).symm
      subst z
      cases r1; rfl
  rw [q] at p
  exact p.now S (.bl _)
theorem ev_isB {b : Bool} : OpR X (compareOp .Is) (fun x y H Q => y = .bl b ∧ rOp (.isB b) [x] H Q) := by
  intro pins s σ H x y v u Q I rx ry ⟨ey, w⟩
  obtain ⟨Z, ρ, h, a, d, S, r1, e, p⟩ := w.one rfl (by simp) (by simp) (by simp)
  clear w
  have e : (match look h a with | .bl a => some (D.bl (decide (a = b))) | _ => none) = some d := e
  split at e
  · rename_i c q
    cases e
    exact op_isBl pins s σ H _ _ v u Q I rx ry ⟨c, b, r1.blv q, ey, p.now S (.bl _)⟩
  · cases e
theorem ev_notB {b : Bool} : OpR X (compareOp .IsNot) (fun x y H Q => y = .bl b ∧ rOp (.notB b) [x] H Q) := by
  intro pins s σ H x y v u Q I rx ry ⟨ey, w⟩
  obtain ⟨Z, ρ, h, a, d, S, r1, e, p⟩ := w.one rfl (by simp) (by simp) (by simp)
  clear w
  have e : (match look h a with | .bl a => some (D.bl (!decide (a = b))) | _ => none) = some d := e
  split at e
  · rename_i c q
    cases e
    exact op_notBl pins s σ H _ _ v u Q I rx ry ⟨c, b, r1.blv q, ey, p.now S (.bl _)⟩
  · cases e

/-! ### dicts -/
theorem keyD_inj {a b : Key} (h : keyD a = keyD b) : a = b := by
  cases a <;> cases b <;> simp [keyD] at h <;> rw [h]
theorem keyDs_inj : ∀ {a b : List Key}, a.map keyD = b.map keyD → a = b
  | [], [], _ => rfl
  | [], _ :: _, h => by simp at h
  | _ :: _, [], h => by simp at h
  | x :: xs, y :: ys, h => by
    simp only [List.map_cons, List.cons.injEq] at h
    rw [keyD_inj h.1, keyDs_inj h.2]
theorem keyT_inj {a b : List Key} (h : keyT a = keyT b) : a = b := by
  unfold keyT at h
  injection h with h
  exact keyDs_inj h
theorem keyD_ne_T {a : Key} {b : List Key} : keyD a ≠ keyT b := by cases a <;> simp [keyD, keyT]
theorem isKeyD_of {d : D} (h : isKeyD d = true) : ∃ k, d = keyD k := by
  cases d <;> simp [isKeyD] at h
  · exact ⟨.inl _, rfl⟩
  · exact ⟨.inr _, rfl⟩
theorem keys_of : ∀ {ds : List D}, ds.all isKeyD = true → ∃ ks : List Key, ds = ks.map keyD
  | [], _ => ⟨[], rfl⟩
  | d :: ds, h => by
    simp only [List.all_cons, Bool.and_eq_true] at h
    obtain ⟨k, rfl⟩ := isKeyD_of h.1
    obtain ⟨ks, rfl⟩ := keys_of h.2
    exact ⟨k :: ks, rfl⟩
theorem isKeyT_of {d : D} (h : isKeyT d = true) : ∃ ks, d = keyT ks := by
  cases d <;> simp only [isKeyT] at h <;> first | cases h | skip
  obtain ⟨ks, rfl⟩ := keys_of h
  exact ⟨ks, rfl⟩
section
variable {H : Hp} {Z : Addr → Prop} {ρ : Nat → Addr} {n : Nat} {h : HpE}
theorem R.keyv {v : V} {k : Key} (r : R H Z ρ n v (keyD k)) : v = kV k := by
  cases k with
  | inl i => cases r; rfl
  | inr x => cases r; rfl
theorem RL.keysv : ∀ {vs : List V} {ks : List Key}, RL H Z ρ n vs (ks.map keyD) → vs = ks.map kV
  | [], [], _ => rfl
  | _, _ :: _, .cons r l => by rw [r.keyv, l.keysv]; rfl
theorem dget_cons {k d : D} {kvs : List (D × D)} {j : D} : dget ((k, d) :: kvs) j = if k = j then some d else dget kvs j := by
  unfold dget
  rw [List.find?_cons]
  by_cases q : k = j
  · simp [q]
  · simp [q]
theorem valV_cons {κ : Type} [DecidableEq κ] {k j : κ} {v : V} {kvs : List (κ × V)} : valV ((k, v) :: kvs) j = if k = j then some v else valV kvs j := by
  by_cases q : k = j
  · rw [valV_pos q, if_pos q]
  · rw [valV_neg q, if_neg q]
theorem RK.get : ∀ {ks : List (Key × V)} {kvs : List (D × D)} (k : Key), RK H Z ρ n ks kvs → (dget kvs (keyD k) = none ∧ valV ks k = none) ∨ ∃ d v, dget kvs (keyD k) = some d ∧ valV ks k = some v ∧ R H Z ρ n v d
  | _, _, _, .nil => .inl ⟨rfl, rfl⟩
  | _, _, j, .cons (k := k) r l => by
    rw [dget_cons, valV_cons]
    by_cases q : k = j
    · subst q
      rw [if_pos rfl, if_pos rfl]
      exact .inr ⟨_, _, rfl, rfl, r⟩
    · rw [if_neg q, if_neg fun z => q (keyD_inj z)]
      exact l.get j
end
end
end Ev

/-! Ev4: dicts read, membership, subscripts, built-ins by name. -/
namespace Ev
open PySem PySem.Spec PyProof.Rows L2
variable [KK]
section
variable {X : Cx} {pins : List (Addr × Obj)} {σ : L2.St} {H : Hp} {s : Shared} {Z : Addr → Prop} {ρ : Nat → Addr} {h : HpE} {n : Nat}
theorem keyD_plain (j : Key) : (∀ ds, keyD j ≠ .lst ds) ∧ (∀ ds, keyD j ≠ .dct ds) ∧ ∀ m, keyD j ≠ .ref m := by
  cases j <;> exact ⟨(fun _ q => by cases q), (fun _ q => by cases q), fun _ q => by cases q⟩
/-- a subscription of a built-in's, its item known -/
theorem tail_of {prog : Program} {w : World} {A : Around} {E : Value → Shared → Prop} {s : Shared} {value slice : Expr} {o i : Value} {T id : String} {Q : Value → Shared → Prop}
    (hT : s.TypeIs o T) (hl : typeLookup (.type T) "__getitem__" = pure (some (.builtin id))) (h : wpAny (model prog w) A (getItem o i) Q E s)
    (hs : subscripted slice false o i = operate [o, i] (getItem o i)) : wpAny (model prog w) A (subscriptTail value slice o i) Q E s := by
  unfold subscriptTail
  refine wpAny_bind ?_
  rw [getitemInPython_of_ne hT.not_modules]
  refine wpAny_bind (wpAny_specialOf hT hl ?_)
  have fin : wpAny (model prog w) A (subscripted slice false o i) (fun r s₃ => wpAny (model prog w) A (letTemporaryGo value o r >>= fun _ => pure r) Q E s₃) E s := by
    rw [hs]
    exact wpAny_operating (wpAny_mono h (fun r s₃ h₃ => wpAny_bind (wpAny_letTemporaryGo (wpAny_pure h₃))) fun _ _ x => x)
  first
    | exact wpAny_pure (wpAny_bind fin)
    | exact wpAny_bind (wpAny_pure (wpAny_bind fin))
    | exact wpAny_bind fin
theorem keysD_cons {k d : D} {kvs : List (D × D)} (e : ((k, d) :: kvs).all (fun kv => isKeyT kv.1) = true) : isKeyT k = true := by
  simp only [List.all_cons, Bool.and_eq_true] at e; exact e.1
/-- a dict with plain keys -/
theorem dk_any {a : Addr} {kvs : List (D × D)} (I : Inv X pins σ H s) (r : RD H Z ρ n a kvs) :
    ∃ ks vs, RK H Z ρ n ks kvs ∧ ks.length ≤ sizeLine ∧ (a == sysModules) = false ∧ KV ks vs ∧ s.heap.DictOf (mixKind X.prog X.w) a vs := by
  obtain ⟨ks, e, l⟩ := r
  obtain ⟨z, hd, vs, rel, dd⟩ := dk_of I.hok e
  exact ⟨ks, vs, l, z, hd, rel, dd⟩
theorem isSome_of {o : Option D} {q : Option V} {d : D} {v : V} (h : (o = none ∧ q = none) ∨ ∃ d v, o = some d ∧ q = some v ∧ R H Z ρ n v d) : o.isSome = q.isSome := by
  rcases h with ⟨rfl, rfl⟩ | ⟨_, _, rfl, rfl, _⟩ <;> rfl
/-- k in d, k not in d -/
theorem in_dict {neg : Bool} {x y : V} {v u : Value} {a b : D} {kvs : List (D × D)} {Q : VK} (hu : X.A.units + 1 < cLine) (I : Inv X pins σ H s) (S : Sim H Z ρ h) (rx : RelV x v) (ry : RelV y u) (r1 : R H Z ρ h.length x a) (r2 : R H Z ρ h.length y b)
    (ha : look h a = k0) (hb : look h b = .dct kvs) (hk : kOk kvs k0 = true) (q : Q (.bl (if neg then !(dget kvs k0).isSome else (dget kvs k0).isSome)) H) :
    wpAny (model X.prog X.w) X.A (compareOp (if neg then .NotIn else .In) v u) (EP X pins σ Q) X.xe s := by
  obtain ⟨p, rfl, rd⟩ := r2.dctv S hb
  cases ry
  obtain ⟨j, rfl⟩ := isKeyD_of hk
  · have ea : a = keyD j := look_of ha (keyD_plain j)
    subst ea
    have ex := r1.keyv
    subst ex
    obtain ⟨ks, vs, l, z, hd, rel, dd⟩ := dk_any I rd
    have e := isSome_of (d := .non) (v := .non) (l.get j)
    have e2 := (rel.val j).isSome_eq
    cases neg with
    | false =>
      refine wpAny_in_of (kV_is rx) hd dd.mapOf ?_
      rw [← e2, ← e]
      exact ⟨.bl _, H, I.tok _, rfl, q⟩
    | true =>
      refine wpAny_notIn_of (kV_is rx) hd dd.mapOf ?_
      rw [← e2, ← e]
      exact ⟨.bl _, H, I.tok _, rfl, q⟩
/-- d[k] -/
theorem get_dict {x y : V} {v u : Value} {a b d : D} {kvs : List (D × D)} {Q : VK} (hu : X.A.units + 1 < cLine) (I : Inv X pins σ H s) (S : Sim H Z ρ h) (rx : RelV x v) (ry : RelV y u) (r1 : R H Z ρ h.length x a) (r2 : R H Z ρ h.length y b)
    (ha : look h a = .dct kvs) (hb : look h b = k0) (hk : kOk kvs k0 = true) (hg : dget kvs k0 = some d) (q : ∀ z, R H Z ρ h.length z d → Q z H) :
    s.TypeIs v "dict" ∧ wpAny (model X.prog X.w) X.A (getItem v u) (EP X pins σ Q) X.xe s := by
  obtain ⟨p, rfl, rd⟩ := r1.dctv S ha
  cases rx
  obtain ⟨j, rfl⟩ := isKeyD_of hk
  · have ea : b = keyD j := look_of hb (keyD_plain j)
    subst ea
    have ex := r2.keyv
    subst ex
    obtain ⟨ks, vs, l, z, hd, rel, dd⟩ := dk_any I rd
    refine ⟨dd.typeIs, ?_⟩
    rcases l.get j with ⟨e, _⟩ | ⟨d', z', e1, e2, r⟩
    · rw [hg] at e; cases e
    · rw [hg] at e1; cases e1
      obtain ⟨w', hw, rw'⟩ := RelO.some_of (v := z') (o := valueAt vs j) (by rw [← e2]; exact rel.val j)
      exact wpAny_getItem_of (kV_is ry) dd.mapOf hw ⟨z', H, I.tok _, rw', q _ r⟩
end
section
variable {X : Cx}
theorem allFlat : ∀ {ys : List D}, ys.all flat64 = true → ∃ m, depL ys = some m ∧ m ≤ 60
  | [], _ => ⟨0, rfl, by omega⟩
  | y :: ys, e => by
    simp only [List.all_cons, Bool.and_eq_true] at e
    obtain ⟨a, ha, la⟩ := flat_dep e.1
    obtain ⟨b, hb, lb⟩ := allFlat e.2
    exact ⟨max a b, by unfold depL; rw [ha, hb], by omega⟩
theorem py_mem {x : D} {n : Nat} (hx : dep x = some n) : ∀ {ys : List D} {m : Nat}, depL ys = some m → ((pyL ys).any fun y => PyData.eqv y (py x)) = memD x ys
  | [], _, _ => rfl
  | y :: ys, m, e => by
    obtain ⟨a, b, h1, h2, _⟩ := depL_cons e
    unfold memD
    simp only [pyL, List.any_cons]
    rw [py_eqv y x a n h1 hx]
    have := py_mem hx h2
    unfold memD at this
    rw [this]
theorem ev_in {neg : Bool} {o : Op} {c : CmpOp} (hu : X.A.units + 64 < cLine) (ho : o = if neg then .notIn else .inn) (hc : c = if neg then .NotIn else .In) : OpR X (compareOp c) (fun x y H Q => rOp o [x, y] H Q) := by
  intro pins s σ H x y v u Q I rx ry w
  have hm : isMut o = false ∧ o ≠ .mkTup ∧ o ≠ .mkLst ∧ o ≠ .not := by subst ho; cases neg <;> exact ⟨rfl, by simp, by simp, by simp⟩
  obtain ⟨Z, ρ, h, a, b, d, S, r1, r2, e, p⟩ := w.two hm.1 hm.2.1 hm.2.2.1 hm.2.2.2
  clear w
  have e : oIn neg (look h a) (look h b) = some d := by subst ho; cases neg <;> exact e
  unfold oIn at e
  split at e
  · rename_i i j q1 q2
    cases e
    subst hc
    cases neg with
    | false => exact op_in_str pins s σ H _ _ v u Q I rx ry ⟨i, j, r1.strv q1, r2.strv q2, p.now S (.bl _)⟩
    | true => exact op_notin_str pins s σ H _ _ v u Q I rx ry ⟨i, j, r1.strv q1, r2.strv q2, by rw [Bool.not_not]; exact p.now S (.bl _)⟩
  · rename_i ys q2
    split at e
    · rename_i hf
      cases e
      obtain ⟨k, hk, lk⟩ := flat_dep hf.1
      obtain ⟨m, hm', lm⟩ := allFlat hf.2
      obtain ⟨a2, vs, rfl, s2, l2⟩ := r2.tupv q2
      have D1 := r1.dpv (K := X.K) S hk
      have D2 : Dp X.K H (.ref a2) (.tuple (pyL ys)) := .tup s2.sq (l2.dp hm')
      obtain ⟨as, R1⟩ := Dp.reads I _ _ v D1 rx
      obtain ⟨bs, R2⟩ := Dp.reads I _ _ u D2 ry
      obtain ⟨p1, p2⟩ := py_depth _ _ hk
      obtain ⟨p3, p4⟩ := pyL_depth _ _ hm'
      have hroom : X.A.units + 1 + min (PyData.depthAll (pyL ys)) (py (look h a)).depth < cLine := by rw [p1, p3]; omega
      subst hc
      cases neg with
      | false => exact SeqAt.in_tuple_reads R2 R1 p4 p2 hroom (by rw [py_mem hk hm']; exact ⟨.bl _, H, I, rfl, p.now S (.bl _)⟩)
      | true => exact SeqAt.notIn_tuple_reads R2 R1 p4 p2 hroom (by rw [py_mem hk hm']; exact ⟨.bl _, H, I, rfl, p.now S (.bl _)⟩)
    · cases e
  · rename_i ys q2
    split at e
    · rename_i hf
      cases e
      obtain ⟨k, hk, lk⟩ := flat_dep hf.1
      obtain ⟨m, hm', lm⟩ := allFlat hf.2
      obtain ⟨a2, vs, rfl, s2, l2⟩ := r2.lstv S q2
      have D1 := r1.dpv (K := X.K) S hk
      have D2 : Dp X.K H (.ref a2) (.list (pyL ys)) := .lst (.inl s2) (l2.dp hm')
      obtain ⟨as, R1⟩ := Dp.reads I _ _ v D1 rx
      obtain ⟨bs, R2⟩ := Dp.reads I _ _ u D2 ry
      obtain ⟨p1, p2⟩ := py_depth _ _ hk
      obtain ⟨p3, p4⟩ := pyL_depth _ _ hm'
      have hroom : X.A.units + 1 + min (PyData.depthAll (pyL ys)) (py (look h a)).depth < cLine := by rw [p1, p3]; omega
      subst hc
      cases neg with
      | false => exact SeqAt.in_list_reads R2 R1 p4 p2 hroom (by rw [py_mem hk hm']; exact ⟨.bl _, H, I, rfl, p.now S (.bl _)⟩)
      | true => exact SeqAt.notIn_list_reads R2 R1 p4 p2 hroom (by rw [py_mem hk hm']; exact ⟨.bl _, H, I, rfl, p.now S (.bl _)⟩)
    · cases e
  · rename_i kvs q2
    split at e
    · rename_i hk
      cases e
      subst hc
      exact in_dict (by omega) I S rx ry r1 r2 rfl q2 hk (p.now S (.bl _))
    · cases e
  · cases e
/-- x in a tuple of the module's own -/
theorem ev_inG {neg : Bool} {ds : List D} {c : CmpOp} {g : Addr} {vs : List V} (hu : X.A.units + 64 < cLine) (hc : c = if neg then .NotIn else .In) (hK : ∀ H, SqT X.K H g vs) (hv : ∀ H, DpAll X.K H vs (pyL ds)) : OpR X (compareOp c) (fun x y H Q => y = .ref g ∧ rOp (.inG neg ds) [x] H Q) := by
  intro pins s σ H x y v u Q I rx ry ⟨ey, w⟩
  obtain ⟨Z, ρ, h, a, d, S, r1, e, p⟩ := w.one rfl (by simp) (by simp) (by simp)
  clear w
  subst ey
  have e : oIn neg (look h a) (.tup ds) = some d := e
  have e : (if flat64 (look h a) = true ∧ ds.all flat64 = true then some (D.bl (if neg then !memD (look h a) ds else memD (look h a) ds)) else none) = some d := by
    unfold oIn at e
    revert e
    cases look h a <;> exact id
  split at e
  · rename_i hf
    cases e
    obtain ⟨k, hk, lk⟩ := flat_dep hf.1
    obtain ⟨m, hm', lm⟩ := allFlat hf.2
    have D1 := r1.dpv (K := X.K) S hk
    have D2 : Dp X.K H (.ref g) (.tuple (pyL ds)) := .tup (hK H) (hv H)
    obtain ⟨as, R1⟩ := Dp.reads I _ _ v D1 rx
    obtain ⟨bs, R2⟩ := Dp.reads I _ _ u D2 ry
    obtain ⟨p1, p2⟩ := py_depth _ _ hk
    obtain ⟨p3, p4⟩ := pyL_depth _ _ hm'
    have hroom : X.A.units + 1 + min (PyData.depthAll (pyL ds)) (py (look h a)).depth < cLine := by rw [p1, p3]; omega
    subst hc
    cases neg with
    | false => exact SeqAt.in_tuple_reads R2 R1 p4 p2 hroom (by rw [py_mem hk hm']; exact ⟨.bl _, H, I, rfl, p.now S (.bl _)⟩)
    | true => exact SeqAt.notIn_tuple_reads R2 R1 p4 p2 hroom (by rw [py_mem hk hm']; exact ⟨.bl _, H, I, rfl, p.now S (.bl _)⟩)
  · cases e

/-! ### subscripts -/
theorem ixN_eq (n : Nat) (i : Int) : Ev.ixN n i = L2.ixN n i := rfl
theorem atI_of {vs : List V} {ds : List D} {i : Int} {d : D} {H : Hp} {Z : Addr → Prop} {ρ : Nat → Addr} {n : Nat} (l : RL H Z ρ n vs ds) (e : ((Ev.ixN ds.length i).bind fun j => ds[j]?) = some d) : ∃ z, atI vs i = some z ∧ R H Z ρ n z d := by
  obtain ⟨j, h1, h2⟩ := Option.bind_eq_some_iff.mp e
  obtain ⟨z, h3, r⟩ := l.get h2
  refine ⟨z, ?_, r⟩
  unfold atI
  rw [l.length, ← ixN_eq, h1]
  exact h3
theorem ev_ix (hK : X.K = KK.K) (hu : X.A.units + 64 < cLine) : IxR X (fun x y H Q => rOp .ix [x, y] H Q) := by
  intro value slice pins s σ H x y v u Q I rx ry w hs
  obtain ⟨Z, ρ, h, a, b, d, S, r1, r2, e, p⟩ := w.two rfl (by decide) (by decide) (by decide)
  clear w
  have e : oIx (look h a) (look h b) = some d := e
  unfold oIx at e
  split at e
  · rename_i xs i q1 q2
    obtain ⟨a1, vs, rfl, s1, l1⟩ := r1.tupv q1
    obtain ⟨z, hz, rz⟩ := atI_of l1 e
    exact ix_tup value slice pins s σ H _ _ v u Q I rx ry ⟨a1, vs, i, z, rfl, r2.intv q2, s1.sq, hz, p.now S rz⟩ hs
  · rename_i xs i q1 q2
    obtain ⟨a1, vs, rfl, s1, l1⟩ := r1.lstv S q1
    obtain ⟨z, hz, rz⟩ := atI_of l1 e
    exact ix_list value slice pins s σ H _ _ v u Q I rx ry ⟨a1, vs, i, z, rfl, r2.intv q2, .inl s1, hz, p.now S rz⟩ hs
  · rename_i x' i q1 q2
    split at e
    · rename_i hz
      obtain ⟨c, hc, e⟩ := Option.map_eq_some_iff.mp e
      subst e
      refine ix_str value slice pins s σ H _ _ v u Q I rx ry ⟨x', i, c, r1.strv q1, r2.intv q2, hz, ?_, p.now S (.str _)⟩ hs
      unfold atI
      rw [← ixN_eq, Array.length_toList]
      exact hc
    · cases e
  · rename_i xs i q1 q2
    obtain ⟨a1, rfl, s1⟩ := r1.scrv q1
    obtain ⟨j, h1, h2⟩ := Option.bind_eq_some_iff.mp e
    obtain ⟨z, h3, h4⟩ := Option.map_eq_some_iff.mp h2
    subst h4
    refine ix_list value slice pins s σ H _ _ v u Q I rx ry ⟨a1, _, i, .int z, rfl, r2.intv q2, by rw [hK]; exact s1, ?_, p.now S (.int _)⟩ hs
    unfold atI
    rw [List.length_map, ← ixN_eq, h1]
    show (xs.map V.int)[j]? = some (.int z)
    rw [List.getElem?_map, h3]; rfl
  · rename_i kvs hne q1
    split at e
    · rename_i hk
      obtain ⟨ht, hg⟩ := get_dict (X := X) (Q := Q) (by omega) I S rx ry r1 r2 q1 rfl hk e (fun z rz => p.now S rz)
      exact tail_of ht PySem.F.slot_dict_getitem.lookup hg hs
    · cases e
  · cases e
end
end Ev

/-! Ev5: built-ins by name, displays, slices, stores. -/
namespace Ev
open PySem PySem.Spec PyProof.Rows L2
variable [KK]
section
variable {X : Cx}
theorem ev_len (hK : X.K = KK.K) : CallR X (.builtin "len") (fun vs H Q => ∃ x, vs = [x] ∧ rOp .len [x] H Q) := by
  intro pins s σ H vs us Q I r w
  obtain ⟨x, rfl, w⟩ := w
  obtain ⟨Z, ρ, h, a, d, S, r1, e, p⟩ := w.one rfl (by decide) (by decide) (by decide)
  clear w
  have e : oLen (look h a) = some d := e
  unfold oLen at e
  split at e
  · rename_i y q
    split at e
    · cases e
      exact call_len_str pins s σ H _ us Q I r ⟨y, by rw [r1.strv q], by assumption, p.now S (.int _)⟩
    · cases e
  · rename_i xs q
    cases e
    obtain ⟨a1, vs, rfl, s1, l1⟩ := r1.tupv q
    exact call_len_seq pins s σ H _ us Q I r ⟨a1, vs, rfl, .inr s1.sq, by rw [l1.length]; exact p.now S (.int _)⟩
  · rename_i xs q
    cases e
    obtain ⟨a1, vs, rfl, s1, l1⟩ := r1.lstv S q
    exact call_len_seq pins s σ H _ us Q I r ⟨a1, vs, rfl, .inl (.inl s1), by rw [l1.length]; exact p.now S (.int _)⟩
  · rename_i xs q
    cases e
    obtain ⟨a1, rfl, s1⟩ := r1.scrv q
    exact call_len_seq pins s σ H _ us Q I r ⟨a1, _, rfl, .inl (by rw [hK]; exact s1), by rw [List.length_map]; exact p.now S (.int _)⟩
  · cases e
def tyN : Ty → String
  | .int => "int" | .bool => "bool" | .str => "str" | .tuple => "tuple" | .list => "list"
theorem kit_non {K : PySem.W.Frag} {t : Ty} : PySem.W.kitOne K (.type "NoneType") (.type (tyN t)) = some false := by cases t <;> exact kit_ty (by decide +kernel)
theorem kit_bl {K : PySem.W.Frag} {t : Ty} : PySem.W.kitOne K (.type "bool") (.type (tyN t)) = some (t == .int || t == .bool) := by cases t <;> exact kit_ty (by decide +kernel)
theorem kit_int {K : PySem.W.Frag} {t : Ty} : PySem.W.kitOne K (.type "int") (.type (tyN t)) = some (t == .int) := by cases t <;> exact kit_ty (by decide +kernel)
theorem kit_str {K : PySem.W.Frag} {t : Ty} : PySem.W.kitOne K (.type "str") (.type (tyN t)) = some (t == .str) := by cases t <;> exact kit_ty (by decide +kernel)
theorem kit_tup {K : PySem.W.Frag} {t : Ty} : PySem.W.kitOne K (.type "tuple") (.type (tyN t)) = some (t == .tuple) := by cases t <;> exact kit_ty (by decide +kernel)
theorem kit_lst {K : PySem.W.Frag} {t : Ty} : PySem.W.kitOne K (.type "list") (.type (tyN t)) = some (t == .list) := by cases t <;> exact kit_ty (by decide +kernel)
theorem cls_ty {t : Ty} : ClsV (.ty (tyN t)) (.type (tyN t)) := by cases t <;> exact .ty _
theorem ev_isi {t : Ty} : CallR X (.builtin "isinstance") (fun vs H Q => ∃ x, vs = [x, .ty (tyN t)] ∧ rOp (.isi t) [x] H Q) := by
  intro pins s σ H vs us Q I r w
  obtain ⟨x, rfl, w⟩ := w
  obtain ⟨Z, ρ, h, a, d, S, r1, e, p⟩ := w.one rfl (by simp) (by simp) (by simp)
  clear w
  have e : oIsi t (look h a) = some d := e
  unfold oIsi at e
  split at e
  · rename_i q
    cases e
    exact call_isi pins s σ H _ us Q I r ⟨x, _, _, _, _, rfl, cls_ty, by rw [r1.nonv q]; exact .base .non, kit_non, p.now S (.bl _)⟩
  · rename_i b q
    cases e
    exact call_isi pins s σ H _ us Q I r ⟨x, _, _, _, _, rfl, cls_ty, by rw [r1.blv q]; exact .base (.bl _), kit_bl, p.now S (.bl _)⟩
  · rename_i b q
    cases e
    exact call_isi pins s σ H _ us Q I r ⟨x, _, _, _, _, rfl, cls_ty, by rw [r1.intv q]; exact .base (.int _), kit_int, p.now S (.bl _)⟩
  · rename_i b q
    cases e
    exact call_isi pins s σ H _ us Q I r ⟨x, _, _, _, _, rfl, cls_ty, by rw [r1.strv q]; exact .base (.str _), kit_str, p.now S (.bl _)⟩
  · rename_i xs q
    cases e
    obtain ⟨a1, vs, rfl, ⟨us1, s1⟩, l1⟩ := r1.tupv q
    exact call_isi pins s σ H _ us Q I r ⟨_, _, _, _, _, rfl, cls_ty, .fTuple s1, kit_tup, p.now S (.bl _)⟩
  · rename_i xs q
    cases e
    obtain ⟨a1, vs, rfl, s1, l1⟩ := r1.lstv S q
    have ty : TyX X.K H (.ref a1) (.type "list") := by
      rcases s1 with s1 | ⟨o, s1⟩
      · exact .base (.lst s1)
      · exact .base (.frz s1)
    exact call_isi pins s σ H _ us Q I r ⟨_, _, _, _, _, rfl, cls_ty, ty, kit_lst, p.now S (.bl _)⟩
  · cases e
theorem bls_of {H : Hp} {Z : Addr → Prop} {ρ : Nat → Addr} {n : Nat} : ∀ {ds : List D} {vs : List V} {bs : List Bool}, bls? ds = some bs → RL H Z ρ n vs ds → vs = bs.map V.bl
  | [], _, bs, e, l => by cases e; cases l; rfl
  | d :: ds, _, bs, e, .cons r l => by
    cases d <;> first | (simp [bls?] at e; done) | skip
    unfold bls? at e
    obtain ⟨bs', e', rfl⟩ := Option.map_eq_some_iff.mp e
    rw [bls_of e' l]
    cases r
    rfl
theorem ints_of {H : Hp} {Z : Addr → Prop} {ρ : Nat → Addr} {n : Nat} : ∀ {ds : List D} {vs : List V} {bs : List Int}, ints? ds = some bs → RL H Z ρ n vs ds → vs = bs.map V.int
  | [], _, bs, e, l => by cases e; cases l; rfl
  | d :: ds, _, bs, e, .cons r l => by
    cases d <;> first | (simp [ints?] at e; done) | skip
    unfold ints? at e
    obtain ⟨bs', e', rfl⟩ := Option.map_eq_some_iff.mp e
    rw [ints_of e' l]
    cases r
    rfl
theorem ev_all (hc : X.calm = true) : CallR X (.builtin "all") (fun vs H Q => ∃ x, vs = [x] ∧ rOp .all [x] H Q) := by
  intro pins s σ H vs us Q I r w
  obtain ⟨x, rfl, w⟩ := w
  obtain ⟨Z, ρ, h, a, d, S, r1, e, p⟩ := w.one rfl (by decide) (by decide) (by decide)
  clear w
  have e : oAll (look h a) = some d := e
  unfold oAll at e
  split at e
  · rename_i xs q
    obtain ⟨bs, e', rfl⟩ := Option.map_eq_some_iff.mp e
    obtain ⟨a1, vs, rfl, s1, l1⟩ := r1.lstv S q
    have ev := bls_of e' l1
    subst ev
    exact cr_all hc pins s σ H _ us Q I r ⟨a1, bs, rfl, .inl s1, p.now S (.bl _)⟩
  · cases e
theorem ev_any (hc : X.calm = true) : CallR X (.builtin "any") (fun vs H Q => ∃ x, vs = [x] ∧ rOp .any [x] H Q) := by
  intro pins s σ H vs us Q I r w
  obtain ⟨x, rfl, w⟩ := w
  obtain ⟨Z, ρ, h, a, d, S, r1, e, p⟩ := w.one rfl (by decide) (by decide) (by decide)
  clear w
  have e : oAny (look h a) = some d := e
  unfold oAny at e
  split at e
  · rename_i xs q
    obtain ⟨bs, e', rfl⟩ := Option.map_eq_some_iff.mp e
    obtain ⟨a1, vs, rfl, s1, l1⟩ := r1.lstv S q
    have ev := bls_of e' l1
    subst ev
    exact cr_any hc pins s σ H _ us Q I r ⟨a1, bs, rfl, .inl s1, p.now S (.bl _)⟩
  · cases e
theorem ev_tupleOf : CallR X (.type "tuple") (fun vs H Q => ∃ x, vs = [x] ∧ rOp .tupleOf [x] H Q) := by
  intro pins s σ H vs us Q I r w
  obtain ⟨x, rfl, w⟩ := w
  obtain ⟨Z, ρ, h, a, d, S, r1, e, p⟩ := w.one rfl (by decide) (by decide) (by decide)
  clear w
  have e : oTuple (look h a) = some d := e
  unfold oTuple at e
  obtain ⟨u, rfl, rx⟩ := vals1 r
  split at e
  · rename_i xs q
    cases e
    obtain ⟨a1, vs, rfl, s1, l1⟩ := r1.lstv S q
    cases rx
    obtain ⟨its, r', pl, hz⟩ := I.list (SqL.rd (K := X.K) s1)
    have hlen := r'.length
    refine call_tuple_list pl.isList (fun h' kp => ?_) (by simp only [List.size_toArray] <;> omega)
    have I1 : Inv X pins σ H { s with heap := h' } := I.kept (t' := s.toks) kp
    exact ⟨.ref h'.objs.size, _, tup_new I1 r' hz, rfl, p.new S I1.fresh (S.newT I1.fresh l1)⟩
  · rename_i xs q
    cases e
    obtain ⟨a1, vs, rfl, s1, l1⟩ := r1.tupv q
    cases rx
    obtain ⟨its, r', pl, hz⟩ := I.tuple (TupAt.sq (K := X.K) s1)
    exact call_tuple_same pl ⟨.ref a1, H, I, rfl, p.now S (.tup s1 l1)⟩
  · cases e
theorem ev_listOf : CallR X (.type "list") (fun vs H Q => ∃ x, vs = [x] ∧ rOp .listOf [x] H Q) := by
  intro pins s σ H vs us Q I r w
  obtain ⟨x, rfl, w⟩ := w
  obtain ⟨Z, ρ, h, a, d, S, r1, e, p⟩ := w.one rfl (by decide) (by decide) (by decide)
  clear w
  have e : oList (look h a) = some d := e
  unfold oList at e
  split at e
  · rename_i xs q
    cases e
    obtain ⟨a1, vs, rfl, s1, l1⟩ := r1.lstv S q
    exact call_list_of pins s σ H _ us Q I r ⟨a1, vs, rfl, .inl (.inl s1), fun l hl => p.new S hl (S.newL hl l1)⟩
  · rename_i xs q
    cases e
    obtain ⟨a1, vs, rfl, s1, l1⟩ := r1.tupv q
    exact call_list_of pins s σ H _ us Q I r ⟨a1, vs, rfl, .inr s1.sq, fun l hl => p.new S hl (S.newL hl l1)⟩
  · cases e
theorem ev_intOf : CallR X (.type "int") (fun vs H Q => ∃ x, vs = [x] ∧ rOp .intOf [x] H Q) := by
  intro pins s σ H vs us Q I r w
  obtain ⟨x, rfl, w⟩ := w
  obtain ⟨Z, ρ, h, a, d, S, r1, e, p⟩ := w.one rfl (by decide) (by decide) (by decide)
  clear w
  have e : oIntOf (look h a) = some d := e
  unfold oIntOf at e
  split at e
  · rename_i i q
    cases e
    exact call_int1 pins s σ H _ us Q I r (.inl ⟨i, by rw [r1.intv q], p.now S (.int _)⟩)
  · rename_i i q
    cases e
    exact call_int1 pins s σ H _ us Q I r (.inr ⟨i, by rw [r1.blv q], p.now S (.int _)⟩)
  · cases e
theorem ev_strOf : CallR X (.type "str") (fun vs H Q => ∃ x, vs = [x] ∧ rOp .strOf [x] H Q) := by
  intro pins s σ H vs us Q I r w
  obtain ⟨x, rfl, w⟩ := w
  obtain ⟨Z, ρ, h, a, d, S, r1, e, p⟩ := w.one rfl (by decide) (by decide) (by decide)
  clear w
  have e : oStrOf (look h a) = some d := e
  unfold oStrOf at e
  split at e
  · rename_i i q
    split at e
    · cases e
      exact call_str_int pins s σ H _ us Q I r ⟨i, by rw [r1.intv q], by assumption, p.now S (.str _)⟩
    · cases e
  · cases e

/-! ### displays -/
theorem ev_mkTup {es : List Expr} {t : TA} {x1 pos} (h : PA X es t) : PE X (.Tuple es x1 pos) (fun σ H Q => t σ H fun vs H1 => rOp .mkTup vs H1 Q) := by
  refine ⟨fun pins s σ H Q I hq => ?_⟩
  refine wpAny_Tuple_spliced (thn (h.run pos pins s σ H _ I hq) fun us s1 ⟨vs, H1, I1, r, w⟩ => ?_)
  obtain ⟨Z, ρ, hh, ds, S, l, p⟩ := w
  have hz : ds.length ≤ sz ∧ Post Z H1 ρ hh (.ok (.tup ds) hh) Q := by
    have p' : Post Z H1 ρ hh (match (if ds.length ≤ sz then some (D.tup ds) else none) with | some d => .ok d hh | none => .stuck) Q := p
    split at p'
    · rename_i d e
      split at e
      · cases e; exact ⟨by assumption, p'⟩
      · cases e
    · exact p'.elim
  have hz' : vs.length ≤ sizeLine := by rw [l.length]; exact hz.1
  exact ⟨by rw [← r.length]; exact hz', .ref s1.heap.objs.size, _, tup_new I1 r hz', rfl, hz.2.new S I1.fresh (S.newT I1.fresh l)⟩
theorem ev_mkLst {es : List Expr} {t : TA} {pos} (h : PA X es t) : PE X (.List es pos) (fun σ H Q => t σ H fun vs H1 => rOp .mkLst vs H1 Q) := by
  refine ⟨fun pins s σ H Q I hq => ?_⟩
  refine wpAny_List_spliced (thn (h.run pos pins s σ H _ I hq) fun us s1 ⟨vs, H1, I1, r, w⟩ => ?_)
  obtain ⟨Z, ρ, hh, ds, S, l, p⟩ := w
  have hz : ds.length ≤ sz ∧ Post Z H1 ρ hh (.ok (.lst ds) hh) Q := by
    have p' : Post Z H1 ρ hh (match (if ds.length ≤ sz then some (D.lst ds) else none) with | some d => .ok d hh | none => .stuck) Q := p
    split at p'
    · rename_i d e
      split at e
      · cases e; exact ⟨by assumption, p'⟩
      · cases e
    · exact p'.elim
  have hz' : vs.length ≤ sizeLine := by rw [l.length]; exact hz.1
  refine ⟨by rw [← r.length]; exact hz', .ref s1.heap.objs.size, upd H1 s1.heap.objs.size (.lst vs), I1.laid (t' := s1.toks) (fun b u e => Heap.get?_push_of_some _ e) (Nat.le_refl _) ?_, rfl, hz.2.new S I1.fresh (S.newL I1.fresh l)⟩
  exact ⟨hz', us, 0, r, Heap.get?_push_size _ rfl⟩

/-! ### slices -/
theorem sIx_eq (n d : Nat) (o : Option Int) : Ev.sIx n d o = HT.sIx n d o := by cases o <;> rfl
theorem RL.cut {H : Hp} {Z : Addr → Prop} {ρ : Nat → Addr} {n : Nat} {vs : List V} {ds : List D} (lo hi : Option Int) (l : RL H Z ρ n vs ds) : RL H Z ρ n (cutV vs lo hi) (Ev.cut ds lo hi) := by
  unfold cutV Ev.cut
  rw [sIx_eq, sIx_eq, l.length]
  exact (l.drop _).take _
def rSl (x : V) (lo hi : Option Int) (H : Hp) (Q : VK) : Prop := ∃ Z ρ h a d, Sim H Z ρ h ∧ R H Z ρ h.length x a ∧ oSl (look h a) lo hi = some d ∧ Post Z H ρ h (.ok d h) Q
theorem cutV_whole {α : Type} {xs : List α} {lo hi : Option Int} (hw : HT.sIx xs.length 0 lo = 0 ∧ HT.sIx xs.length xs.length hi = xs.length) : (xs.drop (HT.sIx xs.length 0 lo)).take (HT.sIx xs.length xs.length hi - HT.sIx xs.length 0 lo) = xs := by
  rw [hw.1, hw.2, List.drop_zero, Nat.sub_zero, List.take_length]
theorem ev_sl : SlR X rSl := by
  intro pins s σ H x v vl vu lo hi sl Q I rx hs pl pu w
  obtain ⟨Z, ρ, h, a, d, S, r1, e, p⟩ := w
  unfold oSl at e
  split at e
  · rename_i xs q
    cases e
    obtain ⟨a1, vs, rfl, s1, l1⟩ := r1.tupv q
    cases rx
    obtain ⟨its, r, ht, hz⟩ := I.tuple (TupAt.sq (K := X.K) s1)
    have hlen : its.toArray.size = vs.length := by rw [List.size_toArray]; exact r.length.symm
    refine ⟨"tuple", _, PyProof.Rows.slot_tuple_getitem.lookup, ht.typeIs, ?_⟩
    by_cases hw : HT.sIx vs.length 0 lo = 0 ∧ HT.sIx vs.length vs.length hi = vs.length
    · refine getItem_tuple_whole ht hs pl pu (by rw [hlen]; exact hw) ⟨.ref a1, H, I, rfl, ?_⟩
      refine p.now S (.tup s1 ?_)
      have := l1.cut lo hi
      rwa [show cutV vs lo hi = vs from cutV_whole hw] at this
    · refine HT.getItem_tuple_cut ht hs pl pu (by rw [hlen]; exact hw) ?_ (by rw [hlen]; exact hz)
      rw [hlen]
      refine ⟨.ref s.heap.objs.size, _, tup_new I (vs := cutV vs lo hi) ((r.drop (HT.sIx vs.length 0 lo)).take (HT.sIx vs.length vs.length hi - HT.sIx vs.length 0 lo)) (Nat.le_trans (cutV_length vs lo hi) hz), rfl, p.new S I.fresh (S.newT I.fresh (l1.cut lo hi))⟩
  · rename_i xs q
    cases e
    obtain ⟨a1, vs, rfl, s1, l1⟩ := r1.lstv S q
    exact sl_list pins s σ H _ v vl vu lo hi sl Q I rx hs pl pu ⟨a1, vs, rfl, .inl s1, fun l hl => p.new S hl (S.newL hl (l1.cut lo hi))⟩
  · rename_i y q
    split at e
    · cases e
      refine sl_str pins s σ H _ v vl vu lo hi sl Q I rx hs pl pu ⟨y, r1.strv q, by assumption, ?_⟩
      have e : cutS y lo hi = ⟨(Ev.cut y.cps.toList lo hi).toArray⟩ := by
        unfold cutS Ev.cut
        rw [sIx_eq, sIx_eq, Array.length_toList]
        rfl
      rw [e]
      exact p.now S (.str _)
    · cases e
  · cases e
/-- x[::-1] of a tuple -/
theorem adjust_rev (n : Nat) : Builtin.Slice.sliceAdjust none none (-1) (n : Int) = ((n : Int) - 1, -1) := by
  unfold Builtin.Slice.sliceAdjust
  simp
theorem places_rev (n : Nat) : Builtin.Slice.slicePlaces ((n : Int) - 1) (-1) (-1) = n := by
  unfold Builtin.Slice.slicePlaces
  have h1 : ¬ ((-1 : Int) > 0) := by omega
  simp only [h1, if_false]
  by_cases h : (-1 : Int) < (n : Int) - 1
  · simp [h]
  · have : n = 0 := by omega
    subst this
    simp
theorem fmap_congr {α β : Type} {f g : α → Option β} : ∀ {l : List α}, (∀ a ∈ l, f a = g a) → l.filterMap f = l.filterMap g
  | [], _ => rfl
  | a :: l, h => by
    rw [List.filterMap_cons, List.filterMap_cons, h a List.mem_cons_self, fmap_congr fun b hb => h b (List.mem_cons_of_mem _ hb)]
theorem rev_pick (xs : Array Value) : ((List.range xs.size).filterMap fun (m : Nat) => xs[(((xs.size : Nat) : Int) - 1 + (m : Int) * (-1)).toNat]?).toArray = xs.toList.reverse.toArray := by
  have h1 := PySem.W.krv_all xs
  have e : (List.range xs.size).filterMap (fun (m : Nat) => xs[(((xs.size : Nat) : Int) - 1 + (m : Int) * (-1)).toNat]?) = ((List.range xs.size).map fun k => xs.size - 1 - k).filterMap (xs[·]?) := by
    rw [List.filterMap_map]
    refine fmap_congr fun m hm => ?_
    have := List.mem_range.mp hm
    have e2 : (((xs.size : Nat) : Int) - 1 + (m : Int) * (-1)).toNat = xs.size - 1 - m := by omega
    show xs[(((xs.size : Nat) : Int) - 1 + (m : Int) * (-1)).toNat]? = xs[xs.size - 1 - m]?
    rw [e2]
  rw [e, PySem.W.krv_range, List.filterMap_reverse, h1]
theorem getItem_tuple_rev {prog : Program} {w : World} {A : Around} {E : Value → Shared → Prop} {s : Shared} {t sl : Addr} {items : Array Value} {k : Tok} {Q : Value → Shared → Prop} (ht : IsTup s.heap t items) (hs : s.heap.IsSliceOf sl .none .none (.int (-1) k))
    (h : Q (.ref s.heap.objs.size) { s with heap := s.heap.push (tob items.toList.reverse) })
    (hsz : items.size ≤ sizeLine) : wpAny (model prog w) A (getItem (.ref t) (.ref sl)) Q E s := by
  have htake : sizeOk (.seq items.toList.reverse.toArray) := by
    show items.toList.reverse.toArray.size ≤ sizeLine
    rw [List.size_toArray, List.length_reverse, Array.length_toList]
    exact hsz
  obtain ⟨os, hos, hcs, hds⟩ := id hs
  have hTs : s.TypeIs (.ref sl) "slice" := ⟨os, hos, hcs⟩
  unfold getItem
  try with_reducible refine wpAny_holding ?_
  first | refine wpAny_bind (wpAny_pure ?_) | skip
  refine wpAny_bind (wpAny_sequenceKey ht.typeIs (by decide) ?_)
  refine wpAny_bind (wpAny_callSpecial?_slot (name := Str.ofString "__getitem__") ht.typeIs PyProof.Rows.slot_tuple_getitem
    (wpAny_call_entry PyProof.Rows.slot_tuple_getitem ht.typeIs entry_tuple_getitem ?_ (args_tuple_getitem _ _)))
  show wpAny _ _ (Builtin.Tuple.tupleItemsOf (.ref t) >>= _) _ _ s
  refine wpAny_bind (tupleItemsOf_ ht ?_)
  refine wpAny_bind (wpAny_typeOf hTs ?_)
  rw [if_pos (by decide)]
  have sa : ∀ {A : Around} {E : Value → Shared → Prop} {Q : Int × Int × Nat → Shared → Prop}, Q ((items.size : Int) - 1, -1, items.size) s → wpAny (model prog w) A (Builtin.Slice.sliceApplied (.ref sl) (pure (items.size : Int))) Q E s := fun {A E Q} hQ => by
    unfold Builtin.Slice.sliceApplied Builtin.Slice.sliceFields
    refine wpAny_bind (wpAny_bind (wpAny_field hos hds (x := .none) rfl (wpAny_bind (wpAny_field hos hds (x := .none) rfl (wpAny_bind (wpAny_field hos hds (x := .int (-1) k) rfl (wpAny_pure ?_)))))))
    refine wpAny_bind (slicePart_int ?_)
    show wpAny _ _ (if ((-1 : Int) == 0) = true then _ else _) _ _ s
    rw [if_neg (by decide)]
    refine wpAny_bind (slicePart_none (wpAny_bind (slicePart_none (wpAny_bind (wpAny_pure ?_)))))
    show wpAny _ _ (match Builtin.Slice.sliceAdjust none none (-1) (items.size : Int) with | (lo, hi) => pure (lo, (-1 : Int), Builtin.Slice.slicePlaces lo hi (-1))) _ _ s
    rw [adjust_rev]
    show wpAny _ _ (pure ((items.size : Int) - 1, (-1 : Int), Builtin.Slice.slicePlaces ((items.size : Int) - 1) (-1) (-1))) _ _ s
    rw [places_rev]
    exact wpAny_pure hQ
  refine wpAny_bind (sa ?_)
  have hno : ¬ (((items.size : Int) - 1 == 0 && (-1 : Int) == 1 && items.size == items.size) = true) := by
    intro q
    rw [Bool.and_eq_true, Bool.and_eq_true] at q
    exact absurd q.1.2 (by decide)
  show wpAny _ _ (if ((items.size : Int) - 1 == 0 && (-1 : Int) == 1 && items.size == items.size) = true then _ else _) _ _ s
  rw [if_neg hno, rev_pick]
  first
    | exact wpAny_bind (m := Builtin.Tuple.tupleExact _) (wpAny_newObj_type (wpAny_pure ⟨_, rfl, wpAny_pure h⟩) htake)
    | exact wpAny_bind (m := Builtin.Tuple.tupleExact _) (wpAny_newObj_type (wpAny_bind (wpAny_pure (wpAny_pure ⟨_, rfl, wpAny_pure h⟩))) htake)
    | exact wpAny_bind (wpAny_bind (m := Builtin.Tuple.tupleExact _) (wpAny_newObj_type (wpAny_pure (wpAny_pure ⟨_, rfl, wpAny_pure h⟩)) htake))
    | exact wpAny_bind (wpAny_bind (m := Builtin.Tuple.tupleExact _) (wpAny_newObj_type (wpAny_pure ⟨_, rfl, wpAny_pure h⟩) htake))
end
end Ev

/-! Ev6: dict(pairs), sorted(set(ints)), the stores. -/
namespace Ev
open PySem PySem.Spec PyProof.Rows L2
variable [KK]
section
variable {H : Hp} {Z : Addr → Prop} {ρ : Nat → Addr} {n : Nat} {h : HpE}
theorem RK.any : ∀ {ks : List (Key × V)} {kvs : List (D × D)} (k : Key), RK H Z ρ n ks kvs → (ks.any fun kv => decide (kv.1 = k)) = (kvs.any fun kv => decide (kv.1 = keyD k))
  | _, _, _, .nil => rfl
  | _, _, j, .cons (k := k) r l => by
    rw [List.any_cons, List.any_cons, l.any j]
    congr 1
    by_cases q : k = j
    · rw [decide_eq_true (by exact q), decide_eq_true (by show keyD k = keyD j; rw [q])]
    · rw [decide_eq_false (by exact q), decide_eq_false (by show ¬ keyD k = keyD j; exact fun z => q (keyD_inj z))]
theorem RK.repl : ∀ {ks : List (Key × V)} {kvs : List (D × D)} (k : Key) {v : V} {d : D}, RK H Z ρ n ks kvs → R H Z ρ n v d →
    RK H Z ρ n (ks.map fun kv => if kv.1 = k then (kv.1, v) else kv) (kvs.map fun kv => if kv.1 = keyD k then (kv.1, d) else kv)
  | _, _, _, _, _, .nil, _ => .nil
  | _, _, j, _, _, .cons (k := k) r l, q => by
    rw [List.map_cons, List.map_cons]
    by_cases z : k = j
    · rw [if_pos (by exact z), if_pos (by show keyD k = keyD j; rw [z])]
      exact .cons q (l.repl j q)
    · rw [if_neg (by exact z), if_neg (by show ¬ keyD k = keyD j; exact fun y => z (keyD_inj y))]
      exact .cons r (l.repl j q)
theorem RK.snoc : ∀ {ks : List (Key × V)} {kvs : List (D × D)} (k : Key) {v : V} {d : D}, RK H Z ρ n ks kvs → R H Z ρ n v d → RK H Z ρ n (ks ++ [(k, v)]) (kvs ++ [(keyD k, d)])
  | _, _, _, _, _, .nil, q => .cons q .nil
  | _, _, j, _, _, .cons r l, q => .cons r (l.snoc j q)
theorem RK.put {ks : List (Key × V)} {kvs : List (D × D)} (k : Key) {v : V} {d : D} (l : RK H Z ρ n ks kvs) (r : R H Z ρ n v d) : RK H Z ρ n (putK ks k v) (dput kvs (keyD k) d) := by
  unfold putK dput
  rw [l.any k]
  split
  · exact l.repl k r
  · exact l.snoc k r
theorem RK.length : ∀ {ks : List (Key × V)} {kvs : List (D × D)}, RK H Z ρ n ks kvs → ks.length = kvs.length
  | _, _, .nil => rfl
  | _, _, .cons _ l => by rw [List.length_cons, List.length_cons, l.length]
theorem RK.merge : ∀ {more : List (Key × V)} {ps : List (D × D)} {ks : List (Key × V)} {kvs : List (D × D)}, RK H Z ρ n more ps → RK H Z ρ n ks kvs → RK H Z ρ n (mergeK ks more) (ps.foldl (fun acc kv => dput acc kv.1 kv.2) kvs)
  | _, _, _, _, .nil, l => l
  | _, _, _, _, .cons (k := k) r m, l => by have q := RK.merge m (l.put k r); exact q
/-- a list of pairs, read -/
theorem pairs_read {X : Cx} {pins : List (Addr × Obj)} {σ : L2.St} {s : Shared} (I : Inv X pins σ H s) : ∀ {ds : List D} {vs : List V} {ps : List (D × D)}, pairs? ds = some ps → ps.all (fun kv => isKeyD kv.1) = true → RL H Z ρ n vs ds →
    ∃ (bs : List Addr) (pv : List (Value × Value)) (kv : List (Key × Value)) (ks : List (Key × V)), vs = bs.map V.ref ∧ pv.length = bs.length ∧ kv.length = bs.length ∧ KV ks kv ∧ RK H Z ρ n ks ps ∧
      (∀ (j : Nat) (u y : Value), pv[j]? = some (u, y) → ∃ b, bs[j]? = some b ∧ s.heap.IsTuple b #[u, y] ∧ ∃ k, kv[j]? = some (k, y) ∧ (mixKind X.prog X.w).is k u = true)
  | [], _, _, e, _, l => by cases e; cases l; exact ⟨[], [], [], [], rfl, rfl, rfl, .nil, .nil, fun j u y q => by simp at q⟩
  | d :: ds, _, _, e, ha, .cons r l => by
    unfold pairs? at e
    split at e
    · rename_i hd; cases hd
    · rename_i k v ds' hd
      cases hd
      obtain ⟨ps', e', rfl⟩ := Option.map_eq_some_iff.mp e
      simp only [List.all_cons, Bool.and_eq_true] at ha
      obtain ⟨bs, pv, kv, ks, rfl, h1, h2, h3, h4, h5⟩ := pairs_read I e' ha.2 l
      obtain ⟨key, rfl⟩ := isKeyD_of ha.1
      cases r with
      | tup t lt =>
        rename_i b vs'
        cases lt with
        | cons r1 lt =>
          cases lt with
          | cons r2 lt =>
            cases lt
            have ek := r1.keyv
            subst ek
            obtain ⟨its, rv, it, _⟩ := I.tuple (TupAt.sq (K := X.K) t)
            obtain ⟨u, y, rfl, ru, ry⟩ := vals2 rv
            refine ⟨b :: bs, (u, y) :: pv, (key, y) :: kv, (key, _) :: ks, rfl, by simp [h1], by simp [h2], .cons ⟨rfl, ry⟩ h3, .cons r2 h4, fun j u' y' q => ?_⟩
            cases j with
            | zero =>
              simp at q
              obtain ⟨rfl, rfl⟩ := q
              exact ⟨b, rfl, it, key, rfl, kV_is ru⟩
            | succ j =>
              obtain ⟨b', q1, q2, q3⟩ := h5 j u' y' (by simpa using q)
              exact ⟨b', by simpa using q1, q2, by simpa using q3⟩
    · cases e
end
section
variable {X : Cx}
theorem ev_dictOf (hc : X.calm = true) : CallR X (.type "dict") (fun vs H Q => ∃ x, vs = [x] ∧ rOp .dictOf [x] H Q) := by
  intro pins s σ H vs us Q I r w
  obtain ⟨x, rfl, w⟩ := w
  obtain ⟨Z, ρ, h, a, d, S, r1, e, p⟩ := w.one rfl (by decide) (by decide) (by decide)
  clear w
  have e : oDict (look h a) = some d := e
  unfold oDict at e
  obtain ⟨u, rfl, rx⟩ := vals1 r
  split at e
  · rename_i xs q
    split at e
    · rename_i ps hps
      split at e
      · rename_i hall
        cases e
        obtain ⟨a1, vs, rfl, ⟨us1, s1⟩, l1⟩ := r1.tupv q
        cases rx
        obtain ⟨hg, hz, its, rv, it⟩ := (show ObjOk X.prog X.w H s.heap a1 (.frz (tob us1) (.tup vs)) from I.hok a1 _ s1)
        obtain ⟨bs, pv, kv, ks, rfl, h1, h2, h3, h4, h5⟩ := pairs_read I hps hall l1
        obtain ⟨o', ho', _, n', hd'⟩ := it
        rw [hg] at ho'; cases ho'
        have ei : us1 = its := by
          have : (Data.seq us1.toArray 0) = Data.seq its.toArray n' := hd'
          injection this with t1 _
          simpa using congrArg Array.toList t1
        subst ei
        have er : us1 = bs.map Value.ref := by
          exact L2.refs_at rv
        have hz' : bs.length ≤ sizeLine := by simpa using hz
        have P := PairArg.tuple (prog := X.prog) (w := X.w) a1 us1.toArray (fun j => bs.getD j 0) pv
        refine PySem.call_dict_pairs (knd := mixKind X.prog X.w) (kvs := kv) P (I.ok.hd hc) ?_ ?_ (by rw [h1]; exact hz') fun h' tk hd2 hk => ?_
        · refine ⟨⟨_, 0, hg, rfl, rfl, rfl⟩, by rw [er, h1]; simp, fun j k v e => ?_⟩
          obtain ⟨b, q1, q2, _⟩ := h5 j k v e
          have eb : bs.getD j 0 = b := by simp [List.getD_eq_getElem?_getD, q1]
          show us1.toArray[j]? = some (.ref (bs.getD j 0)) ∧ PairAt s.heap (bs.getD j 0) k v
          rw [eb]
          exact ⟨by rw [er]; simp [q1], .inl q2⟩
        · refine ⟨by rw [h1, h2], fun i key v e => ?_⟩
          obtain ⟨b, _, _, k, q1, q2⟩ := h5 i key v e
          exact ⟨k, q1, q2⟩
        · have hlen : (mergeK [] ks).length ≤ sizeLine := by
            refine Nat.le_trans (length_mergeK ks []) ?_
            have := h3.length
            simp only [List.length_nil, Nat.zero_add]
            omega
          have hm : (s.heap.objs.size == sysModules) = false := beq_eq_false_iff_ne.mpr (Nat.ne_of_gt I.big)
          have kp : ∀ b o, s.heap.get? b = some o → h'.get? b = some o := fun b o e => hk b o (by simp) e
          refine ⟨.ref s.heap.objs.size, upd H s.heap.objs.size (.dK (mergeK [] ks)), I.laid (t' := tk) kp (Nat.le_refl _) (show ObjOk X.prog X.w _ _ _ (.dK (mergeK [] ks)) from ⟨hlen, hm, merged [] kv, KV.merge h3 .nil, hd2⟩), rfl, p.new S I.fresh ?_⟩
          exact .dk upd_same (S.fresh I.fresh) ((RK.merge h4 .nil).keep S (Ext.laid I.fresh))
      · cases e
    · cases e
  · cases e

/-! ### sorted(set(x)) of ints -/
theorem insI_mem (i k : Int) : ∀ xs : List Int, k ∈ insI i xs ↔ k = i ∨ k ∈ xs
  | [] => by simp [insI]
  | j :: r => by
    unfold insI
    split
    · simp
    · split
      · rename_i h; subst h; simp
      · simp only [List.mem_cons, insI_mem i k r]
        constructor
        · rintro (h | h | h); exact .inr (.inl h); exact .inl h; exact .inr (.inr h)
        · rintro (h | h | h); exact .inr (.inl h); exact .inl h; exact .inr (.inr h)
theorem insI_up (i : Int) : ∀ xs : List Int, xs.Pairwise (· < ·) → (insI i xs).Pairwise (· < ·)
  | [], _ => by simp [insI]
  | j :: r, h => by
    rw [List.pairwise_cons] at h
    unfold insI
    split
    · rename_i hlt
      refine List.pairwise_cons.mpr ⟨fun a ha => ?_, List.pairwise_cons.mpr h⟩
      rcases List.mem_cons.mp ha with rfl | ha
      · exact hlt
      · have := h.1 a ha; omega
    · split
      · exact List.pairwise_cons.mpr h
      · rename_i h1 h2
        refine List.pairwise_cons.mpr ⟨fun a ha => ?_, insI_up i r h.2⟩
        rcases (insI_mem i a r).mp ha with rfl | ha
        · omega
        · exact h.1 a ha
theorem sortSetI_mem (k : Int) : ∀ xs : List Int, k ∈ sortSetI xs ↔ k ∈ xs
  | [] => by simp [sortSetI]
  | x :: xs => by
    show k ∈ insI x (sortSetI xs) ↔ _
    rw [insI_mem, sortSetI_mem k xs, List.mem_cons]
theorem sortSetI_up : ∀ xs : List Int, (sortSetI xs).Pairwise (· < ·)
  | [] => by simp [sortSetI]
  | x :: xs => insI_up x _ (sortSetI_up xs)
theorem up_unique : ∀ {xs ys : List Int}, xs.Pairwise (· < ·) → ys.Pairwise (· < ·) → (∀ k, k ∈ xs ↔ k ∈ ys) → xs = ys
  | [], [], _, _, _ => rfl
  | [], y :: ys, _, _, h => absurd ((h y).mpr List.mem_cons_self) (by simp)
  | x :: xs, [], _, _, h => absurd ((h x).mp List.mem_cons_self) (by simp)
  | x :: xs, y :: ys, h1, h2, h => by
    rw [List.pairwise_cons] at h1 h2
    have e : x = y := by
      rcases List.mem_cons.mp ((h x).mp List.mem_cons_self) with e | e
      · exact e
      · rcases List.mem_cons.mp ((h y).mpr List.mem_cons_self) with e' | e'
        · exact e'.symm
        · have := h1.1 y e'; have := h2.1 x e; omega
    subst e
    rw [up_unique h1.2 h2.2 fun k => ⟨fun hk => ?_, fun hk => ?_⟩]
    · rcases List.mem_cons.mp ((h k).mp (List.mem_cons_of_mem _ hk)) with e | e
      · have := h1.1 k hk; omega
      · exact e
    · rcases List.mem_cons.mp ((h k).mpr (List.mem_cons_of_mem _ hk)) with e | e
      · have := h2.1 k hk; omega
      · exact e
/-- set(x) of a tuple of ints -/
def rSetI (K : PySem.W.Frag) (w : World) : List V → Hp → VK → Prop := fun vs H Q => ∃ (a : Addr) (ns : List Int), vs = [.ref a] ∧ SqT K H a (ns.map V.int) ∧ ns.length < 64 ∧
  ∀ p c, H p = none → c ≤ ns.length → Q (.ref p) (upd H p (SetO w p (fun j => decide (j ∈ ns)) c))
theorem ev_setI (hc : X.calm = true) : CallR X (.type "set") (rSetI X.K X.w) := by
  intro pins s σ H vs us Q I r w
  obtain ⟨a, ns, rfl, t, hl, q⟩ := w
  obtain ⟨u, rfl, rx⟩ := vals1 r
  cases rx
  obtain ⟨its, rv, it, hz⟩ := I.tuple t
  refine call_set_tupI ns (I.ok.hd hc) it (by simpa using intsAre_of rv) (by have : scanBound = scanBound := rfl; have h2 : 65 ≤ scanBound := by decide +kernel
                                                                             omega) fun h' tk c R hcl kp => ?_
  exact ⟨.ref s.heap.objs.size, upd H s.heap.objs.size (SetO X.w s.heap.objs.size _ c), I.laid (t' := tk) kp (Nat.le_refl _) (setO_new R), rfl, q _ c I.fresh hcl⟩
theorem ev_sortedSet (hc : X.calm = true) {e : Expr} {te : TE} {p1 p2 p3 p4 : Pos} (hg1 : Gl X "sorted") (hm1 : X.mg "sorted" = none) (hg2 : Gl X "set") (hm2 : X.mg "set" = none) (he : PA X [e] te')
    (ht : ∀ σ H (R : List V → Hp → Prop) (Q : VK), te σ H Q → (∀ vs H1, (∃ x, vs = [x] ∧ rOp .sortedSet [x] H1 Q) → R vs H1) → te' σ H R)
    (hn1 : starEach [e] X.env = (false, eval e X.env) :: starEach [] X.env) (hn2 : starEach [.Call (.Name "set" p3) [e] [] p4] X.env = (false, eval (.Call (.Name "set" p3) [e] [] p4) X.env) :: starEach [] X.env := by rfl) :
    PE X (.Call (.Name "sorted" p1) [.Call (.Name "set" p3) [e] [] p4] [] p2) te := by
  have P := pe_callB (pos := p2) (p := p1) (cr_sortedSet hc) hg1 hm1 (by decide +kernel) (pa_cons (pe_callTy (pos := p4) (p := p3) (ev_setI hc) hg2 hm2 (by decide +kernel) he (by decide) (by decide) hn1) pa_nil hn2) (by decide) (by decide) hn2
  refine ⟨fun pins s σ H Q I h => P.run pins s σ H Q I ?_⟩
  show te' σ H fun vs H1 => rSetI X.K X.w vs H1 fun x H2 => rSortedSet X.w [x] H2 Q
  refine ht σ H _ Q h fun vs H1 w => ?_
  obtain ⟨x, rfl, w⟩ := w
  obtain ⟨Z, ρ, h, a, d, S, r1, e, p⟩ := w.one rfl (by decide) (by decide) (by decide)
  have e : oSortedSet (look h a) = some d := e
  unfold oSortedSet at e
  split at e
  · rename_i xs q
    split at e
    · rename_i is his
      split at e
      · rename_i hl
        cases e
        obtain ⟨a1, vs, rfl, s1, l1⟩ := r1.tupv q
        have ev := ints_of his l1
        subst ev
        refine ⟨a1, is, rfl, s1.sq, hl, fun q c hq hc' => ⟨q, _, c, rfl, upd_same, by omega, fun ns t hp hm _ ht => ?_⟩⟩
        have e : ns = sortSetI is := up_unique hp (sortSetI_up is) fun k => by rw [hm, sortSetI_mem]; exact decide_eq_true_iff
        subst e
        have S1 : Sim _ Z ρ h := S.laid (o := SetO X.w q (fun j => decide (j ∈ is)) c) hq
        have t1 : Ext H1 ρ h.length (upd (upd H1 q (SetO X.w q (fun j => decide (j ∈ is)) c)) t (.lst ((sortSetI is).map V.int))) ρ h.length := (Ext.laid hq).trans S1 (Ext.laid ht)
        refine p _ _ ρ t1 (S1.laid ht) (S1.newL ht ?_)
        clear t1 S1 p ht hm hp
        induction sortSetI is with
        | nil => exact .nil
        | cons k ks ih => exact .cons (.int k) ih
      · cases e
    · cases e
  · cases e
end
end Ev

/-! Ev7: expressions. -/
namespace Ev
open PySem PySem.Spec PyProof.Rows L2
variable [KK]
section
variable (G : List D) (call : CallF)
def tEv (c : C) : TE := fun σ H Q => ∃ Z ρ env h, Sim H Z ρ h ∧ EnvR H Z ρ h.length σ env ∧ Post Z H ρ h (evC G call c env h) Q
def tEvL (cl : CL) : TA := fun σ H Q => ∃ Z ρ env h, Sim H Z ρ h ∧ EnvR H Z ρ h.length σ env ∧ PostL Z H ρ h (evL G call cl env h) Q
end
def PostT (Z : Addr → Prop) (H : Hp) (ρ : Nat → Addr) (h : HpE) (r : Res D) (Q : Bool → Hp → Prop) : Prop := match r with
  | .ok d h' => match truth h' d with
    | some b => ∀ H' ρ', Ext H ρ h.length H' ρ' h'.length → Sim H' Z ρ' h' → Q b H'
    | none => False
  | _ => False
def tEvT (G : List D) (call : CallF) (c : C) : TT := fun σ H Q => ∃ Z ρ env h, Sim H Z ρ h ∧ EnvR H Z ρ h.length σ env ∧ PostT Z H ρ h (evC G call c env h) Q
theorem _root_.L2.PE.mono {X : Cx} {e : Expr} {t t' : TE} (h : PE X e t) (k : ∀ σ H Q, t' σ H Q → t σ H Q) : PE X e t' := ⟨fun pins s σ H Q I w => h.run pins s σ H Q I (k σ H Q w)⟩
theorem _root_.L2.PT.mono {X : Cx} {e : Expr} {t t' : TT} (h : PT X e t) (k : ∀ σ H Q, t' σ H Q → t σ H Q) : PT X e t' := ⟨fun pins s σ H Q I w => h.run pins s σ H Q I (k σ H Q w)⟩
theorem _root_.L2.PW.mono {X : Cx} {e : Expr} {t t' : TT} (h : PW X e t) (k : ∀ σ H Q, t' σ H Q → t σ H Q) : PW X e t' := ⟨fun wh pins s σ H Q I w => h.run wh pins s σ H Q I (k σ H Q w)⟩
theorem _root_.L2.PA.mono {X : Cx} {es : List Expr} {t t' : TA} (h : PA X es t) (k : ∀ σ H Q, t' σ H Q → t σ H Q) : PA X es t' := ⟨fun pos pins s σ H Q I w => h.run pos pins s σ H Q I (k σ H Q w)⟩
section
variable {G : List D} {call : CallF} {Z : Addr → Prop} {ρ ρ1 : Nat → Addr} {h h1 : HpE} {H H1 : Hp} {σ : L2.St} {env : EnvE}
theorem Post.shift {r : Res D} {Q : VK} (e1 : Ext H ρ h.length H1 ρ1 h1.length) (S1 : Sim H1 Z ρ1 h1) (p : Post Z H ρ h r Q) : Post Z H1 ρ1 h1 r Q := by
  cases r with
  | ok d h' => exact fun v H' ρ' e S r => p v H' ρ' (e1.trans S1 e) S r
  | exc _ _ => exact p
  | stuck => exact p
theorem PostL.shift {r : Res (List D)} {Q : List V → Hp → Prop} (e1 : Ext H ρ h.length H1 ρ1 h1.length) (S1 : Sim H1 Z ρ1 h1) (p : PostL Z H ρ h r Q) : PostL Z H1 ρ1 h1 r Q := by
  cases r with
  | ok d h' => exact fun v H' ρ' e S r => p v H' ρ' (e1.trans S1 e) S r
  | exc _ _ => exact p
  | stuck => exact p
theorem PostT.shift {r : Res D} {Q : Bool → Hp → Prop} (e1 : Ext H ρ h.length H1 ρ1 h1.length) (S1 : Sim H1 Z ρ1 h1) (p : PostT Z H ρ h r Q) : PostT Z H1 ρ1 h1 r Q := by
  cases r with
  | ok d h' =>
    show match truth h' d with | some b => _ | none => False
    have p : match truth h' d with | some b => ∀ H' ρ', Ext H ρ h.length H' ρ' h'.length → Sim H' Z ρ' h' → Q b H' | none => False := p
    split
    · rename_i b e
      rw [e] at p
      exact fun H' ρ' e S => p H' ρ' (e1.trans S1 e) S
    · rename_i e
      rw [e] at p
      exact p
  | exc _ _ => exact p
  | stuck => exact p
/-- one part, then the rest -/
theorem ev_then {a : C} {β : Type} {f : D → HpE → Res β} {T : Hp → (Nat → Addr) → HpE → Res β → Prop} {R' : V → Hp → Prop} (hs : ∀ {H ρ h H1 ρ1 h1 r}, Ext H ρ h.length H1 ρ1 h1.length → Sim H1 Z ρ1 h1 → T H ρ h r → T H1 ρ1 h1 r)
    (hn : ∀ {H ρ h r}, T H ρ h r → ∃ b h', r = .ok b h') (S : Sim H Z ρ h) (E : EnvR H Z ρ h.length σ env) (p : T H ρ h ((evC G call a env h).bind f))
    (k : ∀ d h1 x H1 ρ1, Sim H1 Z ρ1 h1 → EnvR H1 Z ρ1 h1.length σ env → R H1 Z ρ1 h1.length x d → T H1 ρ1 h1 (f d h1) → R' x H1) : tEv G call a σ H R' := by
  refine ⟨Z, ρ, env, h, S, E, ?_⟩
  cases e : evC G call a env h with
  | ok d h1 =>
    rw [e] at p
    intro x H1 ρ1 ex S1 r
    exact k d h1 x H1 ρ1 S1 (E.keep S ex) r (hs ex S1 p)
  | exc c h1 => rw [e] at p; obtain ⟨_, _, q⟩ := hn p; cases q
  | stuck => rw [e] at p; obtain ⟨_, _, q⟩ := hn p; cases q
theorem evL_then {a : CL} {β : Type} {f : List D → HpE → Res β} {T : Hp → (Nat → Addr) → HpE → Res β → Prop} {R' : List V → Hp → Prop} (hs : ∀ {H ρ h H1 ρ1 h1 r}, Ext H ρ h.length H1 ρ1 h1.length → Sim H1 Z ρ1 h1 → T H ρ h r → T H1 ρ1 h1 r)
    (hn : ∀ {H ρ h r}, T H ρ h r → ∃ b h', r = .ok b h') (S : Sim H Z ρ h) (E : EnvR H Z ρ h.length σ env) (p : T H ρ h ((evL G call a env h).bind f))
    (k : ∀ d h1 x H1 ρ1, Sim H1 Z ρ1 h1 → EnvR H1 Z ρ1 h1.length σ env → RL H1 Z ρ1 h1.length x d → T H1 ρ1 h1 (f d h1) → R' x H1) : tEvL G call a σ H R' := by
  refine ⟨Z, ρ, env, h, S, E, ?_⟩
  cases e : evL G call a env h with
  | ok d h1 =>
    rw [e] at p
    intro x H1 ρ1 ex S1 r
    exact k d h1 x H1 ρ1 S1 (E.keep S ex) r (hs ex S1 p)
  | exc c h1 => rw [e] at p; obtain ⟨_, _, q⟩ := hn p; cases q
  | stuck => rw [e] at p; obtain ⟨_, _, q⟩ := hn p; cases q
theorem Post.ok_of {r : Res D} {Q : VK} (p : Post Z H ρ h r Q) : ∃ b h', r = .ok b h' := by
  cases r with
  | ok d h' => exact ⟨d, h', rfl⟩
  | exc _ _ => exact p.elim
  | stuck => exact p.elim
theorem PostL.ok_of {r : Res (List D)} {Q : List V → Hp → Prop} (p : PostL Z H ρ h r Q) : ∃ b h', r = .ok b h' := by
  cases r with
  | ok d h' => exact ⟨d, h', rfl⟩
  | exc _ _ => exact p.elim
  | stuck => exact p.elim
theorem PostT.ok_of {r : Res D} {Q : Bool → Hp → Prop} (p : PostT Z H ρ h r Q) : ∃ b h', r = .ok b h' := by
  cases r with
  | ok d h' => exact ⟨d, h', rfl⟩
  | exc _ _ => exact p.elim
  | stuck => exact p.elim
theorem evC_op (o : Op) (es : CL) : evC G call (.op o es) env h = (evL G call es env h).bind fun ds h => opEv o ds h := by rw [evC]
theorem evL_nil : evL G call .nil env h = .ok [] h := by rw [evL]
theorem evL_cons (e : C) (es : CL) : evL G call (.cons e es) env h = (evC G call e env h).bind fun d h => (evL G call es env h).bind fun ds h => .ok (d :: ds) h := by rw [evL]
theorem tEvL_cons {c : C} {cl : CL} {Q : List V → Hp → Prop} (w : tEvL G call (.cons c cl) σ H Q) : tCons (tEv G call c) (tEvL G call cl) σ H Q := by
  obtain ⟨Z, ρ, env, h, S, E, p⟩ := w
  rw [evL_cons] at p
  refine ev_then (T := fun H ρ h r => PostL Z H ρ h r Q) PostL.shift PostL.ok_of S E p fun d h1 x H1 ρ1 S1 E1 r p1 => ?_
  refine ⟨Z, ρ1, env, h1, S1, E1, ?_⟩
  cases e : evL G call cl env h1 with
  | ok ds h2 =>
    rw [e] at p1
    intro xs H2 ρ2 ex S2 l
    exact p1 (x :: xs) H2 ρ2 ex S2 (.cons (r.keep S1 ex) l)
  | exc c h2 => rw [e] at p1; exact p1.elim
  | stuck => rw [e] at p1; exact p1.elim
theorem tEvL_nil {Q : List V → Hp → Prop} (w : tEvL G call .nil σ H Q) : tNil σ H Q := by
  obtain ⟨Z, ρ, env, h, S, E, p⟩ := w
  rw [evL_nil] at p
  exact p [] H ρ Ext.refl S .nil
theorem op_args {o : Op} {es : CL} {Q : VK} (w : tEv G call (.op o es) σ H Q) : tEvL G call es σ H fun vs H1 => rOp o vs H1 Q := by
  obtain ⟨Z, ρ, env, h, S, E, p⟩ := w
  rw [evC_op] at p
  exact evL_then (T := fun H ρ h r => Post Z H ρ h r Q) Post.shift Post.ok_of S E p fun d h1 x H1 ρ1 S1 E1 r p1 => ⟨Z, ρ1, h1, d, S1, r, p1⟩
theorem tEvL_imp {es : CL} {Q Q' : List V → Hp → Prop} (w : tEvL G call es σ H Q) (k : ∀ vs H, Q vs H → Q' vs H) : tEvL G call es σ H Q' := by
  obtain ⟨Z, ρ, env, h, S, E, p⟩ := w
  obtain ⟨b, h', e⟩ := PostL.ok_of p
  rw [e] at p
  refine ⟨Z, ρ, env, h, S, E, ?_⟩
  rw [e]
  exact fun v H' ρ' x S' r => k _ _ (p v H' ρ' x S' r)
theorem tEv_imp {c : C} {Q Q' : VK} (w : tEv G call c σ H Q) (k : ∀ vs H, Q vs H → Q' vs H) : tEv G call c σ H Q' := by
  obtain ⟨Z, ρ, env, h, S, E, p⟩ := w
  obtain ⟨b, h', e⟩ := Post.ok_of p
  rw [e] at p
  refine ⟨Z, ρ, env, h, S, E, ?_⟩
  rw [e]
  exact fun v H' ρ' x S' r => k _ _ (p v H' ρ' x S' r)
theorem one_arg {o : Op} {a : C} {Q : VK} (w : tEv G call (.op o (.cons a .nil)) σ H Q) : tEv G call a σ H fun x H1 => rOp o [x] H1 Q :=
  tEv_imp (tEvL_cons (op_args w)) fun x H1 q => tEvL_nil q
theorem two_args {o : Op} {a b : C} {Q : VK} (w : tEv G call (.op o (.cons a (.cons b .nil))) σ H Q) : tEv G call a σ H fun x H1 => tEv G call b σ H1 fun y H2 => rOp o [x, y] H2 Q :=
  tEv_imp (tEvL_cons (op_args w)) fun x H1 q => tEv_imp (tEvL_cons q) fun y H2 q => tEvL_nil q
end
section
variable {X : Cx} {G : List D} {call : CallF} {a b : Expr} {ca cb : C} {pos : Pos}
theorem ae_var {i : Nat} {x : Str} (hN : X.N[i]? = some x) (hv : Vis X.env.scope x) (hd : (x == ("__debug__" : Str)) = false) (hcd : (x == ("__classdict__" : Str)) = false) : PE X (.Name x pos) (tEv G call (.var i)) :=
  (pe_var hN hv hd hcd).mono fun σ H Q ⟨Z, ρ, env, h, S, E, p⟩ => by
    rw [evC] at p
    unfold slot at p
    split at p
    · rename_i d e
      obtain ⟨v, e1, r⟩ := E.get i d e
      exact ⟨v, e1, Post.now (d := d) p S r⟩
    · exact p.elim
theorem ae_lit {e : Expr} {v : V} {d : D} (he : PE X e (tC v)) (hr : ∀ H Z ρ n, R H Z ρ n v d) : PE X e (tEv G call (.lit d)) :=
  he.mono fun σ H Q ⟨Z, ρ, env, h, S, E, p⟩ => by
    rw [evC] at p
    exact p.now S (hr _ _ _ _)
theorem ae_glb {e : Expr} {v : V} {d : D} {g : Nat} (he : PE X e (tC v)) (hg : G[g]? = some d) (hr : ∀ H Z ρ n, R H Z ρ n v d) : PE X e (tEv G call (.glb g)) :=
  he.mono fun σ H Q ⟨Z, ρ, env, h, S, E, p⟩ => by
    rw [evC, hg] at p
    exact Post.now (d := d) p S (hr _ _ _ _)
theorem ae_bin {op : Operator} {o : Op} (ho : OpR X (binaryOp op) (fun x y H Q => rOp o [x, y] H Q)) (ha : PE X a (tEv G call ca)) (hb : PE X b (tEv G call cb)) : PE X (.BinOp a op b pos) (tEv G call (.op o (.cons ca (.cons cb .nil)))) :=
  (pe_op ho ha hb).mono fun σ H Q w => two_args w
theorem ae_neg (ha : PE X a (tEv G call ca)) : PE X (.UnaryOp .USub a pos) (tEv G call (.op .neg (.cons ca .nil))) :=
  (pe_un ev_neg ha).mono fun σ H Q w => one_arg w
theorem ae_cmp {op : CmpOp} {o : Op} (ho : OpR X (compareOp op) (fun x y H Q => rOp o [x, y] H Q)) (ha : PE X a (tEv G call ca)) (hb : PE X b (tEv G call cb)) (hm : behindInMarks op b = false) : PE X (.Compare a [op] [b] pos) (tEv G call (.op o (.cons ca (.cons cb .nil)))) :=
  (pe_cmpR ho ha hb hm).mono fun σ H Q w => two_args w
/-- a comparison whose right side is a constant -/
theorem ae_cmpC {op : CmpOp} {o : Op} {v : V} (ho : OpR X (compareOp op) (fun x y H Q => y = v ∧ rOp o [x] H Q)) (ha : PE X a (tEv G call ca)) (hb : PE X b (tC v)) (hm : behindInMarks op b = false) : PE X (.Compare a [op] [b] pos) (tEv G call (.op o (.cons ca .nil))) :=
  (pe_cmpR ho ha hb hm).mono fun σ H Q w => tEv_imp (one_arg w) fun x H1 q => ⟨rfl, q⟩
/-- a truth value, as a test -/
theorem tEvT_val {c : C} {σ : L2.St} {H : Hp} {Q : Bool → Hp → Prop} (hb : ∀ env h d h', evC G call c env h = .ok d h' → ∃ b, d = .bl b) (w : tEvT G call c σ H Q) : tEv G call c σ H fun x H1 => ∃ k, x = .bl k ∧ Q k H1 := by
  obtain ⟨Z, ρ, env, h, S, E, p⟩ := w
  obtain ⟨d, h', e⟩ := PostT.ok_of p
  obtain ⟨b, rfl⟩ := hb _ _ _ _ e
  rw [e] at p
  refine ⟨Z, ρ, env, h, S, E, ?_⟩
  rw [e]
  intro v H' ρ' x S' r
  cases r
  exact ⟨b, rfl, p H' ρ' x S'⟩
theorem TruV.of {H : Hp} {Z : Addr → Prop} {ρ : Nat → Addr} {h : HpE} {x : V} {d : D} {b : Bool} {K : PySem.W.Frag} (S : Sim H Z ρ h) (r : R H Z ρ h.length x d) (e : truth h d = some b) : TruV K x H b := by
  unfold truth at e
  split at e
  · rename_i q; cases e; rw [r.nonv q]; rfl
  · rename_i q; cases e; rw [r.blv q]; rfl
  · rename_i q; cases e; rw [r.intv q]; rfl
  · rename_i y q
    split at e
    · cases e
      rw [r.strv q]
      refine ⟨by assumption, ?_⟩
      rw [Bool.eq_iff_iff]
      simp
    · cases e
  · rename_i xs q
    cases e
    obtain ⟨a1, vs, rfl, s1, l1⟩ := r.tupv q
    refine .inr (.inl ⟨vs, s1.sq, ?_⟩)
    cases l1 <;> rfl
  · rename_i xs q
    cases e
    obtain ⟨a1, vs, rfl, s1, l1⟩ := r.lstv S q
    refine .inl ⟨vs, .inl s1, ?_⟩
    cases l1 <;> rfl
  · rename_i xs q
    cases e
    obtain ⟨a1, rfl, ks, s1, l1⟩ := r.dctv S q
    refine .inr (.inr ⟨ks, s1, ?_⟩)
    cases l1 <;> rfl
  · cases e
theorem tEvT_truth {c : C} {σ : L2.St} {H : Hp} {Q : Bool → Hp → Prop} {K : PySem.W.Frag} (w : tEvT G call c σ H Q) : tEv G call c σ H fun x H1 => ∃ k, TruV K x H1 k ∧ Q k H1 := by
  obtain ⟨Z, ρ, env, h, S, E, p⟩ := w
  obtain ⟨d, h', e⟩ := PostT.ok_of p
  rw [e] at p
  refine ⟨Z, ρ, env, h, S, E, ?_⟩
  rw [e]
  intro v H' ρ' x S' r
  have p : match truth h' d with | some b => ∀ H' ρ', Ext H ρ h.length H' ρ' h'.length → Sim H' Z ρ' h' → Q b H' | none => False := p
  split at p
  · rename_i b eb
    exact ⟨b, Ev.TruV.of S' r eb, p H' ρ' x S'⟩
  · exact p.elim
/-- any expression but not, and, or, a comparison, a conditional one, as a test -/
theorem at_plain (ha : PE X a (tEv G call ca)) (he : ∀ whole, isTrue a X.env whole = (do let v ← whole; standAt a.pos; holding [v] (truthy v))) : PT X a (tEvT G call ca) :=
  (pt_truth ha he).mono fun σ H Q w => tEvT_truth w
theorem opEv_bl {o : Op} (ho : o = .eq ∨ o = .ne ∨ o = .lt ∨ o = .le ∨ o = .gt ∨ o = .ge ∨ o = .inn ∨ o = .notIn ∨ o = .isN ∨ o = .notN ∨ (∃ b, o = .isB b) ∨ (∃ b, o = .notB b) ∨ ∃ n ds, o = .inG n ds) {ds : List D} {h h' : HpE} {d : D} (e : opEv o ds h = .ok d h') : ∃ b, d = .bl b := by
  have hm : isMut o = false := by rcases ho with h | h | h | h | h | h | h | h | h | h | ⟨_, h⟩ | ⟨_, h⟩ | ⟨_, _, h⟩ <;> subst h <;> rfl
  have e' : opP o (ds.map (look h)) = some d := by
    unfold opEv at e
    rw [hm] at e
    rcases ho with h | h | h | h | h | h | h | h | h | h | ⟨_, h⟩ | ⟨_, h⟩ | ⟨_, _, h⟩ <;> subst h <;> (simp only [Bool.false_eq_true, if_false] at e; split at e <;> first | (cases e; assumption) | cases e)
  clear e
  have two : ∀ {f : D → D → Option D} {xs : List D}, (∀ a b d, f a b = some d → ∃ b, d = .bl b) → d2 f xs = some d → ∃ b, d = .bl b := fun {f xs} hf q => by
    unfold d2 at q
    split at q
    · exact hf _ _ _ q
    · cases q
  have one : ∀ {f : D → Option D} {xs : List D}, (∀ a d, f a = some d → ∃ b, d = .bl b) → d1 f xs = some d → ∃ b, d = .bl b := fun {f xs} hf q => by
    unfold d1 at q
    split at q
    · exact hf _ _ q
    · cases q
  have eqb : ∀ n a b d, oEq n a b = some d → ∃ b, d = .bl b := fun n a b d q => by
    unfold oEq at q; split at q <;> cases q; exact ⟨_, rfl⟩
  have cmb : ∀ f a b d, oCmp f a b = some d → ∃ b, d = .bl b := fun f a b d q => by
    unfold oCmp at q; split at q <;> cases q; exact ⟨_, rfl⟩
  have inb : ∀ n a b d, oIn n a b = some d → ∃ b, d = .bl b := fun n a b d q => by
    unfold oIn at q
    split at q
    · cases q; exact ⟨_, rfl⟩
    · split at q <;> cases q; exact ⟨_, rfl⟩
    · split at q <;> cases q; exact ⟨_, rfl⟩
    · split at q <;> cases q; exact ⟨_, rfl⟩
    · cases q
  rcases ho with h | h | h | h | h | h | h | h | h | h | ⟨_, h⟩ | ⟨_, h⟩ | ⟨_, _, h⟩ <;> subst h
  · exact two (eqb _) e'
  · exact two (eqb _) e'
  · refine two (fun a b d q => ?_) e'
    unfold oLt at q; split at q <;> cases q <;> exact ⟨_, rfl⟩
  · exact two (cmb _) e'
  · exact two (cmb _) e'
  · exact two (cmb _) e'
  · exact two (inb _) e'
  · exact two (inb _) e'
  · exact one (fun a d q => by cases q; exact ⟨_, rfl⟩) e'
  · exact one (fun a d q => by cases q; exact ⟨_, rfl⟩) e'
  · refine one (fun a d q => ?_) e'
    split at q <;> cases q; exact ⟨_, rfl⟩
  · refine one (fun a d q => ?_) e'
    split at q <;> cases q; exact ⟨_, rfl⟩
  · exact one (fun a d q => inb _ _ _ _ q) e'
theorem evC_bl {o : Op} {es : CL} {env : EnvE} {h h' : HpE} {d : D} (ho : o = .eq ∨ o = .ne ∨ o = .lt ∨ o = .le ∨ o = .gt ∨ o = .ge ∨ o = .inn ∨ o = .notIn ∨ o = .isN ∨ o = .notN ∨ (∃ b, o = .isB b) ∨ (∃ b, o = .notB b) ∨ ∃ n ds, o = .inG n ds) (e : evC G call (.op o es) env h = .ok d h') : ∃ b, d = .bl b := by
  rw [evC_op] at e
  cases q : evL G call es env h with
  | ok ds h1 => rw [q] at e; exact opEv_bl ho e
  | exc _ _ => rw [q] at e; cases e
  | stuck => rw [q] at e; cases e
theorem at_cmp {op : CmpOp} {o : Op} (hbl : o = .eq ∨ o = .ne ∨ o = .lt ∨ o = .le ∨ o = .gt ∨ o = .ge ∨ o = .inn ∨ o = .notIn ∨ o = .isN ∨ o = .notN ∨ (∃ b, o = .isB b) ∨ (∃ b, o = .notB b) ∨ ∃ n ds, o = .inG n ds)
    (ho : OpR X (compareOp op) (fun x y H Q => rOp o [x, y] H Q)) (ha : PE X a (tEv G call ca)) (hb : PE X b (tEv G call cb)) (hm : behindInMarks op b = false) : PT X (.Compare a [op] [b] pos) (tEvT G call (.op o (.cons ca (.cons cb .nil)))) :=
  (pt_cmpR ho ha hb hm).mono fun σ H Q w => two_args (tEvT_val (fun _ _ _ _ e => evC_bl hbl e) w)
theorem at_cmpC {op : CmpOp} {o : Op} {v : V} (hbl : o = .eq ∨ o = .ne ∨ o = .lt ∨ o = .le ∨ o = .gt ∨ o = .ge ∨ o = .inn ∨ o = .notIn ∨ o = .isN ∨ o = .notN ∨ (∃ b, o = .isB b) ∨ (∃ b, o = .notB b) ∨ ∃ n ds, o = .inG n ds)
    (ho : OpR X (compareOp op) (fun x y H Q => y = v ∧ rOp o [x] H Q)) (ha : PE X a (tEv G call ca)) (hb : PE X b (tC v)) (hm : behindInMarks op b = false) : PT X (.Compare a [op] [b] pos) (tEvT G call (.op o (.cons ca .nil))) :=
  (pt_cmpR ho ha hb hm).mono fun σ H Q w => tEv_imp (one_arg (tEvT_val (fun _ _ _ _ e => evC_bl hbl e) w)) fun x H1 q => ⟨rfl, q⟩
end
end Ev

/-! Ev8: and, or, not, conditional expressions, chains, subscripts, calls of built-ins. -/
namespace Ev
open PySem PySem.Spec PyProof.Rows L2
variable [KK]
section
variable {X : Cx} {G : List D} {call : CallF} {a b c : Expr} {ca cb cc : C} {pos : Pos} {rest : List Expr}
theorem evC_and {env : EnvE} {h : HpE} : evC G call (.and ca cb) env h = (evC G call ca env h).bind fun d h => sel (truth h d) (evC G call cb env h) (.ok d h) .stuck := by rw [evC]
theorem evC_or {env : EnvE} {h : HpE} : evC G call (.or ca cb) env h = (evC G call ca env h).bind fun d h => sel (truth h d) (.ok d h) (evC G call cb env h) .stuck := by rw [evC]
theorem evC_ite {env : EnvE} {h : HpE} : evC G call (.ite cc ca cb) env h = (evC G call cc env h).bind fun d h => sel (truth h d) (evC G call ca env h) (evC G call cb env h) .stuck := by rw [evC]
theorem evC_chain {o1 o2 : Op} {env : EnvE} {h : HpE} : evC G call (.chain o1 o2 ca cb cc) env h = (evC G call ca env h).bind fun x h => (evC G call cb env h).bind fun y h => (opEv o1 [x, y] h).bind fun z h => sel (blOf z) ((evC G call cc env h).bind fun w h => opEv o2 [y, w] h) (.ok z h) .stuck := by rw [evC]
theorem ae_one {op} (ha : PE X a (tEv G call ca)) : PE X (.BoolOp op [a] pos) (tEv G call ca) := pe_one ha
theorem ae_and (ha : PE X a (tEv G call ca)) (hb : PE X (.BoolOp .And (b :: rest) pos) (tEv G call cb)) : PE X (.BoolOp .And (a :: b :: rest) pos) (tEv G call (.and ca cb)) :=
  (pe_andT ha hb).mono fun σ H Q ⟨Z, ρ, env, h, S, E, p⟩ => by
    rw [evC_and] at p
    refine ev_then (T := fun H ρ h r => Post Z H ρ h r Q) Post.shift Post.ok_of S E p fun d h1 x H1 ρ1 S1 E1 r p1 => ?_
    rcases e : truth h1 d with _ | _ | _ <;> rw [e] at p1
    · exact p1.elim
    · exact ⟨false, Ev.TruV.of S1 r e, iteF (Post.now (d := d) p1 S1 r)⟩
    · exact ⟨true, Ev.TruV.of S1 r e, iteT ⟨Z, ρ1, env, h1, S1, E1, p1⟩⟩
theorem ae_or (ha : PE X a (tEv G call ca)) (hb : PE X (.BoolOp .Or (b :: rest) pos) (tEv G call cb)) : PE X (.BoolOp .Or (a :: b :: rest) pos) (tEv G call (.or ca cb)) :=
  (pe_orT ha hb).mono fun σ H Q ⟨Z, ρ, env, h, S, E, p⟩ => by
    rw [evC_or] at p
    refine ev_then (T := fun H ρ h r => Post Z H ρ h r Q) Post.shift Post.ok_of S E p fun d h1 x H1 ρ1 S1 E1 r p1 => ?_
    rcases e : truth h1 d with _ | _ | _ <;> rw [e] at p1
    · exact p1.elim
    · exact ⟨false, Ev.TruV.of S1 r e, iteF ⟨Z, ρ1, env, h1, S1, E1, p1⟩⟩
    · exact ⟨true, Ev.TruV.of S1 r e, iteT (Post.now (d := d) p1 S1 r)⟩
/-- a test's part, then the rest -/
theorem evT_then {H : Hp} {σ : L2.St} {β : Type} {T : Hp → (Nat → Addr) → HpE → Res β → Prop} {Z : Addr → Prop} {ρ : Nat → Addr} {env : EnvE} {h : HpE} {t f : D → HpE → Res β} {R' : Bool → Hp → Prop}
    (hs : ∀ {H ρ h H1 ρ1 h1 r}, Ext H ρ h.length H1 ρ1 h1.length → Sim H1 Z ρ1 h1 → T H ρ h r → T H1 ρ1 h1 r) (hn : ∀ {H ρ h r}, T H ρ h r → ∃ b h', r = .ok b h')
    (S : Sim H Z ρ h) (E : EnvR H Z ρ h.length σ env) (p : T H ρ h ((evC G call ca env h).bind fun d h => sel (truth h d) (t d h) (f d h) .stuck))
    (k : ∀ d b h1 H1 ρ1, truth h1 d = some b → Sim H1 Z ρ1 h1 → EnvR H1 Z ρ1 h1.length σ env → T H1 ρ1 h1 (if b = true then t d h1 else f d h1) → R' b H1) : tEvT G call ca σ H R' := by
  refine ⟨Z, ρ, env, h, S, E, ?_⟩
  cases e : evC G call ca env h with
  | ok d h1 =>
    rw [e] at p
    have p : T H ρ h (sel (truth h1 d) (t d h1) (f d h1) .stuck) := p
    show match truth h1 d with | some b => _ | none => False
    cases q : truth h1 d with
    | some b =>
      intro H1 ρ1 ex S1
      refine k d b h1 H1 ρ1 q S1 (E.keep S ex) (hs ex S1 ?_)
      rw [q] at p
      cases b <;> exact p
    | none =>
      rw [q] at p
      obtain ⟨_, _, z⟩ := hn p
      cases z
  | exc _ _ => rw [e] at p; obtain ⟨_, _, q⟩ := hn p; cases q
  | stuck => rw [e] at p; obtain ⟨_, _, q⟩ := hn p; cases q
theorem PostT.now {Z : Addr → Prop} {H : Hp} {ρ : Nat → Addr} {h : HpE} {d : D} {b : Bool} {Q : Bool → Hp → Prop} (p : PostT Z H ρ h (.ok d h) Q) (S : Sim H Z ρ h) (e : truth h d = some b) : Q b H := by
  have p : match truth h d with | some b => ∀ H' ρ', Ext H ρ h.length H' ρ' h.length → Sim H' Z ρ' h → Q b H' | none => False := p
  rw [e] at p
  exact p H ρ Ext.refl S
theorem at_one {op} (hop : op = .And ∨ op = .Or) (ha : PT X a (tEvT G call ca)) : PW X (.BoolOp op [a] pos) (tEvT G call ca) := by
  rcases hop with rfl | rfl
  · exact pw_and1 ha
  · exact pw_or1 ha
theorem at_and (ha : PT X a (tEvT G call ca)) (hb : PW X (.BoolOp .And (b :: rest) pos) (tEvT G call cb)) : PW X (.BoolOp .And (a :: b :: rest) pos) (tEvT G call (.and ca cb)) :=
  (pw_and ha hb).mono fun σ H Q ⟨Z, ρ, env, h, S, E, p⟩ => by
    rw [evC_and] at p
    refine evT_then (T := fun H ρ h r => PostT Z H ρ h r Q) PostT.shift PostT.ok_of S E p fun d b h1 H1 ρ1 e S1 E1 p1 => ?_
    cases b with
    | true => exact iteT ⟨Z, ρ1, env, h1, S1, E1, p1⟩
    | false => exact iteF (PostT.now p1 S1 e)
theorem at_or (ha : PT X a (tEvT G call ca)) (hb : PW X (.BoolOp .Or (b :: rest) pos) (tEvT G call cb)) : PW X (.BoolOp .Or (a :: b :: rest) pos) (tEvT G call (.or ca cb)) :=
  (pw_or ha hb).mono fun σ H Q ⟨Z, ρ, env, h, S, E, p⟩ => by
    rw [evC_or] at p
    refine evT_then (T := fun H ρ h r => PostT Z H ρ h r Q) PostT.shift PostT.ok_of S E p fun d b h1 H1 ρ1 e S1 E1 p1 => ?_
    cases b with
    | true => exact iteT (PostT.now p1 S1 e)
    | false => exact iteF ⟨Z, ρ1, env, h1, S1, E1, p1⟩
theorem opEv_not {d : D} {h : HpE} : opEv .not [d] h = sel (truth h d) (.ok (.bl false) h) (.ok (.bl true) h) .stuck := by
  show (match truth h d with | some b => Res.ok (D.bl (!b)) h | none => .stuck) = _
  rcases truth h d with _ | _ | _ <;> rfl
theorem evC_not {env : EnvE} {h : HpE} : evC G call (.op .not (.cons ca .nil)) env h = (evC G call ca env h).bind fun d h => sel (truth h d) (.ok (.bl false) h) (.ok (.bl true) h) .stuck := by
  rw [evC_op, evL_cons]
  cases evC G call ca env h with
  | ok d h1 =>
    show (((evL G call .nil env h1).bind fun ds h => Res.ok (d :: ds) h).bind fun ds h => opEv .not ds h) = _
    rw [evL_nil]
    exact opEv_not
  | exc _ _ => rfl
  | stuck => rfl
theorem at_not (ha : PT X a (tEvT G call ca)) : PT X (.UnaryOp .Not a pos) (tEvT G call (.op .not (.cons ca .nil))) :=
  (pt_not ha).mono fun σ H Q ⟨Z, ρ, env, h, S, E, p⟩ => by
    rw [evC_not] at p
    refine evT_then (T := fun H ρ h r => PostT Z H ρ h r Q) (t := fun _ h => .ok (.bl false) h) (f := fun _ h => .ok (.bl true) h) PostT.shift PostT.ok_of S E p fun d b h1 H1 ρ1 e S1 E1 p1 => ?_
    cases b with
    | true => exact PostT.now (d := .bl false) p1 S1 rfl
    | false => exact PostT.now (d := .bl true) p1 S1 rfl
theorem ae_not (ha : PE X a (tEv G call ca)) : PE X (.UnaryOp .Not a pos) (tEv G call (.op .not (.cons ca .nil))) :=
  (pe_notT ha).mono fun σ H Q ⟨Z, ρ, env, h, S, E, p⟩ => by
    rw [evC_not] at p
    refine ev_then (T := fun H ρ h r => Post Z H ρ h r Q) Post.shift Post.ok_of S E p fun d h1 x H1 ρ1 S1 E1 r p1 => ?_
    rcases e : truth h1 d with _ | _ | _ <;> rw [e] at p1
    · exact p1.elim
    · exact ⟨false, Ev.TruV.of S1 r e, Post.now (d := .bl true) p1 S1 (.bl _)⟩
    · exact ⟨true, Ev.TruV.of S1 r e, Post.now (d := .bl false) p1 S1 (.bl _)⟩
theorem ae_ite (hc : PT X c (tEvT G call cc)) (ha : PE X a (tEv G call ca)) (hb : PE X b (tEv G call cb)) : PE X (.IfExp c a b pos) (tEv G call (.ite cc ca cb)) :=
  (pe_ifExp hc ha hb).mono fun σ H Q ⟨Z, ρ, env, h, S, E, p⟩ => by
    rw [evC_ite] at p
    refine evT_then (T := fun H ρ h r => Post Z H ρ h r Q) (t := fun _ h => evC G call ca env h) (f := fun _ h => evC G call cb env h) Post.shift Post.ok_of S E p fun d b h1 H1 ρ1 e S1 E1 p1 => ?_
    cases b with
    | true => exact iteT ⟨Z, ρ1, env, h1, S1, E1, p1⟩
    | false => exact iteF ⟨Z, ρ1, env, h1, S1, E1, p1⟩
/-- a < b < c -/
theorem chain_w {o1 o2 : Op} (h1 : ∀ {ds h h' d}, opEv o1 ds h = .ok d h' → ∃ b, d = .bl b) {σ : L2.St} {H : Hp} {Q : VK} (w : tEv G call (.chain o1 o2 ca cb cc) σ H Q) :
    tChain (fun x y H Q => rOp o1 [x, y] H Q) (fun x y H Q => rOp o2 [x, y] H Q) (tEv G call ca) (tEv G call cb) (tEv G call cc) σ H Q := by
  obtain ⟨Z, ρ, env, h, S, E, p⟩ := w
  rw [evC_chain] at p
  refine ev_then (T := fun H ρ h r => Post Z H ρ h r Q) Post.shift Post.ok_of S E p fun d h1' x H1 ρ1 S1 E1 r p1 => ?_
  have p1 : Post Z H1 ρ1 h1' ((evC G call cb env h1').bind fun y h => (opEv o1 [d, y] h).bind fun z h => sel (blOf z) ((evC G call cc env h).bind fun w h => opEv o2 [y, w] h) (.ok z h) .stuck) Q := p1
  -- the first value must outlive the second's evaluation
  refine ⟨Z, ρ1, env, h1', S1, E1, ?_⟩
  cases e : evC G call cb env h1' with
  | ok d2 h2 =>
    rw [e] at p1
    intro y H2 ρ2 ex S2 r2
    have r := r.keep S1 ex
    have E2 := E1.keep S1 ex
    have p2 : Post Z H2 ρ2 h2 ((opEv o1 [d, d2] h2).bind fun z h => sel (blOf z) ((evC G call cc env h).bind fun w h => opEv o2 [d2, w] h) (.ok z h) .stuck) Q := Post.shift ex S2 p1
    clear p1 p
    refine ⟨Z, ρ2, h2, [d, d2], S2, .cons r (.cons r2 .nil), ?_⟩
    cases e2 : opEv o1 [d, d2] h2 with
    | ok z h3 =>
      rw [e2] at p2
      obtain ⟨b, rfl⟩ := h1 e2
      intro zv H3 ρ3 ex3 S3 r3
      cases r3
      refine ⟨b, rfl, ?_⟩
      have p3 : Post Z H3 ρ3 h3 (sel (some b) ((evC G call cc env h3).bind fun w h => opEv o2 [d2, w] h) (.ok (.bl b) h3) .stuck) Q := Post.shift ex3 S3 p2
      cases b with
      | true =>
        refine iteT ?_
        have r2 := r2.keep S2 ex3
        have p3 : Post Z H3 ρ3 h3 ((evC G call cc env h3).bind fun w h => opEv o2 [d2, w] h) Q := p3
        refine ⟨Z, ρ3, env, h3, S3, E2.keep S2 ex3, ?_⟩
        cases e3 : evC G call cc env h3 with
        | ok d3 h4 =>
          rw [e3] at p3
          intro w' H4 ρ4 ex4 S4 r4
          exact ⟨Z, ρ4, h4, [d2, d3], S4, .cons (r2.keep S3 ex4) (.cons r4 .nil), Post.shift ex4 S4 p3⟩
        | exc _ _ => rw [e3] at p3; exact p3.elim
        | stuck => rw [e3] at p3; exact p3.elim
      | false => exact iteF (Post.now (d := .bl false) p3 S3 (.bl _))
    | exc _ _ => rw [e2] at p2; exact p2.elim
    | stuck => rw [e2] at p2; exact p2.elim
  | exc _ _ => rw [e] at p1; exact p1.elim
  | stuck => rw [e] at p1; exact p1.elim
theorem ae_chain {op1 op2 : CmpOp} {o1 o2 : Op} (h1 : ∀ {ds h h' d}, opEv o1 ds h = .ok d h' → ∃ b, d = .bl b) (ho1 : OpR X (compareOp op1) (fun x y H Q => rOp o1 [x, y] H Q)) (ho2 : OpR X (compareOp op2) (fun x y H Q => rOp o2 [x, y] H Q))
    (ha : PE X a (tEv G call ca)) (hb : PE X b (tEv G call cb)) (hc : PE X c (tEv G call cc)) (hm : lastMarks [op1, op2] [b, c] = false) : PE X (.Compare a [op1, op2] [b, c] pos) (tEv G call (.chain o1 o2 ca cb cc)) :=
  (pe_chain ho1 ho2 ha hb hc hm).mono fun σ H Q w => chain_w h1 w
theorem evC_chain_bl {o1 o2 : Op} (h2 : ∀ {ds h h' d}, opEv o2 ds h = .ok d h' → ∃ b, d = .bl b) {env : EnvE} {h h' : HpE} {d : D} (e : evC G call (.chain o1 o2 ca cb cc) env h = .ok d h') : ∃ b, d = .bl b := by
  rw [evC_chain] at e
  cases e1 : evC G call ca env h with
  | ok x h1 =>
    rw [e1] at e
    have e : ((evC G call cb env h1).bind fun y h => (opEv o1 [x, y] h).bind fun z h => sel (blOf z) ((evC G call cc env h).bind fun w h => opEv o2 [y, w] h) (.ok z h) .stuck) = .ok d h' := e
    cases e2 : evC G call cb env h1 with
    | ok y h2' =>
      rw [e2] at e
      have e : ((opEv o1 [x, y] h2').bind fun z h => sel (blOf z) ((evC G call cc env h).bind fun w h => opEv o2 [y, w] h) (.ok z h) .stuck) = .ok d h' := e
      cases e3 : opEv o1 [x, y] h2' with
      | ok z h3 =>
        rw [e3] at e
        have e : sel (blOf z) ((evC G call cc env h3).bind fun w h => opEv o2 [y, w] h) (.ok z h3) .stuck = .ok d h' := e
        rcases q : blOf z with _ | _ | _ <;> rw [q] at e
        · cases e
        · cases e
          unfold blOf at q
          split at q
          · exact ⟨_, rfl⟩
          · cases q
        · have e : ((evC G call cc env h3).bind fun w h => opEv o2 [y, w] h) = .ok d h' := e
          cases e4 : evC G call cc env h3 with
          | ok w h4 => rw [e4] at e; exact h2 e
          | exc _ _ => rw [e4] at e; cases e
          | stuck => rw [e4] at e; cases e
      | exc _ _ => rw [e3] at e; cases e
      | stuck => rw [e3] at e; cases e
    | exc _ _ => rw [e2] at e; cases e
    | stuck => rw [e2] at e; cases e
  | exc _ _ => rw [e1] at e; cases e
  | stuck => rw [e1] at e; cases e
theorem at_chain {op1 op2 : CmpOp} {o1 o2 : Op} (h1 : ∀ {ds h h' d}, opEv o1 ds h = .ok d h' → ∃ b, d = .bl b) (h2 : ∀ {ds h h' d}, opEv o2 ds h = .ok d h' → ∃ b, d = .bl b) (ho1 : OpR X (compareOp op1) (fun x y H Q => rOp o1 [x, y] H Q)) (ho2 : OpR X (compareOp op2) (fun x y H Q => rOp o2 [x, y] H Q))
    (ha : PE X a (tEv G call ca)) (hb : PE X b (tEv G call cb)) (hc : PE X c (tEv G call cc)) (hm : lastMarks [op1, op2] [b, c] = false) : PT X (.Compare a [op1, op2] [b, c] pos) (tEvT G call (.chain o1 o2 ca cb cc)) :=
  (pt_chain ho1 ho2 ha hb hc hm).mono fun σ H Q w => chain_w h1 (tEvT_val (fun _ _ _ _ e => evC_chain_bl h2 e) w)
end
end Ev

/-! Ev9: subscripts, displays, calls of built-ins, of defs, of methods. -/
namespace Ev
open PySem PySem.Spec PyProof.Rows L2
variable [KK]
/-- not starred, no slice -/
def plainX : Expr → Bool
  | .Starred .. | .Slice .. => false
  | _ => true
theorem star_plain {e : Expr} (h : plainX e = true) (es : List Expr) (env : Env) : starEach (e :: es) env = (false, eval e env) :: starEach es env := by
  cases e <;> first | rfl | cases h
theorem star_any : ∀ {es : List Expr} (h : es.all plainX = true) (env : Env) (pos : Pos), (backTo pos (starEach es env)).any (·.1) = false
  | [], _, _, _ => rfl
  | e :: es, h, env, pos => by
    simp only [List.all_cons, Bool.and_eq_true] at h
    rw [star_plain h.1]
    show (false || (backTo pos (starEach es env)).any (·.1)) = false
    rw [star_any h.2]
    rfl
theorem star_all : ∀ {es : List Expr} (h : es.all plainX = true) (env : Env) (pos : Pos), (backTo pos (starEach es env)).all (fun x => !x.1) = true
  | [], _, _, _ => rfl
  | e :: es, h, env, pos => by
    simp only [List.all_cons, Bool.and_eq_true] at h
    rw [star_plain h.1]
    show (true && (backTo pos (starEach es env)).all (fun x => !x.1)) = true
    rw [star_all h.2]
    rfl
theorem plainIx_of {b : Expr} (h : plainX b = true) : PlainIx b := by
  intro o i
  cases b <;> first | rfl | cases h
/-- no call without arguments of super(): the base of an attribute is what it is -/
def notCall0 : Expr → Bool
  | .Call (.Name _ _) [] [] _ => false
  | _ => true
theorem attr_base {o : Expr} {f : Str} {env : Env} (h : notCall0 o = true) : attributeBase o f env (eval o env) = eval o env := by
  unfold attributeBase
  split
  · cases h
  · rfl
section
variable {X : Cx} {G : List D} {call : CallF} {a b c : Expr} {ca cb cc : C} {pos : Pos} {es : List Expr} {cl : CL}
theorem ae_nilA : PA X [] (tEvL G call .nil) := pa_nil.mono fun σ H Q w => tEvL_nil w
theorem ae_consA {e : Expr} (he : PE X e (tEv G call ca)) (hr : PA X es (tEvL G call cl)) (hp : plainX e = true) : PA X (e :: es) (tEvL G call (.cons ca cl)) :=
  (pa_cons he hr (star_plain hp _ _)).mono fun σ H Q w => tEvL_cons w
theorem ae_ix (hK : X.K = KK.K) (hu : X.A.units + 64 < cLine) (ha : PE X a (tEv G call ca)) (hb : PE X b (tEv G call cb)) (hs : plainX b = true) : PE X (.Subscript a b pos) (tEv G call (.op .ix (.cons ca (.cons cb .nil)))) :=
  (pe_ix (ev_ix hK hu) ha hb (plainIx_of hs)).mono fun σ H Q w => two_args w
theorem ae_tup {x1 : Nat} (h : PA X es (tEvL G call cl)) : PE X (.Tuple es x1 pos) (tEv G call (.op .mkTup cl)) := (ev_mkTup h).mono fun σ H Q w => op_args w
theorem ae_lst (h : PA X es (tEvL G call cl)) : PE X (.List es pos) (tEv G call (.op .mkLst cl)) := (ev_mkLst h).mono fun σ H Q w => op_args w
theorem opEv_newL {ds : List D} {h : HpE} : opEv .newL ds h = if ds.length ≤ sz then .ok (.ref h.length) (h ++ [.lst ds]) else .stuck := by
  show (match (if ds.length ≤ sz then some (D.ref h.length, h ++ [Cell.lst ds]) else none) with | some (d, h') => Res.ok d h' | none => .stuck) = _
  by_cases q : ds.length ≤ sz
  · rw [if_pos q, if_pos q]
  · rw [if_neg q, if_neg q]
/-- a list display that is a place of its own -/
theorem ae_newL (h : PA X es (tEvL G call cl)) : PE X (.List es pos) (tEv G call (.op .newL cl)) := by
  refine ⟨fun pins s σ H Q I w => ?_⟩
  refine wpAny_List_spliced (thn (h.run pos pins s σ H _ I (op_args w)) fun us s1 ⟨vs, H1, I1, r, w1⟩ => ?_)
  obtain ⟨Z, ρ, hh, ds, S, l, p⟩ := w1
  rw [opEv_newL] at p
  split at p
  · rename_i hz
    have hz' : vs.length ≤ sizeLine := by rw [l.length]; exact hz
    have hp : H1 s1.heap.objs.size = none := I1.fresh
    refine ⟨by rw [← r.length]; exact hz', .ref s1.heap.objs.size, upd H1 s1.heap.objs.size (.lst vs), I1.laid (t' := s1.toks) (fun b u e => Heap.get?_push_of_some _ e) (Nat.le_refl _) ⟨hz', us, 0, r, Heap.get?_push_size _ rfl⟩, rfl, ?_⟩
    have ex : Ext H1 ρ hh.length (upd H1 s1.heap.objs.size (.lst vs)) (ρpush ρ hh.length s1.heap.objs.size) (hh ++ [Cell.lst ds]).length := by rw [List.length_append]; exact Ext.push hp
    have S' := S.push (o := .lst vs) (c := .lst ds) hp ⟨vs, upd_same, by have := l.keep S ex; rwa [List.length_append] at this⟩
    refine p _ _ _ ex S' ?_
    have e : (ρpush ρ hh.length s1.heap.objs.size) hh.length = s1.heap.objs.size := if_pos rfl
    have r0 : R (upd H1 s1.heap.objs.size (.lst vs)) Z (ρpush ρ hh.length s1.heap.objs.size) (hh ++ [Cell.lst ds]).length (.ref (ρpush ρ hh.length s1.heap.objs.size hh.length)) (.ref hh.length) := .ref (by rw [List.length_append]; exact Nat.lt_succ_self _)
    rwa [e] at r0
  · exact p.elim
/-- a built-in function called with one thing -/
theorem ae_callB {o : Op} {id : String} {x : Str} {p : Pos} (hc : CallR X (.builtin id) (fun vs H Q => ∃ x, vs = [x] ∧ rOp o [x] H Q)) (hg : Gl X x) (hm : X.mg x = none) (hv : bootBuiltins x = some (.builtin id)) (hn : x ≠ "__name__") (hdb : (x == ("__debug__" : Str)) = false)
    (ha : PE X a (tEv G call ca)) (hp : plainX a = true) : PE X (.Call (.Name x p) [a] [] pos) (tEv G call (.op o (.cons ca .nil))) :=
  (pe_callB hc hg hm hv (pa_cons ha pa_nil (star_plain hp _ _)) hn hdb (star_plain hp _ _)).mono fun σ H Q w => tEv_imp (one_arg w) fun x H1 q => ⟨x, rfl, q⟩
theorem ae_callTy {o : Op} {T : String} {x : Str} {p : Pos} (hc : CallR X (.type T) (fun vs H Q => ∃ x, vs = [x] ∧ rOp o [x] H Q)) (hg : Gl X x) (hm : X.mg x = none) (hv : bootBuiltins x = some (.type T)) (hn : x ≠ "__name__") (hdb : (x == ("__debug__" : Str)) = false)
    (ha : PE X a (tEv G call ca)) (hp : plainX a = true) : PE X (.Call (.Name x p) [a] [] pos) (tEv G call (.op o (.cons ca .nil))) :=
  (pe_callTy hc hg hm hv (pa_cons ha pa_nil (star_plain hp _ _)) hn hdb (star_plain hp _ _)).mono fun σ H Q w => tEv_imp (one_arg w) fun x H1 q => ⟨x, rfl, q⟩
theorem ae_isi {t : Ty} {p p2 : Pos} {tn : Str} (hg : Gl X "isinstance") (hm : X.mg "isinstance" = none) (hg2 : Gl X tn) (hm2 : X.mg tn = none) (hv2 : bootBuiltins tn = some (.type (tyN t))) (hn2 : tn ≠ "__name__") (hd2 : (tn == ("__debug__" : Str)) = false)
    (ha : PE X a (tEv G call ca)) (hp : plainX a = true) : PE X (.Call (.Name "isinstance" p) [a, .Name tn p2] [] pos) (tEv G call (.op (.isi t) (.cons ca .nil))) := by
  have P : PE X (.Name tn p2) (tC (.ty (tyN t))) := pe_bltn hg2 hm2 hv2 rfl hn2 hd2
  exact (pe_callB (ev_isi (t := t)) hg hm (by decide +kernel) (pa_cons ha (pa_cons P pa_nil rfl) (star_plain hp _ _)) (by decide) (by decide) (star_plain hp _ _)).mono fun σ H Q w =>
    tEv_imp (one_arg w) fun x H1 q => ⟨x, rfl, q⟩
/-- sorted(set(e)) -/
theorem ae_sortedSet (hc : X.calm = true) {p1 p2 p3 p4 : Pos} (hg1 : Gl X "sorted") (hm1 : X.mg "sorted" = none) (hg2 : Gl X "set") (hm2 : X.mg "set" = none) (ha : PE X a (tEv G call ca)) (hp : plainX a = true) :
    PE X (.Call (.Name "sorted" p1) [.Call (.Name "set" p3) [a] [] p4] [] p2) (tEv G call (.op .sortedSet (.cons ca .nil))) :=
  ev_sortedSet hc hg1 hm1 hg2 hm2 (pa_cons ha pa_nil (star_plain hp _ _)) (fun σ H R Q w k => tEv_imp (one_arg w) fun x H1 q => k [x] H1 ⟨x, rfl, q⟩) (star_plain hp _ _) (star_plain rfl _ _)
/-! ### slices -/
theorem intV_of {d : D} {i : Int} (e : intV d = some i) : d = .int i := by
  unfold intV at e
  split at e
  · cases e; rfl
  · cases e
theorem Res.bind_ok {α β : Type} {r : Res α} {f : α → HpE → Res β} {b : β} {h' : HpE} (e : r.bind f = .ok b h') : ∃ a h1, r = .ok a h1 ∧ f a h1 = .ok b h' := by
  cases r with
  | ok a h1 => exact ⟨a, h1, rfl, e⟩
  | exc _ _ => cases e
  | stuck => cases e
/-- what a part is evaluated to, where that is known -/
theorem tEv_is {c : C} {σ : L2.St} {H : Hp} {Z : Addr → Prop} {ρ : Nat → Addr} {env : EnvE} {h h1 : HpE} {d : D} {R' : V → Hp → Prop} (S : Sim H Z ρ h) (E : EnvR H Z ρ h.length σ env) (e : evC G call c env h = .ok d h1)
    (k : ∀ x H1 ρ1, Ext H ρ h.length H1 ρ1 h1.length → Sim H1 Z ρ1 h1 → EnvR H1 Z ρ1 h1.length σ env → R H1 Z ρ1 h1.length x d → R' x H1) : tEv G call c σ H R' := by
  refine ⟨Z, ρ, env, h, S, E, ?_⟩
  rw [e]
  exact fun x H1 ρ1 ex S1 r => k x H1 ρ1 ex S1 (E.keep S ex) r
theorem post_int {o : Op} {i : Int} {d : D} {h : HpE} (e : intV (look h d) = some i) : d = .int i := look_of (intV_of e) ⟨(by intro _ q; cases q), (by intro _ q; cases q), by intro _ q; cases q⟩
/-- the parts of an operator's evaluation -/
theorem op_two {o : Op} {env : EnvE} {h : HpE} {Z : Addr → Prop} {H : Hp} {ρ : Nat → Addr} {Q : VK} (p : Post Z H ρ h (evC G call (.op o (.cons ca (.cons cb .nil))) env h) Q) :
    ∃ da h1 db h2, evC G call ca env h = .ok da h1 ∧ evC G call cb env h1 = .ok db h2 ∧ Post Z H ρ h (opEv o [da, db] h2) Q := by
  obtain ⟨d, h', e⟩ := p.ok_of
  rw [evC_op] at e p
  obtain ⟨ds, h3, e1, e2⟩ := Res.bind_ok e
  rw [e1] at p
  rw [evL_cons] at e1
  obtain ⟨da, h1, ea, e1⟩ := Res.bind_ok e1
  obtain ⟨ds', h4, e3, e4⟩ := Res.bind_ok e1
  cases e4
  rw [evL_cons] at e3
  obtain ⟨db, h2, eb, e3⟩ := Res.bind_ok e3
  obtain ⟨ds', h4, e5, e6⟩ := Res.bind_ok e3
  cases e6
  rw [evL_nil] at e5
  cases e5
  exact ⟨da, h1, db, _, ea, eb, p⟩
theorem op_three {o : Op} {env : EnvE} {h : HpE} {Z : Addr → Prop} {H : Hp} {ρ : Nat → Addr} {Q : VK} (p : Post Z H ρ h (evC G call (.op o (.cons ca (.cons cb (.cons cc .nil)))) env h) Q) :
    ∃ da h1 db h2 dc h3, evC G call ca env h = .ok da h1 ∧ evC G call cb env h1 = .ok db h2 ∧ evC G call cc env h2 = .ok dc h3 ∧ Post Z H ρ h (opEv o [da, db, dc] h3) Q := by
  obtain ⟨d, h', e⟩ := p.ok_of
  rw [evC_op] at e p
  obtain ⟨ds, h3, e1, e2⟩ := Res.bind_ok e
  rw [e1] at p
  rw [evL_cons] at e1
  obtain ⟨da, h1, ea, e1⟩ := Res.bind_ok e1
  obtain ⟨ds', h4, e3, e4⟩ := Res.bind_ok e1
  cases e4
  rw [evL_cons] at e3
  obtain ⟨db, h2, eb, e3⟩ := Res.bind_ok e3
  obtain ⟨ds', h4, e5, e6⟩ := Res.bind_ok e3
  cases e6
  rw [evL_cons] at e5
  obtain ⟨dc, h5, ec, e5⟩ := Res.bind_ok e5
  obtain ⟨ds', h4, e7, e8⟩ := Res.bind_ok e5
  cases e8
  rw [evL_nil] at e7
  cases e7
  exact ⟨da, h1, db, h2, dc, _, ea, eb, ec, p⟩
theorem ae_sl2 {p2 : Pos} (ha : PE X a (tEv G call ca)) (hb : PE X b (tEv G call cb)) (hc : PE X c (tEv G call cc)) : PE X (.Subscript a (.Slice (some b) (some c) none p2) pos) (tEv G call (.op .sl2 (.cons ca (.cons cb (.cons cc .nil))))) :=
  (pe_slice ev_sl ha (po_some hb) (po_some hc)).mono fun σ H Q ⟨Z, ρ, env, h, S, E, p⟩ => by
    obtain ⟨da, h1, db, h2, dc, h3, ea, eb, ec, p⟩ := op_three p
    obtain ⟨d, e, p'⟩ := post_op (o := .sl2) rfl (by decide) (by decide) (by decide) p
    have e : ((intV (look h3 db)).bind fun i => (intV (look h3 dc)).bind fun j => oSl (look h3 da) (some i) (some j)) = some d := e
    obtain ⟨i, e1, e⟩ := Option.bind_eq_some_iff.mp e
    obtain ⟨j, e2, e⟩ := Option.bind_eq_some_iff.mp e
    have e1 := post_int (o := .sl2) e1
    have e2 := post_int (o := .sl2) e2
    subst e1 e2
    refine tEv_is S E ea fun x H1 ρ1 ex1 S1 E1 r1 => tEv_is S1 E1 eb fun y H2 ρ2 ex2 S2 E2 r2 => ?_
    cases r2
    refine ⟨i, rfl, tEv_is S2 E2 ec fun z H3 ρ3 ex3 S3 E3 r3 => ?_⟩
    cases r3
    exact ⟨j, rfl, Z, ρ3, h3, da, d, S3, (r1.keep S1 ex2).keep S2 ex3, e, Post.shift ((ex1.trans S1 ex2).trans S2 ex3) S3 p'⟩
theorem ae_slL {p2 : Pos} (ha : PE X a (tEv G call ca)) (hb : PE X b (tEv G call cb)) : PE X (.Subscript a (.Slice (some b) none none p2) pos) (tEv G call (.op .slL (.cons ca (.cons cb .nil)))) :=
  (pe_slice ev_sl ha (po_some hb) po_none).mono fun σ H Q ⟨Z, ρ, env, h, S, E, p⟩ => by
    obtain ⟨da, h1, db, h2, ea, eb, p⟩ := op_two p
    obtain ⟨d, e, p'⟩ := post_op (o := .slL) rfl (by decide) (by decide) (by decide) p
    have e : ((intV (look h2 db)).bind fun i => oSl (look h2 da) (some i) none) = some d := e
    obtain ⟨i, e1, e⟩ := Option.bind_eq_some_iff.mp e
    have e1 := post_int (o := .sl2) e1
    subst e1
    refine tEv_is S E ea fun x H1 ρ1 ex1 S1 E1 r1 => tEv_is S1 E1 eb fun y H2 ρ2 ex2 S2 E2 r2 => ?_
    cases r2
    exact ⟨i, rfl, Z, ρ2, h2, da, d, S2, r1.keep S1 ex2, e, Post.shift (ex1.trans S1 ex2) S2 p'⟩
theorem ae_slH {p2 : Pos} (ha : PE X a (tEv G call ca)) (hb : PE X b (tEv G call cb)) : PE X (.Subscript a (.Slice none (some b) none p2) pos) (tEv G call (.op .slH (.cons ca (.cons cb .nil)))) :=
  (pe_slice ev_sl ha po_none (po_some hb)).mono fun σ H Q ⟨Z, ρ, env, h, S, E, p⟩ => by
    obtain ⟨da, h1, db, h2, ea, eb, p⟩ := op_two p
    obtain ⟨d, e, p'⟩ := post_op (o := .slH) rfl (by decide) (by decide) (by decide) p
    have e : ((intV (look h2 db)).bind fun i => oSl (look h2 da) none (some i)) = some d := e
    obtain ⟨i, e1, e⟩ := Option.bind_eq_some_iff.mp e
    have e1 := post_int (o := .sl2) e1
    subst e1
    refine tEv_is S E ea fun x H1 ρ1 ex1 S1 E1 r1 => tEv_is S1 E1 eb fun y H2 ρ2 ex2 S2 E2 r2 => ?_
    cases r2
    exact ⟨i, rfl, Z, ρ2, h2, da, d, S2, r1.keep S1 ex2, e, Post.shift (ex1.trans S1 ex2) S2 p'⟩
theorem ae_sl0 {p2 : Pos} (ha : PE X a (tEv G call ca)) : PE X (.Subscript a (.Slice none none none p2) pos) (tEv G call (.op .sl0 (.cons ca .nil))) :=
  (pe_slice ev_sl ha po_none po_none).mono fun σ H Q w => tEv_imp (one_arg w) fun x H1 q => by
    obtain ⟨Z, ρ, h, a, d, S, r1, e, p⟩ := q.one rfl (by decide) (by decide) (by decide)
    exact ⟨Z, ρ, h, a, d, S, r1, e, p⟩
/-- x[::-1] of a tuple -/
theorem ae_rev {k : Nat} {p1 p2 p3 : Pos} (ha : PE X a (tEv G call ca)) : PE X (.Subscript a (.Slice none none (some (.UnaryOp .USub (.Constant (.int 1) k p1) p2)) p3) pos) (tEv G call (.op .rev (.cons ca .nil))) := by
  refine ⟨fun pins s σ H Q I w => ?_⟩
  refine Subscript_ (thn (ha.run pins s σ H _ I (one_arg w)) fun v s1 ⟨x, H1, I1, r1, q1⟩ => ?_)
  obtain ⟨Z, ρ, h, a', d, S, rx, e, p⟩ := q1.one rfl (by decide) (by decide) (by decide)
  have e : oRev (look h a') = some d := e
  unfold oRev at e
  split at e
  · rename_i xs q
    cases e
    obtain ⟨at1, vs, rfl, t, l⟩ := rx.tupv q
    cases r1
    have hst : PO X (some (.UnaryOp .USub (.Constant (.int 1) k p1) p2)) (tPart (tUn (rU fun i => .int (-i)) (tC (.int 1)))) := po_some (pe_un un_neg pe_int)
    refine wpAny_Slice (thn (po_none.run pins s1 σ H1 (fun o H2 => o = none ∧ H2 = H1) I1 ⟨rfl, rfl⟩) fun vl s2 ⟨lo, H2, I2, pl, el, e2⟩ => ?_)
    subst el e2
    refine thn (po_none.run pins s2 σ H2 (fun o H3 => o = none ∧ H3 = H2) I2 ⟨rfl, rfl⟩) fun vu s3 ⟨u, H3, I3, pu, eu, e3⟩ => ?_
    subst eu e3
    refine thn (hst.run pins s3 σ H3 (fun o H4 => o = some (-1) ∧ H4 = H3) I3 ⟨1, rfl, -1, rfl, rfl, rfl⟩) fun vst s4 ⟨o, H4, I4, ps, eo, e4⟩ => ?_
    subst eo e4
    cases pl
    cases pu
    obtain ⟨k', rfl⟩ : ∃ k', vst = .int (-1) k' := by cases ps; exact ⟨_, rfl⟩
    have I5 : Inv X pins σ H4 { s4 with heap := s4.heap.push { cls := .type "slice", data := .fields #[.none, .none, .int (-1) k'] } } := I4.kept (t' := s4.toks) fun b ob q => Heap.get?_push_of_some _ q
    obtain ⟨its, r, ht, hz⟩ := I5.tuple (TupAt.sq (K := X.K) t)
    have hlen := r.length
    show wpAny (model X.prog X.w) X.A (subscriptTail a (.Slice none none (some (.UnaryOp .USub (.Constant (.int 1) k p1) p2)) p3) (.ref at1) (.ref s4.heap.objs.size)) (EP X pins σ Q) X.xe { s4 with heap := s4.heap.push { cls := .type "slice", data := .fields #[.none, .none, .int (-1) k'] } }
    refine PyProof.Rows.tail_any (ops := [.ref at1, .ref s4.heap.objs.size]) ht.typeIs PyProof.Rows.slot_tuple_getitem.lookup ?_ (by with_unfolding_all rfl)
    refine getItem_tuple_rev ht (Heap.IsSliceOf.new ..) ?_ (by rw [List.size_toArray]; omega)
    exact ⟨.ref _, _, tup_new I5 (vs := vs.reverse) r.reverse (by rw [List.length_reverse]; exact hz), rfl, p.new S I5.fresh (S.newT I5.fresh l.reverse)⟩
  · cases e
end
end Ev

/-! Ev10: walks, targets of names, list comprehensions. -/
namespace Ev
open PySem PySem.Spec PyProof.Rows L2
variable [KK]
/-- an item of a walk: a value, or a pair just made -/
def RI (zp : Bool) (K : PySem.W.Frag) (H : Hp) (Z : Addr → Prop) (ρ : Nat → Addr) (n : Nat) (x : V) (d : D) : Prop :=
  if zp = true then ∃ p va vb da db, x = .ref p ∧ SqT K H p [va, vb] ∧ d = .tup [da, db] ∧ R H Z ρ n va da ∧ R H Z ρ n vb db else R H Z ρ n x d
def ItOk (K : PySem.W.Frag) (zp : Bool) (J : It) (H1 : Hp) (Z : Addr → Prop) (ρ1 : Nat → Addr) (h1 : HpE) (src xs : List D) : Prop :=
  ∀ (Z' : Addr → Prop) (H : Hp) (ρ : Nat → Addr) (h : HpE) (i : Nat), (∀ a, Z' a → Z a ∨ H1 a = none) → Ext H1 ρ1 h1.length H ρ h.length → Sim H Z' ρ h → src.map (look h) = src.map (look h1) →
    (∀ d, xs[i]? = some d → J.go i H ∧ ∀ x H', J.yld i H x H' → Ext H ρ h.length H' ρ h.length ∧ Sim H' Z' ρ h ∧ RI zp K H' Z' ρ h.length x d) ∧ (xs.length ≤ i → J.stop i H)
section
variable {K : PySem.W.Frag} {H1 : Hp} {Z : Addr → Prop} {ρ1 : Nat → Addr} {h1 : HpE}
theorem it_list {a : Addr} {d : D} {xs : List D} (S1 : Sim H1 Z ρ1 h1) (r : R H1 Z ρ1 h1.length (.ref a) d) (e : look h1 d = .lst xs) : ItOk K false (Itl K a) H1 Z ρ1 h1 [d] xs := by
  intro Z' H ρ h i hz ex S hs
  have e' : look h d = .lst xs := by simpa [e] using hs
  obtain ⟨a', vs, q, rd, l⟩ := (R.keep S1 ex (r.z hz)).lstv S e'
  cases q
  refine ⟨fun d hd => ?_, fun hi => ⟨vs, .inl rd, by rw [l.length]; exact hi⟩⟩
  obtain ⟨v, hv, rv⟩ := l.get hd
  refine ⟨⟨vs, v, .inl rd, hv⟩, fun x H' y => ?_⟩
  obtain ⟨y1, y2⟩ := y
  subst y1
  have := y2 vs (.inl rd)
  rw [hv] at this; cases this
  exact ⟨Ext.refl, S, rv⟩
theorem it_tup {a : Addr} {d : D} {xs : List D} (S1 : Sim H1 Z ρ1 h1) (r : R H1 Z ρ1 h1.length (.ref a) d) (e : look h1 d = .tup xs) : ItOk K false (Itt K a) H1 Z ρ1 h1 [d] xs := by
  intro Z' H ρ h i hz ex S hs
  have e' : look h d = .tup xs := by simpa [e] using hs
  obtain ⟨a', vs, q, rd, l⟩ := (R.keep S1 ex (r.z hz)).tupv e'
  cases q
  refine ⟨fun d hd => ?_, fun hi => ⟨vs, rd.sq, by rw [l.length]; exact hi⟩⟩
  obtain ⟨v, hv, rv⟩ := l.get hd
  refine ⟨⟨vs, v, rd.sq, hv⟩, fun x H' y => ?_⟩
  obtain ⟨y1, y2⟩ := y
  subst y1
  have := y2 vs rd.sq
  rw [hv] at this; cases this
  exact ⟨Ext.refl, S, rv⟩
theorem it_scr {a : Addr} {d : D} {ns : List Int} (hK : K = KK.K) (S1 : Sim H1 Z ρ1 h1) (r : R H1 Z ρ1 h1.length (.ref a) d) (e : look h1 d = .scr ns) : ItOk K false (Itl K a) H1 Z ρ1 h1 [d] (ns.map .int) := by
  intro Z' H ρ h i hz ex S hs
  have e' : look h d = .scr ns := by simpa [e] using hs
  obtain ⟨a', q, sq⟩ := (R.keep S1 ex (r.z hz)).scrv e'
  cases q
  rw [← hK] at sq
  refine ⟨fun d hd => ?_, fun hi => ⟨_, sq, by rw [List.length_map] at hi ⊢; exact hi⟩⟩
  rw [List.getElem?_map] at hd
  obtain ⟨z, hz, rfl⟩ := Option.map_eq_some_iff.mp hd
  have hz' : (ns.map V.int)[i]? = some (.int z) := by rw [List.getElem?_map, hz]; rfl
  refine ⟨⟨_, _, sq, hz'⟩, fun x H' y => ?_⟩
  obtain ⟨y1, y2⟩ := y
  subst y1
  have := y2 _ sq
  rw [hz'] at this; cases this
  exact ⟨Ext.refl, S, .int _⟩
theorem it_str {x : Str} {d : D} : ItOk K false (Its x) H1 Z ρ1 h1 [d] (x.cps.toList.map fun c => .str ⟨#[c]⟩) := by
  intro Z' H ρ h i hz ex S hs
  refine ⟨fun d hd => ?_, fun hi => ?_⟩
  · rw [List.getElem?_map] at hd
    obtain ⟨c, hc, rfl⟩ := Option.map_eq_some_iff.mp hd
    have hc' : x.cps[i]? = some c := by rw [← Array.getElem?_toList]; exact hc
    refine ⟨?_, fun v H' y => ?_⟩
    · show i < x.cps.size
      exact (Array.getElem?_eq_some_iff.mp hc').1
    · obtain ⟨y1, c', y2, y3⟩ := y
      subst y1 y3
      rw [hc'] at y2; cases y2
      exact ⟨Ext.refl, S, .str _⟩
  · show x.cps.size ≤ i
    simpa using hi
theorem it_rng {lo hi : Int} {src : List D} : ItOk K false (Itr lo (hi - lo).toNat) H1 Z ρ1 h1 src (rangeL lo hi) := by
  intro Z' H ρ h i hz ex S hs
  unfold rangeL
  refine ⟨fun d hd => ?_, fun hi => ?_⟩
  · rw [List.getElem?_map] at hd
    obtain ⟨c, hc, rfl⟩ := Option.map_eq_some_iff.mp hd
    obtain ⟨h1, h2⟩ := List.getElem?_eq_some_iff.mp hc
    simp only [List.length_range] at h1
    simp at h2
    subst h2
    refine ⟨h1, fun v H' y => ?_⟩
    obtain ⟨y1, y2⟩ := y
    subst y1 y2
    exact ⟨Ext.refl, S, .int _⟩
  · show (_ : Nat) ≤ i
    simpa using hi
theorem zipL_get : ∀ {as bs : List D} {i : Nat} {d : D}, (zipL as bs)[i]? = some d → ∃ a b, as[i]? = some a ∧ bs[i]? = some b ∧ d = .tup [a, b]
  | [], _, _, _, h => by simp [zipL] at h
  | _ :: _, [], _, _, h => by simp [zipL] at h
  | a :: as, b :: bs, 0, d, h => by simp [zipL] at h; exact ⟨a, b, rfl, rfl, h.symm⟩
  | a :: as, b :: bs, i + 1, d, h => by
    simp only [zipL, List.getElem?_cons_succ] at h
    obtain ⟨x, y, h1, h2, h3⟩ := zipL_get h
    exact ⟨x, y, by simpa using h1, by simpa using h2, h3⟩
theorem zipL_length : ∀ {as bs : List D}, (zipL as bs).length = min as.length bs.length
  | [], _ => by simp [zipL]
  | _ :: _, [] => by simp [zipL]
  | a :: as, b :: bs => by simp only [zipL, List.length_cons, zipL_length]; omega
theorem enumL_get : ∀ {as : List D} {n i : Nat} {d : D}, (enumL n as)[i]? = some d → ∃ a, as[i]? = some a ∧ d = .tup [.int (n + i : Nat), a]
  | [], _, _, _, h => by simp [enumL] at h
  | a :: as, n, 0, d, h => by simp [enumL] at h; exact ⟨a, rfl, h.symm⟩
  | a :: as, n, i + 1, d, h => by
    simp only [enumL, List.getElem?_cons_succ] at h
    obtain ⟨x, h1, h2⟩ := enumL_get h
    exact ⟨x, by simpa using h1, by rw [h2]; congr 4; omega⟩
theorem enumL_length : ∀ {as : List D} {n : Nat}, (enumL n as).length = as.length
  | [], _ => rfl
  | a :: as, n => by simp only [enumL, List.length_cons, enumL_length]
theorem pair_item {H : Hp} {Z' : Addr → Prop} {ρ : Nat → Addr} {h : HpE} {T : Addr} {x y : V} {a b : D} (S : Sim H Z' ρ h) (hT : H T = none) (rx : R H Z' ρ h.length x a) (ry : R H Z' ρ h.length y b) :
    Ext H ρ h.length (upd H T (.tup [x, y])) ρ h.length ∧ Sim (upd H T (.tup [x, y])) Z' ρ h ∧ RI true K (upd H T (.tup [x, y])) Z' ρ h.length (.ref T) (.tup [a, b]) :=
  ⟨Ext.laid hT, S.laid hT, T, x, y, a, b, rfl, .inl (.inl upd_same), rfl, rx.keep S (Ext.laid hT), ry.keep S (Ext.laid hT)⟩
theorem it_zipL {a b : Addr} {d e : D} {xs ys : List D} (S1 : Sim H1 Z ρ1 h1) (r : R H1 Z ρ1 h1.length (.ref a) d) (ed : look h1 d = .lst xs) (q : R H1 Z ρ1 h1.length (.ref b) e) (ee : look h1 e = .lst ys) : ItOk K true (Itz K a b) H1 Z ρ1 h1 [d, e] (zipL xs ys) := by
  intro Z' H ρ h i hz ex S hs
  simp only [List.map_cons, List.map_nil, List.cons.injEq, and_true] at hs
  obtain ⟨a', vs, q1, rd, l⟩ := (R.keep S1 ex (r.z hz)).lstv S (hs.1.trans ed)
  cases q1
  obtain ⟨b', ws, q1, rd2, l2⟩ := (R.keep S1 ex (q.z hz)).lstv S (hs.2.trans ee)
  cases q1
  refine ⟨fun d hd => ?_, fun hi => ⟨vs, ws, .inl rd, .inl rd2, ?_⟩⟩
  · obtain ⟨u, w, h1, h2, rfl⟩ := zipL_get hd
    obtain ⟨v, hv, rv⟩ := l.get h1
    obtain ⟨v', hv', rv'⟩ := l2.get h2
    refine ⟨⟨vs, ws, v, v', .inl rd, .inl rd2, hv, hv'⟩, fun x H' y => ?_⟩
    obtain ⟨T, x', y', rfl, hT, rfl, e1, e2⟩ := y
    have e1 := e1 vs (.inl rd)
    have e2 := e2 ws (.inl rd2)
    rw [hv] at e1; cases e1
    rw [hv'] at e2; cases e2
    exact pair_item S hT rv rv'
  · rw [zipL_length] at hi
    rw [l.length, l2.length]
    omega
theorem it_zipT {a b : Addr} {d e : D} {xs ys : List D} (S1 : Sim H1 Z ρ1 h1) (r : R H1 Z ρ1 h1.length (.ref a) d) (ed : look h1 d = .tup xs) (q : R H1 Z ρ1 h1.length (.ref b) e) (ee : look h1 e = .tup ys) : ItOk K true (RZ.ItzT K a b) H1 Z ρ1 h1 [d, e] (zipL xs ys) := by
  intro Z' H ρ h i hz ex S hs
  simp only [List.map_cons, List.map_nil, List.cons.injEq, and_true] at hs
  obtain ⟨a', vs, q1, rd, l⟩ := (R.keep S1 ex (r.z hz)).tupv (hs.1.trans ed)
  cases q1
  obtain ⟨b', ws, q1, rd2, l2⟩ := (R.keep S1 ex (q.z hz)).tupv (hs.2.trans ee)
  cases q1
  refine ⟨fun d hd => ?_, fun hi => ⟨vs, ws, rd.sq, rd2.sq, ?_⟩⟩
  · obtain ⟨u, w, h1, h2, rfl⟩ := zipL_get hd
    obtain ⟨v, hv, rv⟩ := l.get h1
    obtain ⟨v', hv', rv'⟩ := l2.get h2
    refine ⟨⟨vs, ws, v, v', rd.sq, rd2.sq, hv, hv'⟩, fun x H' y => ?_⟩
    obtain ⟨T, x', y', rfl, hT, rfl, e1, e2⟩ := y
    have e1 := e1 vs rd.sq
    have e2 := e2 ws rd2.sq
    rw [hv] at e1; cases e1
    rw [hv'] at e2; cases e2
    exact pair_item S hT rv rv'
  · rw [zipL_length] at hi
    rw [l.length, l2.length]
    omega
theorem it_enum {a : Addr} {d : D} {xs : List D} (S1 : Sim H1 Z ρ1 h1) (r : R H1 Z ρ1 h1.length (.ref a) d) (ed : look h1 d = .lst xs) : ItOk K true (Ite K a) H1 Z ρ1 h1 [d] (enumL 0 xs) := by
  intro Z' H ρ h i hz ex S hs
  simp only [List.map_cons, List.map_nil, List.cons.injEq, and_true] at hs
  obtain ⟨a', vs, q1, rd, l⟩ := (R.keep S1 ex (r.z hz)).lstv S (hs.trans ed)
  cases q1
  refine ⟨fun d hd => ?_, fun hi => ⟨vs, .inl rd, ?_⟩⟩
  · obtain ⟨u, h1, rfl⟩ := enumL_get hd
    obtain ⟨v, hv, rv⟩ := l.get h1
    refine ⟨⟨vs, v, .inl rd, hv⟩, fun x H' y => ?_⟩
    obtain ⟨T, x', rfl, hT, rfl, e1⟩ := y
    have e1 := e1 vs (.inl rd)
    rw [hv] at e1; cases e1
    rw [Nat.zero_add]
    exact pair_item S hT (.int _) rv
  · rw [enumL_length] at hi
    rw [l.length]
    exact hi
end
def ikz : IK → Bool
  | .zip | .enum => true
  | _ => false
def PostI (K : PySem.W.Frag) (Z : Addr → Prop) (H : Hp) (ρ : Nat → Addr) (h : HpE) (k : IK) (r : Res (List D)) (Q : It → Hp → Prop) : Prop := match r with
  | .ok ds h1 => ∃ xs, items k (ds.map (look h1)) = some xs ∧ ∀ J H1 ρ1, Ext H ρ h.length H1 ρ1 h1.length → Sim H1 Z ρ1 h1 → ItOk K (ikz k) J H1 Z ρ1 h1 ds xs → Q J H1
  | _ => False
def tEvI (G : List D) (call : CallF) (K : PySem.W.Frag) (k : IK) (cl : CL) : TI := fun σ H Q => ∃ Z ρ env h, Sim H Z ρ h ∧ EnvR H Z ρ h.length σ env ∧ PostI K Z H ρ h k (evL G call cl env h) Q
section
variable {X : Cx} {G : List D} {call : CallF}
theorem tEvI_args {K : PySem.W.Frag} {k : IK} {cl : CL} {σ : L2.St} {H : Hp} {Q : It → Hp → Prop} (w : tEvI G call K k cl σ H Q) :
    tEvL G call cl σ H fun vs H1 => ∃ Z ρ1 h1 ds xs, Sim H1 Z ρ1 h1 ∧ RL H1 Z ρ1 h1.length vs ds ∧ items k (ds.map (look h1)) = some xs ∧ ∀ J, ItOk K (ikz k) J H1 Z ρ1 h1 ds xs → Q J H1 := by
  obtain ⟨Z, ρ, env, h, S, E, p⟩ := w
  refine ⟨Z, ρ, env, h, S, E, ?_⟩
  cases e : evL G call cl env h with
  | ok ds h1 =>
    rw [e] at p
    obtain ⟨xs, hx, p⟩ := p
    exact fun vs H1 ρ1 ex S1 l => ⟨Z, ρ1, h1, ds, xs, S1, l, hx, fun J it => p J H1 ρ1 ex S1 it⟩
  | exc _ _ => rw [e] at p; exact p
  | stuck => rw [e] at p; exact p
def iAny (K : PySem.W.Frag) (te : TE) : TI := fun σ H R => te σ H fun x H1 =>
  (∃ a xs, x = .ref a ∧ SqL K H1 a xs ∧ R (Itl K a) H1) ∨ (∃ a xs, x = .ref a ∧ SqT K H1 a xs ∧ R (Itt K a) H1) ∨ ∃ y, x = .str y ∧ R (Its y) H1
theorem pi_any {tg e : Expr} {te : TE} (he : PE X e te) : PI X tg e (iAny X.K te) := by
  refine ⟨fun pins s σ H R I h => ?_⟩
  refine thn (he.run pins s σ H _ I h) fun v s1 ⟨x, H1, I1, r1, q1⟩ => ?_
  rcases q1 with ⟨a, xs, rfl, hq, q⟩ | ⟨a, xs, rfl, hq, q⟩ | ⟨y, rfl, q⟩
  · cases r1
    obtain ⟨its, rv, p, hz⟩ := I1.list hq
    refine wpAny_pyIter_list p.isList ?_
    refine ⟨s1.heap.objs.size, [s1.heap.objs.size], _, _, H1, rfl, I1.kept (t' := s1.toks) fun b o e => Heap.get?_push_of_some _ e, turn_list a _, ⟨_, Heap.get?_push_size _ rfl, rfl, rfl⟩, fun b hb => ?_, q⟩
    have e : b = s1.heap.objs.size := by simpa using hb
    subst e
    exact I1.fpOk (Nat.le_refl _) (I1.hok.fresh (Nat.le_refl _))
  · cases r1
    obtain ⟨its, rv, p, hz⟩ := I1.tuple hq
    refine wpAny_pyIter_tuple (show s1.heap.IsTuple a its.toArray from p) ?_
    refine ⟨s1.heap.objs.size, [s1.heap.objs.size], _, _, H1, rfl, I1.kept (t' := s1.toks) fun b o e => Heap.get?_push_of_some _ e, turn_tuple a _, ⟨_, Heap.get?_push_size _ rfl, rfl, rfl⟩, fun b hb => ?_, q⟩
    have e : b = s1.heap.objs.size := by simpa using hb
    subst e
    exact I1.fpOk (Nat.le_refl _) (I1.hok.fresh (Nat.le_refl _))
  · obtain ⟨t, rfl⟩ := r1
    cases ha : y.cps.all (· < 128)
    · exact wpAny_pyIter_wide ha (pi_one (tk := s1.toks) I1 _ (turn_str _ y t "str_iterator" (.inr rfl)) ⟨_, Heap.get?_push_size _ rfl, rfl, rfl⟩ q)
    · exact wpAny_pyIter_ascii ha (pi_one (tk := s1.toks) I1 _ (turn_str _ y t "str_ascii_iterator" (.inl rfl)) ⟨_, Heap.get?_push_size _ rfl, rfl, rfl⟩ q)
theorem _root_.L2.PI.mono {tg e : Expr} {t t' : TI} (h : PI X tg e t) (k : ∀ σ H Q, t' σ H Q → t σ H Q) : PI X tg e t' := ⟨fun pins s σ H Q I w => h.run pins s σ H Q I (k σ H Q w)⟩
theorem ai_plain {tg e : Expr} {c : C} (hK : X.K = KK.K) (he : PE X e (tEv G call c)) : PI X tg e (tEvI G call X.K .plain (.cons c .nil)) :=
  (pi_any he).mono fun σ H Q w => tEv_imp (tEvL_cons (tEvI_args w)) fun x H1 q => by
    obtain ⟨Z, ρ1, h1, ds, xs, S1, l, hx, k⟩ := tEvL_nil q
    cases l with
    | cons r l =>
      rename_i d ds
      cases l
      have hx : asIter (look h1 d) = some xs := hx
      unfold asIter at hx
      split at hx
      · rename_i ys e
        cases hx
        obtain ⟨a, vs, rfl, rd, l⟩ := r.tupv e
        exact .inr (.inl ⟨a, vs, rfl, rd.sq, k _ (it_tup S1 r e)⟩)
      · rename_i ys e
        cases hx
        obtain ⟨a, vs, rfl, rd, l⟩ := r.lstv S1 e
        exact .inl ⟨a, vs, rfl, .inl rd, k _ (it_list S1 r e)⟩
      · rename_i ys e
        cases hx
        obtain ⟨a, rfl, sq⟩ := r.scrv e
        exact .inl ⟨a, _, rfl, by rw [hK]; exact sq, k _ (it_scr hK S1 r e)⟩
      · rename_i y e
        split at hx
        · cases hx
          have := r.strv e
          subst this
          exact .inr (.inr ⟨y, rfl, k _ it_str⟩)
        · cases hx
      · cases hx
theorem look_int {h : HpE} {d : D} {i : Int} (e : look h d = .int i) : d = .int i := look_of e ⟨(by intro _ q; cases q), (by intro _ q; cases q), by intro _ q; cases q⟩
theorem items_range1 {d : D} {xs : List D} (e : items .range [d] = some xs) : ∃ j, d = .int j ∧ smallI j ∧ xs = rangeL 0 j := by
  cases d with
  | int j =>
    have e : (if smallI j then some (rangeL 0 j) else none) = some xs := e
    split at e
    · cases e; exact ⟨j, rfl, by assumption, rfl⟩
    · cases e
  | _ => cases e
theorem items_range2 {d d' : D} {xs : List D} (e : items .range [d, d'] = some xs) : ∃ i j, d = .int i ∧ d' = .int j ∧ smallI i ∧ smallI j ∧ xs = rangeL i j := by
  cases d with
  | int i =>
    cases d' with
    | int j =>
      have e : (if smallI i ∧ smallI j then some (rangeL i j) else none) = some xs := e
      split at e
      · rename_i q
        cases e; exact ⟨i, j, rfl, rfl, q.1, q.2, rfl⟩
      · cases e
    | _ => cases e
  | _ => cases e
theorem items_zip {a b : D} {xs : List D} (e : items .zip [a, b] = some xs) : ∃ us vs, ((a = .tup us ∧ b = .tup vs) ∨ (a = .lst us ∧ b = .lst vs)) ∧ xs = zipL us vs := by
  cases a with
  | tup us =>
    cases b with
    | tup vs => cases e; exact ⟨us, vs, .inl ⟨rfl, rfl⟩, rfl⟩
    | _ => cases e
  | lst us =>
    cases b with
    | lst vs => cases e; exact ⟨us, vs, .inr ⟨rfl, rfl⟩, rfl⟩
    | _ => cases e
  | _ => cases e
theorem items_enum {a : D} {xs : List D} (e : items .enum [a] = some xs) : ∃ us, a = .lst us ∧ xs = enumL 0 us := by
  cases a with
  | lst us => cases e; exact ⟨us, rfl, rfl⟩
  | _ => cases e
theorem ai_range1 {tg a : Expr} {c : C} {p pos : Pos} (hg : Gl X "range") (hm : X.mg "range" = none) (ha : PE X a (tEv G call c)) (hp : plainX a = true) :
    PI X tg (.Call (.Name "range" p) [a] [] pos) (tEvI G call X.K .range (.cons c .nil)) :=
  (pi_range1 hg hm (pa_cons ha pa_nil (star_plain hp _ _)) (star_plain hp _ _)).mono fun σ H Q w => tEv_imp (tEvL_cons (tEvI_args w)) fun x H1 q => by
    obtain ⟨Z, ρ1, h1, ds, xs, S1, l, hx, k⟩ := tEvL_nil q
    refine show ∃ j : Int, [x] = [.int j] ∧ _ from ?_
    cases l with
    | cons r l =>
      rename_i d ds
      cases l
      obtain ⟨j, e, qj, rfl⟩ := items_range1 hx
      have := r.intv e
      subst this
      exact ⟨j, rfl, qj.1, qj.2, by have := k _ (it_rng (lo := 0) (hi := j)); simpa using this⟩
theorem ai_range2 {tg a b : Expr} {c d : C} {p pos : Pos} (hg : Gl X "range") (hm : X.mg "range" = none) (ha : PE X a (tEv G call c)) (hp : plainX a = true) (hb : PE X b (tEv G call d)) (hp2 : plainX b = true) :
    PI X tg (.Call (.Name "range" p) [a, b] [] pos) (tEvI G call X.K .range (.cons c (.cons d .nil))) :=
  (pi_range2 hg hm (pa_cons ha (pa_cons hb pa_nil (star_plain hp2 _ _)) (star_plain hp _ _)) (by rw [star_plain hp, star_plain hp2]; rfl) (star_plain hp2 _ _)).mono fun σ H Q w => tEv_imp (tEvL_cons (tEvI_args w)) fun x H1 q => tEv_imp (tEvL_cons q) fun y H2 q => by
    obtain ⟨Z, ρ1, h1, ds, xs, S1, l, hx, k⟩ := tEvL_nil q
    refine show ∃ i j : Int, [x, y] = [.int i, .int j] ∧ _ from ?_
    cases l with
    | cons r l =>
      cases l with
      | cons r2 l =>
        cases l
        obtain ⟨i, j, e, e2, qi, qj, rfl⟩ := items_range2 hx
        have := r.intv e
        subst this
        have := r2.intv e2
        subst this
        exact ⟨i, j, rfl, ⟨qi.1, qi.2, qj.1, qj.2⟩, k _ it_rng⟩
theorem ai_zip {a b : Expr} {c d : C} {p pos tpos : Pos} {elts : List Expr} {kk : Nat} (hg : Gl X "zip") (hm : X.mg "zip" = none) (ha : PE X a (tEv G call c)) (hp : plainX a = true) (hb : PE X b (tEv G call d)) (hp2 : plainX b = true) :
    PI X (.Tuple elts kk tpos) (.Call (.Name "zip" p) [a, b] [] pos) (tEvI G call X.K .zip (.cons c (.cons d .nil))) :=
  (RZ.pi_zipA hg hm (pa_cons ha (pa_cons hb pa_nil (star_plain hp2 _ _)) (star_plain hp _ _)) (star_plain hp _ _) (by rw [star_plain hp2]; rfl)).mono fun σ H Q w => tEv_imp (tEvL_cons (tEvI_args w)) fun x H1 q => tEv_imp (tEvL_cons q) fun y H2 q => by
    obtain ⟨Z, ρ1, h1, ds, xs, S1, l, hx, k⟩ := tEvL_nil q
    refine show ∃ a b xs ys, [x, y] = [.ref a, .ref b] ∧ _ from ?_
    cases l with
    | cons r l =>
      cases l with
      | cons r2 l =>
        cases l
        obtain ⟨us, vs, ⟨e, e2⟩ | ⟨e, e2⟩, rfl⟩ := items_zip hx
        · obtain ⟨a1, ws, rfl, rd, l⟩ := r.tupv e
          obtain ⟨a2, ws2, rfl, rd2, l2⟩ := r2.tupv e2
          exact ⟨a1, a2, ws, ws2, rfl, .inr ⟨rd.sq, rd2.sq, k _ (it_zipT S1 r e r2 e2)⟩⟩
        · obtain ⟨a1, ws, rfl, rd, l⟩ := r.lstv S1 e
          obtain ⟨a2, ws2, rfl, rd2, l2⟩ := r2.lstv S1 e2
          exact ⟨a1, a2, ws, ws2, rfl, .inl ⟨.inl rd, .inl rd2, k _ (it_zipL S1 r e r2 e2)⟩⟩
theorem ai_enum {a : Expr} {c : C} {p pos tpos : Pos} {elts : List Expr} {kk : Nat} (hg : Gl X "enumerate") (hm : X.mg "enumerate" = none) (ha : PE X a (tEv G call c)) (hp : plainX a = true) :
    PI X (.Tuple elts kk tpos) (.Call (.Name "enumerate" p) [a] [] pos) (tEvI G call X.K .enum (.cons c .nil)) :=
  (pi_enum hg hm (pa_cons ha pa_nil (star_plain hp _ _)) (star_plain hp _ _)).mono fun σ H Q w => tEv_imp (tEvL_cons (tEvI_args w)) fun x H1 q => by
    obtain ⟨Z, ρ1, h1, ds, xs, S1, l, hx, k⟩ := tEvL_nil q
    refine show ∃ a xs, [x] = [.ref a] ∧ _ from ?_
    cases l with
    | cons r l =>
      cases l
      obtain ⟨us, e, rfl⟩ := items_enum hx
      obtain ⟨a1, ws, rfl, rd, l⟩ := r.lstv S1 e
      exact ⟨a1, ws, rfl, .inl rd, k _ (it_enum S1 r e)⟩
end
end Ev

/-! Ev11: targets of names, list comprehensions. -/
namespace Ev
open PySem PySem.Spec PyProof.Rows L2
variable [KK]
/-! ### targets of names -/
mutual
def gNT (K : PySem.W.Frag) : NT → TG
  | .name i => gName i
  | .tup ts => gTup K ts.length (gNTs K ts)
def gNTs (K : PySem.W.Frag) : List NT → TGs
  | [] => gNil
  | t :: ts => gCons (gNT K t) (gNTs K ts)
end
mutual
def namesNT : NT → List Nat
  | .name i => [i]
  | .tup ts => namesNTs ts
def namesNTs : List NT → List Nat
  | [] => []
  | t :: ts => namesNT t ++ namesNTs ts
end
theorem wipe_set_in {σ : L2.St} {i : Nat} {x : Option V} : ∀ {vs : List Nat}, i ∈ vs → L2.wipe (σ.set i x) vs = L2.wipe σ vs
  | [], h => by cases h
  | v :: vs, h => by
    unfold L2.wipe
    by_cases e : i ∈ vs
    · rw [wipe_set_in e]
    · have : i = v := by
        rcases List.mem_cons.mp h with h | h
        · exact h
        · exact absurd h e
      subst this
      have key : ∀ ws : List Nat, i ∉ ws → L2.wipe (σ.set i x) ws = (L2.wipe σ ws).set i x := by
        intro ws
        induction ws with
        | nil => intro _; rfl
        | cons w ws ih =>
          intro hn
          unfold L2.wipe
          rw [ih (fun z => hn (List.mem_cons_of_mem _ z))]
          exact List.set_comm _ _ (fun z => hn (z ▸ List.mem_cons_self))
      rw [key vs e, List.set_set]
theorem wipe_set_self {σ : L2.St} {i : Nat} : ∀ {vs : List Nat}, i ∈ vs → (L2.wipe σ vs).set i none = L2.wipe σ vs
  | [], h => by cases h
  | v :: vs, h => by
    unfold L2.wipe
    by_cases e : i = v
    · subst e; rw [List.set_set]
    · have : i ∈ vs := by
        rcases List.mem_cons.mp h with h | h
        · exact absurd h e
        · exact h
      rw [List.set_comm _ _ (Ne.symm e), wipe_set_self this]
theorem wipe_wipe {σ : L2.St} : ∀ {vs ws : List Nat}, (∀ i ∈ vs, i ∈ ws) → L2.wipe (L2.wipe σ ws) vs = L2.wipe σ ws
  | [], _, _ => rfl
  | v :: vs, ws, h => by
    show (L2.wipe (L2.wipe σ ws) vs).set v none = _
    rw [wipe_wipe (fun i hi => h i (List.mem_cons_of_mem _ hi)), wipe_set_self (h v List.mem_cons_self)]
section
variable {K : PySem.W.Frag} {H : Hp} {Z : Addr → Prop} {ρ : Nat → Addr} {n : Nat}
mutual
theorem gNT_ok : ∀ (t : NT) {x : V} {d : D} {σ : L2.St} {env env' : EnvE} {Q : L2.St → Hp → Prop}, EnvR H Z ρ n σ env → R H Z ρ n x d → asgNT t d env = some env' →
    (∀ σ', EnvR H Z ρ n σ' env' → σ'.length = σ.length → (∀ vs, (∀ i ∈ namesNT t, i ∈ vs) → L2.wipe σ' vs = L2.wipe σ vs) → Q σ' H) → gNT K t x σ H Q
  | .name i, x, d, σ, env, env', Q, E, r, e, k => by
    rw [asgNT] at e
    split at e
    · cases e
      exact k _ (E.set r i) (by simp) fun vs hv => wipe_set_in (hv i (by simp [namesNT]))
    · cases e
  | .tup ts, x, d, σ, env, env', Q, E, r, e, k => by
    cases r with
    | tup t l =>
      rw [asgNT] at e
      split at e
      · rename_i hl
        refine ⟨_, _, rfl, t.sq, by rw [l.length]; exact hl.symm, gNTs_ok ts E l e fun σ' E' hl hw => k σ' E' hl fun vs hv => hw vs hv⟩
      · cases e
    | _ => simp [asgNT] at e
theorem gNTs_ok : ∀ (ts : List NT) {xs : List V} {ds : List D} {σ : L2.St} {env env' : EnvE} {Q : L2.St → Hp → Prop}, EnvR H Z ρ n σ env → RL H Z ρ n xs ds → asgNTs ts ds env = some env' →
    (∀ σ', EnvR H Z ρ n σ' env' → σ'.length = σ.length → (∀ vs, (∀ i ∈ namesNTs ts, i ∈ vs) → L2.wipe σ' vs = L2.wipe σ vs) → Q σ' H) → gNTs K ts xs σ H Q
  | [], xs, ds, σ, env, env', Q, E, l, e, k => by
    cases l with
    | nil => rw [asgNTs] at e; cases e; exact ⟨rfl, k σ E rfl fun _ _ => rfl⟩
    | cons r l => simp [asgNTs] at e
  | t :: ts, xs, ds, σ, env, env', Q, E, l, e, k => by
    cases l with
    | nil => simp [asgNTs] at e
    | cons r l =>
      rw [asgNTs] at e
      split at e
      · rename_i env1 e1
        exact ⟨_, _, rfl, gNT_ok t E r e1 fun σ1 E1 hl1 h1 => gNTs_ok ts E1 l e fun σ2 E2 hl2 h2 => k σ2 E2 (hl2.trans hl1) fun vs hv =>
          (h2 vs fun i hi => hv i (by rw [namesNTs]; exact List.mem_append_right _ hi)).trans (h1 vs fun i hi => hv i (by rw [namesNTs]; exact List.mem_append_left _ hi))⟩
      · cases e
end
theorem gNT_item {zp : Bool} (t : NT) {x : V} {d : D} {σ : L2.St} {env env' : EnvE} {Q : L2.St → Hp → Prop} (ht : zp = true → ∃ ts, t = .tup ts) (E : EnvR H Z ρ n σ env) (r : RI zp K H Z ρ n x d) (e : asgNT t d env = some env')
    (k : ∀ σ', EnvR H Z ρ n σ' env' → σ'.length = σ.length → (∀ vs, (∀ i ∈ namesNT t, i ∈ vs) → L2.wipe σ' vs = L2.wipe σ vs) → Q σ' H) : gNT K t x σ H Q := by
  unfold RI at r
  split at r
  · obtain ⟨ts, rfl⟩ := ht (by assumption)
    obtain ⟨p, va, vb, da, db, rfl, sq, rfl, ra, rb⟩ := r
    rw [asgNT] at e
    split at e
    · rename_i hl
      exact ⟨_, _, rfl, sq, hl.symm, gNTs_ok ts E (.cons ra (.cons rb .nil)) e fun σ' E' hl hw => k σ' E' hl fun vs hv => hw vs hv⟩
    · cases e
  · exact gNT_ok t E r e k
end
def plainT : Expr → Bool
  | .Name _ _ | .Tuple _ _ _ | .Subscript _ _ _ => true
  | _ => false
section
variable {X : Cx} {K : PySem.W.Frag}
theorem ag_name {i : Nat} {x : Str} {p : Pos} (hN : X.N.Nodup) (hi : X.N[i]? = some x) (hx : Loc X.env.scope x) (hf : X.fn x = true ∨ X.env.scope.names.lookup x = some .local) : PG X (.Name x p) (gNT K (.name i)) := by
  rw [gNT]; exact pg_name hN hi hx (hf := hf)
theorem ags_nil : PGs X [] (gNTs K []) := by rw [gNTs]; exact pgs_nil
theorem ags_cons {e : Expr} {es : List Expr} {t : NT} {ts : List NT} (hp : plainT e = true) (h : PG X e (gNT K t)) (hs : PGs X es (gNTs K ts)) : PGs X (e :: es) (gNTs K (t :: ts)) := by
  rw [gNTs]; exact pgs_cons h hs (by cases e <;> first | rfl | cases hp)
end
/-! ### tests of a clause -/
section
variable {X : Cx} {G : List D} {call : CallF}
def PostIf (Z : Addr → Prop) (H : Hp) (ρ : Nat → Addr) (h : HpE) (r : Res Bool) (Q : Bool → Hp → Prop) : Prop := match r with
  | .ok b h' => ∀ H' ρ', Ext H ρ h.length H' ρ' h'.length → Sim H' Z ρ' h' → Q b H'
  | _ => False
def tEvIf (G : List D) (call : CallF) (cl : CL) : TT := fun σ H Q => ∃ Z ρ env h, Sim H Z ρ h ∧ EnvR H Z ρ h.length σ env ∧ PostIf Z H ρ h (evIf G call cl env h) Q
theorem aif_nil : PTs X [] (tEvIf G call .nil) := ⟨fun pins s σ H Q I w => pts_nil.run pins s σ H Q I (by
  obtain ⟨Z, ρ, env, h, S, E, p⟩ := w
  rw [evIf] at p
  exact p H ρ Ext.refl S)⟩
theorem aif_one {c : Expr} {cc : C} (hc : PT X c (tEvT G call cc)) : PTs X [c] (tEvIf G call (.cons cc .nil)) := ⟨fun pins s σ H Q I w => (pts_one hc).run pins s σ H Q I (by
  obtain ⟨Z, ρ, env, h, S, E, p⟩ := w
  refine ⟨Z, ρ, env, h, S, E, ?_⟩
  rw [evIf] at p
  cases e : evC G call cc env h with
  | ok d h' =>
    rw [e] at p
    have p : PostIf Z H ρ h (sel (truth h' d) (evIf G call .nil env h') (.ok false h') .stuck) Q := p
    show match truth h' d with | some b => _ | none => False
    cases q : truth h' d with
    | none => rw [q] at p; exact p
    | some b =>
      rw [q] at p
      cases b with
      | false => exact p
      | true =>
        have p : PostIf Z H ρ h (evIf G call .nil env h') Q := p
        rw [evIf] at p
        exact p
  | exc _ _ => rw [e] at p; exact p
  | stuck => rw [e] at p; exact p)⟩
end
/-! ### the comprehension -/
theorem compL_le {src h0 : List D} {f : D → HpE → Res (Option D)} : ∀ {xs : List D} {h : HpE} {acc ys : List D} {h' : HpE}, compL src h0 f xs h acc = .ok ys h' → acc.length ≤ ys.length ∧ ys.length ≤ sz
  | [], h, acc, ys, h', e => by
    rw [compL] at e
    split at e
    · cases e; exact ⟨Nat.le_refl _, by assumption⟩
    · cases e
  | d :: ds, h, acc, ys, h', e => by
    rw [compL] at e
    split at e
    · split at e
      · have := compL_le e
        rw [List.length_append] at this
        exact ⟨by omega, this.2⟩
      · cases e
    · split at e
      · exact compL_le e
      · cases e
    · cases e
theorem Sim.laidZ {H : Hp} {Z : Addr → Prop} {ρ : Nat → Addr} {h : HpE} {p : Addr} {o : HO} (S : Sim H Z ρ h) (hp : H p = none) : Sim (upd H p o) (fun a => Z a ∨ a = p) ρ h where
  inj := S.inj
  nz := fun i hi z => z.elim (S.nz i hi) fun z => by
    obtain ⟨o', e, _⟩ := S.there hi
    rw [z, hp] at e; cases e
  zt := fun a z => by
    by_cases q : a = p
    · subst q; rw [upd_same]; intro z; cases z
    · rw [upd_ne q]; exact S.zt a (z.resolve_right q)
  cell := fun i c e => by
    have hi : i < h.length := (List.getElem?_eq_some_iff.mp e).1
    obtain ⟨o', e', _⟩ := S.there hi
    exact ((S.cell i c e).z fun a z => z.elim .inl fun z => .inr (z ▸ hp)).keep S (Ext.laid hp) (upd_ne (ne_of_none e' hp))
theorem EnvR.same {H H' : Hp} {Z : Addr → Prop} {ρ : Nat → Addr} {n : Nat} {σ : L2.St} {env : EnvE} (k : Same2 H H' Z ρ n) (x : EnvR H Z ρ n σ env) : EnvR H' Z ρ n σ env :=
  ⟨x.len, fun i d q => let ⟨v, h1, h2⟩ := x.get i d q; ⟨v, h1, h2.same k⟩⟩
theorem Ext.upd {H H' : Hp} {ρ ρ' : Nat → Addr} {n n' : Nat} {p : Addr} {o : HO} (e : Ext H ρ n H' ρ' n') (hp : H p = none) : Ext H ρ n (upd H' p o) ρ' n' :=
  ⟨e.len, e.old, e.new, fun a o' q hn => by rw [upd_ne (ne_of_none q hp)]; exact e.keep a o' q hn⟩
theorem Ext.one {H H' : Hp} {Z : Addr → Prop} {ρ ρ' : Nat → Addr} {h : HpE} {n' : Nat} {p : Addr} {o : HO} (e : Ext H ρ h.length H' ρ' n') (S : Sim H Z ρ h) (z : Z p) (hp : H p = some o) : H' p = some o :=
  e.keep p o hp fun i hi q => S.nz i hi (q ▸ z)
section
variable {X : Cx} {G : List D} {call : CallF} {K : PySem.W.Frag}
theorem comp_w {own : List Nat} {t : NT} {k : IK} {it ifs : CL} {e : C} {σ : L2.St} {H : Hp} {Q : VK} (ht : ikz k = true → ∃ ts, t = .tup ts) (hown : ∀ i ∈ namesNT t, i ∈ own) (w : tEv G call (.comp own t k it ifs e) σ H Q) :
    tLc (tEvI G call K k it) (gNT K t) (tEvIf G call ifs) (tEv G call e) own σ H Q := by
  obtain ⟨Z, ρ, env, h, S, E, p⟩ := w
  obtain ⟨dr, hE, er⟩ := p.ok_of
  rw [evC] at er p
  obtain ⟨ds, h1, e1, er⟩ := Res.bind_ok er
  obtain ⟨xs, h1', e2, er⟩ := Res.bind_ok er
  unfold ofO at e2
  split at e2
  case h_2 => cases e2
  rename_i xs' hx
  cases e2
  obtain ⟨ys, hE2, e3, e4⟩ := Res.bind_ok er
  cases e4
  have p : Post Z H ρ h (.ok (.lst ys) hE) Q := by
    rw [e1] at p
    have p : Post Z H ρ h ((ofO (items k (ds.map (look h1))) h1).bind _) Q := p
    rw [hx] at p
    have p : Post Z H ρ h ((compL ds (ds.map (look h1)) _ xs h1 []).bind fun ys h => .ok (.lst ys) h) Q := p
    rw [e3] at p
    exact p
  refine ⟨Z, ρ, env, h, S, E, ?_⟩
  rw [e1]
  refine ⟨xs, hx, fun J H1 ρ1 ex1 S1 itok => ?_⟩
  intro Dn hD
  have E1 := E.keep S ex1
  generalize hf : (fun (x : D) (h : HpE) => (ofO (asgNT t x (wipeE env own)) h).bind fun env' h => (evIf G call ifs env' h).bind fun b h => if b = true then (evC G call e env' h).bind fun d h => Res.ok (some d) h else Res.ok none h) = f at e3
  refine ⟨fun i m Hx => m = xs.length - i ∧ i ≤ xs.length ∧ ∃ ρ' h' acc accV, Ext H1 ρ1 h1.length Hx ρ' h'.length ∧ Sim Hx (fun a => Z a ∨ a = Dn) ρ' h' ∧ Hx Dn = some (.lst accV) ∧ RL Hx (fun a => Z a ∨ a = Dn) ρ' h'.length accV acc ∧
    ds.map (look h') = ds.map (look h1) ∧ compL ds (ds.map (look h1)) f (xs.drop i) h' acc = .ok ys hE ∧ EnvR Hx (fun a => Z a ∨ a = Dn) ρ' h'.length (L2.wipe σ own) (wipeE env own), ⟨xs.length, by simp, Nat.zero_le _, ρ1, h1, [], [], Ext.laid hD, S1.laidZ hD, upd_same, .nil, rfl, by rw [List.drop_zero]; exact e3, ?_⟩, ?_⟩
  · refine EnvR.wipe (EnvR.keep S1 (Ext.laid hD) (EnvR.z (fun a z => z.elim .inl fun z => .inr (z ▸ hD)) E1)) own
  rintro i m Hx ⟨rfl, hi, ρ', h', acc, accV, ex, Sx, hDx, lx, hs, hc, Ex⟩
  have hnone : ∀ a, (Z a ∨ a = Dn) → Z a ∨ H1 a = none := fun a z => z.elim .inl fun z => .inr (z ▸ hD)
  obtain ⟨go, stop⟩ := itok _ Hx ρ' h' i hnone ex Sx hs
  by_cases hlt : i < xs.length
  · obtain ⟨jg, jy⟩ := go xs[i] (List.getElem?_eq_getElem hlt)
    refine .inr ⟨jg, fun Hn => (i + 1 ≤ xs.length ∧ ∃ ρ' h' acc accV, Ext H1 ρ1 h1.length Hn ρ' h'.length ∧ Sim Hn (fun a => Z a ∨ a = Dn) ρ' h' ∧ Hn Dn = some (.lst accV) ∧ RL Hn (fun a => Z a ∨ a = Dn) ρ' h'.length accV acc ∧
      ds.map (look h') = ds.map (look h1) ∧ compL ds (ds.map (look h1)) f (xs.drop (i + 1)) h' acc = .ok ys hE ∧ EnvR Hn (fun a => Z a ∨ a = Dn) ρ' h'.length (L2.wipe σ own) (wipeE env own)), fun H' n => ⟨xs.length - (i + 1), by omega, rfl, n⟩, fun x H2 y => ?_⟩
    obtain ⟨ex2, S2, ri⟩ := jy x H2 y
    have E2 := Ex.keep Sx ex2
    rw [List.drop_eq_getElem_cons hlt, compL] at hc
    -- what the turn does
    cases ea : asgNT t xs[i] (wipeE env own) with
    | none =>
      rw [← hf] at hc
      simp only [ea, ofO, Res.bind] at hc
      cases hc
    | some env' =>
      have hfx : f xs[i] h' = (evIf G call ifs env' h').bind fun b h => if b = true then (evC G call e env' h).bind fun d h => Res.ok (some d) h else Res.ok none h := by
        rw [← hf]
        simp only [ea, ofO]
        rfl
      rw [hfx] at hc
      refine gNT_item t ht E2 ri ea fun σ2 E2' hl2 hw => ⟨?_, ?_⟩
      · rw [hw own hown, wipe_wipe fun _ h => h]
      cases eif : evIf G call ifs env' h' with
      | exc _ _ => rw [eif] at hc; cases hc
      | stuck => rw [eif] at hc; cases hc
      | ok b h3 =>
        rw [eif] at hc
        refine ⟨_, ρ', env', h', S2, E2', ?_⟩
        rw [eif]
        intro H3 ρ3 ex3 S3
        have E3 := E2'.keep S2 ex3
        have ED3 := ((E2.keep S2 ex3))
        have hD2 := ex2.one Sx (.inr rfl) hDx
        have hD3 := ex3.one S2 (.inr rfl) hD2
        have exx3 : Ext H1 ρ1 h1.length H3 ρ3 h3.length := (ex.trans Sx ex2).trans S2 ex3
        have l3 : RL H3 (fun a => Z a ∨ a = Dn) ρ3 h3.length accV acc := (lx.keep Sx ex2).keep S2 ex3
        cases b with
        | false =>
          simp only [Res.bind, Bool.false_eq_true, if_false] at hc ⊢
          split at hc
          · exact ⟨hlt, ρ3, h3, acc, accV, exx3, S3, hD3, l3, by assumption, hc, ED3⟩
          · cases hc
        | true =>
          simp only [Res.bind, if_true] at hc ⊢
          cases eb : evC G call e env' h3 with
          | exc _ _ => rw [eb] at hc; cases hc
          | stuck => rw [eb] at hc; cases hc
          | ok d h4 =>
            rw [eb] at hc
            simp only at hc
            split at hc
            · rename_i hs4
              refine ⟨_, ρ3, env', h3, S3, E3, ?_⟩
              rw [eb]
              intro v H4 ρ4 ex4 S4 r4
              have hD4 := ex4.one S3 (.inr rfl) hD3
              have hle := compL_le hc
              rw [List.length_append, List.length_singleton] at hle
              have l4 := l3.keep S3 ex4
              have hsz : accV.length < sizeLine := by
                rw [l4.length]
                have := hle.1
                have := hle.2
                rw [sz_eq] at this
                omega
              have k4 : Same2 H4 (upd H4 Dn (.lst (accV ++ [v]))) (fun a => Z a ∨ a = Dn) ρ4 h4.length := Same2.write (.inr rfl) hD4 (by intro _ _ z; cases z)
              exact ⟨accV, hD4, hsz, hlt, ρ4, h4, acc ++ [d], accV ++ [v], (exx3.trans S3 ex4).upd hD, S4.writeZ (.inr rfl) hD4 (by intro _ _ z; cases z), upd_same,
                (l4.same k4).append (.cons (r4.same k4) .nil), hs4, hc, (ED3.keep S3 ex4).same k4⟩
            · cases hc
  · have hi' : i = xs.length := by omega
    subst hi'
    refine .inl ⟨stop (Nat.le_refl _), ?_⟩
    rw [List.drop_length, compL] at hc
    split at hc
    · cases hc
      have Sz : Sim Hx Z ρ' hE := Sx.z (fun a z => .inl (.inl z)) (fun a z => Sx.zt a (.inl z))
      refine p (.ref Dn) Hx ρ' (ex1.trans S1 ex) Sz (.lst (.inl hDx) ?_ (lx.z fun a z => .inl (.inl z)))
      rintro (z | ⟨m, hm, z⟩)
      · exact S1.zt Dn z hD
      · exact Sx.nz m hm (.inr z)
    · cases hc
theorem ae_comp {elt tg iter : Expr} {ifs : List Expr} {scope : Scope} {own : List (Str × Nat)} {pos : Pos} {t : NT} {k : IK} {cit cifs : CL} {ce : C} (hc : X.calm = true) (hN : X.N.Nodup) (hi : PI X tg iter (tEvI G call X.K k cit)) (ok : BlkOk X.N X.env.scope scope own)
    (hg : ∀ (s : Shared) (H : Hp) (C : Addr) (cl : List (Str × Addr)) (fp : List Addr), PG (X.blk s H scope (compEnvC scope cl C X.env) fp) tg (gNT X.K t)) (ht : ∀ (s : Shared) (H : Hp) (C : Addr) (cl : List (Str × Addr)) (fp : List Addr), PTs (X.blk s H scope (compEnvC scope cl C X.env) fp) ifs (tEvIf G call cifs))
    (he : ∀ (s : Shared) (H : Hp) (C : Addr) (cl : List (Str × Addr)) (fp : List Addr), PE (X.blk s H scope (compEnvC scope cl C X.env) fp) elt (tEv G call ce)) (hs : ∀ x, foldedSetIterable iter X.env x = pure x)
    (hz : ikz k = true → ∃ ts, t = .tup ts) (hown : ∀ i ∈ namesNT t, i ∈ own.map (·.2)) :
    PE X (.ListComp elt [⟨tg, iter, ifs, 0⟩] scope pos) (tEv G call (.comp (own.map (·.2)) t k cit cifs ce)) :=
  (pe_lc hc hN hi ok hg ht he hs).mono fun σ H Q w => comp_w hz hown w
end
end Ev

/-! Ev12: methods, targets, statements. -/
namespace Ev
open PySem PySem.Spec PyProof.Rows L2
variable [KK]
/-! ### a place written -/
section
variable {Z : Addr → Prop} {ρ : Nat → Addr} {h : HpE} {H : Hp}
theorem post_set {m : Nat} {o : HO} {c : Cell} {d : D} {v : V} {Q : VK} (S : Sim H Z ρ h) (hm : m < h.length) (hc : CellR (upd H (ρ m) o) Z ρ h.length (ρ m) c) (r : R (upd H (ρ m) o) Z ρ h.length v d) (p : Post Z H ρ h (.ok d (h.set m c)) Q) : Q v (upd H (ρ m) o) := by
  have p : ∀ v H' ρ', Ext H ρ h.length H' ρ' (h.set m c).length → Sim H' Z ρ' (h.set m c) → R H' Z ρ' (h.set m c).length v d → Q v H' := p
  rw [List.length_set] at p
  exact p v _ ρ (Ext.write hm) (S.write hm hc) r
theorem get_lst {m : Nat} {ds : List D} (S : Sim H Z ρ h) (e : h[m]? = some (.lst ds)) : ∃ vs, H (ρ m) = some (.lst vs) ∧ RL H Z ρ h.length vs ds := S.cell m _ e
theorem get_dct {m : Nat} {ds : List (D × D)} (S : Sim H Z ρ h) (e : h[m]? = some (.dct ds)) : ∃ ks, H (ρ m) = some (.dK ks) ∧ RK H Z ρ h.length ks ds := S.cell m _ e
theorem cell_lst {m : Nat} {vs : List V} {ds : List D} (S : Sim H Z ρ h) (hm : m < h.length) (l : RL H Z ρ h.length vs ds) : CellR (upd H (ρ m) (.lst vs)) Z ρ h.length (ρ m) (.lst ds) :=
  ⟨vs, upd_same, l.keep S (Ext.write hm)⟩
theorem cell_dct {m : Nat} {vs : List (Key × V)} {ds : List (D × D)} (S : Sim H Z ρ h) (hm : m < h.length) (l : RK H Z ρ h.length vs ds) : CellR (upd H (ρ m) (.dK vs)) Z ρ h.length (ρ m) (.dct ds) :=
  ⟨vs, upd_same, l.keep S (Ext.write hm)⟩
theorem lt_of_get {α : Type} {l : List α} {i : Nat} {a : α} (e : l[i]? = some a) : i < l.length := (List.getElem?_eq_some_iff.mp e).1
end
/-- a method's effect -/
def rM (o : Op) (x : V) (xs : List V) (H : Hp) (Q : VK) : Prop := ∃ Z ρ h d ds, Sim H Z ρ h ∧ R H Z ρ h.length x d ∧ RL H Z ρ h.length xs ds ∧ Post Z H ρ h (opEv o (d :: ds) h) Q

theorem mAppend_ok {ds : List D} {h h' : HpE} {d : D} (e : mAppend ds h = some (d, h')) : ∃ n x zs, ds = [.ref n, x] ∧ h[n]? = some (.lst zs) ∧ zs.length < sz ∧ d = .non ∧ h' = h.set n (.lst (zs ++ [x])) := by
  unfold mAppend at e
  split at e
  · split at e
    · split at e
      · cases e; exact ⟨_, _, _, rfl, by assumption, by assumption, rfl, rfl⟩
      · cases e
    · cases e
  · cases e
theorem mExtend_ok {ds : List D} {h h' : HpE} {d : D} (e : mExtend ds h = some (d, h')) : ∃ n x zs es, ds = [.ref n, x] ∧ h[n]? = some (.lst zs) ∧ look h x = .lst es ∧ zs.length + es.length ≤ sz ∧ d = .non ∧ h' = h.set n (.lst (zs ++ es)) := by
  unfold mExtend at e
  split at e
  · split at e
    · split at e
      · cases e; exact ⟨_, _, _, _, rfl, by assumption, by assumption, by assumption, rfl, rfl⟩
      · cases e
    · cases e
  · cases e
theorem mPop_ok {ds : List D} {h h' : HpE} {d : D} (e : mPop ds h = some (d, h')) : ∃ n zs, ds = [.ref n] ∧ h[n]? = some (.lst zs) ∧ zs.getLast? = some d ∧ h' = h.set n (.lst zs.dropLast) := by
  unfold mPop at e
  split at e
  · split at e
    · obtain ⟨x, e1, e2⟩ := Option.map_eq_some_iff.mp e
      cases e2
      exact ⟨_, _, rfl, by assumption, e1, rfl⟩
    · cases e
  · cases e
theorem mPopAt_ok {ds : List D} {h h' : HpE} {d : D} (e : mPopAt ds h = some (d, h')) : ∃ n i zs k, ds = [.ref n, .int i] ∧ h[n]? = some (.lst zs) ∧ -(2 ^ 63) ≤ i ∧ i < 2 ^ 63 ∧ ixN zs.length i = some k ∧ zs[k]? = some d ∧ h' = h.set n (.lst (zs.eraseIdx k)) := by
  unfold mPopAt at e
  split at e
  · split at e
    · split at e
      · rename_i q
        obtain ⟨k, e1, e2⟩ := Option.bind_eq_some_iff.mp e
        obtain ⟨x, e1', e2⟩ := Option.map_eq_some_iff.mp e2
        cases e2
        exact ⟨_, _, _, k, rfl, by assumption, q.1, q.2, e1, e1', rfl⟩
      · cases e
    · cases e
  · cases e
theorem mSet_ok {ds : List D} {h h' : HpE} {d : D} (e : mSet ds h = some (d, h')) : ∃ n k v, ds = [.ref n, k, v] ∧ d = .non ∧ ((∃ zs i j, h[n]? = some (.lst zs) ∧ k = .int i ∧ ixN zs.length i = some j ∧ h' = h.set n (.lst (zs.set j v))) ∨
    ∃ kvs, h[n]? = some (.dct kvs) ∧ kOk kvs k = true ∧ kvs.length < sz ∧ h' = h.set n (.dct (dput kvs k v))) := by
  unfold mSet at e
  split at e
  · split at e
    · obtain ⟨i, e1, e2⟩ := Option.bind_eq_some_iff.mp e
      obtain ⟨j, e3, e4⟩ := Option.map_eq_some_iff.mp e2
      cases e4
      exact ⟨_, _, _, rfl, rfl, .inl ⟨_, i, j, by assumption, intV_of e1, e3, rfl⟩⟩
    · split at e
      · split at e
        · cases e
          exact ⟨_, _, _, rfl, rfl, .inr ⟨_, by assumption, by assumption, by assumption, rfl⟩⟩
        · cases e
      · cases e
    · cases e
  · cases e
theorem post_m {o : Op} {Z : Addr → Prop} {ρ : Nat → Addr} {h : HpE} {H : Hp} {ds : List D} {Q : VK} (ho : isMut o = true) (p : Post Z H ρ h (opEv o ds h) Q) : ∃ d h', opM o ds h = some (d, h') ∧ Post Z H ρ h (.ok d h') Q := by
  unfold opEv at p
  rw [if_pos ho] at p
  split at p
  · exact ⟨_, _, by assumption, p⟩
  · exact p.elim
theorem ixN_seq' {n k : Nat} {i : Int} (e : ixN n i = some k) : seqIndex? i n = some k := by
  unfold ixN at e
  unfold seqIndex?
  split at e
  · rename_i h0
    split at e
    · rename_i h1
      cases e
      simp only []
      have : ¬ i < 0 := by omega
      simp [this]
      omega
    · cases e
  · rename_i h0
    split at e
    · rename_i h1
      cases e
      have : i < 0 := by omega
      simp [this]
      omega
    · cases e
section
variable {X : Cx}
theorem mt_extendR : MtR X "list.extend" (fun x vs H Q => ∃ l b xs zs, x = .ref l ∧ vs = [.ref b] ∧ H l = some (.lst xs) ∧ Rd H b (.lst zs) ∧ xs.length + zs.length ≤ sizeLine ∧ Q .non (upd H l (.lst (xs ++ zs)))) := by
  intro pins s σ H x vs v us Q I rx rv h
  obtain ⟨l, b, xs, zs, rfl, rfl, hH, hB, hz, q⟩ := h
  cases rx
  obtain ⟨u, rfl, ru⟩ := rv.one
  cases ru
  obtain ⟨z, its, n, r, hl, e⟩ := I.lstM hH
  obtain ⟨z2, its2, n2, r2, e2⟩ := hB.ok I.hok
  have hl2 := r2.length
  have hsz : its.toArray.size + its2.toArray.size ≤ sizeLine := by rw [List.size_toArray, List.size_toArray]; omega
  have hlong : ¬ (!its.toArray.isEmpty && Builtin.List.listTooLong (its.toArray.size + its2.toArray.size)) = true := by
    rw [notLongL hsz, Bool.and_false]
    exact Bool.false_ne_true
  refine call_meets F.slot_list_extend ⟨_, e, rfl⟩ F.entry_list_extend (F.args_list_extend_2 _ _)
    (AutoSeq1.list_extend_list_list_0 l its.toArray n b its2.toArray n2 hlong (by rw [List.size_toArray]; omega) (by omega)) ⟨e, e2, ?_⟩
  refine ⟨.non, _, I.lset (its' := its ++ its2) hH e (by simp) (r.append r2) ?_, rfl, q⟩
  rw [List.length_append]
  omega
theorem m_append : MtR X "list.append" (rM .append) := fun pins s σ H x xs v us Q I rx rxs ⟨Z, ρ, h, d, ds, S, r, l, p⟩ => mt_append pins s σ H x xs v us Q I rx rxs <| by
  obtain ⟨d', h', e, p2⟩ := post_m rfl p
  obtain ⟨n, x', zs, e1, e2, hz, rfl, rfl⟩ := mAppend_ok e
  cases e1
  cases l with
  | cons r1 l =>
    cases l
    cases r with
    | ref hm =>
      obtain ⟨vs, hv, lv⟩ := get_lst S e2
      refine ⟨_, vs, _, rfl, rfl, hv, by rw [lv.length, ← sz_eq]; exact hz, ?_⟩
      exact post_set S hm (cell_lst S hm (lv.append (.cons r1 .nil))) .non p2
theorem m_extend : MtR X "list.extend" (rM .extend) := fun pins s σ H x xs v us Q I rx rxs ⟨Z, ρ, h, d, ds, S, r, l, p⟩ => mt_extendR pins s σ H x xs v us Q I rx rxs <| by
  obtain ⟨d', h', e, p2⟩ := post_m rfl p
  obtain ⟨n, x', zs, es, e1, e2, e3, hz, rfl, rfl⟩ := mExtend_ok e
  cases e1
  cases l with
  | cons r1 l =>
    cases l
    cases r with
    | ref hm =>
      obtain ⟨vs, hv, lv⟩ := get_lst S e2
      obtain ⟨b, ws, rfl, rd, lw⟩ := r1.lstv S e3
      refine ⟨_, b, vs, ws, rfl, rfl, hv, rd, by rw [lv.length, lw.length, ← sz_eq]; exact hz, ?_⟩
      exact post_set S hm (cell_lst S hm (lv.append lw)) .non p2
theorem m_pop : MtR X "list.pop" (rM .pop) := fun pins s σ H x xs v us Q I rx rxs ⟨Z, ρ, h, d, ds, S, r, l, p⟩ => mt_pop pins s σ H x xs v us Q I rx rxs <| by
  obtain ⟨d', h', e, p2⟩ := post_m rfl p
  obtain ⟨n, zs, e1, e2, e3, rfl⟩ := mPop_ok e
  cases e1
  cases l
  cases r with
  | ref hm =>
    obtain ⟨vs, hv, lv⟩ := get_lst S e2
    rw [List.getLast?_eq_getElem?] at e3
    obtain ⟨y, hy, ry⟩ := lv.get e3
    refine ⟨_, vs, y, rfl, rfl, hv, by rw [lv.length]; exact hy, ?_⟩
    exact post_set S hm (cell_lst S hm lv.dropLast) (ry.keep S (Ext.write hm)) p2
theorem m_popAt : MtR X "list.pop" (rM .popAt) := fun pins s σ H x xs v us Q I rx rxs ⟨Z, ρ, h, d, ds, S, r, l, p⟩ => mt_popAt pins s σ H x xs v us Q I rx rxs <| by
  obtain ⟨d', h', e, p2⟩ := post_m rfl p
  obtain ⟨n, i, zs, k, e1, e2, h1, h2, e3, e4, rfl⟩ := mPopAt_ok e
  cases e1
  cases l with
  | cons r1 l =>
    cases l
    cases r1
    cases r with
    | ref hm =>
      obtain ⟨vs, hv, lv⟩ := get_lst S e2
      obtain ⟨y, hy, ry⟩ := lv.get e4
      refine ⟨_, vs, i, k, y, rfl, rfl, hv, h1, h2, by rw [lv.length]; exact ixN_seq' e3, hy, ?_⟩
      exact post_set S hm (cell_lst S hm (lv.eraseIdx k)) (ry.keep S (Ext.write hm)) p2
end
section
variable {X : Cx} {G : List D} {call : CallF} {o e : Expr} {co ce : C}
theorem recvOk_lst {op : Op} {d : D} (e : recvOk op d = true) : ∃ ds, d = .lst ds := by
  cases d with
  | lst ds => exact ⟨ds, rfl⟩
  | _ => cases op <;> cases e
theorem tyV_list {op : Op} {Z : Addr → Prop} {ρ : Nat → Addr} {h : HpE} {H : Hp} {x : V} {d : D} {K : PySem.W.Frag} (S : Sim H Z ρ h) (r : R H Z ρ h.length x d) (e : recvOk op (look h d) = true) : tyV K "list" x H := by
  obtain ⟨ds, q⟩ := recvOk_lst e
  obtain ⟨a, vs, rfl, rd, _⟩ := r.lstv S q
  exact .inl ⟨rfl, vs, .inl rd⟩
theorem mth_parts {op : Op} {es : CL} {σ : L2.St} {H : Hp} {Q : VK} {K : PySem.W.Frag} (w : tEv G call (.mth op co es) σ H Q) : tEv G call co σ H fun x H1 => tyV K "list" x H1 ∧ tEvL G call es σ H1 fun xs H2 => rM op x xs H2 Q := by
  obtain ⟨Z, ρ, env, h, S, E, p⟩ := w
  obtain ⟨dr, hE, er⟩ := p.ok_of
  rw [evC] at er p
  obtain ⟨d, h1, e1, er⟩ := Res.bind_ok er
  rw [e1] at p
  have p : Post Z H ρ h (if recvOk op (look h1 d) = true then (evL G call es env h1).bind fun ds h => opEv op (d :: ds) h else .stuck) Q := p
  split at p
  · rename_i hr
    refine tEv_is S E e1 fun x H1 ρ1 ex S1 E1 r => ⟨tyV_list S1 r hr, Z, ρ1, env, h1, S1, E1, ?_⟩
    cases e2 : evL G call es env h1 with
    | ok ds h2 =>
      rw [e2] at p
      intro xs H2 ρ2 ex2 S2 l
      exact ⟨Z, ρ2, h2, d, ds, S2, r.keep S1 ex2, l, Post.shift (ex.trans S1 ex2) S2 p⟩
    | exc _ _ => rw [e2] at p; exact p
    | stuck => rw [e2] at p; exact p
  · exact p.elim
theorem few_one {a : Expr} {env : Env} {cpos : Pos} (hp : plainX a = true) : ((backTo cpos (starEach [a] env)).all (fun x => !x.1) && (backToKw cpos (keywordEach [] env)).all (fun x => x.1.isSome) && decide (([a]).length + ([] : List Keyword).length + (if ([] : List Keyword).isEmpty then 0 else 1) < 30)) = true := by
  rw [star_plain hp]; rfl
theorem ae_mth1 {op : Op} {name : Str} {id : String} {apos cpos : Pos} (slot : Slot "list" name id) (hty : typeOf (.builtin id) = pure (.type "method_descriptor")) (hm : MtR X id (rM op)) (ho : PE X o (tEv G call co)) (hbase : attributeBase o name X.env (eval o X.env) = eval o X.env)
    (he : PE X e (tEv G call ce)) (hp : plainX e = true) (hline : (apos.endLine == cpos.line) = true) : PE X (.Call (.Attribute o name apos) [e] [] cpos) (tEv G call (.mth op co (.cons ce .nil))) :=
  (pe_bm PySem.F.plainAttrs_list slot hty hm ho (pa_cons he pa_nil (star_plain hp _ _)) hbase (few_one hp) hline (star_plain hp _ _)).mono fun σ H Q w => tEv_imp (mth_parts w) fun x H1 ⟨q1, q2⟩ => ⟨q1, tEv_imp (tEvL_cons q2) fun y H2 q => tEvL_nil q⟩
theorem ae_mth0 {op : Op} {name : Str} {id : String} {apos cpos : Pos} (slot : Slot "list" name id) (hty : typeOf (.builtin id) = pure (.type "method_descriptor")) (hm : MtR X id (rM op)) (ho : PE X o (tEv G call co)) (hbase : attributeBase o name X.env (eval o X.env) = eval o X.env)
    (hline : (apos.endLine == cpos.line) = true) : PE X (.Call (.Attribute o name apos) [] [] cpos) (tEv G call (.mth op co .nil)) :=
  (pe_bm0 PySem.F.plainAttrs_list slot hty hm ho hbase hline).mono fun σ H Q w => tEv_imp (mth_parts w) fun x H1 ⟨q1, q2⟩ => ⟨q1, tEvL_nil q2⟩
end
end Ev

/-! Ev13: targets, statements. -/
namespace Ev
open PySem PySem.Spec PyProof.Rows L2
variable [KK]
def PostA (Z : Addr → Prop) (H : Hp) (ρ : Nat → Addr) (h : HpE) (σ : L2.St) (r : Res EnvE) (Q : L2.St → Hp → Prop) : Prop := match r with
  | .ok env' h' => ∀ σ' H' ρ', σ'.length = σ.length → Ext H ρ h.length H' ρ' h'.length → Sim H' Z ρ' h' → EnvR H' Z ρ' h'.length σ' env' → Q σ' H'
  | _ => False
section
variable (G : List D) (call : CallF)
def tAs (t : T) : TG := fun v σ H Q => ∃ Z ρ env h d, Sim H Z ρ h ∧ EnvR H Z ρ h.length σ env ∧ R H Z ρ h.length v d ∧ PostA Z H ρ h σ (asgT G call t d env h) Q
def tAss (ts : List T) : TGs := fun vs σ H Q => ∃ Z ρ env h ds, Sim H Z ρ h ∧ EnvR H Z ρ h.length σ env ∧ RL H Z ρ h.length vs ds ∧ PostA Z H ρ h σ (asgTs G call ts ds env h) Q
end
section
variable {Z : Addr → Prop} {ρ ρ1 : Nat → Addr} {h h1 : HpE} {H H1 : Hp} {σ σ1 : L2.St} {env : EnvE}
theorem PostA.ok_of {r : Res EnvE} {Q : L2.St → Hp → Prop} (p : PostA Z H ρ h σ r Q) : ∃ b h', r = .ok b h' := by
  cases r with
  | ok d h' => exact ⟨d, h', rfl⟩
  | exc _ _ => exact p.elim
  | stuck => exact p.elim
theorem PostA.shift {r : Res EnvE} {Q : L2.St → Hp → Prop} (hl : σ1.length = σ.length) (e1 : Ext H ρ h.length H1 ρ1 h1.length) (S1 : Sim H1 Z ρ1 h1) (p : PostA Z H ρ h σ r Q) : PostA Z H1 ρ1 h1 σ1 r Q := by
  cases r with
  | ok d h' => exact fun v H' ρ' l e S r => p v H' ρ' (l.trans hl) (e1.trans S1 e) S r
  | exc _ _ => exact p
  | stuck => exact p
end
theorem _root_.L2.PG.mono {X : Cx} {e : Expr} {t t' : TG} (h : PG X e t) (k : ∀ v σ H Q, t' v σ H Q → t v σ H Q) : PG X e t' := ⟨fun pins s σ H x v Q I r w => h.run pins s σ H x v Q I r (k x σ H Q w)⟩
theorem _root_.L2.PGs.mono {X : Cx} {e : List Expr} {t t' : TGs} (h : PGs X e t) (k : ∀ v σ H Q, t' v σ H Q → t v σ H Q) : PGs X e t' := ⟨fun pins s σ H x v Q I r w => h.run pins s σ H x v Q I r (k x σ H Q w)⟩
theorem _root_.L2.PS.mono {X : Cx} {e : Stmt} {t t' : TS} (h : PS X e t) (k : ∀ D σ H, t' D σ H → t D σ H) : PS X e t' := ⟨fun pins s σ H D I w => h.run pins s σ H D I (k D σ H w)⟩
theorem _root_.L2.PSs.mono {X : Cx} {e : List Stmt} {t t' : TS} (h : PSs X e t) (k : ∀ D σ H, t' D σ H → t D σ H) : PSs X e t' := ⟨fun pins s σ H D I w => h.run pins s σ H D I (k D σ H w)⟩
section
variable {X : Cx} {G : List D} {call : CallF}
/-- the places of a subscript's store -/
def tSetE : TSet := fun o i v H Q => ∃ Z ρ h od id d, Sim H Z ρ h ∧ R H Z ρ h.length o od ∧ R H Z ρ h.length i id ∧ R H Z ρ h.length v d ∧ Post Z H ρ h (opEv .setIx [od, id, d] h) fun _ H' => Q H'
theorem set_any (hu : X.A.units + 1 < cLine) : PSet X tSetE := by
  intro pins s σ H o i v ov iv u Q I ro ri rv ⟨Z, ρ, h, od, id, d, S, r1, r2, r3, p⟩
  obtain ⟨d', h', e, p2⟩ := post_m rfl p
  obtain ⟨n, k, v', e1, rfl, ⟨zs, i', j, e2, rfl, e3, rfl⟩ | ⟨kvs, e2, hk, hz, rfl⟩⟩ := mSet_ok e
  · cases e1
    cases r1 with
    | ref hm =>
      cases r2
      obtain ⟨vs, hv, lv⟩ := get_lst S e2
      exact set_list pins s σ H _ _ v ov iv u Q I ro ri rv ⟨_, vs, i', j, rfl, rfl, hv, by rw [lv.length]; exact (ixN_eq _ _).symm.trans e3, post_set (Q := fun _ H' => Q H') S hm (cell_lst S hm (lv.set j r3)) .non p2⟩
  · cases e1
    cases r1 with
    | ref hm =>
      obtain ⟨ks, hv, lv⟩ := get_dct S e2
      obtain ⟨k', rfl⟩ := isKeyD_of hk
      have := R.keyv r2
      subst this
      exact set_dict hu pins s σ H _ _ v ov iv u Q I ro ri rv ⟨_, _, rfl, DPut.k hv (by rw [lv.length, ← sz_eq]; exact hz), post_set (Q := fun _ H' => Q H') S hm (cell_dct S hm (lv.put k' r3)) .non p2⟩

/-! ### targets -/
theorem as_name {i : Nat} {x : Str} {p : Pos} (hN : X.N.Nodup) (hi : X.N[i]? = some x) (hx : Loc X.env.scope x) (hf : X.fn x = true ∨ X.env.scope.names.lookup x = some .local) : PG X (.Name x p) (tAs G call (.name i)) :=
  (pg_name hN hi hx (hf := hf)).mono fun v σ H Q ⟨Z, ρ, env, h, d, S, E, r, p⟩ => by
    rw [asgT] at p
    split at p
    · exact p (σ.set i (some v)) H ρ (by simp) Ext.refl S (E.set r i)
    · exact p.elim
theorem ass_nil : PGs X [] (tAss G call []) := pgs_nil.mono fun v σ H Q ⟨Z, ρ, env, h, d, S, E, l, p⟩ => by
  cases l with
  | nil => rw [asgTs] at p; exact ⟨rfl, p σ H ρ rfl Ext.refl S E⟩
  | cons r l => simp only [asgTs] at p; exact p.elim
theorem ass_cons {e : Expr} {es : List Expr} {t : T} {ts : List T} (hp : plainT e = true) (h : PG X e (tAs G call t)) (hs : PGs X es (tAss G call ts)) : PGs X (e :: es) (tAss G call (t :: ts)) :=
  (pgs_cons h hs (by cases e <;> first | rfl | cases hp)).mono fun v σ H Q ⟨Z, ρ, env, h, d, S, E, l, p⟩ => by
    cases l with
    | nil => simp only [asgTs] at p; exact p.elim
    | cons r l =>
      rw [asgTs] at p
      refine ⟨_, _, rfl, Z, ρ, env, h, _, S, E, r, ?_⟩
      rename_i v0 d0 vs0 ds0
      revert p
      generalize asgT G call t _ env h = rr
      intro p
      cases rr with
      | ok env1 h1 =>
        exact fun σ1 H1 ρ1 hl ex S1 E1 => ⟨Z, ρ1, env1, h1, _, S1, E1, l.keep S ex, PostA.shift hl ex S1 p⟩
      | exc _ _ => exact p
      | stuck => exact p
theorem as_tup {es : List Expr} {k : Nat} {ts : List T} {pos : Pos} (hc : X.calm = true) (h : PGs X es (tAss G call ts)) (hn : (assignEach es X.env).length = ts.length) (hst : (assignEach es X.env).findIdx? (·.1) = none) : PG X (.Tuple es k pos) (tAs G call (.tup ts)) :=
  (pg_tup hc h hn hst).mono fun v σ H Q ⟨Z, ρ, env, h, d, S, E, r, p⟩ => by
    cases r with
    | tup t l =>
      rw [asgT] at p
      split at p
      · rename_i hl
        exact ⟨_, _, rfl, t.sq, by rw [l.length]; exact hl.symm, Z, ρ, env, h, _, S, E, l, p⟩
      · exact p.elim
    | _ => simp only [asgT] at p; exact p.elim
theorem as_sub {o i : Expr} {co ci : C} {pos : Pos} (hu : X.A.units + 1 < cLine) (ho : PE X o (tEv G call co)) (hi : PE X i (tEv G call ci)) (hp : plainX i = true) : PG X (.Subscript o i pos) (tAs G call (.sub co ci)) :=
  (pg_sub ho hi (set_any hu) (by intro v; cases i <;> first | rfl | cases hp)).mono fun v σ H Q ⟨Z, ρ, env, h, d, S, E, r, p⟩ => by
    obtain ⟨env', hE, er⟩ := p.ok_of
    rw [asgT] at er p
    obtain ⟨od, h1, e1, er⟩ := Res.bind_ok er
    obtain ⟨id, h2, e2, er⟩ := Res.bind_ok er
    obtain ⟨u, h3, e3, er⟩ := Res.bind_ok er
    cases er
    refine tEv_is S E e1 fun x H1 ρ1 ex1 S1 E1 r1 => tEv_is S1 E1 e2 fun y H2 ρ2 ex2 S2 E2 r2 => ⟨Z, ρ2, h2, od, id, d, S2, r1.keep S1 ex2, r2, (r.keep S ex1).keep S1 ex2, ?_⟩
    rw [e3]
    rw [e1] at p
    have p : PostA Z H ρ h σ ((evC G call ci env h1).bind fun id h => (opEv .setIx [od, id, d] h).bind fun _ h => .ok env h) Q := p
    rw [e2] at p
    have p : PostA Z H ρ h σ ((opEv .setIx [od, id, d] h2).bind fun _ h => .ok env h) Q := p
    rw [e3] at p
    intro v3 H3 ρ3 ex3 S3 r3
    have ex := (ex1.trans S1 ex2).trans S2 ex3
    exact p σ H3 ρ3 rfl ex S3 (E.keep S ex)
end
/-! ### statements -/
def PostS (Z : Addr → Prop) (H : Hp) (ρ : Nat → Addr) (h : HpE) (σ : L2.St) (r : Out) (D : Ends) : Prop := match r with
  | .nx env' h' => ∀ σ' H' ρ', σ'.length = σ.length → Ext H ρ h.length H' ρ' h'.length → Sim H' Z ρ' h' → EnvR H' Z ρ' h'.length σ' env' → D.nx σ' H'
  | .brk env' h' => ∀ σ' H' ρ', σ'.length = σ.length → Ext H ρ h.length H' ρ' h'.length → Sim H' Z ρ' h' → EnvR H' Z ρ' h'.length σ' env' → D.bk σ' H'
  | .cnt env' h' => ∀ σ' H' ρ', σ'.length = σ.length → Ext H ρ h.length H' ρ' h'.length → Sim H' Z ρ' h' → EnvR H' Z ρ' h'.length σ' env' → D.ct σ' H'
  | .ret d h' => ∀ v H' ρ', Ext H ρ h.length H' ρ' h'.length → Sim H' Z ρ' h' → R H' Z ρ' h'.length v d → D.rt v H'
  | .stuck => False
section
variable (G : List D) (call : CallF)
def tEvS (s : S) : TS := fun D σ H => ∃ Z ρ env h, Sim H Z ρ h ∧ EnvR H Z ρ h.length σ env ∧ PostS Z H ρ h σ (exS G call s env h) D
def tEvSL (s : SL) : TS := fun D σ H => ∃ Z ρ env h, Sim H Z ρ h ∧ EnvR H Z ρ h.length σ env ∧ PostS Z H ρ h σ (exL G call s env h) D
end
section
variable {Z : Addr → Prop} {ρ ρ1 : Nat → Addr} {h h1 : HpE} {H H1 : Hp} {σ σ1 : L2.St} {env : EnvE} {G : List D} {call : CallF}
theorem PostS.shift {r : Out} {Dd : Ends} (hl : σ1.length = σ.length) (e1 : Ext H ρ h.length H1 ρ1 h1.length) (S1 : Sim H1 Z ρ1 h1) (p : PostS Z H ρ h σ r Dd) : PostS Z H1 ρ1 h1 σ1 r Dd := by
  cases r with
  | nx d h' => exact fun v H' ρ' l e S r => p v H' ρ' (l.trans hl) (e1.trans S1 e) S r
  | brk d h' => exact fun v H' ρ' l e S r => p v H' ρ' (l.trans hl) (e1.trans S1 e) S r
  | cnt d h' => exact fun v H' ρ' l e S r => p v H' ρ' (l.trans hl) (e1.trans S1 e) S r
  | ret d h' => exact fun v H' ρ' e S r => p v H' ρ' (e1.trans S1 e) S r
  | stuck => exact p
/-- an expression, then the rest -/
theorem evS_then {c : C} {f : D → HpE → Out} {Dd : Ends} {R' : V → Hp → Prop} (S : Sim H Z ρ h) (E : EnvR H Z ρ h.length σ env) (p : PostS Z H ρ h σ ((evC G call c env h).out f) Dd)
    (k : ∀ d h1 x H1 ρ1, Sim H1 Z ρ1 h1 → EnvR H1 Z ρ1 h1.length σ env → R H1 Z ρ1 h1.length x d → PostS Z H1 ρ1 h1 σ (f d h1) Dd → R' x H1) : tEv G call c σ H R' := by
  refine ⟨Z, ρ, env, h, S, E, ?_⟩
  cases e : evC G call c env h with
  | ok d h1 =>
    rw [e] at p
    exact fun x H1 ρ1 ex S1 r => k d h1 x H1 ρ1 S1 (E.keep S ex) r (PostS.shift rfl ex S1 p)
  | exc c h1 => rw [e] at p; exact p
  | stuck => rw [e] at p; exact p
end
section
variable {X : Cx} {G : List D} {call : CallF}
theorem as_expr {e : Expr} {c : C} {pos : Pos} (he : PE X e (tEv G call c)) (hs : swapsWith e none pos.line X.env = pure false) : PS X (.Expr e pos) (tEvS G call (.expr c)) :=
  (ps_expr he hs).mono fun D σ H ⟨Z, ρ, env, h, S, E, p⟩ => by
    rw [exS] at p
    exact evS_then S E p fun d h1 x H1 ρ1 S1 E1 r p1 => p1 σ H1 ρ1 rfl Ext.refl S1 E1
theorem as_asg {tg e : Expr} {c : C} {t : T} {pos : Pos} (he : PE X e (tEv G call c)) (hg : PG X tg (tAs G call t)) (hs : swapsWithSole [tg] e pos.line X.env = pure false) (hw : swappedStores [tg] e X.env = pure none)
    (h1 : (assignEach [tg] X.env).map (·.2) = [assign tg X.env]) : PS X (.Assign [tg] e pos) (tEvS G call (.asg t c)) :=
  (ps_asg he hg hs hw h1).mono fun D σ H ⟨Z, ρ, env, h, S, E, p⟩ => by
    rw [exS] at p
    refine evS_then S E p fun d h1 x H1 ρ1 S1 E1 r p1 => ⟨Z, ρ1, env, h1, d, S1, E1, r, ?_⟩
    cases e : asgT G call t d env h1 with
    | ok env' h' => rw [e] at p1; exact p1
    | exc _ _ => rw [e] at p1; exact p1
    | stuck => rw [e] at p1; exact p1
theorem as_set {i : Nat} {x : Str} {e : Expr} {c : C} {pos pos' : Pos} (hN : X.N.Nodup) (hi : X.N[i]? = some x) (hx : Loc X.env.scope x) (he : PE X e (tEv G call c)) (hs : swapsWith e (some (.Name x pos')) pos.line X.env = pure false) (hf : X.fn x = true ∨ X.env.scope.names.lookup x = some .local) :
    PS X (.Assign [.Name x pos'] e pos) (tEvS G call (.asg (.name i) c)) :=
  (ps_set hN hi hx he hs hf).mono fun D σ H ⟨Z, ρ, env, h, S, E, p⟩ => by
    rw [exS] at p
    refine evS_then S E p fun d h1 x H1 ρ1 S1 E1 r p1 => ?_
    rw [asgT] at p1
    split at p1
    · exact p1 _ H1 ρ1 (by simp) Ext.refl S1 (E1.set r i)
    · exact p1.elim
theorem as_ret {e : Expr} {c : C} {pos : Pos} (he : PE X e (tEv G call c)) : PS X (.Return (some e) pos) (tEvS G call (.ret c)) :=
  (ps_ret he).mono fun D σ H ⟨Z, ρ, env, h, S, E, p⟩ => by
    rw [exS] at p
    exact evS_then S E p fun d h1 x H1 ρ1 S1 E1 r p1 => p1 x H1 ρ1 Ext.refl S1 r
theorem as_retN {pos : Pos} : PS X (.Return none pos) (tEvS G call (.ret (.lit .non))) :=
  ps_retN.mono fun D σ H ⟨Z, ρ, env, h, S, E, p⟩ => by
    rw [exS, evC] at p
    exact p .non H ρ Ext.refl S .non
theorem as_pass {pos : Pos} : PS X (.Pass pos) (tEvS G call .pass) := ps_pass.mono fun D σ H ⟨Z, ρ, env, h, S, E, p⟩ => by
  rw [exS] at p
  exact p σ H ρ rfl Ext.refl S E
theorem as_doc {x j pos pos'} : PS X (.Expr (.Constant (.str x) j pos) pos') (tEvS G call .pass) := ps_doc.mono fun D σ H ⟨Z, ρ, env, h, S, E, p⟩ => by
  rw [exS] at p
  exact p σ H ρ rfl Ext.refl S E
theorem as_brk {pos : Pos} : PS X (.Break pos) (tEvS G call .brk) := ps_break.mono fun D σ H ⟨Z, ρ, env, h, S, E, p⟩ => by
  rw [exS] at p
  exact p σ H ρ rfl Ext.refl S E
theorem as_cnt {pos : Pos} : PS X (.Continue pos) (tEvS G call .cnt) := ps_continue.mono fun D σ H ⟨Z, ρ, env, h, S, E, p⟩ => by
  rw [exS] at p
  exact p σ H ρ rfl Ext.refl S E
theorem asl_nil : PSs X [] (tEvSL G call .nil) := pss_nil.mono fun D σ H ⟨Z, ρ, env, h, S, E, p⟩ => by
  rw [exL] at p
  exact p σ H ρ rfl Ext.refl S E
theorem asl_cons {st : Stmt} {rest : List Stmt} {s : S} {r : SL} (h1 : PS X st (tEvS G call s)) (h2 : PSs X rest (tEvSL G call r)) : PSs X (st :: rest) (tEvSL G call (.cons s r)) :=
  (pss_cons h1 h2).mono fun D σ H ⟨Z, ρ, env, h, S, E, p⟩ => by
    rw [exL] at p
    refine ⟨Z, ρ, env, h, S, E, ?_⟩
    cases e : exS G call s env h with
    | nx env' h' =>
      rw [e] at p
      exact fun σ1 H1 ρ1 hl ex S1 E1 => ⟨Z, ρ1, env', h', S1, E1, PostS.shift hl ex S1 p⟩
    | brk _ _ => rw [e] at p; exact p
    | cnt _ _ => rw [e] at p; exact p
    | ret _ _ => rw [e] at p; exact p
    | stuck => rw [e] at p; exact p
theorem as_if {c : Expr} {a b : List Stmt} {cc : C} {ca cb : SL} {pos : Pos} (hc : PT X c (tEvT G call cc)) (ha : PSs X a (tEvSL G call ca)) (hb : PSs X b (tEvSL G call cb)) : PS X (.If c a b pos) (tEvS G call (.ite cc ca cb)) :=
  (ps_if hc ha hb).mono fun D σ H ⟨Z, ρ, env, h, S, E, p⟩ => by
    rw [exS] at p
    refine ⟨Z, ρ, env, h, S, E, ?_⟩
    cases e : evC G call cc env h with
    | ok d h' =>
      rw [e] at p
      have p : PostS Z H ρ h σ (sel (truth h' d) (exL G call ca env h') (exL G call cb env h') .stuck) D := p
      show match truth h' d with | some b => _ | none => False
      cases q : truth h' d with
      | none => rw [q] at p; exact p
      | some b =>
        rw [q] at p
        cases b with
        | true => exact fun H1 ρ1 ex S1 => ⟨Z, ρ1, env, h', S1, E.keep S ex, PostS.shift rfl ex S1 p⟩
        | false => exact fun H1 ρ1 ex S1 => ⟨Z, ρ1, env, h', S1, E.keep S ex, PostS.shift rfl ex S1 p⟩
    | exc _ _ => rw [e] at p; exact p
    | stuck => rw [e] at p; exact p
/-- a, b = x, y -/
theorem as_par {i j : Nat} {x y : Str} {a b : Expr} {ca cb : C} {px py pt pos : Pos} {kt k2 pt2} (hc : X.calm = true) (hN : X.N.Nodup) (hi : X.N[i]? = some x) (hj : X.N[j]? = some y) (hij : i ≠ j)
    (hx : X.env.scope.names.lookup x = some .local) (hy : X.env.scope.names.lookup y = some .local) (ha : PA X [a, b] (tEvL G call (.cons ca (.cons cb .nil))))
    (hw : swappedStores [.Tuple [.Name x px, .Name y py] kt pt] (.Tuple [a, b] k2 pt2) X.env = pure (some [x, y]))
    (hs : swapsWithSole [.Tuple [.Name x px, .Name y py] kt pt] (.Tuple [a, b] k2 pt2) pos.line X.env = pure false) :
    PS X (.Assign [.Tuple [.Name x px, .Name y py] kt pt] (.Tuple [a, b] k2 pt2) pos) (tEvS G call (.asg (.tup [.name i, .name j]) (.op .mkTup (.cons ca (.cons cb .nil))))) :=
  (ps_par hc hN hi hj hij hx hy ha hw hs).mono fun D σ H ⟨Z, ρ, env, h, S, E, p⟩ => by
    rw [exS, evC_op] at p
    refine ⟨Z, ρ, env, h, S, E, ?_⟩
    cases e : evL G call (.cons ca (.cons cb .nil)) env h with
    | ok ds h1 =>
      rw [e] at p
      intro vs H1 ρ1 ex S1 l
      have E1 := E.keep S ex
      have p : PostS Z H ρ h σ ((opEv .mkTup ds h1).out fun d h => (asgT G call (.tup [.name i, .name j]) d env h).out fun env h => .nx env h) D := p
      have hmk : opEv .mkTup ds h1 = if ds.length ≤ sz then .ok (.tup ds) h1 else .stuck := by
        unfold opEv
        simp only [isMut, Bool.false_eq_true, if_false, opP]
        split <;> split at * <;> simp_all
      rw [hmk] at p
      split at p
      · have p : PostS Z H ρ h σ ((asgT G call (.tup [.name i, .name j]) (.tup ds) env h1).out fun env h => .nx env h) D := p
        rw [asgT] at p
        split at p
        · rename_i hl
          cases l with
          | nil => cases hl
          | cons r1 l =>
            cases l with
            | nil => cases hl
            | cons r2 l =>
              cases l with
              | cons _ _ => simp at hl
              | nil =>
                rw [asgTs, asgT] at p
                split at p
                · have p : PostS Z H ρ h σ ((asgTs G call [.name j] [_] (env.set i (some _)) h1).out fun env h => .nx env h) D := p
                  rw [asgTs, asgT] at p
                  split at p
                  · have p : PostS Z H ρ h σ ((asgTs G call [] [] ((env.set i (some _)).set j (some _)) h1).out fun env h => .nx env h) D := p
                    rw [asgTs] at p
                    exact ⟨_, _, rfl, p _ H1 ρ1 (by simp) ex S1 ((E1.set r1 i).set r2 j)⟩
                  · exact p.elim
                · exact p.elim
        · exact p.elim
      · exact p.elim
    | exc _ _ => rw [e] at p; exact p
    | stuck => rw [e] at p; exact p
end
end Ev

/-! Ev14: for. -/
namespace Ev
open PySem PySem.Spec PyProof.Rows L2
variable [KK]
section
variable {X : Cx} {G : List D} {call : CallF} {K : PySem.W.Frag}
theorem for_w {t : NT} {k : IK} {it : CL} {body : SL} {σ : L2.St} {H : Hp} {Dd : Ends} (ht : ikz k = true → ∃ ts, t = .tup ts) (w : tEvS G call (.for t k it body) Dd σ H) :
    tFor (tEvI G call K k it) (gNT K t) (tEvSL G call body) Dd σ H := by
  obtain ⟨Z, ρ, env, h, S, E, p⟩ := w
  rw [exS] at p
  cases e1 : evL G call it env h with
  | exc _ _ => rw [e1] at p; exact p.elim
  | stuck => rw [e1] at p; exact p.elim
  | ok ds h1 =>
    rw [e1] at p
    have p : PostS Z H ρ h σ ((ofO (items k (ds.map (look h1))) h1).out fun xs h => forL ds (ds.map (look h)) (fun x env h => (ofO (asgNT t x env) h).out fun env' h => exL G call body env' h) xs env h) Dd := p
    cases e2 : items k (ds.map (look h1)) with
    | none => rw [e2] at p; exact p.elim
    | some xs =>
      rw [e2] at p
      have p : PostS Z H ρ h σ (forL ds (ds.map (look h1)) (fun x env h => (ofO (asgNT t x env) h).out fun env' h => exL G call body env' h) xs env h1) Dd := p
      refine ⟨Z, ρ, env, h, S, E, ?_⟩
      rw [e1]
      refine ⟨xs, e2, fun J H1 ρ1 ex1 S1 itok => ?_⟩
      have E1 := E.keep S ex1
      generalize hf : (fun (x : D) (env : EnvE) (h : HpE) => (ofO (asgNT t x env) h).out fun env' h => exL G call body env' h) = f at p
      refine ⟨fun i m σ' Hx => m = xs.length - i ∧ i ≤ xs.length ∧ ∃ ρ' h' env', Ext H1 ρ1 h1.length Hx ρ' h'.length ∧ Sim Hx Z ρ' h' ∧ EnvR Hx Z ρ' h'.length σ' env' ∧ ds.map (look h') = ds.map (look h1) ∧
        PostS Z Hx ρ' h' σ' (forL ds (ds.map (look h1)) f (xs.drop i) env' h') Dd, ⟨xs.length, by simp, Nat.zero_le _, ρ1, h1, env, Ext.refl, S1, E1, rfl, by rw [List.drop_zero]; exact PostS.shift rfl ex1 S1 p⟩, ?_⟩
      rintro i m σ' Hx ⟨rfl, hi, ρ', h', env', ex, Sx, Ex, hs, hp⟩
      obtain ⟨go, stop⟩ := itok Z Hx ρ' h' i (fun a z => .inl z) ex Sx hs
      by_cases hlt : i < xs.length
      · obtain ⟨jg, jy⟩ := go xs[i] (List.getElem?_eq_getElem hlt)
        refine .inr ⟨jg, fun σ'' Hn => (i + 1 ≤ xs.length ∧ ∃ ρ' h' env', Ext H1 ρ1 h1.length Hn ρ' h'.length ∧ Sim Hn Z ρ' h' ∧ EnvR Hn Z ρ' h'.length σ'' env' ∧ ds.map (look h') = ds.map (look h1) ∧
          PostS Z Hn ρ' h' σ'' (forL ds (ds.map (look h1)) f (xs.drop (i + 1)) env' h') Dd), fun σ'' H' n => ⟨xs.length - (i + 1), by omega, rfl, n⟩, fun x H2 y => ?_⟩
        obtain ⟨ex2, S2, ri⟩ := jy x H2 y
        have E2 := Ex.keep Sx ex2
        have hp2 := PostS.shift rfl ex2 S2 hp
        rw [List.drop_eq_getElem_cons hlt, forL] at hp2
        cases ea : asgNT t xs[i] env' with
        | none =>
          rw [← hf] at hp2
          simp only [ea, ofO, Res.out] at hp2
          exact hp2.elim
        | some env2 =>
          have hfx : f xs[i] env' h' = exL G call body env2 h' := by
            rw [← hf]
            simp only [ea, ofO]
            rfl
          rw [hfx] at hp2
          refine gNT_item t ht E2 ri ea fun σ2 E2' hl2 hw => ?_
          refine ⟨Z, ρ', env2, h', S2, E2', ?_⟩
          have exx := ex.trans Sx ex2
          cases eb : exL G call body env2 h' with
          | nx env3 h3 =>
            rw [eb] at hp2
            simp only at hp2
            intro σ3 H3 ρ3 hl3 ex3 S3 E3
            split at hp2
            · exact ⟨hlt, ρ3, h3, env3, exx.trans S2 ex3, S3, E3, by assumption, PostS.shift (hl3.trans hl2) ex3 S3 hp2⟩
            · exact hp2.elim
          | cnt env3 h3 =>
            rw [eb] at hp2
            simp only at hp2
            intro σ3 H3 ρ3 hl3 ex3 S3 E3
            split at hp2
            · exact ⟨hlt, ρ3, h3, env3, exx.trans S2 ex3, S3, E3, by assumption, PostS.shift (hl3.trans hl2) ex3 S3 hp2⟩
            · exact hp2.elim
          | brk env3 h3 =>
            rw [eb] at hp2
            simp only at hp2
            intro σ3 H3 ρ3 hl3 ex3 S3 E3
            exact hp2 σ3 H3 ρ3 (hl3.trans hl2) ex3 S3 E3
          | ret d h3 =>
            rw [eb] at hp2
            simp only at hp2
            intro v H3 ρ3 ex3 S3 r3
            exact hp2 v H3 ρ3 ex3 S3 r3
          | stuck => rw [eb] at hp2; exact hp2
      · have hi' : i = xs.length := by omega
        subst hi'
        rw [List.drop_length, forL] at hp
        exact .inl ⟨stop (Nat.le_refl _), hp σ' Hx ρ' rfl Ext.refl Sx Ex⟩
theorem as_for {tg iter : Expr} {body : List Stmt} {t : NT} {k : IK} {it : CL} {cb : SL} {pos : Pos} (hp : PassesOwn (model X.prog X.w) X.A X.env X.xe) (hc : X.calm = true) (hi : PI X tg iter (tEvI G call X.K k it)) (hg : PG X tg (gNT X.K t))
    (hb : PSs X body (tEvSL G call cb)) (hs : ∀ x, foldedSetIterable iter X.env x = pure x) (hz : ikz k = true → ∃ ts, t = .tup ts) : PS X (.For tg iter body [] pos) (tEvS G call (.for t k it cb)) :=
  (ps_for hp hc hi hg hb hs).mono fun D σ H w => for_w hz w
end
/-! ### the call -/
def spEv (r : List D → HpE → Res D) (np : Nat) : Sp := fun vs H Q _ => vs.length = np ∧ ∃ Z ρ h ds, Sim H Z ρ h ∧ RL H Z ρ h.length vs ds ∧ Post Z H ρ h (r ds h) Q
section
variable {H : Hp} {Z : Addr → Prop} {ρ ρ' : Nat → Addr} {h : HpE}
/-- the places from n0 on are let go: values that lean on none of them -/
theorem Oc.crop {n n0 : Nat} {a : Addr} (hn : n0 ≤ n) (q : ¬ Oc Z ρ n a) : ¬ Oc Z ρ n0 a := fun z => q (z.elim .inl fun ⟨m, hm, e⟩ => .inr ⟨m, Nat.lt_of_lt_of_le hm hn, e⟩)
mutual
theorem R.crop {n n0 : Nat} (hn : n0 ≤ n) : ∀ {v : V} {d : D}, R H Z ρ n v d → below n0 d = true → R H Z ρ n0 v d
  | _, _, .non, _ => .non
  | _, _, .bl b, _ => .bl b
  | _, _, .int i, _ => .int i
  | _, _, .str x, _ => .str x
  | _, _, .tup r l, hb => .tup r (RL.crop hn l (by rw [below] at hb; exact hb))
  | _, _, .lst r o l, hb => .lst r (Oc.crop hn o) (RL.crop hn l (by rw [below] at hb; exact hb))
  | _, _, .dk r o l, hb => .dk r (Oc.crop hn o) (RK.crop hn l (by rw [below] at hb; exact hb))
  | _, _, .ref hm, hb => .ref (by rw [below] at hb; exact of_decide_eq_true hb)
  | _, _, .scrH r o, _ => .scrH r (Oc.crop hn o)
  | _, _, .scrK k, _ => .scrK k
theorem RL.crop {n n0 : Nat} (hn : n0 ≤ n) : ∀ {vs : List V} {ds : List D}, RL H Z ρ n vs ds → belowL n0 ds = true → RL H Z ρ n0 vs ds
  | _, _, .nil, _ => .nil
  | _, _, .cons r l, hb => by
    rw [belowL, Bool.and_eq_true] at hb
    exact .cons (R.crop hn r hb.1) (RL.crop hn l hb.2)
theorem RK.crop {n n0 : Nat} (hn : n0 ≤ n) : ∀ {vs : List (Key × V)} {ds : List (D × D)}, RK H Z ρ n vs ds → belowP n0 ds = true → RK H Z ρ n0 vs ds
  | _, _, .nil, _ => .nil
  | _, _, .cons r l, hb => by
    rw [belowP, Bool.and_eq_true, Bool.and_eq_true] at hb
    exact .cons (R.crop hn r hb.1.2) (RK.crop hn l hb.2)
end
theorem CellR.crop {n n0 : Nat} (hn : n0 ≤ n) {a : Addr} {c : Cell} (x : CellR H Z ρ n a c) (hb : cellBelow n0 c = true) : CellR H Z ρ n0 a c := by
  cases c with
  | lst ds => obtain ⟨vs, e, l⟩ := x; exact ⟨vs, e, l.crop hn hb⟩
  | dct kvs => obtain ⟨ks, e, l⟩ := x; exact ⟨ks, e, l.crop hn hb⟩
  | ins c fs => exact x.elim
theorem Sim.crop (S : Sim H Z ρ h) {n0 : Nat} (hn : n0 ≤ h.length) (hb : (h.take n0).all (cellBelow n0) = true) : Sim H Z ρ (h.take n0) := by
  have hl : (h.take n0).length = n0 := by rw [List.length_take]; omega
  refine ⟨fun i j hi hj => S.inj i j (by omega) (by omega), fun i hi => S.nz i (by omega), S.zt, fun i c e => ?_⟩
  have hi : i < n0 := by have := lt_of_get e; omega
  rw [hl]
  refine (S.cell i c (by rw [List.getElem?_take_of_lt hi] at e; exact e)).crop hn ?_
  exact List.all_eq_true.mp hb c (List.mem_of_getElem? e)
/-- a value, its own places read off -/
structure FrzF (H : Hp) (Z : Addr → Prop) (ρ : Nat → Addr) (n n0 : Nat) (f : Nat → Option D) : Prop where
  ok : ∀ m d, f m = some d → m < n → R H Z ρ n0 (.ref (ρ m)) d
mutual
theorem frzW_ok {n n0 : Nat} {f : Nat → Option D} (hn : n0 ≤ n) (hf : FrzF H Z ρ n n0 f) : ∀ {v : V} {d d' : D}, R H Z ρ n v d → frzW f d = some d' → R H Z ρ n0 v d'
  | _, _, _, .non, e => by rw [frzW] at e; cases e; exact .non; all_goals (intros; contradiction)
  | _, _, _, .bl b, e => by rw [frzW] at e; cases e; exact .bl b; all_goals (intros; contradiction)
  | _, _, _, .int i, e => by rw [frzW] at e; cases e; exact .int i; all_goals (intros; contradiction)
  | _, _, _, .str x, e => by rw [frzW] at e; cases e; exact .str x; all_goals (intros; contradiction)
  | _, _, _, .tup r l, e => by
    rw [frzW] at e
    obtain ⟨es, e1, rfl⟩ := Option.map_eq_some_iff.mp e
    exact .tup r (frzL_ok hn hf l e1)
  | _, _, _, .lst r o l, e => by
    rw [frzW] at e
    obtain ⟨es, e1, rfl⟩ := Option.map_eq_some_iff.mp e
    exact .lst r (Oc.crop hn o) (frzL_ok hn hf l e1)
  | _, _, _, .dk r o l, e => by
    rw [frzW] at e
    obtain ⟨es, e1, rfl⟩ := Option.map_eq_some_iff.mp e
    exact .dk r (Oc.crop hn o) (frzP_ok hn hf l e1)
  | _, _, _, .ref hm, e => by
    rw [frzW] at e
    exact hf.ok _ _ e hm
  | _, _, _, .scrH r o, e => by rw [frzW] at e; cases e; exact .scrH r (Oc.crop hn o); all_goals (intros; contradiction)
  | _, _, _, .scrK k, e => by rw [frzW] at e; cases e; exact .scrK k; all_goals (intros; contradiction)
theorem frzL_ok {n n0 : Nat} {f : Nat → Option D} (hn : n0 ≤ n) (hf : FrzF H Z ρ n n0 f) : ∀ {vs : List V} {ds es : List D}, RL H Z ρ n vs ds → frzL f ds = some es → RL H Z ρ n0 vs es
  | _, _, _, .nil, e => by rw [frzL] at e; cases e; exact .nil
  | _, _, _, .cons r l, e => by
    rw [frzL] at e
    split at e
    · rename_i e1 e2
      cases e
      exact .cons (frzW_ok hn hf r e1) (frzL_ok hn hf l e2)
    · cases e
theorem frzP_ok {n n0 : Nat} {f : Nat → Option D} (hn : n0 ≤ n) (hf : FrzF H Z ρ n n0 f) : ∀ {vs : List (Key × V)} {ds es : List (D × D)}, RK H Z ρ n vs ds → frzP f ds = some es → RK H Z ρ n0 vs es
  | _, _, _, .nil, e => by rw [frzP] at e; cases e; exact .nil
  | _, _, _, .cons (k := k) r l, e => by
    rw [frzP] at e
    split at e
    · rename_i e0 e1 e2
      cases e
      have : ∀ k' , frzW f (keyD k) = some k' → k' = keyD k := fun k' q => by
        cases k <;> (simp only [keyD, frzW] at q; cases q; rfl)
      rw [this _ e0]
      exact .cons (frzW_ok hn hf r e1) (frzP_ok hn hf l e2)
    · cases e
end
theorem frz_ok (S : Sim H Z ρ h) {n0 : Nat} (hn : n0 ≤ h.length) : ∀ (k : Nat) {v : V} {d d' : D}, R H Z ρ h.length v d → frz n0 h k d = some d' → R H Z ρ n0 v d'
  | 0, v, d, d', r, e => by
    refine frzW_ok hn ⟨fun m d q hm => ?_⟩ r e
    split at q
    · cases q; exact .ref (by assumption)
    · cases q
  | k + 1, v, d, d', r, e => by
    refine frzW_ok hn ⟨fun m d q hm => ?_⟩ r e
    have hoc : ¬ m < n0 → ¬ Oc Z ρ n0 (ρ m) := fun hlt => by
      rintro (z | ⟨i, hi, z⟩)
      · exact S.nz m hm z
      · have := S.inj i m (by omega) hm z
        omega
    have hF : FrzF H Z ρ h.length n0 fun m => frz n0 h k (.ref m) := ⟨fun m d q hm => frz_ok S hn k (.ref hm) q⟩
    split at q
    · cases q; exact .ref (by assumption)
    · rename_i hlt
      split at q
      · rename_i ds eg
        obtain ⟨es, e1, rfl⟩ := Option.map_eq_some_iff.mp q
        obtain ⟨vs, hv, l⟩ := get_lst S eg
        exact .lst (.inl hv) (hoc hlt) (frzL_ok hn hF l e1)
      · rename_i ds eg
        obtain ⟨es, e1, rfl⟩ := Option.map_eq_some_iff.mp q
        obtain ⟨vs, hv, l⟩ := get_dct S eg
        exact .dk hv (hoc hlt) (frzP_ok hn hF l e1)
      · cases q
end
/-- the end of a call -/
theorem post_fin {Z : Addr → Prop} {H : Hp} {ρ : Nat → Addr} {h h' : HpE} {d : D} {Q : VK} (p : Post Z H ρ h (fin h.length d h') Q) : Post Z H ρ h (.ok d h') Q := by
  intro v H' ρ' ex S r
  have hl := ex.len
  unfold fin at p
  split at p
  · exact p v H' ρ' ex S r
  · rename_i hlen
    split at p
    · rename_i hb
      split at p
      · rename_i d' ed
        have p : ∀ v H' ρ', Ext H ρ h.length H' ρ' (h'.take h.length).length → Sim H' Z ρ' (h'.take h.length) → R H' Z ρ' (h'.take h.length).length v d' → Q v H' := p
        have hl' : (h'.take h.length).length = h.length := by rw [List.length_take]; omega
        rw [hl'] at p
        exact p v H' ρ' ⟨Nat.le_refl _, ex.old, fun i h1 h2 => absurd h2 (by omega), ex.keep⟩ (S.crop hl hb) (frz_ok S hl 4 r ed)
      · exact p v H' ρ' ex S r
    · exact p v H' ρ' ex S r
end Ev

/-! Ev15: the check that a core text tells a def's body. -/
namespace Ev
open PySem PySem.Spec PyProof.Rows L2
variable [KK]
/-- what the names of the module mean -/
structure Tab where
  fn : List (Str × Nat)
  gl : List (Str × Nat)
  gt : List (Str × List D)
/-- the scope that a text stands in -/
structure CS where
  N : List Str
  sc : Scope
  blk : Option Scope
structure Ctx (X : Cx) (cs : CS) : Prop where
  N : X.N = cs.N
  sc : X.env.scope = cs.sc
  fn : match cs.blk with | none => X.fn = fun _ => true | some s => X.fn = fun x => s.names.lookup x == some .cell
def bnames : List Str := ["len", "isinstance", "all", "any", "tuple", "list", "dict", "sorted", "set", "int", "str", "bool", "range", "zip", "enumerate", "min", "max"]
/-- a call that is served -/
def CallOk (X : Cx) (call : CallF) (fn : Fn) (fi m : Nat) (x : Str) : Prop :=
  ∃ f fd ps k dvs ds, FnOk X.prog X.w X.K X.mg X.base CX0 k f fd ps (spEv (call fi) fn.np) ∧ Room k X.A ∧ X.mg x = some (.ref f) ∧ PySem.W.keepIn X.K (.ref f) = true ∧ Binds X.K fd ps ds ∧ Vals dvs ds ∧
    (∀ H Z ρ n, RL H Z ρ n dvs (fn.dfl.drop (fn.dfl.length - (fn.np - m)))) ∧ ∀ (args : List D) (h : HpE) (b : D) (h' : HpE), args.length = m → call fi args h = .ok b h' → args.length + (fn.dfl.drop (fn.dfl.length - (fn.np - m))).length = fn.np ∧ call fi (args ++ fn.dfl.drop (fn.dfl.length - (fn.np - m))) h = .ok b h'
structure Ct (X : Cx) (TB : Tab) (G : List D) (fns : List Fn) (call : CallF) : Prop where
  calm : X.calm = true
  kk : X.K = KK.K
  nd : X.N.Nodup
  xe : X.xe = fun _ _ => False
  un : X.A.units + 64 < cLine
  bn : ∀ x ∈ bnames, X.mg x = none
  fn : ∀ x fi fn m, TB.fn.lookup x = some fi → fns[fi]? = some fn → m ≤ fn.np → fn.np ≤ m + fn.dfl.length → CallOk X call fn fi m x
  gl : ∀ x g, TB.gl.lookup x = some g → ∃ v u d, X.mg x = some u ∧ RelV v u ∧ G[g]? = some d ∧ ∀ H Z ρ n, R H Z ρ n v d
  gt : ∀ x ds, TB.gt.lookup x = some ds → ∃ g vs, X.mg x = some (.ref g) ∧ (∀ H, SqT X.K H g vs) ∧ ∀ H, DpAll X.K H vs (pyL ds)
/-! ### the check -/
def glb (cs : CS) (x : Str) : Bool := decide (cs.sc.names.lookup x = some .globalImplicit)
def okName (x : Str) : Bool := !(x == ("__debug__" : Str)) && !(x == ("__classdict__" : Str))
def vis (cs : CS) (x : Str) : Bool := match cs.sc.names.lookup x with
  | some .local | some .cell | some .free => true
  | _ => false
def binO : Operator → Op → Bool
  | .Add, .add | .Sub, .sub | .Mult, .mul | .FloorDiv, .fdiv | .Mod, .mod | .Pow, .pow => true
  | _, _ => false
def cmpO : CmpOp → Op → Bool
  | .Eq, .eq | .NotEq, .ne | .Lt, .lt | .LtE, .le | .Gt, .gt | .GtE, .ge | .In, .inn | .NotIn, .notIn => true
  | _, _ => false
def isNoneE : Expr → Bool
  | .Constant .none _ _ => true
  | _ => false
def isBoolE (b : Bool) : Expr → Bool
  | .Constant (.bool c) _ _ => b == c
  | _ => false
def isOneE : Expr → Bool
  | .UnaryOp .USub (.Constant (.int 1) _ _) _ => true
  | _ => false
/-- a built-in that is called with one thing -/
def bOne : Op → Option Str
  | .len => some "len" | .all => some "all" | .any => some "any" | .tupleOf => some "tuple" | .listOf => some "list" | .dictOf => some "dict" | .intOf => some "int" | .strOf => some "str"
  | _ => none
def tyS : Ty → Str
  | .int => "int" | .bool => "bool" | .str => "str" | .tuple => "tuple" | .list => "list"
section
variable (TB : Tab) (G : List D) (fns : List Fn)
def chkName (cs : CS) (x : Str) : C → Bool
  | .var i => decide (cs.N[i]? = some x) && vis cs x && okName x
  | .glb g => glb cs x && decide (TB.gl.lookup x = some g) && okName x
  | _ => false
def chkConst : Const → C → Bool
  | .none, .lit .non => true
  | .bool b, .lit (.bl c) => b == c
  | .int i, .lit (.int j) => decide (i = j)
  | .str s, .lit (.str t) => decide (s = t)
  | _, _ => false
def chkA (rec : Expr → C → Bool) : List Expr → CL → Bool
  | [], .nil => true
  | e :: es, .cons c cl => plainX e && rec e c && chkA rec es cl
  | _, _ => false
def chkB (rec : Expr → C → Bool) : BoolOp → List Expr → C → Bool
  | _, [a], c => rec a c
  | .And, a :: b :: r, .and ca cb => rec a ca && chkB rec .And (b :: r) cb
  | .Or, a :: b :: r, .or ca cb => rec a ca && chkB rec .Or (b :: r) cb
  | _, _, _ => false
def chkCmp (rec : Expr → C → Bool) (cs : CS) (a : Expr) (op : CmpOp) (b : Expr) : C → Bool
  | .op .isN (.cons ca .nil) => decide (op = .Is) && isNoneE b && rec a ca
  | .op .notN (.cons ca .nil) => decide (op = .IsNot) && isNoneE b && rec a ca
  | .op (.isB k) (.cons ca .nil) => decide (op = .Is) && isBoolE k b && rec a ca
  | .op (.notB k) (.cons ca .nil) => decide (op = .IsNot) && isBoolE k b && rec a ca
  | .op (.inG neg ds) (.cons ca .nil) => decide (op = if neg then .NotIn else .In) && (match b with | .Name x _ => glb cs x && decide (TB.gt.lookup x = some ds) && okName x | _ => false) && rec a ca
  | .op o (.cons ca (.cons cb .nil)) => cmpO op o && rec a ca && rec b cb && !behindInMarks op b
  | _ => false
def chkCmp2 (rec : Expr → C → Bool) (a : Expr) (op1 op2 : CmpOp) (b b2 : Expr) : C → Bool
  | .chain o1 o2 ca cb cc => cmpO op1 o1 && cmpO op2 o2 && rec a ca && rec b cb && rec b2 cc && !(lastMarks [op1, op2] [b, b2])
  | _ => false
def chkSub (rec : Expr → C → Bool) (a : Expr) : Expr → C → Bool
  | .Slice (some l) (some u) none _, .op .sl2 (.cons ca (.cons cl (.cons cu .nil))) => rec a ca && rec l cl && rec u cu
  | .Slice (some l) none none _, .op .slL (.cons ca (.cons cl .nil)) => rec a ca && rec l cl
  | .Slice none (some u) none _, .op .slH (.cons ca (.cons cu .nil)) => rec a ca && rec u cu
  | .Slice none none none _, .op .sl0 (.cons ca .nil) => rec a ca
  | .Slice none none (some s) _, .op .rev (.cons ca .nil) => isOneE s && rec a ca
  | s, .op .ix (.cons ca (.cons ci .nil)) => plainX s && rec a ca && rec s ci
  | _, _ => false
/-- a call of a name -/
def chkCall (rec : Expr → C → Bool) (cs : CS) (x : Str) (es : List Expr) : C → Bool
  | .call fi cl => glb cs x && decide (TB.fn.lookup x = some fi) && okName x && chkA rec es cl && (match fns[fi]? with | some fn => decide (es.length ≤ fn.np) && decide (fn.np ≤ es.length + fn.dfl.length) | none => false)
  | .op (.isi t) (.cons ca .nil) => match es with
    | [a, .Name tn _] => decide (x = "isinstance") && glb cs x && glb cs tn && decide (tn = tyS t) && plainX a && rec a ca
    | _ => false
  | .op .sortedSet (.cons ca .nil) => match es with
    | [.Call (.Name y _) [a] [] _] => decide (x = "sorted") && decide (y = "set") && glb cs x && glb cs y && plainX a && rec a ca
    | _ => false
  | .op o (.cons ca .nil) => match es with
    | [a] => decide (bOne o = some x) && glb cs x && plainX a && rec a ca
    | _ => false
  | _ => false
/-- a call of a method -/
def chkMth (rec : Expr → C → Bool) (o : Expr) (m : Str) (es : List Expr) (line : Bool) : C → Bool
  | .mth .append co (.cons ce .nil) => match es with
    | [e] => decide (m = "append") && notCall0 o && plainX e && line && rec o co && rec e ce
    | _ => false
  | .mth .extend co (.cons ce .nil) => match es with
    | [e] => decide (m = "extend") && notCall0 o && plainX e && line && rec o co && rec e ce
    | _ => false
  | .mth .popAt co (.cons ce .nil) => match es with
    | [e] => decide (m = "pop") && notCall0 o && plainX e && line && rec o co && rec e ce
    | _ => false
  | .mth .pop co .nil => match es with
    | [] => decide (m = "pop") && notCall0 o && line && rec o co
    | _ => false
  | _ => false
def isTupE : Expr → Bool
  | .Tuple _ _ _ => true
  | _ => false
def chkI (rec : Expr → C → Bool) (cs : CS) (tg iter : Expr) : IK → CL → Bool
  | .plain, .cons c .nil => rec iter c
  | .range, .cons c .nil => match iter with
    | .Call (.Name x _) [a] [] _ => decide (x = "range") && glb cs x && plainX a && rec a c
    | _ => false
  | .range, .cons c (.cons d .nil) => match iter with
    | .Call (.Name x _) [a, b] [] _ => decide (x = "range") && glb cs x && plainX a && rec a c && plainX b && rec b d
    | _ => false
  | .zip, .cons c (.cons d .nil) => match iter with
    | .Call (.Name x _) [a, b] [] _ => isTupE tg && decide (x = "zip") && glb cs x && plainX a && rec a c && plainX b && rec b d
    | _ => false
  | .enum, .cons c .nil => match iter with
    | .Call (.Name x _) [a] [] _ => isTupE tg && decide (x = "enumerate") && glb cs x && plainX a && rec a c
    | _ => false
  | _, _ => false
def notSet : Expr → Bool
  | .Set .. => false
  | _ => true
/-- a name that may be stored -/
def sto (cs : CS) (x : Str) : Bool := match cs.sc.names.lookup x with
  | some .local => true
  | some .cell => (match cs.blk with | none => true | some s => s.names.lookup x == some .cell)
  | _ => false
mutual
def chkNT (cs : CS) : Expr → NT → Bool
  | .Name x _, .name i => decide (cs.N[i]? = some x) && sto cs x
  | .Tuple es _ _, .tup ts => chkNTs cs es ts
  | _, _ => false
def chkNTs (cs : CS) : List Expr → List NT → Bool
  | [], [] => true
  | e :: es, t :: ts => plainT e && chkNT cs e t && chkNTs cs es ts
  | _, _ => false
end
/-- the block's own names -/
def ownP (N : List Str) (own : List Nat) : List (Str × Nat) := own.filterMap fun i => (N[i]?).map fun x => (x, i)
def blkCS (cs : CS) (scope : Scope) : CS := ⟨cs.N, relS scope cs.sc, some scope⟩
def chkIf (rec : Expr → C → Bool) : List Expr → CL → Bool
  | [], .nil => true
  | [e], .cons c .nil => rec e c
  | _, _ => false
def tupNT : NT → Bool
  | .tup _ => true
  | _ => false
def chkComp (rec : CS → Expr → C → Bool) (tst : CS → Expr → C → Bool) (cs : CS) (elt tg iter : Expr) (ifs : List Expr) (scope : Scope) : C → Bool
  | .comp own t k it cifs ce => decide ((ownP cs.N own).map (·.2) = own) && blkC cs.N cs.sc scope (ownP cs.N own) && chkI (rec cs) cs tg iter k it && notSet iter && (!(ikz k) || tupNT t) &&
      decide (∀ i ∈ namesNT t, i ∈ own) && chkNT (blkCS cs scope) tg t && chkIf (tst (blkCS cs scope)) ifs cifs && rec (blkCS cs scope) elt ce
  | _ => false
def stepE (rec tst : CS → Expr → C → Bool) (cs : CS) (e : Expr) (c : C) : Bool := match e with
  | .Name x _ => chkName TB cs x c
  | .Constant v _ _ => chkConst v c
  | .BinOp a op b _ => match c with
    | .op o (.cons ca (.cons cb .nil)) => binO op o && rec cs a ca && rec cs b cb
    | _ => false
  | .UnaryOp .Not a _ => match c with
    | .op .not (.cons ca .nil) => rec cs a ca
    | _ => false
  | .UnaryOp .USub a _ => match c with
    | .op .neg (.cons ca .nil) => rec cs a ca
    | _ => false
  | .BoolOp op es _ => chkB (rec cs) op es c
  | .Compare a [op] [b] _ => chkCmp TB (rec cs) cs a op b c
  | .Compare a [op1, op2] [b, b2] _ => chkCmp2 (rec cs) a op1 op2 b b2 c
  | .IfExp t a b _ => match c with
    | .ite ct ca cb => tst cs t ct && rec cs a ca && rec cs b cb
    | _ => false
  | .Subscript a s _ => chkSub (rec cs) a s c
  | .Tuple es _ _ => match c with
    | .op .mkTup cl => chkA (rec cs) es cl
    | _ => false
  | .List es _ => match c with
    | .op .mkLst cl => chkA (rec cs) es cl
    | .op .newL cl => chkA (rec cs) es cl
    | _ => false
  | .Call (.Name x _) es [] _ => chkCall TB fns (rec cs) cs x es c
  | .Call (.Attribute o m apos) es [] pos => chkMth (rec cs) o m es (apos.endLine == pos.line) c
  | .ListComp elt [⟨tg, iter, ifs, 0⟩] scope _ => chkComp rec tst cs elt tg iter ifs scope c
  | _ => false
/-- as a test -/
def stepT (rec tst : CS → Expr → C → Bool) (cs : CS) (e : Expr) (c : C) : Bool := match e with
  | .UnaryOp .Not a _ => match c with
    | .op .not (.cons ca .nil) => tst cs a ca
    | _ => false
  | .BoolOp op es _ => chkB (tst cs) op es c
  | .Compare a [op] [b] _ => chkCmp TB (rec cs) cs a op b c
  | .Compare a [op1, op2] [b, b2] _ => chkCmp2 (rec cs) a op1 op2 b b2 c
  | .Compare .. => false
  | .IfExp .. => false
  | e => stepE TB fns rec tst cs e c
mutual
def chkE : Nat → CS → Expr → C → Bool
  | 0, _, _, _ => false
  | n + 1, cs, e, c => stepE TB fns (chkE n) (chkT n) cs e c
def chkT : Nat → CS → Expr → C → Bool
  | 0, _, _, _ => false
  | n + 1, cs, e, c => stepT TB fns (chkE n) (chkT n) cs e c
end
end
end Ev

/-! Ev16: the check is sound: expressions. -/
namespace Ev
open PySem PySem.Spec PyProof.Rows L2
variable [KK]
section
variable {X : Cx} {TB : Tab} {G : List D} {fns : List Fn} {call : CallF} {cs : CS}
theorem okName_of {x : Str} (h : okName x = true) : (x == ("__debug__" : Str)) = false ∧ (x == ("__classdict__" : Str)) = false := by
  unfold okName at h
  rw [Bool.and_eq_true] at h
  exact ⟨by simpa using h.1, by simpa using h.2⟩
theorem Ctx.gl (hC : Ctx X cs) {x : Str} (h : glb cs x = true) : Gl X x := by
  show X.env.scope.names.lookup x = some .globalImplicit
  rw [hC.sc]; exact of_decide_eq_true h
theorem Ctx.vis (hC : Ctx X cs) {x : Str} (h : vis cs x = true) : Vis X.env.scope x := by
  rw [hC.sc]
  unfold Ev.vis at h
  split at h
  · exact .inl (by assumption)
  · exact .inr (.inl (by assumption))
  · exact .inr (.inr (by assumption))
  · cases h
theorem chkName_ok (hC : Ctx X cs) (T : Ct X TB G fns call) {x : Str} {c : C} {pos : Pos} (h : chkName TB cs x c = true) : PE X (.Name x pos) (tEv G call c) := by
  unfold chkName at h
  split at h
  · simp only [Bool.and_eq_true, decide_eq_true_eq] at h
    have := okName_of h.2
    exact ae_var (by rw [hC.N]; exact h.1.1) (hC.vis h.1.2) this.1 this.2
  · simp only [Bool.and_eq_true, decide_eq_true_eq] at h
    obtain ⟨v, u, d, h1, h2, h3, h4⟩ := T.gl x _ h.1.2
    exact ae_glb (pe_glob (hC.gl h.1.1) h1 h2 (okName_of h.2).1) h3 h4
  · cases h
theorem chkConst_ok {v : Const} {c : C} {k : Nat} {pos : Pos} (h : chkConst v c = true) : PE X (.Constant v k pos) (tEv G call c) := by
  unfold chkConst at h
  split at h
  · exact ae_lit pe_non fun _ _ _ _ => .non
  · have := eq_of_beq h
    subst this
    exact ae_lit pe_bl fun _ _ _ _ => .bl _
  · have := of_decide_eq_true h
    subst this
    exact ae_lit pe_int fun _ _ _ _ => .int _
  · have := of_decide_eq_true h
    subst this
    exact ae_lit pe_str fun _ _ _ _ => .str _
  · cases h
theorem chkA_ok {rec : Expr → C → Bool} (hr : ∀ e c, rec e c = true → PE X e (tEv G call c)) : ∀ {es : List Expr} {cl : CL}, chkA rec es cl = true → PA X es (tEvL G call cl)
  | [], .nil, _ => ae_nilA
  | e :: es, .cons c cl, h => by
    rw [chkA, Bool.and_eq_true, Bool.and_eq_true] at h
    exact ae_consA (hr e c h.1.2) (chkA_ok hr h.2) h.1.1
  | [], .cons _ _, h => by rw [chkA] at h; cases h; all_goals (intros; contradiction)
  | _ :: _, .nil, h => by rw [chkA] at h; cases h; all_goals (intros; contradiction)
theorem chkA_plain {rec : Expr → C → Bool} : ∀ {es : List Expr} {cl : CL}, chkA rec es cl = true → es.all plainX = true
  | [], _, _ => rfl
  | e :: es, .cons c cl, h => by
    rw [chkA, Bool.and_eq_true, Bool.and_eq_true] at h
    rw [List.all_cons, h.1.1, chkA_plain h.2]; rfl
  | _ :: _, .nil, h => by rw [chkA] at h; cases h; all_goals (intros; contradiction)
theorem chkA_len {rec : Expr → C → Bool} {env : EnvE} {h' : HpE} : ∀ {es : List Expr} {cl : CL} {h : HpE} {ds : List D}, chkA rec es cl = true → evL G call cl env h = .ok ds h' → ds.length = es.length
  | [], .nil, h, ds, _, e => by rw [evL_nil] at e; cases e; rfl
  | e :: es, .cons c cl, h, ds, hc, q => by
    rw [chkA, Bool.and_eq_true, Bool.and_eq_true] at hc
    rw [evL_cons] at q
    obtain ⟨d, h1, e1, q⟩ := Res.bind_ok q
    obtain ⟨ds', h2, e2, q⟩ := Res.bind_ok q
    cases q
    rw [List.length_cons, List.length_cons, chkA_len hc.2 e2]
  | [], .cons _ _, _, _, h, _ => by rw [chkA] at h; cases h; all_goals (intros; contradiction)
  | _ :: _, .nil, _, _, h, _ => by rw [chkA] at h; cases h; all_goals (intros; contradiction)
theorem chkB_ok {rec : Expr → C → Bool} (hr : ∀ e c, rec e c = true → PE X e (tEv G call c)) {pos : Pos} : ∀ {op : BoolOp} {es : List Expr} {c : C}, chkB rec op es c = true → PE X (.BoolOp op es pos) (tEv G call c)
  | _, [], c, h => by unfold chkB at h; cases h
  | _, [a], c, h => by rw [chkB] at h; exact ae_one (hr a c h)
  | .And, a :: b :: r, c, h => by
    cases c <;> (rw [chkB] at h; try cases h) <;> try (intros; contradiction)
    rw [Bool.and_eq_true] at h
    exact ae_and (hr _ _ h.1) (chkB_ok hr h.2)
  | .Or, a :: b :: r, c, h => by
    cases c <;> (rw [chkB] at h; try cases h) <;> try (intros; contradiction)
    rw [Bool.and_eq_true] at h
    exact ae_or (hr _ _ h.1) (chkB_ok hr h.2)
theorem chkB_okT {rec : Expr → C → Bool} (hr : ∀ e c, rec e c = true → PT X e (tEvT G call c)) {pos : Pos} : ∀ {op : BoolOp} {es : List Expr} {c : C}, chkB rec op es c = true → PW X (.BoolOp op es pos) (tEvT G call c)
  | _, [], c, h => by unfold chkB at h; cases h
  | op, [a], c, h => by rw [chkB] at h; exact at_one (by cases op; exact .inl rfl; exact .inr rfl) (hr a c h)
  | .And, a :: b :: r, c, h => by
    cases c <;> (rw [chkB] at h; try cases h) <;> try (intros; contradiction)
    rw [Bool.and_eq_true] at h
    exact at_and (hr _ _ h.1) (chkB_okT hr h.2)
  | .Or, a :: b :: r, c, h => by
    cases c <;> (rw [chkB] at h; try cases h) <;> try (intros; contradiction)
    rw [Bool.and_eq_true] at h
    exact at_or (hr _ _ h.1) (chkB_okT hr h.2)
theorem binO_ok {op : Operator} {o : Op} (h : binO op o = true) : OpR X (binaryOp op) (fun x y H Q => rOp o [x, y] H Q) := by
  unfold binO at h
  split at h
  · exact ev_add
  · exact ev_sub
  · exact ev_mul
  · exact ev_fdiv
  · exact ev_mod
  · exact ev_pow
  · cases h
theorem cmpO_ok (hu : X.A.units + 64 < cLine) {op : CmpOp} {o : Op} (h : cmpO op o = true) : OpR X (compareOp op) (fun x y H Q => rOp o [x, y] H Q) := by
  unfold cmpO at h
  split at h
  · exact ev_eq hu
  · exact ev_ne hu
  · exact ev_lt
  · exact ev_le
  · exact ev_gt
  · exact ev_ge
  · exact ev_in (neg := false) hu rfl rfl
  · exact ev_in (neg := true) hu rfl rfl
  · cases h
theorem cmpO_bl {op : CmpOp} {o : Op} (h : cmpO op o = true) : o = .eq ∨ o = .ne ∨ o = .lt ∨ o = .le ∨ o = .gt ∨ o = .ge ∨ o = .inn ∨ o = .notIn ∨ o = .isN ∨ o = .notN ∨ (∃ b, o = .isB b) ∨ (∃ b, o = .notB b) ∨ ∃ n ds, o = .inG n ds := by
  unfold cmpO at h
  split at h <;> first | (cases h; done) | simp

theorem isNoneE_ok {b : Expr} (h : isNoneE b = true) : PE X b (tC .non) := by
  unfold isNoneE at h
  split at h
  · exact pe_non
  · cases h
theorem isBoolE_ok {k : Bool} {b : Expr} (h : isBoolE k b = true) : PE X b (tC (.bl k)) := by
  unfold isBoolE at h
  split at h
  · have := eq_of_beq h
    subst this
    exact pe_bl
  · cases h
theorem mark_none {op : CmpOp} {b : Expr} (h : isNoneE b = true) : behindInMarks op b = false := by
  unfold isNoneE at h
  split at h
  · rfl
  · cases h
theorem mark_bool {op : CmpOp} {k : Bool} {b : Expr} (h : isBoolE k b = true) : behindInMarks op b = false := by
  unfold isBoolE at h
  split at h
  · rfl
  · cases h
theorem chkCmp_ok (hC : Ctx X cs) (T : Ct X TB G fns call) {rec : Expr → C → Bool} (hr : ∀ e c, rec e c = true → PE X e (tEv G call c)) {a b : Expr} {op : CmpOp} {c : C} {pos : Pos} (h : chkCmp TB rec cs a op b c = true) :
    PE X (.Compare a [op] [b] pos) (tEv G call c) ∧ PT X (.Compare a [op] [b] pos) (tEvT G call c) := by
  unfold chkCmp at h
  split at h
  · simp only [Bool.and_eq_true, decide_eq_true_eq] at h
    obtain ⟨⟨rfl, h2⟩, h3⟩ := h
    exact ⟨ae_cmpC ev_isN (hr _ _ h3) (isNoneE_ok h2) (mark_none h2), at_cmpC (by simp) ev_isN (hr _ _ h3) (isNoneE_ok h2) (mark_none h2)⟩
  · simp only [Bool.and_eq_true, decide_eq_true_eq] at h
    obtain ⟨⟨rfl, h2⟩, h3⟩ := h
    exact ⟨ae_cmpC ev_notN (hr _ _ h3) (isNoneE_ok h2) (mark_none h2), at_cmpC (by simp) ev_notN (hr _ _ h3) (isNoneE_ok h2) (mark_none h2)⟩
  · simp only [Bool.and_eq_true, decide_eq_true_eq] at h
    obtain ⟨⟨rfl, h2⟩, h3⟩ := h
    exact ⟨ae_cmpC ev_isB (hr _ _ h3) (isBoolE_ok h2) (mark_bool h2), at_cmpC (by simp) ev_isB (hr _ _ h3) (isBoolE_ok h2) (mark_bool h2)⟩
  · simp only [Bool.and_eq_true, decide_eq_true_eq] at h
    obtain ⟨⟨rfl, h2⟩, h3⟩ := h
    exact ⟨ae_cmpC ev_notB (hr _ _ h3) (isBoolE_ok h2) (mark_bool h2), at_cmpC (by simp) ev_notB (hr _ _ h3) (isBoolE_ok h2) (mark_bool h2)⟩
  · rename_i neg ds ca
    simp only [Bool.and_eq_true, decide_eq_true_eq] at h
    obtain ⟨⟨h1, h2⟩, h3⟩ := h
    split at h2
    · simp only [Bool.and_eq_true, decide_eq_true_eq] at h2
      obtain ⟨g, vs, m1, m2, m3⟩ := T.gt _ _ h2.1.2
      have pb := pe_glob (pos := by assumption) (v := .ref g) (hC.gl h2.1.1) m1 rfl (okName_of h2.2).1
      exact ⟨ae_cmpC (ev_inG T.un h1 m2 m3) (hr _ _ h3) pb rfl, at_cmpC (by simp) (ev_inG T.un h1 m2 m3) (hr _ _ h3) pb rfl⟩
    · cases h2
  · simp only [Bool.and_eq_true, Bool.not_eq_true'] at h
    obtain ⟨⟨⟨h1, h2⟩, h3⟩, h4⟩ := h
    exact ⟨ae_cmp (cmpO_ok T.un h1) (hr _ _ h2) (hr _ _ h3) h4, at_cmp (cmpO_bl h1) (cmpO_ok T.un h1) (hr _ _ h2) (hr _ _ h3) h4⟩
  · cases h
theorem chkCmp2_ok (T : Ct X TB G fns call) {rec : Expr → C → Bool} (hr : ∀ e c, rec e c = true → PE X e (tEv G call c)) {a b b2 : Expr} {op1 op2 : CmpOp} {c : C} {pos : Pos} (h : chkCmp2 rec a op1 op2 b b2 c = true) :
    PE X (.Compare a [op1, op2] [b, b2] pos) (tEv G call c) ∧ PT X (.Compare a [op1, op2] [b, b2] pos) (tEvT G call c) := by
  unfold chkCmp2 at h
  split at h
  · simp only [Bool.and_eq_true, Bool.not_eq_true'] at h
    obtain ⟨⟨⟨⟨⟨h1, h2⟩, h3⟩, h4⟩, h5⟩, h6⟩ := h
    exact ⟨ae_chain (opEv_bl (cmpO_bl h1)) (cmpO_ok T.un h1) (cmpO_ok T.un h2) (hr _ _ h3) (hr _ _ h4) (hr _ _ h5) h6,
      at_chain (opEv_bl (cmpO_bl h1)) (opEv_bl (cmpO_bl h2)) (cmpO_ok T.un h1) (cmpO_ok T.un h2) (hr _ _ h3) (hr _ _ h4) (hr _ _ h5) h6⟩
  · cases h
theorem chkSub_ok (T : Ct X TB G fns call) {rec : Expr → C → Bool} (hr : ∀ e c, rec e c = true → PE X e (tEv G call c)) {a s : Expr} {c : C} {pos : Pos} (h : chkSub rec a s c = true) : PE X (.Subscript a s pos) (tEv G call c) := by
  unfold chkSub at h
  split at h
  · simp only [Bool.and_eq_true] at h
    exact ae_sl2 (hr _ _ h.1.1) (hr _ _ h.1.2) (hr _ _ h.2)
  · simp only [Bool.and_eq_true] at h
    exact ae_slL (hr _ _ h.1) (hr _ _ h.2)
  · simp only [Bool.and_eq_true] at h
    exact ae_slH (hr _ _ h.1) (hr _ _ h.2)
  · exact ae_sl0 (hr _ _ h)
  · simp only [Bool.and_eq_true] at h
    obtain ⟨h1, h2⟩ := h
    unfold isOneE at h1
    split at h1
    · exact ae_rev (hr _ _ h2)
    · cases h1
  · simp only [Bool.and_eq_true] at h
    exact ae_ix T.kk T.un (hr _ _ h.1.2) (hr _ _ h.2) h.1.1
  · cases h
theorem bn_of (T : Ct X TB G fns call) {x : Str} (h : x ∈ bnames) : X.mg x = none := T.bn x h
theorem bOne_ok (hC : Ctx X cs) (T : Ct X TB G fns call) {o : Op} {x : Str} {a : Expr} {ca : C} {p pos : Pos} (h : bOne o = some x) (hg : glb cs x = true) (ha : PE X a (tEv G call ca)) (hp : plainX a = true) :
    PE X (.Call (.Name x p) [a] [] pos) (tEv G call (.op o (.cons ca .nil))) := by
  unfold bOne at h
  split at h <;> cases h
  · exact ae_callB (ev_len T.kk) (hC.gl hg) (T.bn _ (by simp [bnames])) boot_len (by decide +kernel) (by decide +kernel) ha hp
  · exact ae_callB (ev_all T.calm) (hC.gl hg) (T.bn _ (by simp [bnames])) (by decide +kernel) (by decide +kernel) (by decide +kernel) ha hp
  · exact ae_callB (ev_any T.calm) (hC.gl hg) (T.bn _ (by simp [bnames])) (by decide +kernel) (by decide +kernel) (by decide +kernel) ha hp
  · exact ae_callTy ev_tupleOf (hC.gl hg) (T.bn _ (by simp [bnames])) (by decide +kernel) (by decide +kernel) (by decide +kernel) ha hp
  · exact ae_callTy ev_listOf (hC.gl hg) (T.bn _ (by simp [bnames])) (by decide +kernel) (by decide +kernel) (by decide +kernel) ha hp
  · exact ae_callTy (ev_dictOf T.calm) (hC.gl hg) (T.bn _ (by simp [bnames])) (by decide +kernel) (by decide +kernel) (by decide +kernel) ha hp
  · exact ae_callTy ev_intOf (hC.gl hg) (T.bn _ (by simp [bnames])) (by decide +kernel) (by decide +kernel) (by decide +kernel) ha hp
  · exact ae_callTy ev_strOf (hC.gl hg) (T.bn _ (by simp [bnames])) (by decide +kernel) (by decide +kernel) (by decide +kernel) ha hp
theorem isi_ok (hC : Ctx X cs) (T : Ct X TB G fns call) {t : Ty} {a : Expr} {ca : C} {p p2 pos : Pos} (hg : glb cs "isinstance" = true) (hg2 : glb cs (tyS t) = true) (ha : PE X a (tEv G call ca)) (hp : plainX a = true) :
    PE X (.Call (.Name "isinstance" p) [a, .Name (tyS t) p2] [] pos) (tEv G call (.op (.isi t) (.cons ca .nil))) := by
  cases t
  · exact ae_isi (hC.gl hg) (T.bn _ (by simp [bnames])) (hC.gl hg2) (T.bn _ (by simp [bnames, tyS])) (by decide +kernel) (by decide +kernel) (by decide +kernel) ha hp
  · exact ae_isi (hC.gl hg) (T.bn _ (by simp [bnames])) (hC.gl hg2) (T.bn _ (by simp [bnames, tyS])) (by decide +kernel) (by decide +kernel) (by decide +kernel) ha hp
  · exact ae_isi (hC.gl hg) (T.bn _ (by simp [bnames])) (hC.gl hg2) (T.bn _ (by simp [bnames, tyS])) (by decide +kernel) (by decide +kernel) (by decide +kernel) ha hp
  · exact ae_isi (hC.gl hg) (T.bn _ (by simp [bnames])) (hC.gl hg2) (T.bn _ (by simp [bnames, tyS])) (by decide +kernel) (by decide +kernel) (by decide +kernel) ha hp
  · exact ae_isi (hC.gl hg) (T.bn _ (by simp [bnames])) (hC.gl hg2) (T.bn _ (by simp [bnames, tyS])) (by decide +kernel) (by decide +kernel) (by decide +kernel) ha hp
/-- the call of a def -/
theorem call_ok (hC : Ctx X cs) (T : Ct X TB G fns call) {rec : Expr → C → Bool} (hr : ∀ e c, rec e c = true → PE X e (tEv G call c)) {x : Str} {fi : Nat} {es : List Expr} {cl : CL} {fn : Fn} {p pos : Pos} (hg : glb cs x = true) (hl : TB.fn.lookup x = some fi) (hx : okName x = true)
    (ha : chkA rec es cl = true) (hfn : fns[fi]? = some fn) (h1 : es.length ≤ fn.np) (h2 : fn.np ≤ es.length + fn.dfl.length) : PE X (.Call (.Name x p) es [] pos) (tEv G call (.call fi cl)) := by
  obtain ⟨f, fd, ps, k, dvs, ds, F, hroom, hm, hk, hb, hd, hR, hcall⟩ := T.fn x fi fn es.length hl hfn h1 h2
  have key : ∀ σ H Q, tEv G call (.call fi cl) σ H Q → tEvL G call cl σ H fun vs H1 => spEv (call fi) fn.np (vs ++ dvs) H1 Q E0 := fun σ H Q ⟨Z, ρ, env, h, S, E, q⟩ => by
    obtain ⟨b, hE, e⟩ := q.ok_of
    rw [evC] at e q
    obtain ⟨args, h1', e1, e2⟩ := Res.bind_ok e
    refine ⟨Z, ρ, env, h, S, E, ?_⟩
    rw [e1] at q ⊢
    intro vs H1 ρ1 ex S1 l
    have hlen := chkA_len (G := G) (call := call) ha e1
    obtain ⟨g1, g2⟩ := hcall args h1' b hE hlen e2
    refine ⟨?_, Z, ρ1, h1', args ++ _, S1, l.append (hR _ _ _ _), ?_⟩
    · rw [List.length_append, l.length, (hR H1 Z ρ1 0).length]
      exact g1
    · rw [g2]
      have q : Post Z H ρ h (call fi args h1') Q := q
      rw [e2] at q
      exact Post.shift ex S1 q
  cases es with
  | nil =>
    cases cl with
    | cons _ _ => simp [chkA] at ha
    | nil => exact (pe_call0 F hroom (hC.gl hg) hm hk hb hd pass0 (okName_of hx).1).mono fun σ H Q w => tEvL_nil (key σ H Q w)
  | cons e es =>
    have hp := chkA_plain ha
    simp only [List.all_cons, Bool.and_eq_true] at hp
    exact (pe_call F hroom (hC.gl hg) hm hk hb hd pass0 (chkA_ok hr ha) (okName_of hx).1 (star_plain hp.1 _ _) (star_any hp.2 _ _)).mono fun σ H Q w => key σ H Q w
theorem chkCall_ok (hC : Ctx X cs) (T : Ct X TB G fns call) {rec : Expr → C → Bool} (hr : ∀ e c, rec e c = true → PE X e (tEv G call c)) {x : Str} {es : List Expr} {c : C} {p pos : Pos} (h : chkCall TB fns rec cs x es c = true) : PE X (.Call (.Name x p) es [] pos) (tEv G call c) := by
  unfold chkCall at h
  split at h
  · simp only [Bool.and_eq_true, decide_eq_true_eq] at h
    obtain ⟨⟨⟨⟨h1, h2⟩, h3⟩, h4⟩, h5⟩ := h
    split at h5
    · simp only [Bool.and_eq_true, decide_eq_true_eq] at h5
      exact call_ok hC T hr h1 h2 h3 h4 (by assumption) h5.1 h5.2
    · cases h5
  · split at h
    · simp only [Bool.and_eq_true, decide_eq_true_eq] at h
      obtain ⟨⟨⟨⟨⟨rfl, h2⟩, h3⟩, rfl⟩, h5⟩, h6⟩ := h
      exact isi_ok hC T h2 h3 (hr _ _ h6) h5
    · cases h
  · split at h
    · simp only [Bool.and_eq_true, decide_eq_true_eq] at h
      obtain ⟨⟨⟨⟨⟨rfl, rfl⟩, h3⟩, h4⟩, h5⟩, h6⟩ := h
      exact ae_sortedSet T.calm (hC.gl h3) (T.bn _ (by simp [bnames])) (hC.gl h4) (T.bn _ (by simp [bnames])) (hr _ _ h6) h5
    · cases h
  · split at h
    · simp only [Bool.and_eq_true, decide_eq_true_eq] at h
      obtain ⟨⟨⟨h1, h2⟩, h3⟩, h4⟩ := h
      exact bOne_ok hC T h1 h2 (hr _ _ h4) h3
    · cases h
  · cases h
theorem chkMth_ok {rec : Expr → C → Bool} (hr : ∀ e c, rec e c = true → PE X e (tEv G call c)) {o : Expr} {m : Str} {es : List Expr} {c : C} {apos pos : Pos} (h : chkMth rec o m es (apos.endLine == pos.line) c = true) : PE X (.Call (.Attribute o m apos) es [] pos) (tEv G call c) := by
  unfold chkMth at h
  split at h
  · split at h
    · simp only [Bool.and_eq_true, decide_eq_true_eq] at h
      obtain ⟨⟨⟨⟨⟨rfl, h2⟩, h3⟩, h4⟩, h5⟩, h6⟩ := h
      exact ae_mth1 PySem.F.slot_list_append PySem.F.type_list_append m_append (hr _ _ h5) (attr_base h2) (hr _ _ h6) h3 h4
    · cases h
  · split at h
    · simp only [Bool.and_eq_true, decide_eq_true_eq] at h
      obtain ⟨⟨⟨⟨⟨rfl, h2⟩, h3⟩, h4⟩, h5⟩, h6⟩ := h
      exact ae_mth1 PySem.F.slot_list_extend PySem.F.type_list_extend m_extend (hr _ _ h5) (attr_base h2) (hr _ _ h6) h3 h4
    · cases h
  · split at h
    · simp only [Bool.and_eq_true, decide_eq_true_eq] at h
      obtain ⟨⟨⟨⟨⟨rfl, h2⟩, h3⟩, h4⟩, h5⟩, h6⟩ := h
      exact ae_mth1 PySem.F.slot_list_pop PySem.F.type_list_pop m_popAt (hr _ _ h5) (attr_base h2) (hr _ _ h6) h3 h4
    · cases h
  · split at h
    · simp only [Bool.and_eq_true, decide_eq_true_eq] at h
      obtain ⟨⟨⟨rfl, h2⟩, h4⟩, h5⟩ := h
      exact ae_mth0 PySem.F.slot_list_pop PySem.F.type_list_pop m_pop (hr _ _ h5) (attr_base h2) h4
    · cases h
  · cases h
theorem isTupE_ok {e : Expr} (h : isTupE e = true) : ∃ es k p, e = .Tuple es k p := by
  cases e <;> first | exact ⟨_, _, _, rfl⟩ | cases h
theorem chkI_ok (hC : Ctx X cs) (T : Ct X TB G fns call) {rec : Expr → C → Bool} (hr : ∀ e c, rec e c = true → PE X e (tEv G call c)) {tg iter : Expr} {k : IK} {cl : CL} (h : chkI rec cs tg iter k cl = true) : PI X tg iter (tEvI G call X.K k cl) := by
  unfold chkI at h
  split at h
  · exact ai_plain T.kk (hr _ _ h)
  · split at h
    · simp only [Bool.and_eq_true, decide_eq_true_eq] at h
      obtain ⟨⟨⟨rfl, h2⟩, h3⟩, h4⟩ := h
      exact ai_range1 (hC.gl h2) (T.bn _ (by simp [bnames])) (hr _ _ h4) h3
    · cases h
  · split at h
    · simp only [Bool.and_eq_true, decide_eq_true_eq] at h
      obtain ⟨⟨⟨⟨⟨rfl, h2⟩, h3⟩, h4⟩, h5⟩, h6⟩ := h
      exact ai_range2 (hC.gl h2) (T.bn _ (by simp [bnames])) (hr _ _ h4) h3 (hr _ _ h6) h5
    · cases h
  · split at h
    · simp only [Bool.and_eq_true, decide_eq_true_eq] at h
      obtain ⟨⟨⟨⟨⟨⟨h0, rfl⟩, h2⟩, h3⟩, h4⟩, h5⟩, h6⟩ := h
      obtain ⟨es, k, p, rfl⟩ := isTupE_ok h0
      exact ai_zip (hC.gl h2) (T.bn _ (by simp [bnames])) (hr _ _ h4) h3 (hr _ _ h6) h5
    · cases h
  · split at h
    · simp only [Bool.and_eq_true, decide_eq_true_eq] at h
      obtain ⟨⟨⟨⟨h0, rfl⟩, h2⟩, h3⟩, h4⟩ := h
      obtain ⟨es, k, p, rfl⟩ := isTupE_ok h0
      exact ai_enum (hC.gl h2) (T.bn _ (by simp [bnames])) (hr _ _ h4) h3
    · cases h
  · cases h
theorem notSet_ok {e : Expr} (h : notSet e = true) (env : Env) : ∀ x, foldedSetIterable e env x = pure x := by
  intro x
  cases e <;> first | rfl | cases h
theorem assign_len : ∀ {es : List Expr} {env : Env}, (assignEach es env).length = es.length
  | [], _ => rfl
  | e :: es, env => by cases e <;> (simp only [assignEach, List.length_cons, assign_len])
theorem assign_star : ∀ {es : List Expr} {env : Env}, es.all plainT = true → (assignEach es env).findIdx? (·.1) = none
  | [], _, _ => rfl
  | e :: es, env, h => by
    simp only [List.all_cons, Bool.and_eq_true] at h
    have e1 : assignEach (e :: es) env = (false, assign e env) :: assignEach es env := by cases e <;> first | rfl | cases h.1
    rw [e1, List.findIdx?_cons, assign_star h.2]
    rfl
theorem chkNTs_plain : ∀ {es : List Expr} {ts : List NT}, chkNTs cs es ts = true → es.all plainT = true ∧ es.length = ts.length
  | [], [], _ => ⟨rfl, rfl⟩
  | e :: es, t :: ts, h => by
    rw [chkNTs, Bool.and_eq_true, Bool.and_eq_true] at h
    obtain ⟨h1, h2⟩ := chkNTs_plain h.2
    exact ⟨by rw [List.all_cons, h.1.1, h1]; rfl, by rw [List.length_cons, List.length_cons, h2]⟩
  | [], _ :: _, h => by simp [chkNTs] at h
  | _ :: _, [], h => by simp [chkNTs] at h
theorem sto_ok (hC : Ctx X cs) {x : Str} (h : sto cs x = true) : Loc X.env.scope x ∧ (X.fn x = true ∨ X.env.scope.names.lookup x = some .local) := by
  unfold sto at h
  rw [hC.sc]
  have hf := hC.fn
  split at h
  · rename_i e
    exact ⟨.inl e, .inr e⟩
  · rename_i e
    refine ⟨.inr e, .inl ?_⟩
    split at h
    · rename_i e2
      rw [e2] at hf
      have hf : X.fn = fun _ => true := hf
      rw [hf]
    · rename_i e2
      rw [e2] at hf
      rename_i s
      have hf : X.fn = fun x => s.names.lookup x == some .cell := hf
      rw [hf]
      exact h
  · cases h
mutual
theorem chkNT_ok (hC : Ctx X cs) (hc : X.calm = true) (hN : X.N.Nodup) : ∀ {e : Expr} {t : NT}, chkNT cs e t = true → PG X e (gNT X.K t)
  | e, .name i, h => by
    cases e <;> try (simp [chkNT] at h; done)
    rw [chkNT, Bool.and_eq_true] at h
    have := sto_ok hC h.2
    exact ag_name hN (by rw [hC.N]; exact of_decide_eq_true h.1) this.1 this.2
  | e, .tup ts, h => by
    cases e <;> try (simp [chkNT] at h; done)
    rw [chkNT] at h
    obtain ⟨h1, h2⟩ := chkNTs_plain h
    rw [gNT]
    exact pg_tup hc (chkNTs_ok hC hc hN h) (assign_len.trans h2) (assign_star h1)
theorem chkNTs_ok (hC : Ctx X cs) (hc : X.calm = true) (hN : X.N.Nodup) : ∀ {es : List Expr} {ts : List NT}, chkNTs cs es ts = true → PGs X es (gNTs X.K ts)
  | es, [], h => by
    cases es with
    | nil => exact ags_nil
    | cons _ _ => simp [chkNTs] at h
  | es, t :: ts, h => by
    cases es with
    | nil => simp [chkNTs] at h
    | cons e es =>
      rw [chkNTs, Bool.and_eq_true, Bool.and_eq_true] at h
      exact ags_cons h.1.1 (chkNT_ok hC hc hN h.1.2) (chkNTs_ok hC hc hN h.2)
end
theorem Ct.blk (T : Ct X TB G fns call) {s : Shared} {H : Hp} {scope : Scope} {env : Env} {fp : List Addr} : Ct (X.blk s H scope env fp) TB G fns call :=
  ⟨T.calm, T.kk, T.nd, rfl, T.un, T.bn, T.fn, T.gl, T.gt⟩
theorem Ctx.blk (hC : Ctx X cs) {s : Shared} {H : Hp} {scope : Scope} {c : Addr} {cl : List (Str × Addr)} {fp : List Addr} : Ctx (X.blk s H scope (compEnvC scope cl c X.env) fp) (blkCS cs scope) :=
  ⟨hC.N, by show relS scope X.env.scope = _; rw [hC.sc]; rfl, rfl⟩
end
/-- what the check at fuel n gives -/
structure Sound (TB : Tab) (G : List D) (fns : List Fn) (call : CallF) (rec tst : CS → Expr → C → Bool) : Prop where
  e : ∀ {X : Cx} {cs : CS} {ex : Expr} {c : C}, Ctx X cs → Ct X TB G fns call → rec cs ex c = true → PE X ex (tEv G call c)
  t : ∀ {X : Cx} {cs : CS} {ex : Expr} {c : C}, Ctx X cs → Ct X TB G fns call → tst cs ex c = true → PT X ex (tEvT G call c)
section
variable {X : Cx} {TB : Tab} {G : List D} {fns : List Fn} {call : CallF} {cs : CS} {rec tst : CS → Expr → C → Bool}
theorem chkIf_ok {t : Expr → C → Bool} (hr : ∀ e c, t e c = true → PT X e (tEvT G call c)) {es : List Expr} {cl : CL} (h : chkIf t es cl = true) : PTs X es (tEvIf G call cl) := by
  unfold chkIf at h
  split at h
  · exact aif_nil
  · exact aif_one (hr _ _ h)
  · cases h
theorem tupNT_ok {t : NT} (h : tupNT t = true) : ∃ ts, t = .tup ts := by
  cases t with
  | name _ => cases h
  | tup ts => exact ⟨ts, rfl⟩
theorem chkComp_ok (hC : Ctx X cs) (T : Ct X TB G fns call) (W : Sound TB G fns call rec tst) {elt tg iter : Expr} {ifs : List Expr} {scope : Scope} {c : C} {pos : Pos} (h : chkComp rec tst cs elt tg iter ifs scope c = true) :
    PE X (.ListComp elt [⟨tg, iter, ifs, 0⟩] scope pos) (tEv G call c) := by
  unfold chkComp at h
  split at h
  · simp only [Bool.and_eq_true, decide_eq_true_eq] at h
    obtain ⟨⟨⟨⟨⟨⟨⟨⟨h1, h2⟩, h3⟩, h4⟩, h5⟩, h6⟩, h7⟩, h8⟩, h9⟩ := h
    rw [← h1] at h6
    rw [← h1]
    refine ae_comp T.calm T.nd (chkI_ok hC T (fun e c q => W.e hC T q) h3) (by rw [hC.N, hC.sc]; exact blkOk_by h2) (fun s H A cl fp => chkNT_ok (X := X.blk s H scope (compEnvC scope cl A X.env) fp) hC.blk T.calm T.nd h7)
      (fun s H A cl fp => chkIf_ok (fun e c q => W.t hC.blk T.blk q) h8) (fun s H A cl fp => W.e hC.blk T.blk h9) (notSet_ok h4 _) (fun q => ?_) h6
    rw [q] at h5
    exact tupNT_ok (by simpa using h5)
  · cases h
theorem stepE_ok (hC : Ctx X cs) (T : Ct X TB G fns call) (W : Sound TB G fns call rec tst) {e : Expr} {c : C} (h : stepE TB fns rec tst cs e c = true) : PE X e (tEv G call c) := by
  have R : ∀ e c, rec cs e c = true → PE X e (tEv G call c) := fun e c q => W.e hC T q
  unfold stepE at h
  split at h
  · exact chkName_ok hC T h
  · exact chkConst_ok h
  · split at h
    · simp only [Bool.and_eq_true] at h
      exact ae_bin (binO_ok h.1.1) (R _ _ h.1.2) (R _ _ h.2)
    · cases h
  · split at h
    · exact ae_not (R _ _ h)
    · cases h
  · split at h
    · exact ae_neg (R _ _ h)
    · cases h
  · exact chkB_ok R h
  · exact (chkCmp_ok hC T R h).1
  · exact (chkCmp2_ok T R h).1
  · split at h
    · simp only [Bool.and_eq_true] at h
      exact ae_ite (W.t hC T h.1.1) (R _ _ h.1.2) (R _ _ h.2)
    · cases h
  · exact chkSub_ok T R h
  · split at h
    · exact ae_tup (chkA_ok R h)
    · cases h
  · split at h
    · exact ae_lst (chkA_ok R h)
    · exact ae_newL (chkA_ok R h)
    · cases h
  · exact chkCall_ok hC T R h
  · exact chkMth_ok R h
  · exact chkComp_ok hC T W h
  · cases h
theorem stepT_ok (hC : Ctx X cs) (T : Ct X TB G fns call) (W : Sound TB G fns call rec tst) {e : Expr} {c : C} (h : stepT TB fns rec tst cs e c = true) : PT X e (tEvT G call c) := by
  have R : ∀ e c, rec cs e c = true → PE X e (tEv G call c) := fun e c q => W.e hC T q
  unfold stepT at h
  split at h
  · split at h
    · exact at_not (W.t hC T h)
    · cases h
  · exact (chkB_okT (fun e c q => W.t hC T q) h).pt
  · exact (chkCmp_ok hC T R h).2
  · exact (chkCmp2_ok T R h).2
  · cases h
  · cases h
  · rename_i h1 h2 h3 h4 h5 h6
    refine at_plain (stepE_ok hC T W h) fun whole => ?_
    cases e with
    | BoolOp => exact absurd rfl (h2 _ _ _)
    | IfExp => exact absurd rfl (h6 _ _ _ _)
    | Compare => exact absurd rfl (h5 _ _ _ _)
    | UnaryOp op a pos =>
      cases op
      · rfl
      · exact absurd rfl (h1 _ _)
      · rfl
      · rfl
    | _ => rfl
end
section
variable {TB : Tab} {G : List D} {fns : List Fn} {call : CallF}
theorem chk_sound (n : Nat) : Sound TB G fns call (chkE TB fns n) (chkT TB fns n) := by
  induction n with
  | zero => exact ⟨fun _ _ h => (by rw [chkE] at h; cases h), fun _ _ h => (by rw [chkT] at h; cases h)⟩
  | succ n ih => exact ⟨fun hC T h => (by rw [chkE] at h; exact stepE_ok hC T ih h), fun hC T h => (by rw [chkT] at h; exact stepT_ok hC T ih h)⟩
end
end Ev

/-! Ev17: the check of statements. -/
namespace Ev
open PySem PySem.Spec PyProof.Rows L2
variable [KK]
section
variable {X : Cx} {G : List D} {call : CallF}
theorem opEv_mkTup {ds : List D} {h : HpE} : opEv .mkTup ds h = if ds.length ≤ sz then .ok (.tup ds) h else .stuck := by
  unfold opEv
  simp only [isMut, Bool.false_eq_true, if_false, opP]
  split <;> split at * <;> simp_all
theorem as_par3 {i j l : Nat} {x y z : Str} {a b c : Expr} {ca cb cc : C} {px py pz pt pos : Pos} {kt k2 pt2} (hc : X.calm = true) (hN : X.N.Nodup) (hi : X.N[i]? = some x) (hj : X.N[j]? = some y) (hl : X.N[l]? = some z) (hij : i ≠ j) (hil : i ≠ l) (hjl : j ≠ l)
    (hx : X.env.scope.names.lookup x = some .local) (hy : X.env.scope.names.lookup y = some .local) (hz : X.env.scope.names.lookup z = some .local) (ha : PA X [a, b, c] (tEvL G call (.cons ca (.cons cb (.cons cc .nil)))))
    (hw : swappedStores [.Tuple [.Name x px, .Name y py, .Name z pz] kt pt] (.Tuple [a, b, c] k2 pt2) X.env = pure (some [x, y, z]))
    (hs : swapsWithSole [.Tuple [.Name x px, .Name y py, .Name z pz] kt pt] (.Tuple [a, b, c] k2 pt2) pos.line X.env = pure false) :
    PS X (.Assign [.Tuple [.Name x px, .Name y py, .Name z pz] kt pt] (.Tuple [a, b, c] k2 pt2) pos) (tEvS G call (.asg (.tup [.name i, .name j, .name l]) (.op .mkTup (.cons ca (.cons cb (.cons cc .nil)))))) :=
  (ps_par3 hc hN hi hj hl hij hil hjl hx hy hz ha hw hs).mono fun D σ H ⟨Z, ρ, env, h, S, E, p⟩ => by
    rw [exS, evC_op] at p
    refine ⟨Z, ρ, env, h, S, E, ?_⟩
    cases e : evL G call (.cons ca (.cons cb (.cons cc .nil))) env h with
    | ok ds h1 =>
      rw [e] at p
      intro vs H1 ρ1 ex S1 ll
      have E1 := E.keep S ex
      have p : PostS Z H ρ h σ ((opEv .mkTup ds h1).out fun d h => (asgT G call (.tup [.name i, .name j, .name l]) d env h).out fun env h => .nx env h) D := p
      rw [opEv_mkTup] at p
      split at p
      · have p : PostS Z H ρ h σ ((asgT G call (.tup [.name i, .name j, .name l]) (.tup ds) env h1).out fun env h => .nx env h) D := p
        rw [asgT] at p
        split at p
        · rename_i hl
          cases ll with
          | nil => cases hl
          | cons r1 ll =>
            cases ll with
            | nil => cases hl
            | cons r2 ll =>
              cases ll with
              | nil => cases hl
              | cons r3 ll =>
                cases ll with
                | cons _ _ => simp at hl
                | nil =>
                  rw [asgTs, asgT] at p
                  split at p
                  · have p : PostS Z H ρ h σ ((asgTs G call [.name j, .name l] [_, _] (env.set i (some _)) h1).out fun env h => .nx env h) D := p
                    rw [asgTs, asgT] at p
                    split at p
                    · have p : PostS Z H ρ h σ ((asgTs G call [.name l] [_] ((env.set i (some _)).set j (some _)) h1).out fun env h => .nx env h) D := p
                      rw [asgTs, asgT] at p
                      split at p
                      · have p : PostS Z H ρ h σ ((asgTs G call [] [] (((env.set i (some _)).set j (some _)).set l (some _)) h1).out fun env h => .nx env h) D := p
                        rw [asgTs] at p
                        exact ⟨_, _, _, rfl, p _ H1 ρ1 (by simp) ex S1 (((E1.set r1 i).set r2 j).set r3 l)⟩
                      · exact p.elim
                    · exact p.elim
                  · exact p.elim
        · exact p.elim
      · exact p.elim
    | exc _ _ => rw [e] at p; exact p
    | stuck => rw [e] at p; exact p
theorem as_setLc {i : Nat} {y : Str} {py : Pos} {elt tg iter : Expr} {ifs : List Expr} {scope : Scope} {own : List (Str × Nat)} {pos spos : Pos} {t : NT} {k : IK} {cit cifs : CL} {ce : C} (hc : X.calm = true) (hN : X.N.Nodup) (hy : X.N[i]? = some y) (hyl : X.env.scope.names.lookup y = some .local)
    (hsw : swapsWith (.ListComp elt [⟨tg, iter, ifs, 0⟩] scope pos) (some (.Name y py)) spos.line X.env = pure true) (hi : PI X tg iter (tEvI G call X.K k cit)) (ok : BlkOk X.N X.env.scope scope own)
    (hg : ∀ (s : Shared) (H : Hp) (C : Addr) (cl : List (Str × Addr)) (fp : List Addr), PG (X.blk s H scope (compEnvC scope cl C X.env) fp) tg (gNT X.K t)) (ht : ∀ (s : Shared) (H : Hp) (C : Addr) (cl : List (Str × Addr)) (fp : List Addr), PTs (X.blk s H scope (compEnvC scope cl C X.env) fp) ifs (tEvIf G call cifs))
    (he : ∀ (s : Shared) (H : Hp) (C : Addr) (cl : List (Str × Addr)) (fp : List Addr), PE (X.blk s H scope (compEnvC scope cl C X.env) fp) elt (tEv G call ce)) (hs : ∀ x, foldedSetIterable iter X.env x = pure x)
    (hz : ikz k = true → ∃ ts, t = .tup ts) (hown : ∀ i ∈ namesNT t, i ∈ own.map (·.2)) :
    PS X (.Assign [.Name y py] (.ListComp elt [⟨tg, iter, ifs, 0⟩] scope pos) spos) (tEvS G call (.asg (.name i) (.comp (own.map (·.2)) t k cit cifs ce))) :=
  (ps_setLc hc hN hy hyl hsw hi ok hg ht he hs).mono fun D σ H ⟨Z, ρ, env, h, S, E, p⟩ => by
    rw [exS] at p
    refine comp_w hz hown (evS_then S E p fun d h1 x H1 ρ1 S1 E1 r p1 => ?_)
    rw [asgT] at p1
    split at p1
    · exact p1 _ H1 ρ1 (by simp) Ext.refl S1 (E1.set r i)
    · exact p1.elim
end
/-! ### which stores are swapped -/
def notComp : Expr → Bool
  | .ListComp .. | .SetComp .. | .DictComp .. => false
  | _ => true
theorem sw_no {e : Expr} {t : Option Expr} {l : Nat} {env : Env} (h : notComp e = true) : swapsWith e t l env = pure false := by
  cases e <;> first | rfl | cases h
theorem sw_notName {e t : Expr} {l : Nat} {env : Env} (h : (match t with | .Name .. => false | _ => true) = true) : swapsWith e (some t) l env = pure false := by
  unfold swapsWith
  cases e <;> cases t <;> first | rfl | cases h
def swB (cs : CS) (x : Str) (p : Pos) (scope : Scope) (pos : Pos) : Bool := decide (cs.sc.names.lookup x = some .local) && (p.line == pos.line) && !(scope.names.any fun (n, k) => n == x && (k == .local || k == .cell))
theorem sw_lc_false {cs : CS} {env : Env} (hsc : env.scope = cs.sc) {elt : Expr} {gs : List Comprehension} {scope : Scope} {pos py : Pos} {y : Str} {l : Nat} (h : swB cs y py scope pos = false) : swapsWith (.ListComp elt gs scope pos) (some (.Name y py)) l env = pure false := by
  unfold swapsWith
  show (pure (env.blockKind == .function && env.kindOf y == some .local && py.line == (Expr.ListComp elt gs scope pos).pos.line && !(scope.names.any fun (n, k) => n == y && (k == .local || k == .cell))) : Sem Bool) = pure false
  congr 1
  unfold swB at h
  have ek : env.kindOf y = cs.sc.names.lookup y := by unfold Env.kindOf; rw [hsc]
  rw [ek]
  cases h1 : (cs.sc.names.lookup y == some NameKind.local)
  · simp
  · have h1' : decide (cs.sc.names.lookup y = some .local) = true := by simpa using h1
    rw [h1', Bool.true_and] at h
    cases h2 : (py.line == pos.line)
    · have : (py.line == (Expr.ListComp elt gs scope pos).pos.line) = false := h2
      rw [this]; simp
    · rw [h2, Bool.true_and] at h
      rw [h]; simp
/-- the stores of a, b = x, y: from the left; swapped -/
def swapNo (ts vs : List Expr) : Bool := (!(ts.length == 2 || ts.length == 3) || vs.length != ts.length) || (vs.all plainX && vs.all (foldedForSure 8))
def swapV (cs : CS) (vs : List Expr) : Bool := decide (cs.sc.kind = .function) && vs.all plainX && !(vs.all (foldedForSure 8)) && !(vs.all (constantsAlone 8))
theorem any_star {f : Expr → Bool} (hf : ∀ e, plainX e = true → f e = false) : ∀ {vs : List Expr}, vs.all plainX = true → vs.any f = false
  | [], _ => rfl
  | e :: es, h => by
    rw [List.all_cons, Bool.and_eq_true] at h
    rw [List.any_cons, any_star hf h.2, Bool.or_false]
    exact hf e h.1
theorem swapNo_ok {env : Env} {ts vs : List Expr} {k1 k2 : Nat} {p1 p2 : Pos} (h : swapNo ts vs = true) : swappedStores [.Tuple ts k1 p1] (.Tuple vs k2 p2) env = pure none := by
  unfold swapNo at h
  unfold swappedStores
  cases q : ((!(ts.length == 2 || ts.length == 3) || vs.length != ts.length) || env.blockKind != .function)
  · rw [Bool.or_eq_false_iff] at q
    rw [q.1, Bool.false_or, Bool.and_eq_true] at h
    have q' : ((!(ts.length == 2 || ts.length == 3) || vs.length != ts.length) || env.blockKind != .function) = false := by rw [q.1, q.2]; rfl
    simp only [q', Bool.false_eq_true, if_false]
    rw [any_star (fun e he => by cases e <;> first | rfl | cases he) h.1]
    simp only [h.2, if_true, Bool.false_eq_true, if_false]
    split <;> rfl
  · simp only [q, if_true]
theorem swap_two {cs : CS} {env : Env} (hsc : env.scope = cs.sc) {a b : Expr} {x y : Str} {px py : Pos} {k1 k2 : Nat} {p1 p2 : Pos} (h : swapV cs [a, b] = true) (g2 : cs.sc.names.lookup x = some .local) (g3 : cs.sc.names.lookup y = some .local) (g4 : py.line = px.line) (g5 : x ≠ y) :
    swappedStores [.Tuple [.Name x px, .Name y py] k1 p1] (.Tuple [a, b] k2 p2) env = pure (some [x, y]) := by
  unfold swapV at h
  rw [Bool.and_eq_true, Bool.and_eq_true, Bool.and_eq_true] at h
  obtain ⟨⟨⟨g1, h2⟩, h3⟩, h4⟩ := h
  have g1 := of_decide_eq_true g1
  have bk : env.blockKind = .function := by unfold Env.blockKind; rw [hsc, g1]; rfl
  have kx : env.kindOf x = some .local := by unfold Env.kindOf; rw [hsc, g2]
  have ky : env.kindOf y = some .local := by unfold Env.kindOf; rw [hsc, g3]
  have h3 : [a, b].all (foldedForSure 8) = false := by rw [Bool.not_eq_true'] at h3; exact h3
  have h4 : [a, b].all (constantsAlone 8) = false := by rw [Bool.not_eq_true'] at h4; exact h4
  have hp1 : (Expr.Name x px).pos = px := rfl
  have ne : (y == x) = false := by simpa using Ne.symm g5
  unfold swappedStores
  simp only [bk, List.length_cons, List.length_nil]
  rw [any_star (fun e he => by cases e <;> first | rfl | cases he) h2]
  simp only [h3, h4, List.head?_cons, Option.map_some, Option.getD_some, hp1, List.filterMap_cons, List.filterMap_nil, kx, ky, g4, beq_self_eq_true, Bool.and_self, if_true, Bool.false_eq_true, if_false]
  simp [List.eraseDups, List.eraseDupsBy, List.eraseDupsBy.loop, ne]
theorem swap_three {cs : CS} {env : Env} (hsc : env.scope = cs.sc) {a b c : Expr} {x y z : Str} {px py pz : Pos} {k1 k2 : Nat} {p1 p2 : Pos} (h : swapV cs [a, b, c] = true) (g2 : cs.sc.names.lookup x = some .local) (g3 : cs.sc.names.lookup y = some .local) (g3' : cs.sc.names.lookup z = some .local)
    (g4 : py.line = px.line) (g4' : pz.line = px.line) (g5 : x ≠ y) (g6 : x ≠ z) (g7 : y ≠ z) :
    swappedStores [.Tuple [.Name x px, .Name y py, .Name z pz] k1 p1] (.Tuple [a, b, c] k2 p2) env = pure (some [x, y, z]) := by
  unfold swapV at h
  rw [Bool.and_eq_true, Bool.and_eq_true, Bool.and_eq_true] at h
  obtain ⟨⟨⟨g1, h2⟩, h3⟩, h4⟩ := h
  have g1 := of_decide_eq_true g1
  have bk : env.blockKind = .function := by unfold Env.blockKind; rw [hsc, g1]; rfl
  have kx : env.kindOf x = some .local := by unfold Env.kindOf; rw [hsc, g2]
  have ky : env.kindOf y = some .local := by unfold Env.kindOf; rw [hsc, g3]
  have kz : env.kindOf z = some .local := by unfold Env.kindOf; rw [hsc, g3']
  have h3 : [a, b, c].all (foldedForSure 8) = false := by rw [Bool.not_eq_true'] at h3; exact h3
  have h4 : [a, b, c].all (constantsAlone 8) = false := by rw [Bool.not_eq_true'] at h4; exact h4
  have hp1 : (Expr.Name x px).pos = px := rfl
  have ne : (y == x) = false := by simpa using Ne.symm g5
  have ne2 : (z == x) = false := by simpa using Ne.symm g6
  have ne3 : (z == y) = false := by simpa using Ne.symm g7
  unfold swappedStores
  simp only [bk, List.length_cons, List.length_nil]
  rw [any_star (fun e he => by cases e <;> first | rfl | cases he) h2]
  simp only [h3, h4, List.head?_cons, Option.map_some, Option.getD_some, hp1, List.filterMap_cons, List.filterMap_nil, kx, ky, kz, g4, g4', beq_self_eq_true, Bool.and_self, if_true, Bool.false_eq_true, if_false]
  simp [List.eraseDups, List.eraseDupsBy, List.eraseDupsBy.loop, ne, ne2, ne3]
end Ev

/-! Ev18: the check of statements, of defs. -/
namespace Ev
open PySem PySem.Spec PyProof.Rows L2
variable [KK]
section
variable (rec tst : CS → Expr → C → Bool) (cs : CS)
mutual
def chkTg : Expr → T → Bool
  | .Name x _, .name i => decide (cs.N[i]? = some x) && sto cs x
  | .Tuple es _ _, .tup ts => chkTgs es ts
  | .Subscript o i _, .sub co ci => plainX i && rec cs o co && rec cs i ci
  | _, _ => false
def chkTgs : List Expr → List T → Bool
  | [], [] => true
  | e :: es, t :: ts => plainT e && chkTg e t && chkTgs es ts
  | _, _ => false
end
def isTupT : Expr → Bool
  | .Tuple _ _ _ | .Subscript _ _ _ => true
  | _ => false
def chkPar (ts vs : List Expr) (t : T) (c : C) : Bool := match c with
  | .op .mkTup cl => chkA (rec cs) vs cl && swapV cs vs && (match ts, vs, t, cl with
    | [.Name x px, .Name y py], [a, b], .tup [.name i, .name j], .cons _ (.cons _ .nil) => decide (cs.N[i]? = some x) && decide (cs.N[j]? = some y) && decide (cs.sc.names.lookup x = some .local) && decide (cs.sc.names.lookup y = some .local) && decide (py.line = px.line) && decide (x ≠ y) && decide (i ≠ j)
    | [.Name x px, .Name y py, .Name z pz], [a, b, c], .tup [.name i, .name j, .name l], .cons _ (.cons _ (.cons _ .nil)) => decide (cs.N[i]? = some x) && decide (cs.N[j]? = some y) && decide (cs.N[l]? = some z) && decide (cs.sc.names.lookup x = some .local) && decide (cs.sc.names.lookup y = some .local) && decide (cs.sc.names.lookup z = some .local) &&
      decide (py.line = px.line) && decide (pz.line = px.line) && decide (x ≠ y) && decide (x ≠ z) && decide (y ≠ z) && decide (i ≠ j) && decide (i ≠ l) && decide (j ≠ l)
    | _, _, _, _ => false)
  | _ => false
def chkAsg (tg v : Expr) (t : T) (c : C) : Bool := match tg with
  | .Name x px => match t with
    | .name i => decide (cs.N[i]? = some x) && (match v with
      | .ListComp elt [⟨tg2, iter, ifs, 0⟩] scope pos => if swB cs x px scope pos = true then decide (cs.sc.kind = .function) && chkComp rec tst cs elt tg2 iter ifs scope c else sto cs x && rec cs v c
      | v => notComp v && sto cs x && rec cs v c)
    | _ => false
  | .Tuple ts _ _ => match v with
    | .Tuple vs _ _ => if swapNo ts vs = true then chkTg rec cs tg t && rec cs v c else chkPar rec cs ts vs t c
    | v => chkTg rec cs tg t && rec cs v c
  | .Subscript _ _ _ => chkTg rec cs tg t && rec cs v c
  | _ => false
def isStrE : Expr → Bool
  | .Constant (.str _) _ _ => true
  | _ => false
def stepS (recL : List Stmt → SL → Bool) : Stmt → S → Bool
  | .Expr e _, .pass => isStrE e
  | .Expr e _, .expr c => notComp e && rec cs e c
  | .Assign [tg] v _, .asg t c => chkAsg rec tst cs tg v t c
  | .Return none _, .ret (.lit .non) => true
  | .Return (some e) _, .ret c => rec cs e c
  | .If c a b _, .ite cc ca cb => tst cs c cc && recL a ca && recL b cb
  | .For tg iter body [] _, .for t k it cb => chkI (rec cs) cs tg iter k it && notSet iter && (!(ikz k) || tupNT t) && chkNT cs tg t && recL body cb
  | .Break _, .brk => true
  | .Continue _, .cnt => true
  | .Pass _, .pass => true
  | _, _ => false
def chkSL (one : Stmt → S → Bool) : List Stmt → SL → Bool
  | [], .nil => true
  | st :: r, .cons s sl => one st s && chkSL one r sl
  | _, _ => false
end
def chkS (TB : Tab) (fns : List Fn) (cs : CS) (m : Nat) : Nat → Stmt → S → Bool
  | 0, _, _ => false
  | n + 1, st, s => stepS (chkE TB fns m) (chkT TB fns m) cs (chkSL (chkS TB fns cs m n)) st s
def chkBody (TB : Tab) (fns : List Fn) (cs : CS) (m n : Nat) (b : List Stmt) (sl : SL) : Bool := chkSL (chkS TB fns cs m n) b sl
section
variable {X : Cx} {TB : Tab} {G : List D} {fns : List Fn} {call : CallF} {cs : CS} {rec tst : CS → Expr → C → Bool}
theorem chkTgs_plain : ∀ {es : List Expr} {ts : List T}, chkTgs rec cs es ts = true → es.all plainT = true ∧ es.length = ts.length
  | [], [], _ => ⟨rfl, rfl⟩
  | e :: es, t :: ts, h => by
    rw [chkTgs, Bool.and_eq_true, Bool.and_eq_true] at h
    obtain ⟨h1, h2⟩ := chkTgs_plain h.2
    exact ⟨by rw [List.all_cons, h.1.1, h1]; rfl, by rw [List.length_cons, List.length_cons, h2]⟩
  | [], _ :: _, h => by simp [chkTgs] at h
  | _ :: _, [], h => by simp [chkTgs] at h
mutual
theorem chkTg_ok (hC : Ctx X cs) (T' : Ct X TB G fns call) (W : Sound TB G fns call rec tst) : ∀ {e : Expr} {t : T}, chkTg rec cs e t = true → PG X e (tAs G call t)
  | e, .name i, h => by
    cases e <;> try (simp [chkTg] at h; done)
    rw [chkTg, Bool.and_eq_true] at h
    have := sto_ok hC h.2
    exact as_name T'.nd (by rw [hC.N]; exact of_decide_eq_true h.1) this.1 this.2
  | e, .tup ts, h => by
    cases e <;> try (simp [chkTg] at h; done)
    rw [chkTg] at h
    obtain ⟨h1, h2⟩ := chkTgs_plain h
    exact as_tup T'.calm (chkTgs_ok hC T' W h) (assign_len.trans h2) (assign_star h1)
  | e, .sub co ci, h => by
    cases e <;> try (simp [chkTg] at h; done)
    rw [chkTg, Bool.and_eq_true, Bool.and_eq_true] at h
    exact as_sub (by have := T'.un; omega) (W.e hC T' h.1.2) (W.e hC T' h.2) h.1.1
theorem chkTgs_ok (hC : Ctx X cs) (T' : Ct X TB G fns call) (W : Sound TB G fns call rec tst) : ∀ {es : List Expr} {ts : List T}, chkTgs rec cs es ts = true → PGs X es (tAss G call ts)
  | es, [], h => by
    cases es with
    | nil => exact ass_nil
    | cons _ _ => simp [chkTgs] at h
  | es, t :: ts, h => by
    cases es with
    | nil => simp [chkTgs] at h
    | cons e es =>
      rw [chkTgs, Bool.and_eq_true, Bool.and_eq_true] at h
      exact ass_cons h.1.1 (chkTg_ok hC T' W h.1.2) (chkTgs_ok hC T' W h.2)
end
theorem sole_tup {ts : List Expr} {k : Nat} {p : Pos} {e : Expr} {l : Nat} {env : Env} : swapsWithSole [.Tuple ts k p] e l env = pure false := show swapsWith e (some (.Tuple ts k p)) l env = pure false from sw_notName rfl
theorem sole_sub {o i : Expr} {p : Pos} {e : Expr} {l : Nat} {env : Env} : swapsWithSole [.Subscript o i p] e l env = pure false := show swapsWith e (some (.Subscript o i p)) l env = pure false from sw_notName rfl
theorem stores_sub {o i : Expr} {p : Pos} {e : Expr} {env : Env} : swappedStores [.Subscript o i p] e env = pure none := by
  cases e <;> rfl
theorem stores_tup {ts : List Expr} {k : Nat} {p : Pos} {e : Expr} {env : Env} (h : ∀ vs k p, e ≠ .Tuple vs k p) : swappedStores [.Tuple ts k p] e env = pure none := by
  cases e <;> first | rfl | exact absurd rfl (h _ _ _)
theorem chkComp_parts (hC : Ctx X cs) (T' : Ct X TB G fns call) (W : Sound TB G fns call rec tst) {i : Nat} {y : Str} {py spos : Pos} {elt tg iter : Expr} {ifs : List Expr} {scope : Scope} {c : C} {pos : Pos} (h : chkComp rec tst cs elt tg iter ifs scope c = true)
    (hy : X.N[i]? = some y) (hk : cs.sc.kind = .function) (hsw : swB cs y py scope pos = true) : PS X (.Assign [.Name y py] (.ListComp elt [⟨tg, iter, ifs, 0⟩] scope pos) spos) (tEvS G call (.asg (.name i) c)) := by
  unfold swB at hsw
  simp only [Bool.and_eq_true, decide_eq_true_eq, Bool.not_eq_true'] at hsw
  obtain ⟨⟨g1, g2⟩, g3⟩ := hsw
  unfold chkComp at h
  split at h
  · simp only [Bool.and_eq_true, decide_eq_true_eq] at h
    obtain ⟨⟨⟨⟨⟨⟨⟨⟨h1, h2⟩, h3⟩, h4⟩, h5⟩, h6⟩, h7⟩, h8⟩, h9⟩ := h
    rw [← h1] at h6
    rw [← h1]
    refine as_setLc T'.calm T'.nd hy (by rw [hC.sc]; exact g1) (sw_true (by rw [hC.sc]; exact hk) (by rw [hC.sc]; exact g1) g2 g3) (chkI_ok hC T' (fun e c q => W.e hC T' q) h3) (by rw [hC.N, hC.sc]; exact blkOk_by h2) (fun s H A cl fp => chkNT_ok (X := X.blk s H scope (compEnvC scope cl A X.env) fp) hC.blk T'.calm T'.nd h7)
      (fun s H A cl fp => chkIf_ok (fun e c q => W.t hC.blk T'.blk q) h8) (fun s H A cl fp => W.e hC.blk T'.blk h9) (notSet_ok h4 _) (fun q => ?_) h6
    rw [q] at h5
    exact tupNT_ok (by simpa using h5)
  · cases h
theorem chkPar_ok (hC : Ctx X cs) (T' : Ct X TB G fns call) (W : Sound TB G fns call rec tst) {ts vs : List Expr} {t : T} {c : C} {k1 k2 : Nat} {p1 p2 pos : Pos} (h : chkPar rec cs ts vs t c = true) : PS X (.Assign [.Tuple ts k1 p1] (.Tuple vs k2 p2) pos) (tEvS G call (.asg t c)) := by
  unfold chkPar at h
  split at h
  · simp only [Bool.and_eq_true] at h
    obtain ⟨⟨h1, h2⟩, h3⟩ := h
    have A := chkA_ok (X := X) (G := G) (call := call) (fun e c q => W.e hC T' q) h1
    split at h3
    · simp only [Bool.and_eq_true, decide_eq_true_eq] at h3
      obtain ⟨⟨⟨⟨⟨⟨g1, g2⟩, g3⟩, g4⟩, g5⟩, g6⟩, g7⟩ := h3
      exact as_par T'.calm T'.nd (by rw [hC.N]; exact g1) (by rw [hC.N]; exact g2) g7 (by rw [hC.sc]; exact g3) (by rw [hC.sc]; exact g4) A (swap_two hC.sc h2 g3 g4 g5 g6) sole_tup
    · simp only [Bool.and_eq_true, decide_eq_true_eq] at h3
      obtain ⟨⟨⟨⟨⟨⟨⟨⟨⟨⟨⟨⟨⟨g1, g2⟩, g3⟩, g4⟩, g5⟩, g6⟩, g7⟩, g8⟩, g9⟩, g10⟩, g11⟩, g12⟩, g13⟩, g14⟩ := h3
      exact as_par3 T'.calm T'.nd (by rw [hC.N]; exact g1) (by rw [hC.N]; exact g2) (by rw [hC.N]; exact g3) g12 g13 g14 (by rw [hC.sc]; exact g4) (by rw [hC.sc]; exact g5) (by rw [hC.sc]; exact g6) A (swap_three hC.sc h2 g4 g5 g6 g7 g8 g9 g10 g11) sole_tup
    · cases h3
  · cases h
theorem chkAsg_ok (hC : Ctx X cs) (T' : Ct X TB G fns call) (W : Sound TB G fns call rec tst) {tg v : Expr} {t : T} {c : C} {pos : Pos} (h : chkAsg rec tst cs tg v t c = true) : PS X (.Assign [tg] v pos) (tEvS G call (.asg t c)) := by
  unfold chkAsg at h
  split at h
  · split at h
    · rw [Bool.and_eq_true] at h
      obtain ⟨h1, h⟩ := h
      have hN := of_decide_eq_true h1
      rw [← hC.N] at hN
      split at h
      · split at h
        · simp only [Bool.and_eq_true, decide_eq_true_eq] at h
          exact chkComp_parts hC T' W h.2 hN h.1 (by assumption)
        · rw [Bool.and_eq_true] at h
          have := sto_ok hC h.1
          rename_i hsw
          exact as_set T'.nd hN this.1 (W.e hC T' h.2) (sw_lc_false hC.sc (by simpa using hsw)) this.2
      · rw [Bool.and_eq_true, Bool.and_eq_true] at h
        have := sto_ok hC h.1.2
        exact as_set T'.nd hN this.1 (W.e hC T' h.2) (sw_no h.1.1) this.2
    · cases h
  · split at h
    · split at h
      · rw [Bool.and_eq_true] at h
        exact as_asg (W.e hC T' h.2) (chkTg_ok hC T' W h.1) sole_tup (swapNo_ok (by assumption)) rfl
      · exact chkPar_ok hC T' W h
    · rw [Bool.and_eq_true] at h
      rename_i hn
      exact as_asg (W.e hC T' h.2) (chkTg_ok hC T' W h.1) sole_tup (stores_tup fun vs k p q => hn _ _ _ q) rfl
  · rw [Bool.and_eq_true] at h
    exact as_asg (W.e hC T' h.2) (chkTg_ok hC T' W h.1) sole_sub stores_sub rfl
  · cases h
theorem stepS_ok (hC : Ctx X cs) (T' : Ct X TB G fns call) (W : Sound TB G fns call rec tst) {recL : List Stmt → SL → Bool} (hL : ∀ b sl, recL b sl = true → PSs X b (tEvSL G call sl)) {st : Stmt} {s : S} (h : stepS rec tst cs recL st s = true) : PS X st (tEvS G call s) := by
  unfold stepS at h
  split at h
  · rename_i e _
    cases e <;> try (simp [isStrE] at h; done)
    rename_i v _ _
    cases v <;> try (simp [isStrE] at h; done)
    exact as_doc
  · rw [Bool.and_eq_true] at h
    exact as_expr (W.e hC T' h.2) (sw_no h.1)
  · exact chkAsg_ok hC T' W h
  · exact as_retN
  · exact as_ret (W.e hC T' h)
  · rw [Bool.and_eq_true, Bool.and_eq_true] at h
    exact as_if (W.t hC T' h.1.1) (hL _ _ h.1.2) (hL _ _ h.2)
  · simp only [Bool.and_eq_true] at h
    obtain ⟨⟨⟨⟨h1, h2⟩, h3⟩, h4⟩, h5⟩ := h
    refine as_for (by rw [T'.xe]; exact PassesOwn.never) T'.calm (chkI_ok hC T' (fun e c q => W.e hC T' q) h1) (chkNT_ok hC T'.calm T'.nd h4) (hL _ _ h5) (notSet_ok h2 _) fun q => ?_
    rw [q] at h3
    exact tupNT_ok (by simpa using h3)
  · exact as_brk
  · exact as_cnt
  · exact as_pass
  · cases h
theorem chkSL_ok {one : Stmt → S → Bool} (h1 : ∀ st s, one st s = true → PS X st (tEvS G call s)) : ∀ {b : List Stmt} {sl : SL}, chkSL one b sl = true → PSs X b (tEvSL G call sl)
  | [], .nil, _ => asl_nil
  | st :: r, .cons s sl, h => by
    rw [chkSL, Bool.and_eq_true] at h
    exact asl_cons (h1 _ _ h.1) (chkSL_ok h1 h.2)
  | [], .cons _ _, h => by simp [chkSL] at h
  | _ :: _, .nil, h => by simp [chkSL] at h
theorem chkS_ok (hC : Ctx X cs) (T' : Ct X TB G fns call) (m n : Nat) : ∀ {st : Stmt} {s : S}, chkS TB fns cs m n st s = true → PS X st (tEvS G call s) := by
  induction n with
  | zero => intro st s h; rw [chkS] at h; cases h
  | succ n ih =>
    intro st s h
    rw [chkS] at h
    exact stepS_ok hC T' (chk_sound m) (fun b sl q => chkSL_ok (fun _ _ => ih) q) h
theorem chkBody_ok (hC : Ctx X cs) (T' : Ct X TB G fns call) {m n : Nat} {b : List Stmt} {sl : SL} (h : chkBody TB fns cs m n b sl = true) : PSs X b (tEvSL G call sl) := chkSL_ok (fun _ _ => chkS_ok hC T' m n) h
end
end Ev

/-! Ev19: all defs keep their promise. -/
namespace Ev
open PySem PySem.Spec PyProof.Rows L2
variable [KK]
/-- a def of the text: its name, its statement, its slots, its parameters -/
structure DefE where
  x : Str
  st : Stmt
  N : List Str
  ps : List Str
/-- a def as it stands behind the top -/
structure DefAt (K : PySem.W.Frag) (mg : Str → Option Value) (de : DefE) (fn : Fn) (f : Addr) (fd : FuncData) : Prop where
  F : ∃ dvs, FunD K de.x de.x (defArgs de.st) (defBody de.st) (defScope de.st) dvs [] f fd ∧ (∀ H Z ρ n, RL H Z ρ n dvs fn.dfl) ∧
    ∀ m, m ≤ fn.np → fn.np ≤ m + fn.dfl.length → ∃ ds, Vals (dvs.drop (fn.dfl.length - (fn.np - m))) ds ∧ Binds K fd de.ps ds
  mgx : mg de.x = some (.ref f)
  bA : fn.dfl = [] → ∀ (s : Shared) (us : List Value), us.length = de.ps.length → BindsTo s fd ⟨us, []⟩ (de.ps.zip us)
theorem callBody_full {G : List D} {fns : List Fn} {call : CallF} {fi : Nat} {fn : Fn} {args : List D} {h h' : HpE} {b : D} (hf : fns[fi]? = some fn) (e : callBody G fns call fi args h = .ok b h') :
    args.length + (fn.dfl.drop (fn.dfl.length - (fn.np - args.length))).length = fn.np ∧ callBody G fns call fi (args ++ fn.dfl.drop (fn.dfl.length - (fn.np - args.length))) h = .ok b h' := by
  unfold callBody at e ⊢
  rw [hf] at e ⊢
  simp only at e ⊢
  split at e
  · rename_i hc
    obtain ⟨h1, h2⟩ := hc
    have h1' := h1
    rw [List.length_append] at h1'
    refine ⟨h1', ?_⟩
    have e2 : (args ++ fn.dfl.drop (fn.dfl.length - (fn.np - args.length))) ++ fn.dfl.drop (fn.dfl.length - (fn.np - (args ++ fn.dfl.drop (fn.dfl.length - (fn.np - args.length))).length)) = args ++ fn.dfl.drop (fn.dfl.length - (fn.np - args.length)) := by
      rw [h1, Nat.sub_self, Nat.sub_zero, List.drop_length, List.append_nil]
    rw [e2, if_pos ⟨h1, Nat.le_of_eq h1⟩]
    exact e
  · cases e
theorem EnvR.start {H : Hp} {Z : Addr → Prop} {ρ : Nat → Addr} {n : Nat} {N : List Str} {vs : List V} {ds : List D} (l : RL H Z ρ n vs ds) {ns : Nat} (hN : N.length = ns) : EnvR H Z ρ n (L2.start N vs) (ds.map some ++ List.replicate (ns - ds.length) none) := by
  refine ⟨?_, fun i d e => ?_⟩
  · unfold L2.start
    rw [List.length_append, List.length_append, List.length_map, List.length_map, List.length_replicate, List.length_replicate, l.length, hN]
  · have hi : i < ds.length := by
      by_cases q : i < ds.length
      · exact q
      · rw [List.getElem?_append_right (by rw [List.length_map]; omega), List.getElem?_replicate] at e
        split at e <;> cases e
    rw [List.getElem?_append_left (by rw [List.length_map]; exact hi), List.getElem?_map] at e
    obtain ⟨d', e1, e2⟩ := Option.map_eq_some_iff.mp e
    cases e2
    obtain ⟨v, hv, r⟩ := l.get e1
    refine ⟨v, ?_, r⟩
    unfold L2.start
    rw [List.getElem?_append_left (by rw [List.length_map, l.length]; exact hi), List.getElem?_map, hv]
    rfl
/-- what is asked of the texts -/
structure Prg (TB : Tab) (fns : List Fn) (defs : List DefE) : Prop where
  len : fns.length = defs.length
  sc : ∀ (fi : Nat) (fn : Fn) (de : DefE), fns[fi]? = some fn → defs[fi]? = some de → FnScope de.N de.ps (defScope de.st) ∧ de.ps.length = fn.np ∧ de.N.length = fn.ns
  body : ∀ (fi : Nat) (fn : Fn) (de : DefE), fns[fi]? = some fn → defs[fi]? = some de → ∃ m n, chkBody TB fns ⟨de.N, defScope de.st, none⟩ m n (defBody de.st) fn.body = true
  tb : ∀ x fi, TB.fn.lookup x = some fi → ∃ de, defs[fi]? = some de ∧ de.x = x
/-- what is asked of the module behind the top -/
structure Wld (K : PySem.W.Frag) (mg : Str → Option Value) (TB : Tab) (G : List D) (fns : List Fn) (defs : List DefE) : Prop where
  kk : K = KK.K
  bn : ∀ x ∈ bnames, mg x = none
  at' : ∀ (fi : Nat) (fn : Fn) (de : DefE), fns[fi]? = some fn → defs[fi]? = some de → ∃ f fd, DefAt K mg de fn f fd
  gl : ∀ x g, TB.gl.lookup x = some g → ∃ v u d, mg x = some u ∧ RelV v u ∧ G[g]? = some d ∧ ∀ H Z ρ n, R H Z ρ n v d
  gt : ∀ x ds, TB.gt.lookup x = some ds → ∃ g vs, mg x = some (.ref g) ∧ (∀ H, SqT K H g vs) ∧ ∀ H, DpAll K H vs (pyL ds)
section
variable {P : Program} {w : World} {K : PySem.W.Frag} {mg : Str → Option Value} {base : Heap} {TB : Tab} {G : List D} {fns : List Fn} {defs : List DefE}
theorem all_ok (hP : Prg TB fns defs) (hW : Wld K mg TB G fns defs) : ∀ (n : Nat) (fi : Nat) (fn : Fn) (de : DefE) (f : Addr) (fd : FuncData), fns[fi]? = some fn → defs[fi]? = some de → DefAt K mg de fn f fd → FnOk P w K mg base CX0 n f fd de.ps (spEv (callF G fns n fi) fn.np)
  | 0, fi, fn, de, f, fd, hf, hd, hat => by
    obtain ⟨S, l1, l2⟩ := hP.sc fi fn de hf hd
    refine ⟨fun vs H Q E h => h.1.trans l1.symm, fun A outer s H args us vs Q E _ _ _ _ h => ?_⟩
    obtain ⟨_, Z, ρ, hh, ds, _, _, p⟩ := h
    exact False.elim p
  | n + 1, fi, fn, de, f, fd, hf, hd, hat => by
    have IH := all_ok hP hW n
    obtain ⟨S, l1, l2⟩ := hP.sc fi fn de hf hd
    obtain ⟨m0, n0, hb⟩ := hP.body fi fn de hf hd
    obtain ⟨⟨dvs, F, _, _⟩, _, _⟩ := hat
    refine F.ok S (fun vs H Q E h => h.1.trans l1.symm) fun cdv A outer s H vs Q E hr hsp => ?_
    refine ⟨tEvSL G (callF G fns n) fn.body, PSs.nox (chkBody_ok (cs := ⟨de.N, defScope de.st, none⟩) ⟨rfl, rfl, rfl⟩ ⟨rfl, hW.kk, S.nd, rfl, hr.units, hW.bn, fun x fi' fn' m hx hf' h1 h2 => ?_, hW.gl, hW.gt⟩ hb), ?_⟩
    · obtain ⟨de', hd', rfl⟩ := hP.tb x fi' hx
      obtain ⟨f', fd', hat'⟩ := hW.at' fi' fn' de' hf' hd'
      obtain ⟨⟨dvs', F', hR', hB'⟩, hm', _⟩ := id hat'
      obtain ⟨ds', hv', hb'⟩ := hB' m h1 h2
      refine ⟨f', fd', de'.ps, n, _, ds', IH fi' fn' de' f' fd' hf' hd' hat', hr, hm', F'.kp, hb', hv', fun H Z ρ n => ?_, fun args h b h' hl e => ?_⟩
      · have := hR' H Z ρ n
        exact this.drop _
      · subst hl
        cases n with
        | zero => cases e
        | succ n => exact callBody_full hf' e
    · obtain ⟨hl, Z, ρ, h, ds, S1, l, p⟩ := hsp
      have hdl : ds.length = fn.np := by rw [← l.length]; exact hl
      have p : Post Z H ρ h (callBody G fns (callF G fns n) fi ds h) Q := p
      unfold callBody at p
      rw [hf] at p
      simp only [hdl, Nat.sub_self, Nat.sub_zero, List.drop_length, List.append_nil] at p
      rw [if_pos ⟨trivial, Nat.le_refl _⟩] at p
      have E0 := EnvR.start (N := de.N) l l2
      rw [hdl] at E0
      refine ⟨Z, ρ, _, h, S1, E0, ?_⟩
      cases e : exL G (callF G fns n) fn.body (ds.map some ++ List.replicate (fn.ns - fn.np) none) h with
      | nx env' h' =>
        rw [e] at p
        intro σ' H' ρ' _ ex S' _
        exact post_fin p .non H' ρ' ex S' .non
      | ret d h' =>
        rw [e] at p
        exact fun v H' ρ' ex S' r => post_fin p v H' ρ' ex S' r
      | brk _ _ => rw [e] at p; exact False.elim p
      | cnt _ _ => rw [e] at p; exact False.elim p
      | stuck => rw [e] at p; exact p
/-- the law's own promise -/
def spLaw (K : PySem.W.Frag) (N : Nat) : Sp := fun vs H Q _ => ∃ (a : Addr) (ns : List Int), vs = [.ref a] ∧ SqL K H a (ns.map V.int) ∧ ns.length ≤ N ∧ Q (.bl true) H ∧ ∀ H', Q (.bl true) H'
theorem law_ok (hP : Prg TB fns defs) (hW : Wld K mg TB G fns defs) {n fi N : Nat} {fn : Fn} {de : DefE} {f : Addr} {fd : FuncData} (hf : fns[fi]? = some fn) (hd : defs[fi]? = some de) (hat : DefAt K mg de fn f fd) (hnp : fn.np = 1) (law : ∀ ns : List Int, ns.length ≤ N → ∃ h', callF G fns n fi [.scr ns] [] = .ok (.bl true) h') :
    FnOk P w K mg base CX0 n f fd de.ps (spLaw K N) :=
  (all_ok hP hW n fi fn de f fd hf hd hat).imp fun vs H Q E ⟨a, ns, e, sq, hl, _, q⟩ => by
    subst e
    obtain ⟨h', e⟩ := law ns hl
    refine ⟨hnp.symm ▸ rfl, fun _ => False, fun _ => 0, [], [.scr ns], ⟨fun i j h => absurd h (by simp), fun i h => absurd h (by simp), fun _ z => z.elim, fun i c h => by simp at h⟩, .cons ?_ .nil, ?_⟩
    · rcases sq with r | r
      · exact .scrH r (by rintro (z | ⟨m, hm, _⟩); exact z; simp at hm)
      · rw [hW.kk] at r; exact .scrK r
    · rw [e]
      intro v H' ρ' _ _ r
      cases r
      exact q H'
end

section
omit [KK]
/-! ### lists of facts -/
def AllP (Q : Fn → DefE → Prop) : List Fn → List DefE → Prop
  | [], [] => True
  | f :: fs, d :: ds => Q f d ∧ AllP Q fs ds
  | _, _ => False
theorem AllP.get {Q : Fn → DefE → Prop} : ∀ {fs : List Fn} {ds : List DefE} {i : Nat} {f : Fn} {d : DefE}, AllP Q fs ds → fs[i]? = some f → ds[i]? = some d → Q f d
  | [], [], _, _, _, _, h, _ => by simp at h
  | f :: fs, d :: ds, 0, _, _, h, h1, h2 => by simp at h1 h2; subst h1 h2; exact h.1
  | f :: fs, d :: ds, i + 1, _, _, h, h1, h2 => AllP.get (i := i) h.2 (by simpa using h1) (by simpa using h2)
  | [], _ :: _, _, _, _, h, _, _ => h.elim
  | _ :: _, [], _, _, _, h, _, _ => h.elim
/-- a def's text -/
structure TxtOk (TB : Tab) (fns : List Fn) (fn : Fn) (de : DefE) : Prop where
  sc : FnScope de.N de.ps (defScope de.st)
  np : de.ps.length = fn.np
  ns : de.N.length = fn.ns
  body : ∃ m n, chkBody TB fns ⟨de.N, defScope de.st, none⟩ m n (defBody de.st) fn.body = true
def tbOk (defs : List DefE) (l : List (Str × Nat)) : Bool := l.all fun p => match defs[p.2]? with
  | some de => de.x == p.1
  | none => false
theorem mem_of_lookup' {α : Type} : ∀ {l : List (Str × α)} {x : Str} {a : α}, l.lookup x = some a → (x, a) ∈ l
  | (y, b) :: l, x, a, h => by
    rw [List.lookup_cons] at h
    cases q : x == y
    · rw [q] at h; exact List.mem_cons_of_mem _ (mem_of_lookup' h)
    · rw [q] at h; cases h
      have := eq_of_beq q
      subst this
      exact List.mem_cons_self
theorem tbOk_ok {defs : List DefE} {l : List (Str × Nat)} (h : tbOk defs l = true) {x : Str} {fi : Nat} (e : l.lookup x = some fi) : ∃ de, defs[fi]? = some de ∧ de.x = x := by
  have := List.all_eq_true.mp h _ (mem_of_lookup' e)
  simp only at this
  split at this
  · exact ⟨_, by assumption, eq_of_beq this⟩
  · cases this
theorem prg_of {TB : Tab} {fns : List Fn} {defs : List DefE} (hl : fns.length = defs.length) (h : AllP (TxtOk TB fns) fns defs) (ht : tbOk defs TB.fn = true) : Prg TB fns defs :=
  ⟨hl, fun fi fn de h1 h2 => let q := h.get h1 h2; ⟨q.sc, q.np, q.ns⟩, fun fi fn de h1 h2 => (h.get h1 h2).body, fun x fi e => tbOk_ok ht e⟩
end
section
variable {K : PySem.W.Frag} {mg : Str → Option Value} {h : Heap} {x : Str} {st : Stmt} {N ps : List Str} {fn : Fn} {f : Addr} {oc : Value} {od an : Option Addr} {osl : Array (Option Value)} {kV doc pm cdv ct : Value}
/-- a def without defaults -/
theorem def_at (X : K.In h) (G : h.Ns mainGlobals mg) (hd : fn.dfl = []) (hp : ps.length = fn.np)
    (hb : ∀ (kV doc pm : Value) (an : Option Addr) (cdv ct : Value) (us : List Value), us.length = ps.length → bindArgs (PySem.W.fnOf x x (defArgs st) (defBody st) (defScope st) .none kV doc pm an cdv ct) ⟨us, []⟩ = pure (ps.zip us))
    (a : PySem.W.nsIn K mainGlobals x = some (some (.ref f))) (l : K.lookup f = some ⟨oc, od, .func (PySem.W.fnOf x x (defArgs st) (defBody st) (defScope st) .none kV doc pm an cdv ct), osl⟩)
    (c : PySem.W.codeIn K cdv x = true) (k : PySem.W.keepIn K (.ref f) = true) : DefAt K mg ⟨x, st, N, ps⟩ fn f (PySem.W.fnOf x x (defArgs st) (defBody st) (defScope st) .none kV doc pm an cdv ct) := by
  have F : FunD K x x (defArgs st) (defBody st) (defScope st) [] [] f (PySem.W.fnOf x x (defArgs st) (defBody st) (defScope st) .none kV doc pm an cdv ct) := ⟨⟨oc, od, .none, kV, doc, pm, an, cdv, ct, osl, rfl, l, c, .inl ⟨rfl, rfl⟩, .inl rfl⟩, k⟩
  refine ⟨⟨[], F, fun _ _ _ _ => by rw [hd]; exact .nil, fun m h1 h2 => ⟨[], by rw [List.drop_nil]; exact .nil, F.bindsN hb⟩⟩, PySem.W.mg_of X G a, fun _ s us hl => F.bindsA hb s us hl⟩
/-- a def whose last parameter has a default, an int -/
theorem def_at1 {d : Int} {T : Addr} {tk : Tok} {oc2 : Value} {od2 : Option Addr} {n : Nat} {sl2 : Array (Option Value)} (X : K.In h) (G : h.Ns mainGlobals mg) (hd : fn.dfl = [.int d]) (hp : ps.length = fn.np)
    (hb : ∀ (T : Addr) (kV doc pm : Value) (an : Option Addr) (cdv ct : Value) (us its : List Value), us.length + 1 = ps.length → its.length = 1 →
      ∃ k, bindArgs (PySem.W.fnOf x x (defArgs st) (defBody st) (defScope st) (.ref T) kV doc pm an cdv ct) ⟨us, []⟩ = seqItems? (.ref T) >>= k ∧ k (some its.toArray) = pure (ps.zip (us ++ its.drop 0)))
    (hb2 : ∀ (T : Addr) (kV doc pm : Value) (an : Option Addr) (cdv ct : Value) (us its : List Value), us.length = ps.length → its.length = 1 →
      ∃ k, bindArgs (PySem.W.fnOf x x (defArgs st) (defBody st) (defScope st) (.ref T) kV doc pm an cdv ct) ⟨us, []⟩ = seqItems? (.ref T) >>= k ∧ k (some its.toArray) = pure (ps.zip (us ++ its.drop 1)))
    (a : PySem.W.nsIn K mainGlobals x = some (some (.ref f))) (l : K.lookup f = some ⟨oc, od, .func (PySem.W.fnOf x x (defArgs st) (defBody st) (defScope st) (.ref T) kV doc pm an cdv ct), osl⟩)
    (c : PySem.W.codeIn K cdv x = true) (k : PySem.W.keepIn K (.ref f) = true) (lT : K.lookup T = some ⟨oc2, od2, .seq #[.int d tk] n, sl2⟩) : DefAt K mg ⟨x, st, N, ps⟩ fn f (PySem.W.fnOf x x (defArgs st) (defBody st) (defScope st) (.ref T) kV doc pm an cdv ct) := by
  have F : FunD K x x (defArgs st) (defBody st) (defScope st) [.int d] [] f (PySem.W.fnOf x x (defArgs st) (defBody st) (defScope st) (.ref T) kV doc pm an cdv ct) :=
    ⟨⟨oc, od, .ref T, kV, doc, pm, an, cdv, ct, osl, rfl, l, c, .inr ⟨by simp, T, _, [.int d tk], n, rfl, lT, rfl, .cons ⟨tk, rfl⟩ .nil⟩, .inl rfl⟩, k⟩
  refine ⟨⟨[.int d], F, fun _ _ _ _ => by rw [hd]; exact .cons (.int d) .nil, fun m h1 h2 => ?_⟩, PySem.W.mg_of X G a, fun z => by rw [hd] at z; cases z⟩
  rw [hd] at h2 ⊢
  have h2 : fn.np ≤ m + 1 := h2
  by_cases e : m = fn.np
  · subst e
    have := F.binds1 fn.np 1 (by simp) (by rw [hp]; rfl) (fun T kV doc pm an cdv ct us its hu hi => hb2 T kV doc pm an cdv ct us its (hu.trans hp.symm) hi)
    simpa using this
  · have e : fn.np = m + 1 := by omega
    have := F.binds1 m 0 (by simp) (by rw [hp, e]; rfl) (fun T kV doc pm an cdv ct us its hu hi => hb T kV doc pm an cdv ct us its (by rw [hu, hp, e]) hi)
    have e2 : [D.int d].length - (fn.np - m) = 0 := by rw [e]; simp
    rw [e2]
    exact this
end
section
variable {K : PySem.W.Frag} {mg : Str → Option Value} {h : Heap} {x : Str} {st : Stmt} {N ps : List Str} {fn : Fn} {f : Addr} {oc : Value} {od an : Option Addr} {osl : Array (Option Value)} {kV doc pm cdv ct : Value}
theorem def_ex (X : K.In h) (G : h.Ns mainGlobals mg) (hd : fn.dfl = []) (hp : ps.length = fn.np)
    (hb : ∀ (kV doc pm : Value) (an : Option Addr) (cdv ct : Value) (us : List Value), us.length = ps.length → bindArgs (PySem.W.fnOf x x (defArgs st) (defBody st) (defScope st) .none kV doc pm an cdv ct) ⟨us, []⟩ = pure (ps.zip us))
    (a : PySem.W.nsIn K mainGlobals x = some (some (.ref f))) (l : K.lookup f = some ⟨oc, od, .func (PySem.W.fnOf x x (defArgs st) (defBody st) (defScope st) .none kV doc pm an cdv ct), osl⟩)
    (c : PySem.W.codeIn K cdv x = true) (k : PySem.W.keepIn K (.ref f) = true) : ∃ f fd, DefAt K mg ⟨x, st, N, ps⟩ fn f fd := ⟨_, _, def_at X G hd hp hb a l c k⟩
theorem def_ex1 {d : Int} {T : Addr} {tk : Tok} {oc2 : Value} {od2 : Option Addr} {n : Nat} {sl2 : Array (Option Value)} (X : K.In h) (G : h.Ns mainGlobals mg) (hd : fn.dfl = [.int d]) (hp : ps.length = fn.np)
    (hb : ∀ (T : Addr) (kV doc pm : Value) (an : Option Addr) (cdv ct : Value) (us its : List Value), us.length + 1 = ps.length → its.length = 1 →
      ∃ k, bindArgs (PySem.W.fnOf x x (defArgs st) (defBody st) (defScope st) (.ref T) kV doc pm an cdv ct) ⟨us, []⟩ = seqItems? (.ref T) >>= k ∧ k (some its.toArray) = pure (ps.zip (us ++ its.drop 0)))
    (hb2 : ∀ (T : Addr) (kV doc pm : Value) (an : Option Addr) (cdv ct : Value) (us its : List Value), us.length = ps.length → its.length = 1 →
      ∃ k, bindArgs (PySem.W.fnOf x x (defArgs st) (defBody st) (defScope st) (.ref T) kV doc pm an cdv ct) ⟨us, []⟩ = seqItems? (.ref T) >>= k ∧ k (some its.toArray) = pure (ps.zip (us ++ its.drop 1)))
    (a : PySem.W.nsIn K mainGlobals x = some (some (.ref f))) (l : K.lookup f = some ⟨oc, od, .func (PySem.W.fnOf x x (defArgs st) (defBody st) (defScope st) (.ref T) kV doc pm an cdv ct), osl⟩)
    (c : PySem.W.codeIn K cdv x = true) (k : PySem.W.keepIn K (.ref f) = true) (lT : K.lookup T = some ⟨oc2, od2, .seq #[.int d tk] n, sl2⟩) : ∃ f fd, DefAt K mg ⟨x, st, N, ps⟩ fn f fd := ⟨_, _, def_at1 X G hd hp hb hb2 a l c k lT⟩
end
/-- a tuple of texts of the module's own -/
theorem gt_at {K : PySem.W.Frag} {mg : Str → Option Value} {h : Heap} {x : Str} {g : Addr} {o : Obj} {its : Array Value} {n : Nat} {xs : List Str} (X : K.In h) (G : h.Ns mainGlobals mg) (a : PySem.W.nsIn K mainGlobals x = some (some (.ref g)))
    (l : K.lookup g = some o) (hc : o.cls = .type "tuple") (hd : o.data = .seq its n) (hz : its.size ≤ sizeLine) (hv : Vals (xs.map V.str) its.toList) : ∃ g vs, mg x = some (.ref g) ∧ (∀ H, SqT K H g vs) ∧ ∀ H, DpAll K H vs (pyL (xs.map D.str)) := by
  refine ⟨g, xs.map V.str, PySem.W.mg_of X G a, fun H => .inr ⟨o, its, n, l, hc, hd, hz, hv⟩, fun H => ?_⟩
  clear hv
  induction xs with
  | nil => exact .nil
  | cons x xs ih => exact .cons (.str x) ih
theorem gl_int {K : PySem.W.Frag} {mg : Str → Option Value} {h : Heap} {x : Str} {i : Int} {t : Tok} {G' : List D} {g : Nat} (X : K.In h) (G : h.Ns mainGlobals mg) (hg : G'[g]? = some (.int i)) (a : PySem.W.nsIn K mainGlobals x = some (some (.int i t))) :
    ∃ v u d, mg x = some u ∧ RelV v u ∧ G'[g]? = some d ∧ ∀ H Z ρ n, R H Z ρ n v d := ⟨.int i, _, .int i, PySem.W.mg_of X G a, ⟨t, rfl⟩, hg, fun _ _ _ _ => .int i⟩
theorem gl_str {K : PySem.W.Frag} {mg : Str → Option Value} {h : Heap} {x : Str} {i : Str} {t : Tok} {G' : List D} {g : Nat} (X : K.In h) (G : h.Ns mainGlobals mg) (hg : G'[g]? = some (.str i)) (a : PySem.W.nsIn K mainGlobals x = some (some (.str i t))) :
    ∃ v u d, mg x = some u ∧ RelV v u ∧ G'[g]? = some d ∧ ∀ H Z ρ n, R H Z ρ n v d := ⟨.str i, _, .str i, PySem.W.mg_of X G a, ⟨t, rfl⟩, hg, fun _ _ _ _ => .str i⟩
/-- a def stands behind the top -/
def HasDef (K : PySem.W.Frag) (x : Str) (st : Stmt) (nd : Nat) (d : Int) : Prop := ∃ (f : Addr) (oc : Value) (od : Option Addr) (osl : Array (Option Value)) (dV kV doc pm : Value) (an : Option Addr) (cdv ct : Value),
  PySem.W.nsIn K mainGlobals x = some (some (.ref f)) ∧ K.lookup f = some ⟨oc, od, .func (PySem.W.fnOf x x (defArgs st) (defBody st) (defScope st) dV kV doc pm an cdv ct), osl⟩ ∧ PySem.W.codeIn K cdv x = true ∧ PySem.W.keepIn K (.ref f) = true ∧
  ((nd = 0 ∧ dV = .none) ∨ (nd = 1 ∧ ∃ (T : Addr) (tk : Tok) (oc2 : Value) (od2 : Option Addr) (n : Nat) (sl2 : Array (Option Value)), dV = .ref T ∧ K.lookup T = some ⟨oc2, od2, .seq #[.int d tk] n, sl2⟩))
section
variable {K : PySem.W.Frag} {mg : Str → Option Value} {h : Heap} {x : Str} {st : Stmt} {N ps : List Str} {fn : Fn} {f : Addr} {oc : Value} {od an : Option Addr} {osl : Array (Option Value)} {kV doc pm cdv ct : Value} {d : Int}
omit [KK] in
theorem HasDef.mk0 (a : PySem.W.nsIn K mainGlobals x = some (some (.ref f))) (l : K.lookup f = some ⟨oc, od, .func (PySem.W.fnOf x x (defArgs st) (defBody st) (defScope st) .none kV doc pm an cdv ct), osl⟩)
    (c : PySem.W.codeIn K cdv x = true) (k : PySem.W.keepIn K (.ref f) = true) : HasDef K x st 0 d := ⟨f, oc, od, osl, .none, kV, doc, pm, an, cdv, ct, a, l, c, k, .inl ⟨rfl, rfl⟩⟩
omit [KK] in
theorem HasDef.mk1 {T : Addr} {tk : Tok} {oc2 : Value} {od2 : Option Addr} {n : Nat} {sl2 : Array (Option Value)} (a : PySem.W.nsIn K mainGlobals x = some (some (.ref f))) (l : K.lookup f = some ⟨oc, od, .func (PySem.W.fnOf x x (defArgs st) (defBody st) (defScope st) (.ref T) kV doc pm an cdv ct), osl⟩)
    (c : PySem.W.codeIn K cdv x = true) (k : PySem.W.keepIn K (.ref f) = true) (lT : K.lookup T = some ⟨oc2, od2, .seq #[.int d tk] n, sl2⟩) : HasDef K x st 1 d := ⟨f, oc, od, osl, .ref T, kV, doc, pm, an, cdv, ct, a, l, c, k, .inr ⟨rfl, T, tk, oc2, od2, n, sl2, rfl, lT⟩⟩
theorem HasDef.at0 (H : HasDef K x st 0 d) (X : K.In h) (G : h.Ns mainGlobals mg) (hd : fn.dfl = []) (hp : ps.length = fn.np)
    (hb : ∀ (kV doc pm : Value) (an : Option Addr) (cdv ct : Value) (us : List Value), us.length = ps.length → bindArgs (PySem.W.fnOf x x (defArgs st) (defBody st) (defScope st) .none kV doc pm an cdv ct) ⟨us, []⟩ = pure (ps.zip us)) : ∃ f fd, DefAt K mg ⟨x, st, N, ps⟩ fn f fd := by
  obtain ⟨f, oc, od, osl, dV, kV, doc, pm, an, cdv, ct, a, l, c, k, ⟨_, rfl⟩ | ⟨e, _⟩⟩ := H
  · exact def_ex X G hd hp hb a l c k
  · cases e
theorem HasDef.at1 (H : HasDef K x st 1 d) (X : K.In h) (G : h.Ns mainGlobals mg) (hd : fn.dfl = [.int d]) (hp : ps.length = fn.np)
    (hb : ∀ (T : Addr) (kV doc pm : Value) (an : Option Addr) (cdv ct : Value) (us its : List Value), us.length + 1 = ps.length → its.length = 1 →
      ∃ k, bindArgs (PySem.W.fnOf x x (defArgs st) (defBody st) (defScope st) (.ref T) kV doc pm an cdv ct) ⟨us, []⟩ = seqItems? (.ref T) >>= k ∧ k (some its.toArray) = pure (ps.zip (us ++ its.drop 0)))
    (hb2 : ∀ (T : Addr) (kV doc pm : Value) (an : Option Addr) (cdv ct : Value) (us its : List Value), us.length = ps.length → its.length = 1 →
      ∃ k, bindArgs (PySem.W.fnOf x x (defArgs st) (defBody st) (defScope st) (.ref T) kV doc pm an cdv ct) ⟨us, []⟩ = seqItems? (.ref T) >>= k ∧ k (some its.toArray) = pure (ps.zip (us ++ its.drop 1))) : ∃ f fd, DefAt K mg ⟨x, st, N, ps⟩ fn f fd := by
  obtain ⟨f, oc, od, osl, dV, kV, doc, pm, an, cdv, ct, a, l, c, k, ⟨e, _⟩ | ⟨_, T, tk, oc2, od2, n, sl2, rfl, lT⟩⟩ := H
  · cases e
  · exact def_ex1 X G hd hp hb hb2 a l c k lT
end
/-- a number, a text of the module's own -/
def HasVal (K : PySem.W.Frag) (x : Str) : D → Prop
  | .int i => ∃ t, PySem.W.nsIn K mainGlobals x = some (some (.int i t))
  | .str s => ∃ t, PySem.W.nsIn K mainGlobals x = some (some (.str s t))
  | _ => False
omit [KK] in
theorem HasVal.int {K : PySem.W.Frag} {x : Str} {i : Int} {t : Tok} (a : PySem.W.nsIn K mainGlobals x = some (some (.int i t))) : HasVal K x (.int i) := ⟨t, a⟩
omit [KK] in
theorem HasVal.str {K : PySem.W.Frag} {x : Str} {i : Str} {t : Tok} (a : PySem.W.nsIn K mainGlobals x = some (some (.str i t))) : HasVal K x (.str i) := ⟨t, a⟩
theorem HasVal.get {K : PySem.W.Frag} {mg : Str → Option Value} {h : Heap} {x : Str} {d : D} {G' : List D} {g : Nat} (X : K.In h) (G : h.Ns mainGlobals mg) (a : HasVal K x d) (hg : G'[g]? = some d) :
    ∃ v u d, mg x = some u ∧ RelV v u ∧ G'[g]? = some d ∧ ∀ H Z ρ n, R H Z ρ n v d := by
  cases d with
  | int i => obtain ⟨t, a⟩ := a; exact gl_int X G hg a
  | str i => obtain ⟨t, a⟩ := a; exact gl_str X G hg a
  | _ => exact a.elim
def HasTup (K : PySem.W.Frag) (x : Str) (xs : List Str) : Prop := ∃ (g : Addr) (o : Obj) (its : Array Value) (n : Nat), PySem.W.nsIn K mainGlobals x = some (some (.ref g)) ∧ K.lookup g = some o ∧ o.cls = .type "tuple" ∧ o.data = .seq its n ∧ its.size ≤ sizeLine ∧ Vals (xs.map V.str) its.toList
omit [KK] in
theorem HasTup.mk {K : PySem.W.Frag} {x : Str} {xs : List Str} {g : Addr} {od : Option Addr} {its : Array Value} {n : Nat} {sl : Array (Option Value)} (a : PySem.W.nsIn K mainGlobals x = some (some (.ref g))) (l : K.lookup g = some ⟨.type "tuple", od, .seq its n, sl⟩)
    (z : its.size ≤ sizeLine) (v : Vals (xs.map V.str) its.toList) : HasTup K x xs := ⟨g, _, its, n, a, l, rfl, rfl, z, v⟩
theorem HasTup.get {K : PySem.W.Frag} {mg : Str → Option Value} {h : Heap} {x : Str} {xs : List Str} (X : K.In h) (G : h.Ns mainGlobals mg) (t : HasTup K x xs) : ∃ g vs, mg x = some (.ref g) ∧ (∀ H, SqT K H g vs) ∧ ∀ H, DpAll K H vs (pyL (xs.map D.str)) := by
  obtain ⟨g, o, its, n, a, l, hc, hd, hz, hv⟩ := t
  exact gt_at X G a l hc hd hz hv
/-- facts of a table, row by row -/
def AllT {α : Type} (Q : Str → α → Prop) : List (Str × α) → Prop
  | [] => True
  | p :: r => Q p.1 p.2 ∧ AllT Q r
theorem AllT.get {α : Type} {Q : Str → α → Prop} : ∀ {l : List (Str × α)} {x : Str} {a : α}, AllT Q l → l.lookup x = some a → Q x a
  | [], _, _, _, h => by simp at h
  | (y, b) :: l, x, a, hq, h => by
    rw [List.lookup_cons] at h
    cases q : x == y
    · rw [q] at h; exact hq.2.get h
    · rw [q] at h; cases h
      have := eq_of_beq q
      subst this
      exact hq.1
def AllB (Q : Str → Prop) : List Str → Prop
  | [] => True
  | x :: r => Q x ∧ AllB Q r
theorem AllB.get {Q : Str → Prop} : ∀ {l : List Str} {x : Str}, AllB Q l → x ∈ l → Q x
  | [], _, _, h => by cases h
  | y :: l, x, hq, h => by
    rcases List.mem_cons.mp h with rfl | h
    · exact hq.1
    · exact hq.2.get h

omit [KK] in
/-- THE END -/
theorem walk_ev {l : PySem.W.OpenLaw} {q : Program} {loose : List Str} {XP : (Str → Option Value) → Heap → Prop} {YP : World → Heap → Prop} {d : DefRec} {K : Params → PySem.W.Frag} {TB : Tab} {G : List D} {fns : List Fn} {defs : List DefE} {n fi : Nat} {fn : Fn} {de : DefE} {x : Str}
    (hn : l.most = some 63) (hdf : d.params.defaults = []) (hr : Room n callerA) (hY : ∀ (w : World) (h : Heap), YP w h → (K w.params).In h) (hP : Prg TB fns defs) (hf : fns[fi]? = some fn) (hd : defs[fi]? = some de) (hnp : fn.np = 1) (hdl : fn.dfl = []) (hps : de.ps = [x]) (hdn : d.name = de.x)
    (F : ∀ (w : World) (mg : Str → Option Value) (h : Heap), (K w.params).In h → h.Ns mainGlobals mg → @Wld ⟨K w.params⟩ (K w.params) mg TB G fns defs)
    (law : ∀ ns : List Int, ns.length ≤ 63 → ∃ h', callF G fns n fi [.scr ns] [] = .ok (.bl true) h') : PySem.W.WalkO q loose XP YP l.row.toRowW d [] (fun f vs => PySem.call f vs) :=
  L2.walk_of (n := 63) (k := n) (x := x) (CX := fun _ => CX0) (sp := fun w => spLaw (K w.params) 63) hn (by decide) hdf hr hY
    (fun w mg fa h hK hG hm => by
      letI : KK := ⟨K w.params⟩
      have hW := F w mg h hK hG
      obtain ⟨f, fd, hat⟩ := hW.at' fi fn de hf hd
      have e := hat.mgx
      rw [← hdn, hm] at e
      cases e
      refine ⟨fd, fun s u => ?_, fun base _ _ => ?_⟩
      · have := hat.bA hdl s [u] (by rw [hps]; rfl)
        rw [hps] at this
        exact this
      · rw [← hps]
        exact law_ok hP hW hf hd hat hnp law)
    (fun _ _ a ns hl _ hS => ⟨a, ns, rfl, hS, hl, rfl, fun _ => rfl⟩) fun _ _ _ _ _ z => z
end Ev

/-! the defs that law reaches, in the core language -/
namespace whatfailed_k52_whole_forms_spoilt
open PySem PySem.Spec PyProof.Rows L2 Ev
abbrev top (i : Nat) : Stmt := PySem.Challenge.pw_whatfailed_k52_whole_forms_spoilt.main.body.getD i (.Pass ⟨0, 0, 0, 0⟩)
def g_WORDS : List D := [.str "well", .str "port", .str "if", .str "and", .str "or", .str "not", .str "least", .str "most", .str "yes", .str "kinds", .str "device", .str "wires", .str "parts", .str "outer", .str "ports", .str "modes"]
def GG : List D := [.int 99, .int 9, .str "abcdefghijklmnopqrstuvwxyz"]
/-- law(script); slots 0:script 1:draw 2:device 3:wire 4:values 5:bads 6:bad 7:rows 8:modes 9:names 10:part 11:kind 12:links -/
def b_law : SL :=
  (.cons (.asg (.name 1) (.op .newL (.cons (.call 1 (.cons (.var 0) (.cons (.lit (.int 110)) .nil))) (.cons (.lit (.int 0)) .nil))))
  (.cons (.asg (.name 2) (.call 2 (.cons (.var 1) (.cons (.lit (.int 3)) .nil))))
  (.cons (.asg (.tup [(.name 3), (.name 4)]) (.op .ix (.cons (.op .ix (.cons (.var 2) (.cons (.lit (.int 1)) .nil))) (.cons (.call 3 (.cons (.var 1) (.cons (.op .len (.cons (.op .ix (.cons (.var 2) (.cons (.lit (.int 1)) .nil))) .nil)) .nil))) .nil))))
  (.cons (.ite (.or (.op .not (.cons (.call 4 (.cons (.var 1) (.cons (.op .slH (.cons (.op .mkTup (.cons (.lit (.str "p")) (.cons (.lit (.str "q")) (.cons (.lit (.str "r")) .nil)))) (.cons (.op .add (.cons (.lit (.int 1)) (.cons (.call 3 (.cons (.var 1) (.cons (.lit (.int 3)) .nil))) .nil))) .nil))) .nil))) .nil)) (.op .not (.cons (.call 5 (.cons (.var 1) (.cons (.var 2) .nil))) .nil)))
    (.cons (.ret (.lit (.bl false)))
    .nil)
    .nil)
  (.cons (.asg (.name 5) (.op .mkTup (.cons (.lit .non) (.cons (.lit (.int 3)) (.cons (.op .mkLst (.cons (.op .mkTup (.cons (.var 3) (.cons (.op .ix (.cons (.var 4) (.cons (.lit (.int 0)) .nil))) .nil))) .nil)) (.cons (.op .mkTup (.cons (.op .mkTup (.cons (.var 3) .nil)) .nil)) (.cons (.op .mkTup (.cons (.op .mkTup (.cons (.var 3) (.cons (.op .ix (.cons (.var 4) (.cons (.lit (.int 0)) .nil))) (.cons (.lit (.int 1)) .nil)))) .nil)) (.cons (.op .mkTup (.cons (.op .mkTup (.cons (.var 3) (.cons (.lit (.int 99)) .nil))) .nil)) (.cons (.op .mkTup (.cons (.op .mkTup (.cons (.var 3) (.cons (.lit .non) .nil))) .nil)) (.cons (.op .mkTup (.cons (.op .mkTup (.cons (.var 3) (.cons (.op .strOf (.cons (.op .ix (.cons (.var 4) (.cons (.lit (.int 0)) .nil))) .nil)) .nil))) .nil)) .nil))))))))))
  (.cons (.for (.name 6) .plain (.cons (.op .add (.cons (.var 5) (.cons (.op .mkTup (.cons (.op .mkTup (.cons (.op .mkTup (.cons (.lit (.str "zz")) (.cons (.lit (.int 0)) .nil))) .nil)) (.cons (.op .mkTup (.cons (.op .mkTup (.cons (.var 3) (.cons (.op .ix (.cons (.var 4) (.cons (.lit (.int 0)) .nil))) .nil))) (.cons (.op .mkTup (.cons (.var 3) (.cons (.op .ix (.cons (.var 4) (.cons (.lit (.int 0)) .nil))) .nil))) .nil))) (.cons (.op .mkTup (.cons (.op .mkTup (.cons (.lit (.int 3)) (.cons (.lit (.int 0)) .nil))) .nil)) .nil)))) .nil))) .nil)
    (.cons (.ite (.or (.op (.notB false) (.cons (.call 6 (.cons (.var 6) (.cons (.var 2) .nil))) .nil)) (.op (.notB false) (.cons (.call 7 (.cons (.op .mkTup (.cons (.var 6) .nil)) (.cons (.var 2) .nil))) .nil)))
      (.cons (.ret (.lit (.bl false)))
      .nil)
      .nil)
    .nil))
  (.cons (.ite (.or (.op (.notB true) (.cons (.call 6 (.cons (.op .mkTup .nil) (.cons (.var 2) .nil))) .nil)) (.or (.op (.notB true) (.cons (.call 7 (.cons (.op .mkTup .nil) (.cons (.var 2) .nil))) .nil)) (.or (.op (.notB true) (.cons (.call 7 (.cons (.op .mkTup (.cons (.op .mkTup .nil) (.cons (.op .mkTup (.cons (.op .mkTup (.cons (.var 3) (.cons (.op .ix (.cons (.var 4) (.cons (.lit (.int 0)) .nil))) .nil))) .nil)) .nil))) (.cons (.var 2) .nil))) .nil)) (.op (.notB false) (.cons (.call 7 (.cons (.op .mkLst (.cons (.op .mkTup .nil) .nil)) (.cons (.var 2) .nil))) .nil)))))
    (.cons (.ret (.lit (.bl false)))
    .nil)
    .nil)
  (.cons (.ite (.op (.notB false) (.cons (.call 6 (.cons (.op .mkTup (.cons (.op .mkTup (.cons (.var 3) (.cons (.op .eq (.cons (.op .ix (.cons (.var 4) (.cons (.lit (.int 0)) .nil))) (.cons (.lit (.int 0)) .nil))) .nil))) .nil)) (.cons (.var 2) .nil))) .nil))
    (.cons (.ret (.lit (.bl false)))
    .nil)
    .nil)
  (.cons (.asg (.name 7) (.call 8 (.cons (.var 2) .nil)))
  (.cons (.asg (.name 8) (.op .ix (.cons (.var 7) (.cons (.call 3 (.cons (.var 1) (.cons (.op .len (.cons (.var 7) .nil)) .nil))) .nil))))
  (.cons (.asg (.name 5) (.op .mkTup (.cons (.lit .non) (.cons (.op .listOf (.cons (.var 8) .nil)) (.cons (.op .slL (.cons (.var 8) (.cons (.lit (.int 1)) .nil))) (.cons (.op .add (.cons (.var 8) (.cons (.op .slH (.cons (.var 8) (.cons (.lit (.int 1)) .nil))) .nil))) (.cons (.op .add (.cons (.op .rev (.cons (.var 8) .nil)) (.cons (.op .slH (.cons (.var 8) (.cons (.lit (.int 1)) .nil))) .nil))) (.cons (.op .add (.cons (.op .mkTup (.cons (.op .mkTup (.cons (.op .ix (.cons (.op .ix (.cons (.var 8) (.cons (.lit (.int 0)) .nil))) (.cons (.lit (.int 0)) .nil))) (.cons (.lit (.str "zz")) .nil))) .nil)) (.cons (.op .slL (.cons (.var 8) (.cons (.lit (.int 1)) .nil))) .nil))) .nil))))))))
  (.cons (.for (.name 6) .plain (.cons (.op .add (.cons (.var 5) (.cons (.op .mkTup (.cons (.op .add (.cons (.op .mkTup (.cons (.op .mkTup (.cons (.op .ix (.cons (.op .ix (.cons (.var 8) (.cons (.lit (.int 0)) .nil))) (.cons (.lit (.int 0)) .nil))) (.cons (.lit .non) .nil))) .nil)) (.cons (.op .slL (.cons (.var 8) (.cons (.lit (.int 1)) .nil))) .nil))) (.cons (.op .add (.cons (.op .mkTup (.cons (.op .rev (.cons (.op .ix (.cons (.var 8) (.cons (.lit (.int 0)) .nil))) .nil)) .nil)) (.cons (.op .slL (.cons (.var 8) (.cons (.lit (.int 1)) .nil))) .nil))) (.cons (.op .add (.cons (.op .mkTup (.cons (.op .mkTup (.cons (.op .ix (.cons (.op .ix (.cons (.var 8) (.cons (.lit (.int 0)) .nil))) (.cons (.lit (.int 0)) .nil))) .nil)) .nil)) (.cons (.op .slL (.cons (.var 8) (.cons (.lit (.int 1)) .nil))) .nil))) .nil)))) .nil))) .nil)
    (.cons (.ite (.op (.notB false) (.cons (.call 9 (.cons (.var 6) (.cons (.var 2) .nil))) .nil))
      (.cons (.ret (.lit (.bl false)))
      .nil)
      .nil)
    .nil))
  (.cons (.asg (.name 9) (.op .tupleOf (.cons (.comp [10, 11, 12] (.tup [(.name 10), (.name 11), (.name 12)]) .plain (.cons (.op .ix (.cons (.var 2) (.cons (.lit (.int 2)) .nil))) .nil) .nil (.var 10)) .nil)))
  (.cons (.for (.name 6) .plain (.cons (.op .mkTup (.cons (.lit .non) (.cons (.op .listOf (.cons (.var 9) .nil)) (.cons (.op .add (.cons (.op .slH (.cons (.var 9) (.cons (.lit (.int 1)) .nil))) (.cons (.op .slH (.cons (.var 9) (.cons (.lit (.int 1)) .nil))) .nil))) (.cons (.op .mkTup (.cons (.lit (.str "zz")) .nil)) (.cons (.op .mkTup (.cons (.lit (.int 3)) .nil)) (.cons (.lit (.str "u")) (.cons (.op .add (.cons (.var 9) (.cons (.op .mkTup (.cons (.lit (.str "zz")) .nil)) .nil))) .nil)))))))) .nil)
    (.cons (.ite (.op (.notB false) (.cons (.call 10 (.cons (.var 6) (.cons (.var 2) .nil))) .nil))
      (.cons (.ret (.lit (.bl false)))
      .nil)
      .nil)
    .nil))
  (.cons (.ret (.and (.op (.isB true) (.cons (.call 10 (.cons (.op .mkTup .nil) (.cons (.var 2) .nil))) .nil)) (.and (.op (.isB true) (.cons (.call 10 (.cons (.var 9) (.cons (.var 2) .nil))) .nil)) (.op (.isB true) (.cons (.call 9 (.cons (.var 8) (.cons (.var 2) .nil))) .nil)))))
  .nil)))))))))))))))
def f_law : Fn := ⟨1, 13, [], b_law⟩
def e_law : DefE := ⟨"law", top 52, ["script", "draw", "device", "wire", "values", "bads", "bad", "rows", "modes", "names", "part", "kind", "links"], ["script"]⟩
/-- _law_row(script, many); slots 0:script 1:many 2:big 3:row 4:k -/
def b__law_row : SL :=
  (.cons (.asg (.name 2) (.lit (.int 0)))
  (.cons (.ite (.and (.op .gt (.cons (.op .len (.cons (.var 0) .nil)) (.cons (.lit (.int 0)) .nil))) (.op .ge (.cons (.op .ix (.cons (.var 0) (.cons (.lit (.int 0)) .nil))) (.cons (.op .pow (.cons (.lit (.int 10)) (.cons (.lit (.int 18)) .nil))) .nil))))
    (.cons (.asg (.name 2) (.op .ix (.cons (.var 0) (.cons (.lit (.int 0)) .nil))))
    .nil)
    .nil)
  (.cons (.asg (.name 3) (.op .newL .nil))
  (.cons (.for (.name 4) .range (.cons (.var 1) .nil)
    (.cons (.ite (.op .gt (.cons (.var 2) (.cons (.lit (.int 0)) .nil)))
      (.cons (.expr (.mth .append (.var 3) (.cons (.op .mod (.cons (.op .intOf (.cons (.var 2) .nil)) (.cons (.lit (.int 1000)) .nil))) .nil)))
      (.cons (.asg (.name 2) (.op .fdiv (.cons (.var 2) (.cons (.lit (.int 1000)) .nil))))
      .nil))
      (.cons (.expr (.mth .append (.var 3) (.cons (.call 11 (.cons (.var 0) (.cons (.var 4) .nil))) .nil)))
      .nil))
    .nil))
  (.cons (.ret (.var 3))
  .nil)))))
def f__law_row : Fn := ⟨2, 5, [], b__law_row⟩
def e__law_row : DefE := ⟨"_law_row", top 24, ["script", "many", "big", "row", "k"], ["script", "many"]⟩
/-- _law_device(draw, most); slots 0:draw 1:most 2:values 3:wires 4:library 5:parts 6:k 7:ports 8:kind 9:links 10:outer 11:wire 12:port 13:own -/
def b__law_device : SL :=
  (.cons (.asg (.tup [(.name 2), (.name 3), (.name 4), (.name 5)]) (.op .mkTup (.cons (.op .ix (.cons (.op .mkTup (.cons (.op .mkTup (.cons (.lit (.int 0)) (.cons (.lit (.int 1)) .nil))) (.cons (.op .mkTup (.cons (.lit (.int 0)) (.cons (.lit (.int 1)) .nil))) (.cons (.op .mkTup (.cons (.lit (.int 0)) (.cons (.lit (.int 1)) (.cons (.lit (.int 2)) .nil)))) .nil)))) (.cons (.call 3 (.cons (.var 0) (.cons (.lit (.int 3)) .nil))) .nil))) (.cons (.op .slH (.cons (.lit (.str "abcd")) (.cons (.op .add (.cons (.lit (.int 2)) (.cons (.call 3 (.cons (.var 0) (.cons (.lit (.int 3)) .nil))) .nil))) .nil))) (.cons (.op .newL .nil) (.cons (.op .newL .nil) .nil))))))
  (.cons (.for (.name 6) .range (.cons (.lit (.int 2)) .nil)
    (.cons (.asg (.name 7) (.op .slL (.cons (.op .mkLst (.cons (.op .mkTup (.cons (.lit (.str "p")) (.cons (.var 2) .nil))) (.cons (.op .mkTup (.cons (.lit (.str "q")) (.cons (.var 2) .nil))) (.cons (.op .mkTup (.cons (.lit (.str "r")) (.cons (.var 2) .nil))) .nil)))) (.cons (.op .sub (.cons (.op .sub (.cons (.lit (.int 2)) (.cons (.call 3 (.cons (.var 0) (.cons (.lit (.int 2)) .nil))) .nil))) (.cons (.var 6) .nil))) .nil))))
    (.cons (.expr (.mth .append (.var 4) (.cons (.op .mkTup (.cons (.op .ix (.cons (.lit (.str "kl")) (.cons (.var 6) .nil))) (.cons (.call 12 (.cons (.var 0) (.cons (.var 7) .nil))) .nil))) .nil)))
    .nil)))
  (.cons (.for (.name 6) .range (.cons (.op .add (.cons (.lit (.int 1)) (.cons (.call 3 (.cons (.var 0) (.cons (.var 1) .nil))) .nil))) .nil)
    (.cons (.asg (.name 8) (.call 3 (.cons (.var 0) (.cons (.lit (.int 2)) .nil))))
    (.cons (.asg (.name 9) (.op .tupleOf (.cons (.comp [12, 13] (.tup [(.name 12), (.name 13)]) .plain (.cons (.op .ix (.cons (.op .ix (.cons (.op .ix (.cons (.var 4) (.cons (.var 8) .nil))) (.cons (.lit (.int 1)) .nil))) (.cons (.lit (.int 0)) .nil))) .nil) .nil (.op .mkTup (.cons (.var 12) (.cons (.op .ix (.cons (.var 3) (.cons (.call 3 (.cons (.var 0) (.cons (.op .len (.cons (.var 3) .nil)) .nil))) .nil))) .nil)))) .nil)))
    (.cons (.expr (.mth .append (.var 5) (.cons (.op .mkTup (.cons (.op .ix (.cons (.lit (.str "uvwxy")) (.cons (.var 6) .nil))) (.cons (.op .ix (.cons (.lit (.str "kl")) (.cons (.var 8) .nil))) (.cons (.var 9) .nil)))) .nil)))
    .nil))))
  (.cons (.asg (.name 10) (.op .tupleOf (.cons (.comp [11] (.name 11) .plain (.cons (.var 3) .nil) (.cons (.op .gt (.cons (.call 3 (.cons (.var 0) (.cons (.lit (.int 3)) .nil))) (.cons (.lit (.int 0)) .nil))) .nil) (.var 11)) .nil)))
  (.cons (.ret (.op .mkTup (.cons (.op .tupleOf (.cons (.var 4) .nil)) (.cons (.op .tupleOf (.cons (.comp [11] (.name 11) .plain (.cons (.var 3) .nil) .nil (.op .mkTup (.cons (.var 11) (.cons (.var 2) .nil)))) .nil)) (.cons (.op .tupleOf (.cons (.var 5) .nil)) (.cons (.var 10) .nil))))))
  .nil)))))
def f__law_device : Fn := ⟨2, 14, [], b__law_device⟩
def e__law_device : DefE := ⟨"_law_device", top 31, ["draw", "most", "values", "wires", "library", "parts", "k", "ports", "kind", "links", "outer", "wire", "port", "own"], ["draw", "most"]⟩
/-- _law_pick(draw, n); slots 0:draw 1:n 2:row 3:at -/
def b__law_pick : SL :=
  (.cons (.asg (.tup [(.name 2), (.name 3)]) (.op .mkTup (.cons (.op .ix (.cons (.var 0) (.cons (.lit (.int 0)) .nil))) (.cons (.op .ix (.cons (.var 0) (.cons (.lit (.int 1)) .nil))) .nil))))
  (.cons (.asg (.sub (.var 0) (.lit (.int 1))) (.op .add (.cons (.var 3) (.cons (.lit (.int 1)) .nil))))
  (.cons (.ret (.op .mod (.cons (.op .fdiv (.cons (.op .intOf (.cons (.op .ix (.cons (.var 2) (.cons (.op .mod (.cons (.op .intOf (.cons (.var 3) .nil)) (.cons (.op .len (.cons (.var 2) .nil)) .nil))) .nil))) .nil)) (.cons (.op .add (.cons (.lit (.int 1)) (.cons (.op .fdiv (.cons (.var 3) (.cons (.op .len (.cons (.var 2) .nil)) .nil))) .nil))) .nil))) (.cons (.var 1) .nil))))
  .nil)))
def f__law_pick : Fn := ⟨2, 4, [], b__law_pick⟩
def e__law_pick : DefE := ⟨"_law_pick", top 27, ["draw", "n", "row", "at"], ["draw", "n"]⟩
/-- _law_forms_told(draw, ports); slots 0:draw 1:ports 2:kind 3:value 4:own -/
def b__law_forms_told : SL :=
  (.cons (.for (.name 2) .plain (.cons (.op .mkTup (.cons (.lit (.str "amount")) (.cons (.lit (.str "cond")) .nil))) .nil)
    (.cons (.asg (.name 3) (.call 13 (.cons (.var 0) (.cons (.var 1) (.cons (.op .add (.cons (.lit (.int 1)) (.cons (.call 3 (.cons (.var 0) (.cons (.lit (.int 9)) .nil))) .nil))) (.cons (.var 2) .nil))))))
    (.cons (.for (.name 4) .plain (.cons (.op .mkTup (.cons (.var 3) (.cons (.call 14 (.cons (.var 0) (.cons (.var 3) .nil))) (.cons (.call 14 (.cons (.var 0) (.cons (.var 3) .nil))) (.cons (.op .mkTup (.cons (.lit (.str "not")) (.cons (.var 3) .nil))) (.cons (.op .mkTup (.cons (.lit (.str "+")) (.cons (.var 3) (.cons (.lit (.int 1)) .nil)))) (.cons (.op .mkTup (.cons (.lit (.str "if")) (.cons (.var 3) (.cons (.lit (.int 1)) (.cons (.lit (.int 2)) .nil))))) .nil))))))) .nil)
      (.cons (.ite (.or (.op .not (.cons (.call 15 (.cons (.call 16 (.cons (.var 4) (.cons (.var 1) .nil))) (.cons (.call 17 (.cons (.var 4) (.cons (.var 1) (.cons (.lit (.int 8)) (.cons (.lit (.str "amount")) .nil))))) .nil))) .nil)) (.op .not (.cons (.call 15 (.cons (.call 18 (.cons (.var 4) (.cons (.var 1) .nil))) (.cons (.call 17 (.cons (.var 4) (.cons (.var 1) (.cons (.lit (.int 8)) (.cons (.lit (.str "cond")) .nil))))) .nil))) .nil)))
        (.cons (.ret (.lit (.bl false)))
        .nil)
        .nil)
      .nil))
    .nil)))
  (.cons (.ret (.lit (.bl true)))
  .nil))
def f__law_forms_told : Fn := ⟨2, 5, [], b__law_forms_told⟩
def e__law_forms_told : DefE := ⟨"_law_forms_told", top 49, ["draw", "ports", "kind", "value", "own"], ["draw", "ports"]⟩
/-- _law_kinds_told(draw, device); slots 0:draw 1:device 2:name 3:kind 4:ports 5:other 6:new 7:value 8:bads 9:own 10:port 11:values 12:bad -/
def b__law_kinds_told : SL :=
  (.cons (.asg (.tup [(.name 2), (.name 3)]) (.op .ix (.cons (.op .ix (.cons (.var 1) (.cons (.lit (.int 0)) .nil))) (.cons (.call 3 (.cons (.var 0) (.cons (.op .len (.cons (.op .ix (.cons (.var 1) (.cons (.lit (.int 0)) .nil))) .nil)) .nil))) .nil))))
  (.cons (.asg (.name 4) (.comp [10, 11] (.tup [(.name 10), (.name 11)]) .plain (.cons (.op .ix (.cons (.var 3) (.cons (.lit (.int 0)) .nil))) .nil) .nil (.var 10)))
  (.cons (.asg (.name 5) (.call 13 (.cons (.var 0) (.cons (.var 4) (.cons (.op .add (.cons (.lit (.int 1)) (.cons (.call 3 (.cons (.var 0) (.cons (.lit (.int 9)) .nil))) .nil))) (.cons (.lit (.str "cond")) .nil))))))
  (.cons (.asg (.name 6) (.op .mkTup (.cons (.op .ix (.cons (.var 3) (.cons (.lit (.int 0)) .nil))) (.cons (.var 5) (.cons (.op .ix (.cons (.var 3) (.cons (.lit (.int 2)) .nil))) .nil)))))
  (.cons (.ite (.or (.op .not (.cons (.call 15 (.cons (.call 19 (.cons (.var 6) .nil)) (.cons (.call 20 (.cons (.var 6) .nil)) .nil))) .nil)) (.or (.op (.notB true) (.cons (.call 19 (.cons (.var 3) .nil)) .nil)) (.op (.notB true) (.cons (.call 21 (.cons (.op .ix (.cons (.var 1) (.cons (.lit (.int 0)) .nil))) .nil)) .nil))))
    (.cons (.ret (.lit (.bl false)))
    .nil)
    .nil)
  (.cons (.asg (.name 7) (.op .ix (.cons (.var 4) (.cons (.lit (.int 0)) .nil))))
  (.cons (.asg (.name 8) (.op .newL (.cons (.lit .non) (.cons (.lit (.int 3)) (.cons (.op .listOf (.cons (.var 3) .nil)) (.cons (.op .slH (.cons (.var 3) (.cons (.lit (.int 2)) .nil))) (.cons (.op .add (.cons (.var 3) (.cons (.op .mkTup (.cons (.lit (.int 1)) .nil)) .nil))) (.cons (.op .mkTup (.cons (.op .add (.cons (.op .rev (.cons (.op .ix (.cons (.var 3) (.cons (.lit (.int 0)) .nil))) .nil)) (.cons (.op .ix (.cons (.var 3) (.cons (.lit (.int 0)) .nil))) .nil))) (.cons (.op .ix (.cons (.var 3) (.cons (.lit (.int 1)) .nil))) (.cons (.op .ix (.cons (.var 3) (.cons (.lit (.int 2)) .nil))) .nil)))) (.cons (.op .mkTup (.cons (.op .ix (.cons (.var 3) (.cons (.lit (.int 0)) .nil))) (.cons (.op .mkTup (.cons (.lit (.str "no")) .nil)) (.cons (.op .ix (.cons (.var 3) (.cons (.lit (.int 2)) .nil))) .nil)))) (.cons (.op .mkTup (.cons (.op .listOf (.cons (.op .ix (.cons (.var 3) (.cons (.lit (.int 0)) .nil))) .nil)) (.cons (.op .ix (.cons (.var 3) (.cons (.lit (.int 1)) .nil))) (.cons (.op .ix (.cons (.var 3) (.cons (.lit (.int 2)) .nil))) .nil)))) .nil))))))))))
  (.cons (.for (.name 9) .plain (.cons (.op .mkTup (.cons (.op .mkTup .nil) (.cons (.op .mkTup (.cons (.lit (.int 1)) (.cons (.lit (.int 1)) .nil))) (.cons (.op .mkTup (.cons (.lit (.int 2)) (.cons (.lit (.int 1)) .nil))) (.cons (.op .mkTup (.cons (.lit (.int 0)) (.cons (.lit (.int 100)) .nil))) (.cons (.op .mkLst (.cons (.lit (.int 0)) (.cons (.lit (.int 1)) .nil))) (.cons (.op .mkTup (.cons (.lit (.int 0)) (.cons (.lit (.bl true)) .nil))) (.cons (.lit .non) .nil)))))))) .nil)
    (.cons (.expr (.mth .append (.var 8) (.cons (.op .mkTup (.cons (.op .mkTup (.cons (.op .mkTup (.cons (.var 7) (.cons (.var 9) .nil))) .nil)) (.cons (.op .mkTup (.cons (.lit (.str "yes")) .nil)) (.cons (.op .mkTup .nil) .nil)))) .nil)))
    .nil))
  (.cons (.for (.name 9) .plain (.cons (.op .mkTup (.cons (.lit (.str "port")) (.cons (.lit (.str "abcdefghi")) (.cons (.lit (.str "p2")) (.cons (.lit (.str "")) (.cons (.lit (.int 3)) (.cons (.lit .non) .nil))))))) .nil)
    (.cons (.expr (.mth .append (.var 8) (.cons (.op .mkTup (.cons (.op .mkTup (.cons (.op .mkTup (.cons (.var 9) (.cons (.op .mkTup (.cons (.lit (.int 0)) .nil)) .nil))) .nil)) (.cons (.op .mkTup (.cons (.lit (.str "yes")) .nil)) (.cons (.op .mkTup .nil) .nil)))) .nil)))
    .nil))
  (.cons (.for (.name 9) .plain (.cons (.op .mkTup (.cons (.op .mkTup (.cons (.lit (.str "bad")) (.cons (.lit (.int 0)) .nil))) (.cons (.op .mkTup (.cons (.lit (.str "bad")) (.cons (.lit (.int 10)) .nil))) (.cons (.op .mkTup (.cons (.lit (.str "bad")) (.cons (.lit (.bl true)) .nil))) (.cons (.op .mkTup (.cons (.lit (.str "bad")) (.cons (.lit .non) .nil))) (.cons (.op .mkTup (.cons (.lit (.str "well")) (.cons (.lit (.int 1)) .nil))) (.cons (.op .mkTup (.cons (.lit (.str "if")) (.cons (.lit (.int 1)) .nil))) .nil))))))) .nil)
    (.cons (.expr (.mth .append (.var 8) (.cons (.op .mkTup (.cons (.op .ix (.cons (.var 3) (.cons (.lit (.int 0)) .nil))) (.cons (.op .ix (.cons (.var 3) (.cons (.lit (.int 1)) .nil))) (.cons (.op .mkTup (.cons (.op .mkTup (.cons (.op .ix (.cons (.var 9) (.cons (.lit (.int 0)) .nil))) (.cons (.op .ix (.cons (.var 9) (.cons (.lit (.int 1)) .nil))) (.cons (.op .mkTup (.cons (.lit (.str "yes")) .nil)) .nil)))) .nil)) .nil)))) .nil)))
    .nil))
  (.cons (.expr (.mth .append (.var 8) (.cons (.op .mkTup (.cons (.op .ix (.cons (.var 3) (.cons (.lit (.int 0)) .nil))) (.cons (.op .ix (.cons (.var 3) (.cons (.lit (.int 1)) .nil))) (.cons (.op .mkTup (.cons (.op .mkTup (.cons (.lit (.str "odd")) (.cons (.lit (.int 1)) (.cons (.op .mkTup (.cons (.lit (.str "yes")) .nil)) .nil)))) (.cons (.op .mkTup (.cons (.lit (.str "bad")) (.cons (.lit (.int 1)) (.cons (.op .mkTup (.cons (.lit (.str "yes")) .nil)) .nil)))) .nil))) .nil)))) .nil)))
  (.cons (.ite (.or (.op .any (.cons (.comp [12] (.name 12) .plain (.cons (.var 8) .nil) .nil (.op (.notB false) (.cons (.call 19 (.cons (.var 12) .nil)) .nil))) .nil)) (.op .any (.cons (.comp [12] (.name 12) .plain (.cons (.op .mkTup (.cons (.lit .non) (.cons (.op .listOf (.cons (.op .ix (.cons (.var 1) (.cons (.lit (.int 0)) .nil))) .nil)) (.cons (.op .add (.cons (.op .ix (.cons (.var 1) (.cons (.lit (.int 0)) .nil))) (.cons (.op .ix (.cons (.var 1) (.cons (.lit (.int 0)) .nil))) .nil))) (.cons (.op .mkTup (.cons (.op .mkTup (.cons (.lit (.str "k")) (.cons (.lit .non) .nil))) .nil)) (.cons (.op .mkTup (.cons (.op .mkTup (.cons (.lit (.int 3)) (.cons (.var 3) .nil))) .nil)) (.cons (.op .mkTup (.cons (.op .mkTup (.cons (.lit (.str "if")) (.cons (.var 3) .nil))) .nil)) .nil))))))) .nil) .nil (.op (.notB false) (.cons (.call 21 (.cons (.var 12) .nil)) .nil))) .nil)))
    (.cons (.ret (.lit (.bl false)))
    .nil)
    .nil)
  (.cons (.asg (.name 8) (.op .newL (.cons (.op .add (.cons (.op .mkTup (.cons (.lit .non) .nil)) (.cons (.op .slL (.cons (.var 1) (.cons (.lit (.int 1)) .nil))) .nil))) (.cons (.op .add (.cons (.op .mkTup (.cons (.op .mkTup (.cons (.op .mkTup (.cons (.lit (.str "k")) (.cons (.lit .non) .nil))) .nil)) .nil)) (.cons (.op .slL (.cons (.var 1) (.cons (.lit (.int 1)) .nil))) .nil))) (.cons (.op .add (.cons (.op .mkTup (.cons (.op .listOf (.cons (.op .ix (.cons (.var 1) (.cons (.lit (.int 0)) .nil))) .nil)) .nil)) (.cons (.op .slL (.cons (.var 1) (.cons (.lit (.int 1)) .nil))) .nil))) (.cons (.lit .non) (.cons (.op .slH (.cons (.var 1) (.cons (.lit (.int 3)) .nil))) (.cons (.op .add (.cons (.var 1) (.cons (.op .mkTup (.cons (.op .mkTup .nil) .nil)) .nil))) (.cons (.op .listOf (.cons (.var 1) .nil)) .nil)))))))))
  (.cons (.asg (.name 8) (.op .add (.cons (.var 8) (.cons (.op .mkLst (.cons (.op .add (.cons (.op .slH (.cons (.var 1) (.cons (.lit (.int 3)) .nil))) (.cons (.op .mkTup (.cons (.op .mkLst (.cons (.lit (.str "a")) .nil)) .nil)) .nil))) (.cons (.op .add (.cons (.op .slH (.cons (.var 1) (.cons (.lit (.int 3)) .nil))) (.cons (.op .mkTup (.cons (.op .mkTup (.cons (.lit (.str "b")) (.cons (.lit (.str "a")) .nil))) .nil)) .nil))) (.cons (.op .add (.cons (.op .slH (.cons (.var 1) (.cons (.lit (.int 3)) .nil))) (.cons (.op .mkTup (.cons (.op .mkTup (.cons (.lit (.str "a")) (.cons (.lit (.str "a")) .nil))) .nil)) .nil))) (.cons (.op .add (.cons (.op .slH (.cons (.var 1) (.cons (.lit (.int 3)) .nil))) (.cons (.op .mkTup (.cons (.op .mkTup (.cons (.lit (.int 3)) .nil)) .nil)) .nil))) .nil))))) .nil))))
  (.cons (.ret (.and (.op (.isB true) (.cons (.call 22 (.cons (.var 1) .nil)) .nil)) (.op .not (.cons (.op .any (.cons (.comp [12] (.name 12) .plain (.cons (.var 8) .nil) .nil (.op (.notB false) (.cons (.call 22 (.cons (.var 12) .nil)) .nil))) .nil)) .nil))))
  .nil)))))))))))))))
def f__law_kinds_told : Fn := ⟨2, 13, [], b__law_kinds_told⟩
def e__law_kinds_told : DefE := ⟨"_law_kinds_told", top 51, ["draw", "device", "name", "kind", "ports", "other", "new", "value", "bads", "own", "port", "values", "bad"], ["draw", "device"]⟩
/-- is_seeing(value, device); slots 0:value 1:device 2:values 3:wire 4:own -/
def b_is_seeing : SL :=
  (.cons (.ite (.op .not (.cons (.call 23 (.cons (.var 0) (.cons (.lit (.int 2)) .nil))) .nil))
    (.cons (.ret (.lit (.bl false)))
    .nil)
    .nil)
  (.cons (.asg (.name 2) (.op .dictOf (.cons (.op .ix (.cons (.var 1) (.cons (.lit (.int 1)) .nil))) .nil)))
  (.cons (.ret (.op .all (.cons (.comp [3, 4] (.tup [(.name 3), (.name 4)]) .plain (.cons (.var 0) .nil) .nil (.and (.op .inn (.cons (.var 3) (.cons (.var 2) .nil))) (.and (.call 24 (.cons (.var 4) .nil)) (.op .inn (.cons (.var 4) (.cons (.op .ix (.cons (.var 2) (.cons (.var 3) .nil))) .nil)))))) .nil)))
  .nil)))
def f_is_seeing : Fn := ⟨2, 5, [], b_is_seeing⟩
def e_is_seeing : DefE := ⟨"is_seeing", top 18, ["value", "device", "values", "wire", "own"], ["value", "device"]⟩
/-- is_seeings(value, device); slots 0:value 1:device 2:own -/
def b_is_seeings : SL :=
  (.cons (.ret (.and (.op (.isi .tuple) (.cons (.var 0) .nil)) (.op .all (.cons (.comp [2] (.name 2) .plain (.cons (.var 0) .nil) .nil (.call 6 (.cons (.var 2) (.cons (.var 1) .nil)))) .nil))))
  .nil)
def f_is_seeings : Fn := ⟨2, 3, [], b_is_seeings⟩
def e_is_seeings : DefE := ⟨"is_seeings", top 19, ["value", "device", "own"], ["value", "device"]⟩
/-- _law_all_modes(device); slots 0:device 1:rows 2:name 3:kind 4:links 5:grown 6:row 7:mode -/
def b__law_all_modes : SL :=
  (.cons (.asg (.name 1) (.op .newL (.cons (.op .mkTup .nil) .nil)))
  (.cons (.for (.tup [(.name 2), (.name 3), (.name 4)]) .plain (.cons (.op .ix (.cons (.var 0) (.cons (.lit (.int 2)) .nil))) .nil)
    (.cons (.asg (.name 5) (.op .newL .nil))
    (.cons (.for (.name 6) .plain (.cons (.var 1) .nil)
      (.cons (.expr (.mth .extend (.var 5) (.cons (.comp [7] (.name 7) .plain (.cons (.call 25 (.cons (.var 0) (.cons (.var 2) .nil))) .nil) .nil (.op .add (.cons (.var 6) (.cons (.op .mkTup (.cons (.op .mkTup (.cons (.var 2) (.cons (.var 7) .nil))) .nil)) .nil)))) .nil)))
      .nil))
    (.cons (.asg (.name 1) (.var 5))
    .nil))))
  (.cons (.ret (.var 1))
  .nil)))
def f__law_all_modes : Fn := ⟨1, 8, [], b__law_all_modes⟩
def e__law_all_modes : DefE := ⟨"_law_all_modes", top 37, ["device", "rows", "name", "kind", "links", "grown", "row", "mode"], ["device"]⟩
/-- is_modes(value, device); slots 0:value 1:device 2:told 3:part -/
def b_is_modes : SL :=
  (.cons (.ite (.or (.op .not (.cons (.op (.isi .tuple) (.cons (.var 0) .nil)) .nil)) (.op .ne (.cons (.op .len (.cons (.var 0) .nil)) (.cons (.op .len (.cons (.op .ix (.cons (.var 1) (.cons (.lit (.int 2)) .nil))) .nil)) .nil))))
    (.cons (.ret (.lit (.bl false)))
    .nil)
    .nil)
  (.cons (.for (.tup [(.name 2), (.name 3)]) .zip (.cons (.var 0) (.cons (.call 26 (.cons (.var 1) .nil)) .nil))
    (.cons (.ite (.or (.op .not (.cons (.op (.isi .tuple) (.cons (.var 2) .nil)) .nil)) (.or (.op .ne (.cons (.op .len (.cons (.var 2) .nil)) (.cons (.lit (.int 2)) .nil))) (.or (.op .ne (.cons (.op .ix (.cons (.var 2) (.cons (.lit (.int 0)) .nil))) (.cons (.var 3) .nil))) (.op .not (.cons (.op (.isi .str) (.cons (.op .ix (.cons (.var 2) (.cons (.lit (.int 1)) .nil))) .nil)) .nil)))))
      (.cons (.ret (.lit (.bl false)))
      .nil)
      .nil)
    (.cons (.ite (.op .notIn (.cons (.op .ix (.cons (.var 2) (.cons (.lit (.int 1)) .nil))) (.cons (.call 27 (.cons (.var 1) (.cons (.var 3) .nil))) .nil)))
      (.cons (.ret (.lit (.bl false)))
      .nil)
      .nil)
    .nil)))
  (.cons (.ret (.lit (.bl true)))
  .nil)))
def f_is_modes : Fn := ⟨2, 4, [], b_is_modes⟩
def e_is_modes : DefE := ⟨"is_modes", top 20, ["value", "device", "told", "part"], ["value", "device"]⟩
/-- is_parts(value, device); slots 0:value 1:device 2:own -/
def b_is_parts : SL :=
  (.cons (.ite (.or (.op .not (.cons (.op (.isi .tuple) (.cons (.var 0) .nil)) .nil)) (.op .not (.cons (.op .all (.cons (.comp [2] (.name 2) .plain (.cons (.var 0) .nil) .nil (.op (.isi .str) (.cons (.var 2) .nil))) .nil)) .nil)))
    (.cons (.ret (.lit (.bl false)))
    .nil)
    .nil)
  (.cons (.ret (.and (.call 28 (.cons (.var 0) .nil)) (.op .all (.cons (.comp [2] (.name 2) .plain (.cons (.var 0) .nil) .nil (.op .inn (.cons (.var 2) (.cons (.call 26 (.cons (.var 1) .nil)) .nil)))) .nil))))
  .nil))
def f_is_parts : Fn := ⟨2, 3, [], b_is_parts⟩
def e_is_parts : DefE := ⟨"is_parts", top 21, ["value", "device", "own"], ["value", "device"]⟩
/-- _law_mixed(script, k); slots 0:script 1:k 2:cell 3:first 4:second 5:third -/
def b__law_mixed : SL :=
  (.cons (.asg (.name 2) (.lit (.int 0)))
  (.cons (.ite (.op .gt (.cons (.op .len (.cons (.var 0) .nil)) (.cons (.lit (.int 0)) .nil)))
    (.cons (.asg (.name 2) (.op .ix (.cons (.var 0) (.cons (.op .mod (.cons (.var 1) (.cons (.op .len (.cons (.var 0) .nil)) .nil))) .nil))))
    .nil)
    .nil)
  (.cons (.asg (.name 3) (.op .mod (.cons (.op .intOf (.cons (.op .add (.cons (.op .add (.cons (.op .mul (.cons (.var 2) (.cons (.lit (.int 48271)) .nil))) (.cons (.op .mul (.cons (.var 1) (.cons (.lit (.int 69621)) .nil))) .nil))) (.cons (.lit (.int 8191)) .nil))) .nil)) (.cons (.lit (.int 2147483647)) .nil))))
  (.cons (.asg (.name 4) (.op .mod (.cons (.op .intOf (.cons (.op .add (.cons (.op .add (.cons (.op .mul (.cons (.var 3) (.cons (.var 3) .nil))) (.cons (.op .fdiv (.cons (.var 3) (.cons (.lit (.int 7)) .nil))) .nil))) (.cons (.op .mul (.cons (.var 1) (.cons (.lit (.int 16807)) .nil))) .nil))) .nil)) (.cons (.lit (.int 2147483629)) .nil))))
  (.cons (.asg (.name 5) (.op .mod (.cons (.op .intOf (.cons (.op .add (.cons (.op .add (.cons (.op .mul (.cons (.var 4) (.cons (.var 4) .nil))) (.cons (.op .fdiv (.cons (.var 4) (.cons (.lit (.int 11)) .nil))) .nil))) (.cons (.lit (.int 40692)) .nil))) .nil)) (.cons (.lit (.int 2147483563)) .nil))))
  (.cons (.ret (.op .mod (.cons (.op .fdiv (.cons (.var 5) (.cons (.lit (.int 5)) .nil))) (.cons (.lit (.int 1000003)) .nil))))
  .nil))))))
def f__law_mixed : Fn := ⟨2, 6, [], b__law_mixed⟩
def e__law_mixed : DefE := ⟨"_law_mixed", top 23, ["script", "k", "cell", "first", "second", "third"], ["script", "k"]⟩
/-- _law_kind(draw, ports); slots 0:draw 1:ports 2:names 3:modes 4:mode 5:name 6:values -/
def b__law_kind : SL :=
  (.cons (.asg (.tup [(.name 2), (.name 3)]) (.op .mkTup (.cons (.comp [5, 6] (.tup [(.name 5), (.name 6)]) .plain (.cons (.var 1) .nil) .nil (.var 5)) (.cons (.op .newL .nil) .nil))))
  (.cons (.for (.name 4) .plain (.cons (.op .slH (.cons (.op .mkTup (.cons (.lit (.str "bad")) (.cons (.lit (.str "odd")) .nil))) (.cons (.call 3 (.cons (.var 0) (.cons (.lit (.int 3)) .nil))) .nil))) .nil)
    (.cons (.expr (.mth .append (.var 3) (.cons (.op .mkTup (.cons (.var 4) (.cons (.op .add (.cons (.lit (.int 1)) (.cons (.call 3 (.cons (.var 0) (.cons (.lit (.int 3)) .nil))) .nil))) (.cons (.op .ix (.cons (.op .mkTup (.cons (.call 29 (.cons (.var 0) (.cons (.var 2) .nil))) (.cons (.op .mkTup (.cons (.lit (.str "=")) (.cons (.op .mkTup (.cons (.lit (.str "port")) (.cons (.op .ix (.cons (.var 2) (.cons (.op .sub (.cons (.op .len (.cons (.var 2) .nil)) (.cons (.lit (.int 1)) .nil))) .nil))) .nil))) (.cons (.lit (.int 0)) .nil)))) (.cons (.op .mkTup (.cons (.lit (.str "yes")) .nil)) .nil)))) (.cons (.call 3 (.cons (.var 0) (.cons (.lit (.int 3)) .nil))) .nil))) .nil)))) .nil)))
    .nil))
  (.cons (.ret (.op .mkTup (.cons (.op .tupleOf (.cons (.var 1) .nil)) (.cons (.call 29 (.cons (.var 0) (.cons (.var 2) .nil))) (.cons (.op .tupleOf (.cons (.var 3) .nil)) .nil)))))
  .nil)))
def f__law_kind : Fn := ⟨2, 7, [], b__law_kind⟩
def e__law_kind : DefE := ⟨"_law_kind", top 30, ["draw", "ports", "names", "modes", "mode", "name", "values"], ["draw", "ports"]⟩
/-- _law_grown(draw, ports, deep, kind); slots 0:draw 1:ports 2:deep 3:kind 4:pick -/
def b__law_grown : SL :=
  (.cons (.asg (.name 4) (.call 3 (.cons (.var 0) (.cons (.lit (.int 6)) .nil))))
  (.cons (.ite (.op .eq (.cons (.var 3) (.cons (.lit (.str "amount")) .nil)))
    (.cons (.ite (.or (.op .lt (.cons (.var 2) (.cons (.lit (.int 2)) .nil))) (.op .eq (.cons (.var 4) (.cons (.lit (.int 0)) .nil))))
      (.cons (.ret (.op .ix (.cons (.op .mkTup (.cons (.op .mkTup (.cons (.lit (.str "port")) (.cons (.op .ix (.cons (.var 1) (.cons (.call 3 (.cons (.var 0) (.cons (.op .len (.cons (.var 1) .nil)) .nil))) .nil))) .nil))) (.cons (.op .sub (.cons (.call 3 (.cons (.var 0) (.cons (.lit (.int 199)) .nil))) (.cons (.lit (.int 99)) .nil))) (.cons (.lit (.int 99)) (.cons (.op .neg (.cons (.lit (.int 99)) .nil)) .nil))))) (.cons (.call 3 (.cons (.var 0) (.cons (.lit (.int 4)) .nil))) .nil))))
      .nil)
      .nil)
    (.cons (.ite (.op .eq (.cons (.var 4) (.cons (.lit (.int 1)) .nil)))
      (.cons (.ret (.op .mkTup (.cons (.lit (.str "if")) (.cons (.call 13 (.cons (.var 0) (.cons (.var 1) (.cons (.op .sub (.cons (.var 2) (.cons (.lit (.int 1)) .nil))) (.cons (.lit (.str "cond")) .nil))))) (.cons (.call 13 (.cons (.var 0) (.cons (.var 1) (.cons (.lit (.int 1)) (.cons (.lit (.str "amount")) .nil))))) (.cons (.call 13 (.cons (.var 0) (.cons (.var 1) (.cons (.lit (.int 1)) (.cons (.lit (.str "amount")) .nil))))) .nil))))))
      .nil)
      .nil)
    (.cons (.ret (.op .mkTup (.cons (.op .ix (.cons (.op .mkTup (.cons (.lit (.str "+")) (.cons (.lit (.str "-")) (.cons (.lit (.str "*")) (.cons (.lit (.str "least")) (.cons (.lit (.str "most")) .nil)))))) (.cons (.call 3 (.cons (.var 0) (.cons (.lit (.int 5)) .nil))) .nil))) (.cons (.call 13 (.cons (.var 0) (.cons (.var 1) (.cons (.op .sub (.cons (.var 2) (.cons (.lit (.int 1)) .nil))) (.cons (.lit (.str "amount")) .nil))))) (.cons (.call 13 (.cons (.var 0) (.cons (.var 1) (.cons (.lit (.int 1)) (.cons (.lit (.str "amount")) .nil))))) .nil)))))
    .nil)))
    .nil)
  (.cons (.ite (.or (.op .lt (.cons (.var 2) (.cons (.lit (.int 3)) .nil))) (.op .eq (.cons (.var 4) (.cons (.lit (.int 0)) .nil))))
    (.cons (.ret (.op .ix (.cons (.op .mkTup (.cons (.op .mkTup (.cons (.lit (.str "yes")) .nil)) (.cons (.op .mkTup (.cons (.lit (.str "<")) (.cons (.op .mkTup (.cons (.lit (.str "port")) (.cons (.op .ix (.cons (.var 1) (.cons (.lit (.int 0)) .nil))) .nil))) (.cons (.lit (.int 1)) .nil)))) (.cons (.op .mkTup (.cons (.lit (.str "=")) (.cons (.call 3 (.cons (.var 0) (.cons (.lit (.int 9)) .nil))) (.cons (.op .mkTup (.cons (.lit (.str "port")) (.cons (.op .ix (.cons (.var 1) (.cons (.op .sub (.cons (.op .len (.cons (.var 1) .nil)) (.cons (.lit (.int 1)) .nil))) .nil))) .nil))) .nil)))) .nil)))) (.cons (.call 3 (.cons (.var 0) (.cons (.lit (.int 3)) .nil))) .nil))))
    .nil)
    .nil)
  (.cons (.ite (.op .eq (.cons (.var 4) (.cons (.lit (.int 1)) .nil)))
    (.cons (.ret (.op .mkTup (.cons (.lit (.str "not")) (.cons (.call 13 (.cons (.var 0) (.cons (.var 1) (.cons (.op .sub (.cons (.var 2) (.cons (.lit (.int 1)) .nil))) (.cons (.lit (.str "cond")) .nil))))) .nil))))
    .nil)
    .nil)
  (.cons (.ite (.op .eq (.cons (.var 4) (.cons (.lit (.int 2)) .nil)))
    (.cons (.ret (.op .mkTup (.cons (.lit (.str "<")) (.cons (.call 13 (.cons (.var 0) (.cons (.var 1) (.cons (.op .sub (.cons (.var 2) (.cons (.lit (.int 1)) .nil))) (.cons (.lit (.str "amount")) .nil))))) (.cons (.call 13 (.cons (.var 0) (.cons (.var 1) (.cons (.lit (.int 1)) (.cons (.lit (.str "amount")) .nil))))) .nil)))))
    .nil)
    .nil)
  (.cons (.ret (.op .mkTup (.cons (.op .ix (.cons (.op .mkTup (.cons (.lit (.str "and")) (.cons (.lit (.str "or")) .nil))) (.cons (.call 3 (.cons (.var 0) (.cons (.lit (.int 2)) .nil))) .nil))) (.cons (.call 13 (.cons (.var 0) (.cons (.var 1) (.cons (.op .sub (.cons (.var 2) (.cons (.lit (.int 1)) .nil))) (.cons (.lit (.str "cond")) .nil))))) (.cons (.op .mkTup (.cons (.lit (.str "yes")) .nil)) .nil)))))
  .nil))))))
def f__law_grown : Fn := ⟨4, 5, [], b__law_grown⟩
def e__law_grown : DefE := ⟨"_law_grown", top 47, ["draw", "ports", "deep", "kind", "pick"], ["draw", "ports", "deep", "kind"]⟩
/-- _law_spoilt(draw, value); slots 0:draw 1:value 2:pick 3:bads 4:spot -/
def b__law_spoilt : SL :=
  (.cons (.asg (.name 2) (.call 3 (.cons (.var 0) (.cons (.lit (.int 9)) .nil))))
  (.cons (.asg (.name 3) (.op .mkTup (.cons (.lit .non) (.cons (.lit (.bl true)) (.cons (.lit (.int 100)) (.cons (.op .neg (.cons (.lit (.int 100)) .nil)) (.cons (.lit (.str "p")) (.cons (.op .mkLst (.cons (.var 1) .nil)) (.cons (.op .mkTup .nil) (.cons (.op .mkTup (.cons (.lit (.str "port")) .nil)) (.cons (.op .mkTup (.cons (.lit (.str "port")) (.cons (.lit (.str "zz")) .nil))) (.cons (.op .mkTup (.cons (.lit (.str "port")) (.cons (.lit (.int 3)) .nil))) (.cons (.op .mkTup (.cons (.lit (.str "if")) (.cons (.op .mkTup (.cons (.lit (.str "yes")) .nil)) (.cons (.lit (.int 1)) .nil)))) (.cons (.op .mkTup (.cons (.lit (.str "+")) (.cons (.lit (.int 1)) .nil))) (.cons (.op .mkTup (.cons (.lit (.str "+")) (.cons (.lit (.int 1)) (.cons (.lit (.int 2)) (.cons (.lit (.int 3)) .nil))))) .nil)))))))))))))))
  (.cons (.asg (.name 3) (.op .add (.cons (.var 3) (.cons (.op .mkTup (.cons (.op .mkTup (.cons (.lit (.str "yes")) (.cons (.lit (.int 1)) .nil))) (.cons (.op .mkTup (.cons (.lit (.str "not")) .nil)) (.cons (.op .mkTup (.cons (.lit (.str "and")) (.cons (.op .mkTup (.cons (.lit (.str "yes")) .nil)) .nil))) (.cons (.op .mkTup (.cons (.lit (.str "<")) (.cons (.lit (.int 1)) .nil))) (.cons (.op .mkTup (.cons (.lit (.str "xor")) (.cons (.lit (.int 1)) (.cons (.lit (.int 2)) .nil)))) (.cons (.op .mkTup (.cons (.lit (.int 1)) (.cons (.lit (.int 2)) (.cons (.lit (.int 3)) .nil)))) (.cons (.op .mkTup (.cons (.lit (.str "=")) (.cons (.op .mkTup (.cons (.lit (.str "yes")) .nil)) (.cons (.lit (.int 1)) .nil)))) (.cons (.op .mkTup (.cons (.lit (.str "not")) (.cons (.lit (.int 1)) .nil))) (.cons (.op .mkTup (.cons (.op .mkTup (.cons (.lit (.str "yes")) .nil)) .nil)) (.cons (.op .mkTup (.cons (.lit (.str "least")) (.cons (.lit (.int 1)) (.cons (.op .mkTup (.cons (.lit (.str "yes")) .nil)) .nil)))) .nil))))))))))) .nil))))
  (.cons (.ite (.and (.op .lt (.cons (.var 2) (.cons (.lit (.int 5)) .nil))) (.and (.op (.isi .tuple) (.cons (.var 1) .nil)) (.op .gt (.cons (.op .len (.cons (.var 1) .nil)) (.cons (.lit (.int 1)) .nil)))))
    (.cons (.asg (.name 4) (.op .add (.cons (.lit (.int 1)) (.cons (.call 3 (.cons (.var 0) (.cons (.op .sub (.cons (.op .len (.cons (.var 1) .nil)) (.cons (.lit (.int 1)) .nil))) .nil))) .nil))))
    (.cons (.ret (.op .add (.cons (.op .add (.cons (.op .slH (.cons (.var 1) (.cons (.var 4) .nil))) (.cons (.op .mkTup (.cons (.call 14 (.cons (.var 0) (.cons (.op .ix (.cons (.var 1) (.cons (.var 4) .nil))) .nil))) .nil)) .nil))) (.cons (.op .slL (.cons (.var 1) (.cons (.op .add (.cons (.var 4) (.cons (.lit (.int 1)) .nil))) .nil))) .nil))))
    .nil))
    .nil)
  (.cons (.ite (.and (.op .eq (.cons (.var 2) (.cons (.lit (.int 5)) .nil))) (.op (.isi .tuple) (.cons (.var 1) .nil)))
    (.cons (.ret (.op .listOf (.cons (.var 1) .nil)))
    .nil)
    .nil)
  (.cons (.ret (.op .ix (.cons (.var 3) (.cons (.call 3 (.cons (.var 0) (.cons (.op .len (.cons (.var 3) .nil)) .nil))) .nil))))
  .nil))))))
def f__law_spoilt : Fn := ⟨2, 5, [], b__law_spoilt⟩
def e__law_spoilt : DefE := ⟨"_law_spoilt", top 48, ["draw", "value", "pick", "bads", "spot"], ["draw", "value"]⟩
/-- _law_like(value, due); slots 0:value 1:due 2:k -/
def b__law_like : SL :=
  (.cons (.ite (.op .isN (.cons (.var 1) .nil))
    (.cons (.ret (.op .isN (.cons (.var 0) .nil)))
    .nil)
    .nil)
  (.cons (.ite (.op (.isi .bool) (.cons (.var 1) .nil))
    (.cons (.ret (.and (.op (.isi .bool) (.cons (.var 0) .nil)) (.op .eq (.cons (.var 0) (.cons (.var 1) .nil)))))
    .nil)
    .nil)
  (.cons (.ite (.op (.isi .tuple) (.cons (.var 1) .nil))
    (.cons (.ite (.or (.op .not (.cons (.op (.isi .tuple) (.cons (.var 0) .nil)) .nil)) (.op .ne (.cons (.op .len (.cons (.var 0) .nil)) (.cons (.op .len (.cons (.var 1) .nil)) .nil))))
      (.cons (.ret (.lit (.bl false)))
      .nil)
      .nil)
    (.cons (.ret (.op .all (.cons (.comp [2] (.name 2) .range (.cons (.op .len (.cons (.var 1) .nil)) .nil) .nil (.call 15 (.cons (.op .ix (.cons (.var 0) (.cons (.var 2) .nil))) (.cons (.op .ix (.cons (.var 1) (.cons (.var 2) .nil))) .nil)))) .nil)))
    .nil))
    .nil)
  (.cons (.ite (.op (.isi .str) (.cons (.var 1) .nil))
    (.cons (.ret (.and (.op (.isi .str) (.cons (.var 0) .nil)) (.op .eq (.cons (.var 0) (.cons (.var 1) .nil)))))
    .nil)
    .nil)
  (.cons (.ret (.and (.call 30 (.cons (.var 0) .nil)) (.op .eq (.cons (.var 0) (.cons (.var 1) .nil)))))
  .nil)))))
def f__law_like : Fn := ⟨2, 3, [], b__law_like⟩
def e__law_like : DefE := ⟨"_law_like", top 26, ["value", "due", "k"], ["value", "due"]⟩
/-- is_amount(value, ports, deep); slots 0:value 1:ports 2:deep -/
def b_is_amount : SL :=
  (.cons (.ite (.op .eq (.cons (.var 2) (.cons (.lit (.int 0)) .nil)))
    (.cons (.ret (.lit (.bl false)))
    .nil)
    .nil)
  (.cons (.ite (.call 24 (.cons (.var 0) .nil))
    (.cons (.ret (.chain .le .le (.op .neg (.cons (.glb 0) .nil)) (.var 0) (.glb 0)))
    .nil)
    .nil)
  (.cons (.ite (.or (.op .not (.cons (.op (.isi .tuple) (.cons (.var 0) .nil)) .nil)) (.or (.op .lt (.cons (.op .len (.cons (.var 0) .nil)) (.cons (.lit (.int 2)) .nil))) (.op .not (.cons (.op (.isi .str) (.cons (.op .ix (.cons (.var 0) (.cons (.lit (.int 0)) .nil))) .nil)) .nil))))
    (.cons (.ret (.lit (.bl false)))
    .nil)
    .nil)
  (.cons (.ite (.op .eq (.cons (.op .ix (.cons (.var 0) (.cons (.lit (.int 0)) .nil))) (.cons (.lit (.str "port")) .nil)))
    (.cons (.ret (.and (.op .eq (.cons (.op .len (.cons (.var 0) .nil)) (.cons (.lit (.int 2)) .nil))) (.and (.op (.isi .str) (.cons (.op .ix (.cons (.var 0) (.cons (.lit (.int 1)) .nil))) .nil)) (.op .inn (.cons (.op .ix (.cons (.var 0) (.cons (.lit (.int 1)) .nil))) (.cons (.var 1) .nil))))))
    .nil)
    .nil)
  (.cons (.ite (.op .eq (.cons (.op .ix (.cons (.var 0) (.cons (.lit (.int 0)) .nil))) (.cons (.lit (.str "if")) .nil)))
    (.cons (.ite (.or (.op .ne (.cons (.op .len (.cons (.var 0) .nil)) (.cons (.lit (.int 4)) .nil))) (.op .not (.cons (.call 18 (.cons (.op .ix (.cons (.var 0) (.cons (.lit (.int 1)) .nil))) (.cons (.var 1) (.cons (.op .sub (.cons (.var 2) (.cons (.lit (.int 1)) .nil))) .nil)))) .nil)))
      (.cons (.ret (.lit (.bl false)))
      .nil)
      .nil)
    (.cons (.ret (.and (.call 16 (.cons (.op .ix (.cons (.var 0) (.cons (.lit (.int 2)) .nil))) (.cons (.var 1) (.cons (.op .sub (.cons (.var 2) (.cons (.lit (.int 1)) .nil))) .nil)))) (.call 16 (.cons (.op .ix (.cons (.var 0) (.cons (.lit (.int 3)) .nil))) (.cons (.var 1) (.cons (.op .sub (.cons (.var 2) (.cons (.lit (.int 1)) .nil))) .nil))))))
    .nil))
    .nil)
  (.cons (.ite (.or (.op .notIn (.cons (.op .ix (.cons (.var 0) (.cons (.lit (.int 0)) .nil))) (.cons (.op .mkTup (.cons (.lit (.str "+")) (.cons (.lit (.str "-")) (.cons (.lit (.str "*")) (.cons (.lit (.str "least")) (.cons (.lit (.str "most")) .nil)))))) .nil))) (.op .ne (.cons (.op .len (.cons (.var 0) .nil)) (.cons (.lit (.int 3)) .nil))))
    (.cons (.ret (.lit (.bl false)))
    .nil)
    .nil)
  (.cons (.ret (.and (.call 16 (.cons (.op .ix (.cons (.var 0) (.cons (.lit (.int 1)) .nil))) (.cons (.var 1) (.cons (.op .sub (.cons (.var 2) (.cons (.lit (.int 1)) .nil))) .nil)))) (.call 16 (.cons (.op .ix (.cons (.var 0) (.cons (.lit (.int 2)) .nil))) (.cons (.var 1) (.cons (.op .sub (.cons (.var 2) (.cons (.lit (.int 1)) .nil))) .nil))))))
  .nil)))))))
def f_is_amount : Fn := ⟨3, 3, [.int 8], b_is_amount⟩
def e_is_amount : DefE := ⟨"is_amount", top 11, ["value", "ports", "deep"], ["value", "ports", "deep"]⟩
/-- _law_form(value, ports, deep, kind); slots 0:value 1:ports 2:deep 3:kind 4:word 5:own -/
def b__law_form : SL :=
  (.cons (.ite (.op .eq (.cons (.var 2) (.cons (.lit (.int 0)) .nil)))
    (.cons (.ret (.lit (.bl false)))
    .nil)
    .nil)
  (.cons (.ite (.and (.op .eq (.cons (.var 3) (.cons (.lit (.str "amount")) .nil))) (.call 30 (.cons (.var 0) .nil)))
    (.cons (.ret (.and (.op .le (.cons (.op .neg (.cons (.lit (.int 99)) .nil)) (.cons (.var 0) .nil))) (.op .le (.cons (.var 0) (.cons (.lit (.int 99)) .nil)))))
    .nil)
    .nil)
  (.cons (.ite (.or (.op .not (.cons (.op (.isi .tuple) (.cons (.var 0) .nil)) .nil)) (.or (.op .eq (.cons (.op .len (.cons (.var 0) .nil)) (.cons (.lit (.int 0)) .nil))) (.op .not (.cons (.op (.isi .str) (.cons (.op .ix (.cons (.var 0) (.cons (.lit (.int 0)) .nil))) .nil)) .nil))))
    (.cons (.ret (.lit (.bl false)))
    .nil)
    .nil)
  (.cons (.asg (.name 4) (.op .ix (.cons (.var 0) (.cons (.lit (.int 0)) .nil))))
  (.cons (.ite (.op .eq (.cons (.var 3) (.cons (.lit (.str "amount")) .nil)))
    (.cons (.ite (.op .eq (.cons (.var 4) (.cons (.lit (.str "port")) .nil)))
      (.cons (.ret (.and (.op .eq (.cons (.op .len (.cons (.var 0) .nil)) (.cons (.lit (.int 2)) .nil))) (.and (.op (.isi .str) (.cons (.op .ix (.cons (.var 0) (.cons (.lit (.int 1)) .nil))) .nil)) (.op .inn (.cons (.op .ix (.cons (.var 0) (.cons (.lit (.int 1)) .nil))) (.cons (.var 1) .nil))))))
      .nil)
      .nil)
    (.cons (.ite (.op .eq (.cons (.var 4) (.cons (.lit (.str "if")) .nil)))
      (.cons (.ret (.and (.op .eq (.cons (.op .len (.cons (.var 0) .nil)) (.cons (.lit (.int 4)) .nil))) (.and (.call 17 (.cons (.op .ix (.cons (.var 0) (.cons (.lit (.int 1)) .nil))) (.cons (.var 1) (.cons (.op .sub (.cons (.var 2) (.cons (.lit (.int 1)) .nil))) (.cons (.lit (.str "cond")) .nil))))) (.op .all (.cons (.comp [5] (.name 5) .plain (.cons (.op .slL (.cons (.var 0) (.cons (.lit (.int 2)) .nil))) .nil) .nil (.call 17 (.cons (.var 5) (.cons (.var 1) (.cons (.op .sub (.cons (.var 2) (.cons (.lit (.int 1)) .nil))) (.cons (.lit (.str "amount")) .nil)))))) .nil)))))
      .nil)
      .nil)
    (.cons (.ret (.and (.op .inn (.cons (.var 4) (.cons (.op .mkTup (.cons (.lit (.str "+")) (.cons (.lit (.str "-")) (.cons (.lit (.str "*")) (.cons (.lit (.str "least")) (.cons (.lit (.str "most")) .nil)))))) .nil))) (.and (.op .eq (.cons (.op .len (.cons (.var 0) .nil)) (.cons (.lit (.int 3)) .nil))) (.op .all (.cons (.comp [5] (.name 5) .plain (.cons (.op .slL (.cons (.var 0) (.cons (.lit (.int 1)) .nil))) .nil) .nil (.call 17 (.cons (.var 5) (.cons (.var 1) (.cons (.op .sub (.cons (.var 2) (.cons (.lit (.int 1)) .nil))) (.cons (.lit (.str "amount")) .nil)))))) .nil)))))
    .nil)))
    .nil)
  (.cons (.ite (.op .eq (.cons (.var 4) (.cons (.lit (.str "yes")) .nil)))
    (.cons (.ret (.op .eq (.cons (.op .len (.cons (.var 0) .nil)) (.cons (.lit (.int 1)) .nil))))
    .nil)
    .nil)
  (.cons (.ite (.op .inn (.cons (.var 4) (.cons (.op .mkTup (.cons (.lit (.str "<")) (.cons (.lit (.str "=")) .nil))) .nil)))
    (.cons (.ret (.and (.op .eq (.cons (.op .len (.cons (.var 0) .nil)) (.cons (.lit (.int 3)) .nil))) (.op .all (.cons (.comp [5] (.name 5) .plain (.cons (.op .slL (.cons (.var 0) (.cons (.lit (.int 1)) .nil))) .nil) .nil (.call 17 (.cons (.var 5) (.cons (.var 1) (.cons (.op .sub (.cons (.var 2) (.cons (.lit (.int 1)) .nil))) (.cons (.lit (.str "amount")) .nil)))))) .nil))))
    .nil)
    .nil)
  (.cons (.ite (.op .inn (.cons (.var 4) (.cons (.op .mkTup (.cons (.lit (.str "and")) (.cons (.lit (.str "or")) .nil))) .nil)))
    (.cons (.ret (.and (.op .eq (.cons (.op .len (.cons (.var 0) .nil)) (.cons (.lit (.int 3)) .nil))) (.op .all (.cons (.comp [5] (.name 5) .plain (.cons (.op .slL (.cons (.var 0) (.cons (.lit (.int 1)) .nil))) .nil) .nil (.call 17 (.cons (.var 5) (.cons (.var 1) (.cons (.op .sub (.cons (.var 2) (.cons (.lit (.int 1)) .nil))) (.cons (.lit (.str "cond")) .nil)))))) .nil))))
    .nil)
    .nil)
  (.cons (.ret (.and (.op .eq (.cons (.var 4) (.cons (.lit (.str "not")) .nil))) (.and (.op .eq (.cons (.op .len (.cons (.var 0) .nil)) (.cons (.lit (.int 2)) .nil))) (.call 17 (.cons (.op .ix (.cons (.var 0) (.cons (.lit (.int 1)) .nil))) (.cons (.var 1) (.cons (.op .sub (.cons (.var 2) (.cons (.lit (.int 1)) .nil))) (.cons (.lit (.str "cond")) .nil))))))))
  .nil)))))))))
def f__law_form : Fn := ⟨4, 6, [], b__law_form⟩
def e__law_form : DefE := ⟨"_law_form", top 46, ["value", "ports", "deep", "kind", "word", "own"], ["value", "ports", "deep", "kind"]⟩
/-- is_condition(value, ports, deep); slots 0:value 1:ports 2:deep 3:word -/
def b_is_condition : SL :=
  (.cons (.ite (.or (.op .eq (.cons (.var 2) (.cons (.lit (.int 0)) .nil))) (.or (.op .not (.cons (.op (.isi .tuple) (.cons (.var 0) .nil)) .nil)) (.or (.op .not (.cons (.var 0) .nil)) (.op .not (.cons (.op (.isi .str) (.cons (.op .ix (.cons (.var 0) (.cons (.lit (.int 0)) .nil))) .nil)) .nil)))))
    (.cons (.ret (.lit (.bl false)))
    .nil)
    .nil)
  (.cons (.asg (.name 3) (.op .ix (.cons (.var 0) (.cons (.lit (.int 0)) .nil))))
  (.cons (.ite (.op .eq (.cons (.var 3) (.cons (.lit (.str "yes")) .nil)))
    (.cons (.ret (.op .eq (.cons (.op .len (.cons (.var 0) .nil)) (.cons (.lit (.int 1)) .nil))))
    .nil)
    .nil)
  (.cons (.ite (.op .inn (.cons (.var 3) (.cons (.op .mkTup (.cons (.lit (.str "<")) (.cons (.lit (.str "=")) .nil))) .nil)))
    (.cons (.ret (.and (.op .eq (.cons (.op .len (.cons (.var 0) .nil)) (.cons (.lit (.int 3)) .nil))) (.and (.call 16 (.cons (.op .ix (.cons (.var 0) (.cons (.lit (.int 1)) .nil))) (.cons (.var 1) (.cons (.op .sub (.cons (.var 2) (.cons (.lit (.int 1)) .nil))) .nil)))) (.call 16 (.cons (.op .ix (.cons (.var 0) (.cons (.lit (.int 2)) .nil))) (.cons (.var 1) (.cons (.op .sub (.cons (.var 2) (.cons (.lit (.int 1)) .nil))) .nil)))))))
    .nil)
    .nil)
  (.cons (.ite (.op .inn (.cons (.var 3) (.cons (.op .mkTup (.cons (.lit (.str "and")) (.cons (.lit (.str "or")) .nil))) .nil)))
    (.cons (.ret (.and (.op .eq (.cons (.op .len (.cons (.var 0) .nil)) (.cons (.lit (.int 3)) .nil))) (.and (.call 18 (.cons (.op .ix (.cons (.var 0) (.cons (.lit (.int 1)) .nil))) (.cons (.var 1) (.cons (.op .sub (.cons (.var 2) (.cons (.lit (.int 1)) .nil))) .nil)))) (.call 18 (.cons (.op .ix (.cons (.var 0) (.cons (.lit (.int 2)) .nil))) (.cons (.var 1) (.cons (.op .sub (.cons (.var 2) (.cons (.lit (.int 1)) .nil))) .nil)))))))
    .nil)
    .nil)
  (.cons (.ret (.and (.op .eq (.cons (.var 3) (.cons (.lit (.str "not")) .nil))) (.and (.op .eq (.cons (.op .len (.cons (.var 0) .nil)) (.cons (.lit (.int 2)) .nil))) (.call 18 (.cons (.op .ix (.cons (.var 0) (.cons (.lit (.int 1)) .nil))) (.cons (.var 1) (.cons (.op .sub (.cons (.var 2) (.cons (.lit (.int 1)) .nil))) .nil)))))))
  .nil))))))
def f_is_condition : Fn := ⟨3, 4, [.int 8], b_is_condition⟩
def e_is_condition : DefE := ⟨"is_condition", top 12, ["value", "ports", "deep", "word"], ["value", "ports", "deep"]⟩
/-- is_kind(value); slots 0:value 1:ports 2:mode 3:cost 4:condition 5:name 6:values -/
def b_is_kind : SL :=
  (.cons (.ite (.or (.op .not (.cons (.op (.isi .tuple) (.cons (.var 0) .nil)) .nil)) (.or (.op .ne (.cons (.op .len (.cons (.var 0) .nil)) (.cons (.lit (.int 3)) .nil))) (.or (.op .not (.cons (.call 23 (.cons (.op .ix (.cons (.var 0) (.cons (.lit (.int 0)) .nil))) (.cons (.lit (.int 2)) .nil))) .nil)) (.op .not (.cons (.call 23 (.cons (.op .ix (.cons (.var 0) (.cons (.lit (.int 2)) .nil))) (.cons (.lit (.int 3)) .nil))) .nil)))))
    (.cons (.ret (.lit (.bl false)))
    .nil)
    .nil)
  (.cons (.asg (.name 1) (.comp [5, 6] (.tup [(.name 5), (.name 6)]) .plain (.cons (.op .ix (.cons (.var 0) (.cons (.lit (.int 0)) .nil))) .nil) .nil (.var 5)))
  (.cons (.ite (.or (.op .not (.cons (.op .all (.cons (.comp [5, 6] (.tup [(.name 5), (.name 6)]) .plain (.cons (.op .ix (.cons (.var 0) (.cons (.lit (.int 0)) .nil))) .nil) .nil (.call 31 (.cons (.var 6) .nil))) .nil)) .nil)) (.op .not (.cons (.call 18 (.cons (.op .ix (.cons (.var 0) (.cons (.lit (.int 1)) .nil))) (.cons (.var 1) .nil))) .nil)))
    (.cons (.ret (.lit (.bl false)))
    .nil)
    .nil)
  (.cons (.for (.tup [(.name 2), (.name 3), (.name 4)]) .plain (.cons (.op .ix (.cons (.var 0) (.cons (.lit (.int 2)) .nil))) .nil)
    (.cons (.ite (.or (.op .not (.cons (.call 24 (.cons (.var 3) .nil)) .nil)) (.or (.op .not (.cons (.chain .le .le (.lit (.int 1)) (.var 3) (.glb 1)) .nil)) (.op .not (.cons (.call 18 (.cons (.var 4) (.cons (.var 1) .nil))) .nil))))
      (.cons (.ret (.lit (.bl false)))
      .nil)
      .nil)
    .nil))
  (.cons (.ret (.lit (.bl true)))
  .nil)))))
def f_is_kind : Fn := ⟨1, 7, [], b_is_kind⟩
def e_is_kind : DefE := ⟨"is_kind", top 13, ["value", "ports", "mode", "cost", "condition", "name", "values"], ["value"]⟩
/-- _law_kind_form(value); slots 0:value 1:names 2:good 3:own -/
def b__law_kind_form : SL :=
  (.cons (.ite (.or (.op .not (.cons (.op (.isi .tuple) (.cons (.var 0) .nil)) .nil)) (.or (.op .ne (.cons (.op .len (.cons (.var 0) .nil)) (.cons (.lit (.int 3)) .nil))) (.or (.op .not (.cons (.op (.isi .tuple) (.cons (.op .ix (.cons (.var 0) (.cons (.lit (.int 0)) .nil))) .nil)) .nil)) (.op .not (.cons (.op (.isi .tuple) (.cons (.op .ix (.cons (.var 0) (.cons (.lit (.int 2)) .nil))) .nil)) .nil)))))
    (.cons (.ret (.lit (.bl false)))
    .nil)
    .nil)
  (.cons (.asg (.name 1) (.comp [3] (.name 3) .plain (.cons (.op .ix (.cons (.var 0) (.cons (.lit (.int 0)) .nil))) .nil) .nil (.op .ix (.cons (.var 3) (.cons (.lit (.int 0)) .nil)))))
  (.cons (.asg (.name 2) (.op .all (.cons (.comp [3] (.name 3) .plain (.cons (.op .ix (.cons (.var 0) (.cons (.lit (.int 2)) .nil))) .nil) .nil (.and (.call 17 (.cons (.op .ix (.cons (.var 3) (.cons (.lit (.int 2)) .nil))) (.cons (.var 1) (.cons (.lit (.int 8)) (.cons (.lit (.str "cond")) .nil))))) (.and (.op .le (.cons (.lit (.int 1)) (.cons (.op .ix (.cons (.var 3) (.cons (.lit (.int 1)) .nil))) .nil))) (.op .le (.cons (.op .ix (.cons (.var 3) (.cons (.lit (.int 1)) .nil))) (.cons (.lit (.int 9)) .nil)))))) .nil)))
  (.cons (.ret (.and (.var 2) (.call 17 (.cons (.op .ix (.cons (.var 0) (.cons (.lit (.int 1)) .nil))) (.cons (.var 1) (.cons (.lit (.int 8)) (.cons (.lit (.str "cond")) .nil)))))))
  .nil))))
def f__law_kind_form : Fn := ⟨1, 4, [], b__law_kind_form⟩
def e__law_kind_form : DefE := ⟨"_law_kind_form", top 50, ["value", "names", "good", "own"], ["value"]⟩
/-- is_library(value); slots 0:value 1:name 2:kind -/
def b_is_library : SL :=
  (.cons (.ret (.and (.call 23 (.cons (.var 0) (.cons (.lit (.int 2)) .nil))) (.op .all (.cons (.comp [1, 2] (.tup [(.name 1), (.name 2)]) .plain (.cons (.var 0) .nil) .nil (.call 19 (.cons (.var 2) .nil))) .nil))))
  .nil)
def f_is_library : Fn := ⟨1, 3, [], b_is_library⟩
def e_is_library : DefE := ⟨"is_library", top 14, ["value", "name", "kind"], ["value"]⟩
/-- is_device(value); slots 0:value 1:part 2:kind 3:links 4:outer 5:wire 6:values 7:port -/
def b_is_device : SL :=
  (.cons (.ite (.or (.op .not (.cons (.op (.isi .tuple) (.cons (.var 0) .nil)) .nil)) (.or (.op .ne (.cons (.op .len (.cons (.var 0) .nil)) (.cons (.lit (.int 4)) .nil))) (.or (.op .not (.cons (.call 21 (.cons (.op .ix (.cons (.var 0) (.cons (.lit (.int 0)) .nil))) .nil)) .nil)) (.op .not (.cons (.call 23 (.cons (.op .ix (.cons (.var 0) (.cons (.lit (.int 1)) .nil))) (.cons (.lit (.int 2)) .nil))) .nil)))))
    (.cons (.ret (.lit (.bl false)))
    .nil)
    .nil)
  (.cons (.ite (.or (.op .not (.cons (.op .all (.cons (.comp [5, 6] (.tup [(.name 5), (.name 6)]) .plain (.cons (.op .ix (.cons (.var 0) (.cons (.lit (.int 1)) .nil))) .nil) .nil (.call 31 (.cons (.var 6) .nil))) .nil)) .nil)) (.op .not (.cons (.call 23 (.cons (.op .ix (.cons (.var 0) (.cons (.lit (.int 2)) .nil))) (.cons (.lit (.int 3)) .nil))) .nil)))
    (.cons (.ret (.lit (.bl false)))
    .nil)
    .nil)
  (.cons (.for (.tup [(.name 1), (.name 2), (.name 3)]) .plain (.cons (.op .ix (.cons (.var 0) (.cons (.lit (.int 2)) .nil))) .nil)
    (.cons (.ite (.or (.op .not (.cons (.call 32 (.cons (.var 2) .nil)) .nil)) (.or (.op .not (.cons (.call 23 (.cons (.var 3) (.cons (.lit (.int 2)) .nil))) .nil)) (.op .not (.cons (.op .all (.cons (.comp [7, 5] (.tup [(.name 7), (.name 5)]) .plain (.cons (.var 3) .nil) .nil (.call 32 (.cons (.var 5) .nil))) .nil)) .nil))))
      (.cons (.ret (.lit (.bl false)))
      .nil)
      .nil)
    .nil))
  (.cons (.asg (.name 4) (.op .ix (.cons (.var 0) (.cons (.lit (.int 3)) .nil))))
  (.cons (.ret (.and (.op (.isi .tuple) (.cons (.var 4) .nil)) (.and (.op .all (.cons (.comp [5] (.name 5) .plain (.cons (.var 4) .nil) .nil (.call 32 (.cons (.var 5) .nil))) .nil)) (.call 28 (.cons (.var 4) .nil)))))
  .nil)))))
def f_is_device : Fn := ⟨1, 8, [], b_is_device⟩
def e_is_device : DefE := ⟨"is_device", top 15, ["value", "part", "kind", "links", "outer", "wire", "values", "port"], ["value"]⟩
/-- is_rows(value, many); slots 0:value 1:many 2:own -/
def b_is_rows : SL :=
  (.cons (.ite (.or (.op .not (.cons (.op (.isi .tuple) (.cons (.var 0) .nil)) .nil)) (.op .not (.cons (.op .all (.cons (.comp [2] (.name 2) .plain (.cons (.var 0) .nil) .nil (.and (.op (.isi .tuple) (.cons (.var 2) .nil)) (.op .eq (.cons (.op .len (.cons (.var 2) .nil)) (.cons (.var 1) .nil))))) .nil)) .nil)))
    (.cons (.ret (.lit (.bl false)))
    .nil)
    .nil)
  (.cons (.ret (.and (.op .all (.cons (.comp [2] (.name 2) .plain (.cons (.var 0) .nil) .nil (.call 32 (.cons (.op .ix (.cons (.var 2) (.cons (.lit (.int 0)) .nil))) .nil))) .nil)) (.call 28 (.cons (.comp [2] (.name 2) .plain (.cons (.var 0) .nil) .nil (.op .ix (.cons (.var 2) (.cons (.lit (.int 0)) .nil)))) .nil))))
  .nil))
def f_is_rows : Fn := ⟨2, 3, [], b_is_rows⟩
def e_is_rows : DefE := ⟨"is_rows", top 9, ["value", "many", "own"], ["value", "many"]⟩
/-- is_int(value); slots 0:value -/
def b_is_int : SL :=
  (.cons (.ret (.and (.op (.isi .int) (.cons (.var 0) .nil)) (.op .not (.cons (.op (.isi .bool) (.cons (.var 0) .nil)) .nil))))
  .nil)
def f_is_int : Fn := ⟨1, 1, [], b_is_int⟩
def e_is_int : DefE := ⟨"is_int", top 6, ["value"], ["value"]⟩
/-- _law_modes(device, part); slots 0:device 1:part 2:name 3:kind 4:links 5:mode 6:cost 7:cond -/
def b__law_modes : SL :=
  (.cons (.for (.tup [(.name 2), (.name 3), (.name 4)]) .plain (.cons (.op .ix (.cons (.var 0) (.cons (.lit (.int 2)) .nil))) .nil)
    (.cons (.ite (.op .eq (.cons (.var 2) (.cons (.var 1) .nil)))
      (.cons (.ret (.op .add (.cons (.op .mkLst (.cons (.lit (.str "well")) .nil)) (.cons (.comp [5, 6, 7] (.tup [(.name 5), (.name 6), (.name 7)]) .plain (.cons (.op .ix (.cons (.op .ix (.cons (.op .dictOf (.cons (.op .ix (.cons (.var 0) (.cons (.lit (.int 0)) .nil))) .nil)) (.cons (.var 3) .nil))) (.cons (.lit (.int 2)) .nil))) .nil) .nil (.var 5)) .nil))))
      .nil)
      .nil)
    .nil))
  (.cons (.ret (.op .mkLst .nil))
  .nil))
def f__law_modes : Fn := ⟨2, 8, [], b__law_modes⟩
def e__law_modes : DefE := ⟨"_law_modes", top 36, ["device", "part", "name", "kind", "links", "mode", "cost", "cond"], ["device", "part"]⟩
/-- part_names(device); slots 0:device 1:part 2:kind 3:links -/
def b_part_names : SL :=
  (.cons (.ret (.op .tupleOf (.cons (.comp [1, 2, 3] (.tup [(.name 1), (.name 2), (.name 3)]) .plain (.cons (.op .ix (.cons (.var 0) (.cons (.lit (.int 2)) .nil))) .nil) .nil (.var 1)) .nil)))
  .nil)
def f_part_names : Fn := ⟨1, 4, [], b_part_names⟩
def e_part_names : DefE := ⟨"part_names", top 16, ["device", "part", "kind", "links"], ["device"]⟩
/-- modes_of(device, part); slots 0:device 1:part 2:kinds 3:name 4:kind 5:links 6:mode 7:cost 8:condition -/
def b_modes_of : SL :=
  (.cons (.asg (.name 2) (.op .dictOf (.cons (.op .ix (.cons (.var 0) (.cons (.lit (.int 0)) .nil))) .nil)))
  (.cons (.for (.tup [(.name 3), (.name 4), (.name 5)]) .plain (.cons (.op .ix (.cons (.var 0) (.cons (.lit (.int 2)) .nil))) .nil)
    (.cons (.ite (.op .eq (.cons (.var 3) (.cons (.var 1) .nil)))
      (.cons (.ret (.op .add (.cons (.op .mkTup (.cons (.lit (.str "well")) .nil)) (.cons (.op .tupleOf (.cons (.comp [6, 7, 8] (.tup [(.name 6), (.name 7), (.name 8)]) .plain (.cons (.op .ix (.cons (.op .ix (.cons (.var 2) (.cons (.var 4) .nil))) (.cons (.lit (.int 2)) .nil))) .nil) .nil (.var 6)) .nil)) .nil))))
      .nil)
      .nil)
    .nil))
  (.cons (.ret (.op .mkTup .nil))
  .nil)))
def f_modes_of : Fn := ⟨2, 9, [], b_modes_of⟩
def e_modes_of : DefE := ⟨"modes_of", top 17, ["device", "part", "kinds", "name", "kind", "links", "mode", "cost", "condition"], ["device", "part"]⟩
/-- is_rising(names); slots 0:names 1:place -/
def b_is_rising : SL :=
  (.cons (.ret (.op .all (.cons (.comp [1] (.name 1) .range (.cons (.op .sub (.cons (.op .len (.cons (.var 0) .nil)) (.cons (.lit (.int 1)) .nil))) .nil) .nil (.op .lt (.cons (.op .ix (.cons (.var 0) (.cons (.var 1) .nil))) (.cons (.op .ix (.cons (.var 0) (.cons (.op .add (.cons (.var 1) (.cons (.lit (.int 1)) .nil))) .nil))) .nil)))) .nil)))
  .nil)
def f_is_rising : Fn := ⟨1, 2, [], b_is_rising⟩
def e_is_rising : DefE := ⟨"is_rising", top 8, ["names", "place"], ["names"]⟩
/-- _law_cond(draw, ports); slots 0:draw 1:ports 2:last 3:pick -/
def b__law_cond : SL :=
  (.cons (.asg (.name 2) (.op .mkTup (.cons (.lit (.str "port")) (.cons (.op .ix (.cons (.var 1) (.cons (.op .sub (.cons (.op .len (.cons (.var 1) .nil)) (.cons (.lit (.int 1)) .nil))) .nil))) .nil))))
  (.cons (.asg (.name 3) (.call 3 (.cons (.var 0) (.cons (.lit (.int 8)) .nil))))
  (.cons (.ite (.op .eq (.cons (.var 3) (.cons (.lit (.int 0)) .nil)))
    (.cons (.ret (.op .mkTup (.cons (.lit (.str "yes")) .nil)))
    .nil)
    .nil)
  (.cons (.ite (.op .eq (.cons (.var 3) (.cons (.lit (.int 1)) .nil)))
    (.cons (.ret (.op .mkTup (.cons (.lit (.str "not")) (.cons (.op .mkTup (.cons (.lit (.str "=")) (.cons (.var 2) (.cons (.call 33 (.cons (.var 0) (.cons (.var 1) (.cons (.lit (.int 1)) .nil)))) .nil)))) .nil))))
    .nil)
    .nil)
  (.cons (.ite (.op .eq (.cons (.var 3) (.cons (.lit (.int 2)) .nil)))
    (.cons (.ret (.op .mkTup (.cons (.lit (.str "or")) (.cons (.op .mkTup (.cons (.lit (.str "=")) (.cons (.var 2) (.cons (.call 33 (.cons (.var 0) (.cons (.var 1) (.cons (.lit (.int 0)) .nil)))) .nil)))) (.cons (.op .mkTup (.cons (.lit (.str "<")) (.cons (.call 33 (.cons (.var 0) (.cons (.var 1) (.cons (.lit (.int 0)) .nil)))) (.cons (.var 2) .nil)))) .nil)))))
    .nil)
    .nil)
  (.cons (.ret (.op .mkTup (.cons (.lit (.str "=")) (.cons (.var 2) (.cons (.call 33 (.cons (.var 0) (.cons (.var 1) (.cons (.lit (.int 2)) .nil)))) .nil)))))
  .nil))))))
def f__law_cond : Fn := ⟨2, 4, [], b__law_cond⟩
def e__law_cond : DefE := ⟨"_law_cond", top 29, ["draw", "ports", "last", "pick"], ["draw", "ports"]⟩
/-- _law_is_int(value); slots 0:value -/
def b__law_is_int : SL :=
  (.cons (.ret (.and (.op (.isi .int) (.cons (.var 0) .nil)) (.op .not (.cons (.op (.isi .bool) (.cons (.var 0) .nil)) .nil))))
  .nil)
def f__law_is_int : Fn := ⟨1, 1, [], b__law_is_int⟩
def e__law_is_int : DefE := ⟨"_law_is_int", top 25, ["value"], ["value"]⟩
/-- is_values(value); slots 0:value 1:own -/
def b_is_values : SL :=
  (.cons (.ite (.or (.op .not (.cons (.op (.isi .tuple) (.cons (.var 0) .nil)) .nil)) (.or (.op .not (.cons (.var 0) .nil)) (.op .not (.cons (.op .all (.cons (.comp [1] (.name 1) .plain (.cons (.var 0) .nil) .nil (.call 24 (.cons (.var 1) .nil))) .nil)) .nil))))
    (.cons (.ret (.lit (.bl false)))
    .nil)
    .nil)
  (.cons (.ret (.and (.op .all (.cons (.comp [1] (.name 1) .plain (.cons (.var 0) .nil) .nil (.chain .le .le (.op .neg (.cons (.glb 0) .nil)) (.var 1) (.glb 0))) .nil)) (.op .eq (.cons (.op .sortedSet (.cons (.var 0) .nil)) (.cons (.op .listOf (.cons (.var 0) .nil)) .nil)))))
  .nil))
def f_is_values : Fn := ⟨1, 2, [], b_is_values⟩
def e_is_values : DefE := ⟨"is_values", top 10, ["value", "own"], ["value"]⟩
/-- is_name(value); slots 0:value 1:letter -/
def b_is_name : SL :=
  (.cons (.ite (.or (.op .not (.cons (.op (.isi .str) (.cons (.var 0) .nil)) .nil)) (.or (.op .not (.cons (.chain .le .le (.lit (.int 1)) (.op .len (.cons (.var 0) .nil)) (.lit (.int 8))) .nil)) (.op (.inG false g_WORDS) (.cons (.var 0) .nil))))
    (.cons (.ret (.lit (.bl false)))
    .nil)
    .nil)
  (.cons (.ret (.op .all (.cons (.comp [1] (.name 1) .plain (.cons (.var 0) .nil) .nil (.op .inn (.cons (.var 1) (.cons (.glb 2) .nil)))) .nil)))
  .nil))
def f_is_name : Fn := ⟨1, 2, [], b_is_name⟩
def e_is_name : DefE := ⟨"is_name", top 7, ["value", "letter"], ["value"]⟩
/-- _law_amount(draw, ports, deep); slots 0:draw 1:ports 2:deep 3:pick 4:word 5:one -/
def b__law_amount : SL :=
  (.cons (.asg (.name 3) (.call 3 (.cons (.var 0) (.cons (.lit (.int 7)) .nil))))
  (.cons (.ite (.and (.op .gt (.cons (.var 2) (.cons (.lit (.int 0)) .nil))) (.op .eq (.cons (.var 3) (.cons (.lit (.int 0)) .nil))))
    (.cons (.asg (.name 4) (.op .ix (.cons (.op .mkTup (.cons (.lit (.str "+")) (.cons (.lit (.str "-")) (.cons (.lit (.str "*")) (.cons (.lit (.str "least")) (.cons (.lit (.str "most")) .nil)))))) (.cons (.call 3 (.cons (.var 0) (.cons (.lit (.int 5)) .nil))) .nil))))
    (.cons (.ret (.op .mkTup (.cons (.var 4) (.cons (.call 33 (.cons (.var 0) (.cons (.var 1) (.cons (.op .sub (.cons (.var 2) (.cons (.lit (.int 1)) .nil))) .nil)))) (.cons (.call 33 (.cons (.var 0) (.cons (.var 1) (.cons (.op .sub (.cons (.var 2) (.cons (.lit (.int 1)) .nil))) .nil)))) .nil)))))
    .nil))
    .nil)
  (.cons (.ite (.and (.op .gt (.cons (.var 2) (.cons (.lit (.int 0)) .nil))) (.op .eq (.cons (.var 3) (.cons (.lit (.int 1)) .nil))))
    (.cons (.asg (.name 5) (.op .mkTup (.cons (.lit (.str "port")) (.cons (.op .ix (.cons (.var 1) (.cons (.call 3 (.cons (.var 0) (.cons (.op .len (.cons (.var 1) .nil)) .nil))) .nil))) .nil))))
    (.cons (.ret (.op .mkTup (.cons (.lit (.str "if")) (.cons (.op .mkTup (.cons (.lit (.str "=")) (.cons (.var 5) (.cons (.call 3 (.cons (.var 0) (.cons (.lit (.int 2)) .nil))) .nil)))) (.cons (.call 33 (.cons (.var 0) (.cons (.var 1) (.cons (.op .sub (.cons (.var 2) (.cons (.lit (.int 1)) .nil))) .nil)))) (.cons (.call 33 (.cons (.var 0) (.cons (.var 1) (.cons (.op .sub (.cons (.var 2) (.cons (.lit (.int 1)) .nil))) .nil)))) .nil))))))
    .nil))
    .nil)
  (.cons (.ite (.op .eq (.cons (.var 3) (.cons (.lit (.int 2)) .nil)))
    (.cons (.ret (.call 3 (.cons (.var 0) (.cons (.lit (.int 3)) .nil))))
    .nil)
    .nil)
  (.cons (.ret (.op .mkTup (.cons (.lit (.str "port")) (.cons (.op .ix (.cons (.var 1) (.cons (.call 3 (.cons (.var 0) (.cons (.op .len (.cons (.var 1) .nil)) .nil))) .nil))) .nil))))
  .nil)))))
def f__law_amount : Fn := ⟨3, 6, [], b__law_amount⟩
def e__law_amount : DefE := ⟨"_law_amount", top 28, ["draw", "ports", "deep", "pick", "word", "one"], ["draw", "ports", "deep"]⟩
def fns : List Fn := [f_law, f__law_row, f__law_device, f__law_pick, f__law_forms_told, f__law_kinds_told, f_is_seeing, f_is_seeings, f__law_all_modes, f_is_modes, f_is_parts, f__law_mixed, f__law_kind, f__law_grown, f__law_spoilt, f__law_like, f_is_amount, f__law_form, f_is_condition, f_is_kind, f__law_kind_form, f_is_library, f_is_device, f_is_rows, f_is_int, f__law_modes, f_part_names, f_modes_of, f_is_rising, f__law_cond, f__law_is_int, f_is_values, f_is_name, f__law_amount]
def defs : List DefE := [e_law, e__law_row, e__law_device, e__law_pick, e__law_forms_told, e__law_kinds_told, e_is_seeing, e_is_seeings, e__law_all_modes, e_is_modes, e_is_parts, e__law_mixed, e__law_kind, e__law_grown, e__law_spoilt, e__law_like, e_is_amount, e__law_form, e_is_condition, e_is_kind, e__law_kind_form, e_is_library, e_is_device, e_is_rows, e_is_int, e__law_modes, e_part_names, e_modes_of, e_is_rising, e__law_cond, e__law_is_int, e_is_values, e_is_name, e__law_amount]
def TB : Tab := ⟨[(("law" : Str), 0), (("_law_row" : Str), 1), (("_law_device" : Str), 2), (("_law_pick" : Str), 3), (("_law_forms_told" : Str), 4), (("_law_kinds_told" : Str), 5), (("is_seeing" : Str), 6), (("is_seeings" : Str), 7), (("_law_all_modes" : Str), 8), (("is_modes" : Str), 9), (("is_parts" : Str), 10), (("_law_mixed" : Str), 11), (("_law_kind" : Str), 12), (("_law_grown" : Str), 13), (("_law_spoilt" : Str), 14), (("_law_like" : Str), 15), (("is_amount" : Str), 16), (("_law_form" : Str), 17), (("is_condition" : Str), 18), (("is_kind" : Str), 19), (("_law_kind_form" : Str), 20), (("is_library" : Str), 21), (("is_device" : Str), 22), (("is_rows" : Str), 23), (("is_int" : Str), 24), (("_law_modes" : Str), 25), (("part_names" : Str), 26), (("modes_of" : Str), 27), (("is_rising" : Str), 28), (("_law_cond" : Str), 29), (("_law_is_int" : Str), 30), (("is_values" : Str), 31), (("is_name" : Str), 32), (("_law_amount" : Str), 33)], [(("MOST" : Str), 0), (("MOST_COST" : Str), 1), (("LETTERS" : Str), 2)], [(("WORDS" : Str), g_WORDS)]⟩
theorem k_law : chkBody TB fns ⟨e_law.N, defScope e_law.st, none⟩ 40 20 (defBody e_law.st) f_law.body = true := by decide +kernel
theorem k__law_row : chkBody TB fns ⟨e__law_row.N, defScope e__law_row.st, none⟩ 40 20 (defBody e__law_row.st) f__law_row.body = true := by decide +kernel
theorem k__law_device : chkBody TB fns ⟨e__law_device.N, defScope e__law_device.st, none⟩ 40 20 (defBody e__law_device.st) f__law_device.body = true := by decide +kernel
theorem k__law_pick : chkBody TB fns ⟨e__law_pick.N, defScope e__law_pick.st, none⟩ 40 20 (defBody e__law_pick.st) f__law_pick.body = true := by decide +kernel
theorem k__law_forms_told : chkBody TB fns ⟨e__law_forms_told.N, defScope e__law_forms_told.st, none⟩ 40 20 (defBody e__law_forms_told.st) f__law_forms_told.body = true := by decide +kernel
theorem k__law_kinds_told : chkBody TB fns ⟨e__law_kinds_told.N, defScope e__law_kinds_told.st, none⟩ 40 20 (defBody e__law_kinds_told.st) f__law_kinds_told.body = true := by decide +kernel
theorem k_is_seeing : chkBody TB fns ⟨e_is_seeing.N, defScope e_is_seeing.st, none⟩ 40 20 (defBody e_is_seeing.st) f_is_seeing.body = true := by decide +kernel
theorem k_is_seeings : chkBody TB fns ⟨e_is_seeings.N, defScope e_is_seeings.st, none⟩ 40 20 (defBody e_is_seeings.st) f_is_seeings.body = true := by decide +kernel
theorem k__law_all_modes : chkBody TB fns ⟨e__law_all_modes.N, defScope e__law_all_modes.st, none⟩ 40 20 (defBody e__law_all_modes.st) f__law_all_modes.body = true := by decide +kernel
theorem k_is_modes : chkBody TB fns ⟨e_is_modes.N, defScope e_is_modes.st, none⟩ 40 20 (defBody e_is_modes.st) f_is_modes.body = true := by decide +kernel
theorem k_is_parts : chkBody TB fns ⟨e_is_parts.N, defScope e_is_parts.st, none⟩ 40 20 (defBody e_is_parts.st) f_is_parts.body = true := by decide +kernel
theorem k__law_mixed : chkBody TB fns ⟨e__law_mixed.N, defScope e__law_mixed.st, none⟩ 40 20 (defBody e__law_mixed.st) f__law_mixed.body = true := by decide +kernel
theorem k__law_kind : chkBody TB fns ⟨e__law_kind.N, defScope e__law_kind.st, none⟩ 40 20 (defBody e__law_kind.st) f__law_kind.body = true := by decide +kernel
theorem k__law_grown : chkBody TB fns ⟨e__law_grown.N, defScope e__law_grown.st, none⟩ 40 20 (defBody e__law_grown.st) f__law_grown.body = true := by decide +kernel
theorem k__law_spoilt : chkBody TB fns ⟨e__law_spoilt.N, defScope e__law_spoilt.st, none⟩ 40 20 (defBody e__law_spoilt.st) f__law_spoilt.body = true := by decide +kernel
theorem k__law_like : chkBody TB fns ⟨e__law_like.N, defScope e__law_like.st, none⟩ 40 20 (defBody e__law_like.st) f__law_like.body = true := by decide +kernel
theorem k_is_amount : chkBody TB fns ⟨e_is_amount.N, defScope e_is_amount.st, none⟩ 40 20 (defBody e_is_amount.st) f_is_amount.body = true := by decide +kernel
theorem k__law_form : chkBody TB fns ⟨e__law_form.N, defScope e__law_form.st, none⟩ 40 20 (defBody e__law_form.st) f__law_form.body = true := by decide +kernel
theorem k_is_condition : chkBody TB fns ⟨e_is_condition.N, defScope e_is_condition.st, none⟩ 40 20 (defBody e_is_condition.st) f_is_condition.body = true := by decide +kernel
theorem k_is_kind : chkBody TB fns ⟨e_is_kind.N, defScope e_is_kind.st, none⟩ 40 20 (defBody e_is_kind.st) f_is_kind.body = true := by decide +kernel
theorem k__law_kind_form : chkBody TB fns ⟨e__law_kind_form.N, defScope e__law_kind_form.st, none⟩ 40 20 (defBody e__law_kind_form.st) f__law_kind_form.body = true := by decide +kernel
theorem k_is_library : chkBody TB fns ⟨e_is_library.N, defScope e_is_library.st, none⟩ 40 20 (defBody e_is_library.st) f_is_library.body = true := by decide +kernel
theorem k_is_device : chkBody TB fns ⟨e_is_device.N, defScope e_is_device.st, none⟩ 40 20 (defBody e_is_device.st) f_is_device.body = true := by decide +kernel
theorem k_is_rows : chkBody TB fns ⟨e_is_rows.N, defScope e_is_rows.st, none⟩ 40 20 (defBody e_is_rows.st) f_is_rows.body = true := by decide +kernel
theorem k_is_int : chkBody TB fns ⟨e_is_int.N, defScope e_is_int.st, none⟩ 40 20 (defBody e_is_int.st) f_is_int.body = true := by decide +kernel
theorem k__law_modes : chkBody TB fns ⟨e__law_modes.N, defScope e__law_modes.st, none⟩ 40 20 (defBody e__law_modes.st) f__law_modes.body = true := by decide +kernel
theorem k_part_names : chkBody TB fns ⟨e_part_names.N, defScope e_part_names.st, none⟩ 40 20 (defBody e_part_names.st) f_part_names.body = true := by decide +kernel
theorem k_modes_of : chkBody TB fns ⟨e_modes_of.N, defScope e_modes_of.st, none⟩ 40 20 (defBody e_modes_of.st) f_modes_of.body = true := by decide +kernel
theorem k_is_rising : chkBody TB fns ⟨e_is_rising.N, defScope e_is_rising.st, none⟩ 40 20 (defBody e_is_rising.st) f_is_rising.body = true := by decide +kernel
theorem k__law_cond : chkBody TB fns ⟨e__law_cond.N, defScope e__law_cond.st, none⟩ 40 20 (defBody e__law_cond.st) f__law_cond.body = true := by decide +kernel
theorem k__law_is_int : chkBody TB fns ⟨e__law_is_int.N, defScope e__law_is_int.st, none⟩ 40 20 (defBody e__law_is_int.st) f__law_is_int.body = true := by decide +kernel
theorem k_is_values : chkBody TB fns ⟨e_is_values.N, defScope e_is_values.st, none⟩ 40 20 (defBody e_is_values.st) f_is_values.body = true := by decide +kernel
theorem k_is_name : chkBody TB fns ⟨e_is_name.N, defScope e_is_name.st, none⟩ 40 20 (defBody e_is_name.st) f_is_name.body = true := by decide +kernel
theorem k__law_amount : chkBody TB fns ⟨e__law_amount.N, defScope e__law_amount.st, none⟩ 40 20 (defBody e__law_amount.st) f__law_amount.body = true := by decide +kernel
theorem prg : Prg TB fns defs := by
  refine prg_of rfl ?_ (by decide +kernel)
  exact (And.intro ⟨⟨rfl, rfl, rfl, by decide +kernel, rfl, by decide +kernel, by decide +kernel⟩, rfl, rfl, 40, 20, k_law⟩ (And.intro ⟨⟨rfl, rfl, rfl, by decide +kernel, rfl, by decide +kernel, by decide +kernel⟩, rfl, rfl, 40, 20, k__law_row⟩ (And.intro ⟨⟨rfl, rfl, rfl, by decide +kernel, rfl, by decide +kernel, by decide +kernel⟩, rfl, rfl, 40, 20, k__law_device⟩ (And.intro ⟨⟨rfl, rfl, rfl, by decide +kernel, rfl, by decide +kernel, by decide +kernel⟩, rfl, rfl, 40, 20, k__law_pick⟩ (And.intro ⟨⟨rfl, rfl, rfl, by decide +kernel, rfl, by decide +kernel, by decide +kernel⟩, rfl, rfl, 40, 20, k__law_forms_told⟩ (And.intro ⟨⟨rfl, rfl, rfl, by decide +kernel, rfl, by decide +kernel, by decide +kernel⟩, rfl, rfl, 40, 20, k__law_kinds_told⟩ (And.intro ⟨⟨rfl, rfl, rfl, by decide +kernel, rfl, by decide +kernel, by decide +kernel⟩, rfl, rfl, 40, 20, k_is_seeing⟩ (And.intro ⟨⟨rfl, rfl, rfl, by decide +kernel, rfl, by decide +kernel, by decide +kernel⟩, rfl, rfl, 40, 20, k_is_seeings⟩ (And.intro ⟨⟨rfl, rfl, rfl, by decide +kernel, rfl, by decide +kernel, by decide +kernel⟩, rfl, rfl, 40, 20, k__law_all_modes⟩ (And.intro ⟨⟨rfl, rfl, rfl, by decide +kernel, rfl, by decide +kernel, by decide +kernel⟩, rfl, rfl, 40, 20, k_is_modes⟩ (And.intro ⟨⟨rfl, rfl, rfl, by decide +kernel, rfl, by decide +kernel, by decide +kernel⟩, rfl, rfl, 40, 20, k_is_parts⟩ (And.intro ⟨⟨rfl, rfl, rfl, by decide +kernel, rfl, by decide +kernel, by decide +kernel⟩, rfl, rfl, 40, 20, k__law_mixed⟩ (And.intro ⟨⟨rfl, rfl, rfl, by decide +kernel, rfl, by decide +kernel, by decide +kernel⟩, rfl, rfl, 40, 20, k__law_kind⟩ (And.intro ⟨⟨rfl, rfl, rfl, by decide +kernel, rfl, by decide +kernel, by decide +kernel⟩, rfl, rfl, 40, 20, k__law_grown⟩ (And.intro ⟨⟨rfl, rfl, rfl, by decide +kernel, rfl, by decide +kernel, by decide +kernel⟩, rfl, rfl, 40, 20, k__law_spoilt⟩ (And.intro ⟨⟨rfl, rfl, rfl, by decide +kernel, rfl, by decide +kernel, by decide +kernel⟩, rfl, rfl, 40, 20, k__law_like⟩ (And.intro ⟨⟨rfl, rfl, rfl, by decide +kernel, rfl, by decide +kernel, by decide +kernel⟩, rfl, rfl, 40, 20, k_is_amount⟩ (And.intro ⟨⟨rfl, rfl, rfl, by decide +kernel, rfl, by decide +kernel, by decide +kernel⟩, rfl, rfl, 40, 20, k__law_form⟩ (And.intro ⟨⟨rfl, rfl, rfl, by decide +kernel, rfl, by decide +kernel, by decide +kernel⟩, rfl, rfl, 40, 20, k_is_condition⟩ (And.intro ⟨⟨rfl, rfl, rfl, by decide +kernel, rfl, by decide +kernel, by decide +kernel⟩, rfl, rfl, 40, 20, k_is_kind⟩ (And.intro ⟨⟨rfl, rfl, rfl, by decide +kernel, rfl, by decide +kernel, by decide +kernel⟩, rfl, rfl, 40, 20, k__law_kind_form⟩ (And.intro ⟨⟨rfl, rfl, rfl, by decide +kernel, rfl, by decide +kernel, by decide +kernel⟩, rfl, rfl, 40, 20, k_is_library⟩ (And.intro ⟨⟨rfl, rfl, rfl, by decide +kernel, rfl, by decide +kernel, by decide +kernel⟩, rfl, rfl, 40, 20, k_is_device⟩ (And.intro ⟨⟨rfl, rfl, rfl, by decide +kernel, rfl, by decide +kernel, by decide +kernel⟩, rfl, rfl, 40, 20, k_is_rows⟩ (And.intro ⟨⟨rfl, rfl, rfl, by decide +kernel, rfl, by decide +kernel, by decide +kernel⟩, rfl, rfl, 40, 20, k_is_int⟩ (And.intro ⟨⟨rfl, rfl, rfl, by decide +kernel, rfl, by decide +kernel, by decide +kernel⟩, rfl, rfl, 40, 20, k__law_modes⟩ (And.intro ⟨⟨rfl, rfl, rfl, by decide +kernel, rfl, by decide +kernel, by decide +kernel⟩, rfl, rfl, 40, 20, k_part_names⟩ (And.intro ⟨⟨rfl, rfl, rfl, by decide +kernel, rfl, by decide +kernel, by decide +kernel⟩, rfl, rfl, 40, 20, k_modes_of⟩ (And.intro ⟨⟨rfl, rfl, rfl, by decide +kernel, rfl, by decide +kernel, by decide +kernel⟩, rfl, rfl, 40, 20, k_is_rising⟩ (And.intro ⟨⟨rfl, rfl, rfl, by decide +kernel, rfl, by decide +kernel, by decide +kernel⟩, rfl, rfl, 40, 20, k__law_cond⟩ (And.intro ⟨⟨rfl, rfl, rfl, by decide +kernel, rfl, by decide +kernel, by decide +kernel⟩, rfl, rfl, 40, 20, k__law_is_int⟩ (And.intro ⟨⟨rfl, rfl, rfl, by decide +kernel, rfl, by decide +kernel, by decide +kernel⟩, rfl, rfl, 40, 20, k_is_values⟩ (And.intro ⟨⟨rfl, rfl, rfl, by decide +kernel, rfl, by decide +kernel, by decide +kernel⟩, rfl, rfl, 40, 20, k_is_name⟩ (And.intro ⟨⟨rfl, rfl, rfl, by decide +kernel, rfl, by decide +kernel, by decide +kernel⟩, rfl, rfl, 40, 20, k__law_amount⟩ True.intro))))))))))))))))))))))))))))))))))
end whatfailed_k52_whole_forms_spoilt

/-! Ev20: running a core text by simp. -/
namespace Ev
open PySem
section
variable {G : List D} {call : CallF} {env : EnvE} {h : HpE} {α β : Type}
@[simp] theorem bind_okS (a : α) (f : α → HpE → Res β) : Res.bind (.ok a h) f = f a h := rfl
@[simp] theorem bind_stuckS (f : α → HpE → Res β) : Res.bind (.stuck) f = .stuck := rfl
@[simp] theorem out_okS (a : α) (f : α → HpE → Out) : Res.out (.ok a h) f = f a h := rfl
@[simp] theorem ofO_some (a : α) : ofO (some a) h = .ok a h := rfl
@[simp] theorem ofO_none : ofO (none : Option α) h = .stuck := rfl
@[simp] theorem sel_t (t f s : α) : sel (some true) t f s = t := rfl
@[simp] theorem sel_f (t f s : α) : sel (some false) t f s = f := rfl
theorem sel_ite (b : Bool) (t f s : α) : sel (some b) t f s = if b = true then t else f := by cases b <;> rfl
@[simp] theorem slot_0 (d : D) (e : EnvE) : slot (some d :: e) 0 = some d := rfl
@[simp] theorem slot_s (o : Option D) (e : EnvE) (i : Nat) : slot (o :: e) (i + 1) = slot e i := by simp [slot]
@[simp] theorem evC_varS (i : Nat) : evC G call (.var i) env h = ofO (slot env i) h := by rw [evC]
@[simp] theorem evC_litS (d : D) : evC G call (.lit d) env h = .ok d h := by rw [evC]
@[simp] theorem evC_glbS (g : Nat) : evC G call (.glb g) env h = ofO G[g]? h := by rw [evC]
@[simp] theorem evC_opS (o : Op) (es : CL) : evC G call (.op o es) env h = (evL G call es env h).bind fun ds h => opEv o ds h := by rw [evC]
@[simp] theorem evC_andS (a b : C) : evC G call (.and a b) env h = (evC G call a env h).bind fun d h => sel (truth h d) (evC G call b env h) (.ok d h) .stuck := by rw [evC]
@[simp] theorem evC_orS (a b : C) : evC G call (.or a b) env h = (evC G call a env h).bind fun d h => sel (truth h d) (.ok d h) (evC G call b env h) .stuck := by rw [evC]
@[simp] theorem evC_iteS (c a b : C) : evC G call (.ite c a b) env h = (evC G call c env h).bind fun d h => sel (truth h d) (evC G call a env h) (evC G call b env h) .stuck := by rw [evC]
@[simp] theorem evC_chainS (o1 o2 : Op) (a b c : C) : evC G call (.chain o1 o2 a b c) env h = (evC G call a env h).bind fun x h => (evC G call b env h).bind fun y h => (opEv o1 [x, y] h).bind fun z h => sel (blOf z) ((evC G call c env h).bind fun w h => opEv o2 [y, w] h) (.ok z h) .stuck := by rw [evC]
@[simp] theorem evC_callS (f : Nat) (es : CL) : evC G call (.call f es) env h = (evL G call es env h).bind fun ds h => call f ds h := by rw [evC]
@[simp] theorem evC_mthS (o : Op) (r : C) (es : CL) : evC G call (.mth o r es) env h = (evC G call r env h).bind fun d h => if recvOk o (look h d) = true then (evL G call es env h).bind fun ds h => opEv o (d :: ds) h else .stuck := by rw [evC]
@[simp] theorem evL_nilS : evL G call .nil env h = .ok [] h := by rw [evL]
@[simp] theorem evL_consS (e : C) (es : CL) : evL G call (.cons e es) env h = (evC G call e env h).bind fun d h => (evL G call es env h).bind fun ds h => .ok (d :: ds) h := by rw [evL]
@[simp] theorem evIf_nilS : evIf G call .nil env h = .ok true h := by rw [evIf]
@[simp] theorem evIf_consS (c : C) (cs : CL) : evIf G call (.cons c cs) env h = (evC G call c env h).bind fun d h => sel (truth h d) (evIf G call cs env h) (.ok false h) .stuck := by rw [evIf]
@[simp] theorem exL_nilS : exL G call .nil env h = .nx env h := by rw [exL]
theorem exL_consS (s : S) (r : SL) : exL G call (.cons s r) env h = match exS G call s env h with | .nx env h => exL G call r env h | o => o := by rw [exL] <;> rfl
/-- a statement, then the rest -/
def Out.then (o : Out) (f : EnvE → HpE → Out) : Out := match o with
  | .nx env h => f env h
  | o => o
@[simp] theorem then_nx (f : EnvE → HpE → Out) : Out.then (.nx env h) f = f env h := rfl
@[simp] theorem then_ret (d : D) (f : EnvE → HpE → Out) : Out.then (.ret d h) f = .ret d h := rfl
@[simp] theorem then_brk (f : EnvE → HpE → Out) : Out.then (.brk env h) f = .brk env h := rfl
@[simp] theorem then_cnt (f : EnvE → HpE → Out) : Out.then (.cnt env h) f = .cnt env h := rfl
@[simp] theorem exL_consT (s : S) (r : SL) : exL G call (.cons s r) env h = (exS G call s env h).then fun env h => exL G call r env h := by rw [exL] <;> rfl
@[simp] theorem exS_exprS (e : C) : exS G call (.expr e) env h = (evC G call e env h).out fun _ h => .nx env h := by rw [exS]
@[simp] theorem exS_asgS (t : T) (e : C) : exS G call (.asg t e) env h = (evC G call e env h).out fun d h => (asgT G call t d env h).out fun env h => .nx env h := by rw [exS]
@[simp] theorem exS_retS (e : C) : exS G call (.ret e) env h = (evC G call e env h).out fun d h => .ret d h := by rw [exS]
@[simp] theorem exS_iteS (c : C) (a b : SL) : exS G call (.ite c a b) env h = (evC G call c env h).out fun d h => sel (truth h d) (exL G call a env h) (exL G call b env h) .stuck := by rw [exS]
@[simp] theorem exS_brkS : exS G call .brk env h = .brk env h := by rw [exS]
@[simp] theorem exS_cntS : exS G call .cnt env h = .cnt env h := by rw [exS]
@[simp] theorem exS_passS : exS G call .pass env h = .nx env h := by rw [exS]
theorem exS_forS (t : NT) (k : IK) (it : CL) (body : SL) : exS G call (.for t k it body) env h = (evL G call it env h).out fun ds h => (ofO (items k (ds.map (look h))) h).out fun xs h =>
    forL ds (ds.map (look h)) (fun x env h => (ofO (asgNT t x env) h).out fun env' h => exL G call body env' h) xs env h := by rw [exS]
theorem evC_compS (own : List Nat) (t : NT) (k : IK) (it ifs : CL) (e : C) : evC G call (.comp own t k it ifs e) env h = (evL G call it env h).bind fun ds h => (ofO (items k (ds.map (look h))) h).bind fun xs h =>
    (compL ds (ds.map (look h)) (fun x h => (ofO (asgNT t x (wipeE env own)) h).bind fun env' h => (evIf G call ifs env' h).bind fun b h => if b = true then (evC G call e env' h).bind fun d h => .ok (some d) h else .ok none h) xs h []).bind fun ys h => .ok (.lst ys) h := by rw [evC]
@[simp] theorem asgT_nameS (i : Nat) (d : D) : asgT G call (.name i) d env h = if i < env.length then .ok (env.set i (some d)) h else .stuck := by rw [asgT]
@[simp] theorem asgT_tupS (ts : List T) (ds : List D) : asgT G call (.tup ts) (.tup ds) env h = if ts.length = ds.length then asgTs G call ts ds env h else .stuck := by rw [asgT]
@[simp] theorem asgT_subS (o i : C) (d : D) : asgT G call (.sub o i) d env h = (evC G call o env h).bind fun od h => (evC G call i env h).bind fun id h => (opEv .setIx [od, id, d] h).bind fun _ h => .ok env h := by rw [asgT]
@[simp] theorem asgTs_nilS : asgTs G call [] [] env h = .ok env h := by rw [asgTs]
@[simp] theorem asgTs_consS (t : T) (ts : List T) (d : D) (ds : List D) : asgTs G call (t :: ts) (d :: ds) env h = (asgT G call t d env h).bind fun env h => asgTs G call ts ds env h := by rw [asgTs]
@[simp] theorem asgNT_nameS (i : Nat) (d : D) : asgNT (.name i) d env = if i < env.length then some (env.set i (some d)) else none := by rw [asgNT]
@[simp] theorem asgNT_tupS (ts : List NT) (ds : List D) : asgNT (.tup ts) (.tup ds) env = if ts.length = ds.length then asgNTs ts ds env else none := by rw [asgNT]
@[simp] theorem asgNTs_nilS : asgNTs [] [] env = some env := by rw [asgNTs]
@[simp] theorem asgNTs_consS (t : NT) (ts : List NT) (d : D) (ds : List D) : asgNTs (t :: ts) (d :: ds) env = match asgNT t d env with | some env' => asgNTs ts ds env' | none => none := by rw [asgNTs] <;> rfl
@[simp] theorem wipeE_nil : wipeE env [] = env := rfl
@[simp] theorem wipeE_cons (v : Nat) (vs : List Nat) : wipeE env (v :: vs) = (wipeE env vs).set v none := rfl
/-! what may be read -/
@[simp] theorem look_non : look h .non = .non := rfl
@[simp] theorem look_bl (b : Bool) : look h (.bl b) = .bl b := rfl
@[simp] theorem look_intS (i : Int) : look h (.int i) = .int i := rfl
@[simp] theorem look_str (x : Str) : look h (.str x) = .str x := rfl
@[simp] theorem look_tup (x : List D) : look h (.tup x) = .tup x := rfl
@[simp] theorem look_lst (x : List D) : look h (.lst x) = .lst x := rfl
@[simp] theorem look_dct (x : List (D × D)) : look h (.dct x) = .dct x := rfl
@[simp] theorem look_scr (x : List Int) : look h (.scr x) = .scr x := rfl
@[simp] theorem truth_bl (b : Bool) : truth h (.bl b) = some b := rfl
@[simp] theorem truth_non : truth h .non = some false := rfl
@[simp] theorem truth_int (i : Int) : truth h (.int i) = some (i != 0) := rfl
@[simp] theorem truth_tup (x : List D) : truth h (.tup x) = some (!x.isEmpty) := rfl
@[simp] theorem truth_lst (x : List D) : truth h (.lst x) = some (!x.isEmpty) := rfl
@[simp] theorem blOf_bl (b : Bool) : blOf (.bl b) = some b := rfl
/-! operators -/
def rs (o : Option D) (h : HpE) : Res D := match o with
  | some d => .ok d h
  | none => .stuck
@[simp] theorem rs_some (d : D) : rs (some d) h = .ok d h := rfl
theorem opEv_pure (o : Op) (ds : List D) (hm : isMut o = false) (h1 : o ≠ .mkTup) (h2 : o ≠ .mkLst) (h3 : o ≠ .not) : opEv o ds h = rs (opP o (ds.map (look h))) h := by
  unfold opEv
  rw [hm]
  simp only [Bool.false_eq_true, if_false]
  cases o <;> first | rfl | contradiction
variable (a b c : D)
@[simp] theorem op_not : opEv .not [a] h = sel (truth h a) (.ok (.bl false) h) (.ok (.bl true) h) .stuck := by
  unfold opEv
  rw [if_neg (by decide)]
  show (match truth h a with | some b => Res.ok (D.bl (!b)) h | none => Res.stuck) = _
  rcases truth h a with _ | _ | _ <;> rfl
@[simp] theorem op_mkTup (ds : List D) : opEv .mkTup ds h = if ds.length ≤ sz then .ok (.tup ds) h else .stuck := by
  unfold opEv
  simp only [isMut, Bool.false_eq_true, if_false, opP]
  split <;> split at * <;> simp_all
@[simp] theorem op_mkLst (ds : List D) : opEv .mkLst ds h = if ds.length ≤ sz then .ok (.lst ds) h else .stuck := by
  unfold opEv
  simp only [isMut, Bool.false_eq_true, if_false, opP]
  split <;> split at * <;> simp_all
@[simp] theorem op_newL (ds : List D) : opEv .newL ds h = if ds.length ≤ sz then .ok (.ref h.length) (h ++ [.lst ds]) else .stuck := by
  show (match (if ds.length ≤ sz then some (D.ref h.length, h ++ [Cell.lst ds]) else none) with | some (d, h') => Res.ok d h' | none => .stuck) = _
  by_cases q : ds.length ≤ sz
  · rw [if_pos q, if_pos q]
  · rw [if_neg q, if_neg q]
@[simp] theorem op_addS : opEv .add [a, b] h = rs (oAdd (look h a) (look h b)) h := rfl
@[simp] theorem op_subS : opEv .sub [a, b] h = rs (oInt (fun _ _ => true) (fun i j => i - j) (look h a) (look h b)) h := rfl
@[simp] theorem op_mulS : opEv .mul [a, b] h = rs (oInt (fun i j => decide (big i ∨ big j)) (fun i j => i * j) (look h a) (look h b)) h := rfl
theorem op_fdivS : opEv .fdiv [a, b] h = rs (oInt (fun _ j => decide (j ≠ 0 ∧ j.natAbs < 1073741824)) (fun i j => i.fdiv j) (look h a) (look h b)) h := rfl
theorem op_modS : opEv .mod [a, b] h = rs (oInt (fun _ j => decide (j ≠ 0)) (fun i j => i.fmod j) (look h a) (look h b)) h := rfl
@[simp] theorem op_powS : opEv .pow [a, b] h = rs (oInt (fun i j => decide (0 ≤ j ∧ j ≤ 1000000 ∧ i.natAbs < 2 ^ 64)) (fun i j => i ^ j.toNat) (look h a) (look h b)) h := rfl
@[simp] theorem op_negS : opEv .neg [a] h = rs (match look h a with | .int i => some (.int (-i)) | _ => none) h := rfl
@[simp] theorem op_eqS : opEv .eq [a, b] h = rs (oEq false (look h a) (look h b)) h := rfl
@[simp] theorem op_neS : opEv .ne [a, b] h = rs (oEq true (look h a) (look h b)) h := rfl
@[simp] theorem op_ltS : opEv .lt [a, b] h = rs (oLt (look h a) (look h b)) h := rfl
@[simp] theorem op_leS : opEv .le [a, b] h = rs (oCmp (fun i j => decide (i ≤ j)) (look h a) (look h b)) h := rfl
@[simp] theorem op_gtS : opEv .gt [a, b] h = rs (oCmp (fun i j => decide (j < i)) (look h a) (look h b)) h := rfl
@[simp] theorem op_geS : opEv .ge [a, b] h = rs (oCmp (fun i j => decide (j ≤ i)) (look h a) (look h b)) h := rfl
@[simp] theorem op_innS : opEv .inn [a, b] h = rs (oIn false (look h a) (look h b)) h := rfl
@[simp] theorem op_notInS : opEv .notIn [a, b] h = rs (oIn true (look h a) (look h b)) h := rfl
@[simp] theorem op_inGS (n : Bool) (ds : List D) : opEv (.inG n ds) [a] h = rs (oIn n (look h a) (.tup ds)) h := rfl
@[simp] theorem op_isNS : opEv .isN [a] h = .ok (.bl (decide (look h a = .non))) h := rfl
@[simp] theorem op_notNS : opEv .notN [a] h = .ok (.bl (!decide (look h a = .non))) h := rfl
@[simp] theorem op_isBS (k : Bool) : opEv (.isB k) [a] h = rs (match look h a with | .bl b => some (.bl (decide (b = k))) | _ => none) h := rfl
@[simp] theorem op_notBS (k : Bool) : opEv (.notB k) [a] h = rs (match look h a with | .bl b => some (.bl (!decide (b = k))) | _ => none) h := rfl
@[simp] theorem op_lenS : opEv .len [a] h = rs (oLen (look h a)) h := rfl
@[simp] theorem op_isiS (t : Ty) : opEv (.isi t) [a] h = rs (oIsi t (look h a)) h := rfl
@[simp] theorem op_allS : opEv .all [a] h = rs (oAll (look h a)) h := rfl
@[simp] theorem op_anyS : opEv .any [a] h = rs (oAny (look h a)) h := rfl
@[simp] theorem op_tupleOfS : opEv .tupleOf [a] h = rs (oTuple (look h a)) h := rfl
@[simp] theorem op_listOfS : opEv .listOf [a] h = rs (oList (look h a)) h := rfl
@[simp] theorem op_dictOfS : opEv .dictOf [a] h = rs (oDict (look h a)) h := rfl
@[simp] theorem op_sortedSetS : opEv .sortedSet [a] h = rs (oSortedSet (look h a)) h := rfl
@[simp] theorem op_intOfS : opEv .intOf [a] h = rs (oIntOf (look h a)) h := rfl
@[simp] theorem op_strOfS : opEv .strOf [a] h = rs (oStrOf (look h a)) h := rfl
@[simp] theorem op_ixS : opEv .ix [a, b] h = rs (oIx (look h a) (look h b)) h := rfl
@[simp] theorem op_sl2S : opEv .sl2 [a, b, c] h = rs ((intV (look h b)).bind fun i => (intV (look h c)).bind fun j => oSl (look h a) (some i) (some j)) h := rfl
@[simp] theorem op_slLS : opEv .slL [a, b] h = rs ((intV (look h b)).bind fun i => oSl (look h a) (some i) none) h := rfl
@[simp] theorem op_slHS : opEv .slH [a, b] h = rs ((intV (look h b)).bind fun j => oSl (look h a) none (some j)) h := rfl
@[simp] theorem op_sl0S : opEv .sl0 [a] h = rs (oSl (look h a) none none) h := rfl
@[simp] theorem op_revS : opEv .rev [a] h = rs (oRev (look h a)) h := rfl
def rm (o : Option (D × HpE)) : Res D := match o with
  | some (d, h) => .ok d h
  | none => .stuck
@[simp] theorem rm_some (d : D) (h : HpE) : rm (some (d, h)) = .ok d h := rfl
@[simp] theorem op_appendS (ds : List D) : opEv .append ds h = rm (mAppend ds h) := rfl
@[simp] theorem op_extendS (ds : List D) : opEv .extend ds h = rm (mExtend ds h) := rfl
@[simp] theorem op_popS (ds : List D) : opEv .pop ds h = rm (mPop ds h) := rfl
@[simp] theorem op_popAtS (ds : List D) : opEv .popAt ds h = rm (mPopAt ds h) := rfl
@[simp] theorem op_setIxS (ds : List D) : opEv .setIx ds h = rm (mSet ds h) := rfl
@[simp] theorem intV_int (i : Int) : intV (.int i) = some i := rfl
end
/-! ### walks -/
@[simp] theorem items_plain (d : D) : items .plain [d] = asIter d := rfl
@[simp] theorem asIter_tup (xs : List D) : asIter (.tup xs) = some xs := rfl
@[simp] theorem asIter_lst (xs : List D) : asIter (.lst xs) = some xs := rfl
theorem compL_pure {src h0 : List D} {f : D → HpE → Res (Option D)} {h : HpE} (g : D → Option D) (hh : src.map (look h) = h0) : ∀ {xs acc : List D}, (∀ x ∈ xs, f x h = .ok (g x) h) → (acc ++ xs.filterMap g).length ≤ sz →
    compL src h0 f xs h acc = .ok (acc ++ xs.filterMap g) h
  | [], acc, _, hz => by
    rw [compL]
    simp only [List.filterMap_nil, List.append_nil] at hz ⊢
    rw [if_pos hz]
  | x :: xs, acc, hf, hz => by
    rw [compL, hf x List.mem_cons_self]
    have IH := fun acc => compL_pure (src := src) (h0 := h0) (f := f) (h := h) g hh (xs := xs) (acc := acc) fun y hy => hf y (List.mem_cons_of_mem _ hy)
    rw [List.filterMap_cons] at hz ⊢
    cases q : g x with
    | none =>
      rw [q] at hz
      simp only [hh, if_true]
      exact IH acc hz
    | some y =>
      rw [q] at hz
      simp only [hh, if_true]
      have := IH (acc ++ [y]) (by simpa using hz)
      simpa using this
/-- a comprehension without tests over data, its element a function of the item -/
theorem comp_map {G : List D} {call : CallF} {env : EnvE} {h : HpE} {own : List Nat} {t : NT} {k : IK} {it : CL} {e : C} {ds xs : List D} (g : D → D) (env' : D → EnvE) (h1 : evL G call it env h = .ok ds h) (h2 : items k (ds.map (look h)) = some xs) (hz : xs.length ≤ sz)
    (ha : ∀ x ∈ xs, asgNT t x (wipeE env own) = some (env' x)) (he : ∀ x ∈ xs, evC G call e (env' x) h = .ok (g x) h) : evC G call (.comp own t k it .nil e) env h = .ok (.lst (xs.map g)) h := by
  rw [evC_compS, h1]
  simp only [bind_okS, h2, ofO_some]
  rw [compL_pure (fun x => some (g x)) rfl (xs := xs) (acc := []) (fun x hx => ?_) (by simpa using hz)]
  · simp
  · simp only [ha x hx, ofO_some, bind_okS, evIf_nilS, if_true, he x hx]
/-! ### calls -/
@[simp] theorem fin_same (d : D) (h : HpE) : fin h.length d h = .ok d h := by unfold fin; rw [if_pos (Nat.le_refl _)]
def endC (n0 : Nat) (o : Out) : Res D := match o with
  | .nx _ h' => fin n0 .non h'
  | .ret d h' => fin n0 d h'
  | _ => .stuck
@[simp] theorem endC_ret (n0 : Nat) (d : D) (h : HpE) : endC n0 (.ret d h) = fin n0 d h := rfl
@[simp] theorem endC_nx (n0 : Nat) (e : EnvE) (h : HpE) : endC n0 (.nx e h) = fin n0 .non h := rfl
theorem call_run {G : List D} {fns : List Fn} {n f : Nat} {fn : Fn} {ds : List D} {h : HpE} (hf : fns[f]? = some fn) (hl : ds.length = fn.np) :
    callF G fns (n + 1) f ds h = endC h.length (exL G (callF G fns n) fn.body (ds.map some ++ List.replicate (fn.ns - fn.np) none) h) := by
  show callBody G fns (callF G fns n) f ds h = _
  unfold callBody
  rw [hf]
  simp only [hl, Nat.sub_self, Nat.sub_zero, List.drop_length, List.append_nil, Nat.le_refl, and_self, if_true]
  rfl
theorem call_at {G : List D} {fns : List Fn} {m f : Nat} {fn : Fn} {ds : List D} {h : HpE} (hm : 0 < m) (hf : fns[f]? = some fn) (hl : ds.length = fn.np) :
    callF G fns m f ds h = endC h.length (exL G (callF G fns (m - 1)) fn.body (ds.map some ++ List.replicate (fn.ns - fn.np) none) h) := by
  obtain ⟨n, rfl⟩ : ∃ n, m = n + 1 := ⟨m - 1, by omega⟩
  exact call_run hf hl
theorem call_run1 {G : List D} {fns : List Fn} {n f : Nat} {fn : Fn} {ds : List D} {d : D} {h : HpE} (hf : fns[f]? = some fn) (hl : ds.length + 1 = fn.np) (hd : fn.dfl = [d]) :
    callF G fns (n + 1) f ds h = callF G fns (n + 1) f (ds ++ [d]) h := by
  show callBody G fns (callF G fns n) f ds h = callBody G fns (callF G fns n) f (ds ++ [d]) h
  unfold callBody
  rw [hf]
  simp only
  have e1 : fn.np - ds.length = 1 := by omega
  have e2 : (ds ++ [d]).length = fn.np := by simpa using hl
  rw [e1, hd, e2]
  simp [hl, e2]
  intro q
  omega
end Ev

/-! Ev21: data without places; words. -/
namespace Ev
open PySem
@[simp] theorem ty_ib : (Ty.int == Ty.bool) = false := rfl
@[simp] theorem ty_is : (Ty.int == Ty.str) = false := rfl
@[simp] theorem ty_it : (Ty.int == Ty.tuple) = false := rfl
@[simp] theorem ty_il : (Ty.int == Ty.list) = false := rfl
@[simp] theorem ty_bi : (Ty.bool == Ty.int) = false := rfl
@[simp] theorem ty_bs : (Ty.bool == Ty.str) = false := rfl
@[simp] theorem ty_bt : (Ty.bool == Ty.tuple) = false := rfl
@[simp] theorem ty_bL : (Ty.bool == Ty.list) = false := rfl
@[simp] theorem ty_si : (Ty.str == Ty.int) = false := rfl
@[simp] theorem ty_sb : (Ty.str == Ty.bool) = false := rfl
@[simp] theorem ty_st : (Ty.str == Ty.tuple) = false := rfl
@[simp] theorem ty_sl : (Ty.str == Ty.list) = false := rfl
@[simp] theorem ty_ti : (Ty.tuple == Ty.int) = false := rfl
@[simp] theorem ty_tb : (Ty.tuple == Ty.bool) = false := rfl
@[simp] theorem ty_ts : (Ty.tuple == Ty.str) = false := rfl
@[simp] theorem ty_tl : (Ty.tuple == Ty.list) = false := rfl
@[simp] theorem ty_li : (Ty.list == Ty.int) = false := rfl
@[simp] theorem ty_lb : (Ty.list == Ty.bool) = false := rfl
@[simp] theorem ty_ls : (Ty.list == Ty.str) = false := rfl
@[simp] theorem ty_lt : (Ty.list == Ty.tuple) = false := rfl
@[simp] theorem isi_non (t : Ty) : oIsi t .non = some (.bl false) := rfl
@[simp] theorem isi_bl (t : Ty) (b : Bool) : oIsi t (.bl b) = some (.bl (t == .int || t == .bool)) := rfl
@[simp] theorem isi_int (t : Ty) (b : Int) : oIsi t (.int b) = some (.bl (t == .int)) := rfl
@[simp] theorem isi_str (t : Ty) (b : Str) : oIsi t (.str b) = some (.bl (t == .str)) := rfl
@[simp] theorem isi_tup (t : Ty) (b : List D) : oIsi t (.tup b) = some (.bl (t == .tuple)) := rfl
@[simp] theorem isi_lst (t : Ty) (b : List D) : oIsi t (.lst b) = some (.bl (t == .list)) := rfl
@[simp] theorem len_tup (b : List D) : oLen (.tup b) = some (.int b.length) := rfl
@[simp] theorem len_lst (b : List D) : oLen (.lst b) = some (.int b.length) := rfl
@[simp] theorem len_scr (b : List Int) : oLen (.scr b) = some (.int b.length) := rfl
@[simp] theorem oCmp_int (f : Int → Int → Bool) (i j : Int) : oCmp f (.int i) (.int j) = some (.bl (f i j)) := rfl
@[simp] theorem oLt_int (i j : Int) : oLt (.int i) (.int j) = some (.bl (decide (i < j))) := rfl
@[simp] theorem oLt_str (i j : Str) : oLt (.str i) (.str j) = some (.bl (ltStr i j)) := rfl
@[simp] theorem oAdd_int (i j : Int) : oAdd (.int i) (.int j) = some (.int (i + j)) := rfl
@[simp] theorem oAdd_tup (i j : List D) : oAdd (.tup i) (.tup j) = if i.length + j.length ≤ sz then some (.tup (i ++ j)) else none := rfl
@[simp] theorem oAdd_lst (i j : List D) : oAdd (.lst i) (.lst j) = if i.length + j.length ≤ sz then some (.lst (i ++ j)) else none := rfl
@[simp] theorem oInt_int (C : Int → Int → Bool) (f : Int → Int → Int) (i j : Int) : oInt C f (.int i) (.int j) = if C i j = true then some (.int (f i j)) else none := rfl
@[simp] theorem oIntOf_int (i : Int) : oIntOf (.int i) = some (.int i) := rfl
@[simp] theorem oTuple_lst (xs : List D) : oTuple (.lst xs) = some (.tup xs) := rfl
@[simp] theorem oTuple_tup (xs : List D) : oTuple (.tup xs) = some (.tup xs) := rfl
@[simp] theorem oList_lst (xs : List D) : oList (.lst xs) = some (.lst xs) := rfl
@[simp] theorem oList_tup (xs : List D) : oList (.tup xs) = some (.lst xs) := rfl
@[simp] theorem oIx_tup (xs : List D) (i : Int) : oIx (.tup xs) (.int i) = (ixN xs.length i).bind fun j => xs[j]? := rfl
@[simp] theorem oIx_lst (xs : List D) (i : Int) : oIx (.lst xs) (.int i) = (ixN xs.length i).bind fun j => xs[j]? := rfl
@[simp] theorem oIx_scr (xs : List Int) (i : Int) : oIx (.scr xs) (.int i) = (ixN xs.length i).bind fun j => xs[j]?.map .int := rfl
theorem op_fdiv_ok {i j : Int} {h : HpE} (h1 : j ≠ 0) (h2 : j.natAbs < 1073741824) : opEv .fdiv [.int i, .int j] h = .ok (.int (i.fdiv j)) h := by
  rw [op_fdivS]
  show rs (if decide (j ≠ 0 ∧ j.natAbs < 1073741824) = true then _ else none) h = _
  rw [if_pos (decide_eq_true ⟨h1, h2⟩)]
  rfl
theorem op_mod_ok {i j : Int} {h : HpE} (h1 : j ≠ 0) : opEv .mod [.int i, .int j] h = .ok (.int (i.fmod j)) h := by
  rw [op_modS]
  show rs (if decide (j ≠ 0) = true then _ else none) h = _
  rw [if_pos (decide_eq_true h1)]
  rfl
theorem ixN_nat {n : Nat} {k : Nat} (h : k < n) : ixN n (k : Int) = some k := by
  unfold ixN
  rw [if_pos (by omega), if_pos (by omega)]
  simp
theorem ixN_of {n : Nat} {i : Int} (h0 : 0 ≤ i) (h : i < n) : ixN n i = some i.toNat := by
  unfold ixN
  rw [if_pos h0, if_pos h]
@[simp] theorem ixN_0 (n : Nat) : ixN (n + 1) 0 = some 0 := ixN_of (by omega) (by omega)
@[simp] theorem ixN_1 (n : Nat) : ixN (n + 1 + 1) 1 = some 1 := ixN_of (by omega) (by omega)
@[simp] theorem ixN_2 (n : Nat) : ixN (n + 1 + 1 + 1) 2 = some 2 := ixN_of (by omega) (by omega)
@[simp] theorem ixN_3 (n : Nat) : ixN (n + 1 + 1 + 1 + 1) 3 = some 3 := ixN_of (by omega) (by omega)
/-- data: no place, no dict, texts that are texts -/
def Dat (d : D) : Prop := (dep d).isSome = true
def DatL (ds : List D) : Prop := (depL ds).isSome = true
theorem Dat.look {d : D} (h : Dat d) (hp : HpE) : look hp d = d := by
  cases d <;> first | rfl | (unfold Dat at h; simp [dep] at h)
@[simp] theorem dat_int (i : Int) : Dat (.int i) := by simp [Dat, dep]
@[simp] theorem dat_non : Dat .non := by simp [Dat, dep]
@[simp] theorem dat_bl (b : Bool) : Dat (.bl b) := by simp [Dat, dep]
theorem dat_str {x : Str} : Dat (.str x) ↔ PyData.strOk x = true := by
  unfold Dat; rw [dep]
  split <;> simp_all
@[simp] theorem dat_tup {ds : List D} : Dat (.tup ds) ↔ DatL ds := by unfold Dat DatL; rw [dep]; simp
@[simp] theorem dat_lst {ds : List D} : Dat (.lst ds) ↔ DatL ds := by unfold Dat DatL; rw [dep]; simp
@[simp] theorem datL_nil : DatL [] := by simp [DatL, depL]
@[simp] theorem datL_cons {d : D} {ds : List D} : DatL (d :: ds) ↔ Dat d ∧ DatL ds := by
  unfold DatL Dat; rw [depL]
  cases dep d <;> cases depL ds <;> simp
@[simp] theorem dat_ref {n : Nat} : ¬ Dat (.ref n) := by simp [Dat, dep]
@[simp] theorem dat_dct {n} : ¬ Dat (.dct n) := by simp [Dat, dep]
@[simp] theorem dat_exc {n} : ¬ Dat (.exc n) := by simp [Dat, dep]
@[simp] theorem dat_scr {n} : ¬ Dat (.scr n) := by simp [Dat, dep]
theorem DatL.mem : ∀ {ds : List D}, DatL ds → ∀ d ∈ ds, Dat d
  | _ :: _, h, d, hd => by
    rw [datL_cons] at h
    rcases List.mem_cons.mp hd with rfl | hd
    · exact h.1
    · exact h.2.mem d hd
theorem datL_of {ds : List D} (h : ∀ d ∈ ds, Dat d) : DatL ds := by
  induction ds with
  | nil => simp
  | cons x xs ih => rw [datL_cons]; exact ⟨h x List.mem_cons_self, ih fun d hd => h d (List.mem_cons_of_mem _ hd)⟩
theorem flat_str {x : Str} (h : PyData.strOk x = true) : flat64 (.str x) = true := by simp [flat64, dep, h]
@[simp] theorem flat_int (i : Int) : flat64 (.int i) = true := by simp [flat64, dep]
@[simp] theorem flat_bl (i : Bool) : flat64 (.bl i) = true := by simp [flat64, dep]
@[simp] theorem flat_non : flat64 .non = true := by simp [flat64, dep]
theorem oEq_of {a b : D} (ha : flat64 a = true) (hb : flat64 b = true) (n : Bool) : oEq n a b = some (.bl (if n then !eqv a b else eqv a b)) := by
  unfold oEq; rw [if_pos ⟨ha, hb⟩]
@[simp] theorem oEq_int (n : Bool) (i j : Int) : oEq n (.int i) (.int j) = some (.bl (if n then !(i == j) else i == j)) := by
  rw [oEq_of (by simp) (by simp)]; simp [eqv]
theorem oEq_str {x y : Str} (n : Bool) (hx : PyData.strOk x = true) (hy : PyData.strOk y = true) : oEq n (.str x) (.str y) = some (.bl (if n then !(x == y) else x == y)) := by
  rw [oEq_of (flat_str hx) (flat_str hy)]; simp [eqv]
/-- a text among texts -/
theorem memD_strs (x : Str) : ∀ xs : List Str, memD (.str x) (xs.map .str) = xs.any fun y => y == x
  | [] => rfl
  | y :: ys => by
    have := memD_strs x ys
    unfold memD at this ⊢
    rw [List.map_cons, List.any_cons, this, List.any_cons]
    simp [eqv]
theorem flat_strs {xs : List Str} (h : ∀ x ∈ xs, PyData.strOk x = true) : (xs.map D.str).all flat64 = true := by
  rw [List.all_eq_true]
  intro d hd
  obtain ⟨x, hx, rfl⟩ := List.mem_map.mp hd
  exact flat_str (h x hx)
theorem oIn_strs {x : Str} {xs : List Str} (n : Bool) (hx : PyData.strOk x = true) (h : ∀ x ∈ xs, PyData.strOk x = true) : oIn n (.str x) (.tup (xs.map .str)) = some (.bl (if n then !(xs.any fun y => y == x) else xs.any fun y => y == x)) := by
  show (if flat64 (.str x) = true ∧ (xs.map D.str).all flat64 = true then some (D.bl (if n then !memD (.str x) (xs.map .str) else memD (.str x) (xs.map .str))) else none) = _
  rw [if_pos ⟨flat_str hx, flat_strs h⟩, memD_strs]
theorem oIn_strsL {x : Str} {xs : List Str} (n : Bool) (hx : PyData.strOk x = true) (h : ∀ x ∈ xs, PyData.strOk x = true) : oIn n (.str x) (.lst (xs.map .str)) = some (.bl (if n then !(xs.any fun y => y == x) else xs.any fun y => y == x)) := by
  show (if flat64 (.str x) = true ∧ (xs.map D.str).all flat64 = true then some (D.bl (if n then !memD (.str x) (xs.map .str) else memD (.str x) (xs.map .str))) else none) = _
  rw [if_pos ⟨flat_str hx, flat_strs h⟩, memD_strs]
theorem bls_map {α : Type} (f : α → Bool) : ∀ xs : List α, bls? (xs.map fun x => D.bl (f x)) = some (xs.map f)
  | [] => rfl
  | x :: xs => by rw [List.map_cons, bls?, bls_map f xs]; rfl
theorem oAll_map {α : Type} (f : α → Bool) (xs : List α) : oAll (.lst (xs.map fun x => D.bl (f x))) = some (.bl (xs.all f)) := by
  show (bls? _).map _ = _
  rw [bls_map]
  simp
theorem oAny_map {α : Type} (f : α → Bool) (xs : List α) : oAny (.lst (xs.map fun x => D.bl (f x))) = some (.bl (xs.any f)) := by
  show (bls? _).map _ = _
  rw [bls_map]
  simp
theorem str_eq {a b : Str} : a = b ↔ a.cps.toList = b.cps.toList := ⟨fun h => h ▸ rfl, fun h => by
  cases a; cases b
  simp only [Str.mk.injEq] at h ⊢
  exact Array.toList_inj.mp h⟩
end Ev
namespace Ev
open PySem
theorem ofString_inj {a b : String} : Str.ofString a = Str.ofString b ↔ a = b := ⟨fun h => by
  have h1 := str_eq.mp h
  have key : ∀ s : String, (Str.ofString s).cps.toList = s.toList.map Char.toNat := fun s => by
    rw [Str.ofString_eq_toList]
  rw [key, key] at h1
  have inj : ∀ l m : List Char, l.map Char.toNat = m.map Char.toNat → l = m := by
    intro l
    induction l with
    | nil => intro m h; cases m <;> simp at h; rfl
    | cons x l ih =>
      intro m h
      cases m with
      | nil => simp at h
      | cons y m =>
        simp only [List.map_cons, List.cons.injEq] at h
        rw [ih m h.2]
        have : x = y := by
          apply Char.ext
          exact UInt32.toNat_inj.mp h.1
        rw [this]
  have := inj _ _ h1
  exact String.ext this, fun h => h ▸ rfl⟩
@[simp] theorem ofString_eq {a b : String} : (Str.ofString a = Str.ofString b) = (a = b) := propext ofString_inj
@[simp] theorem ofString_beq {a b : String} : (Str.ofString a == Str.ofString b) = (a == b) := by
  rw [Bool.eq_iff_iff]; simp
example : (("if" : Str) == ("port" : Str)) = false := by simp
end Ev

/-! Ev22: loops, ends of calls that made places. -/
namespace Ev
open PySem
theorem forL_ex {src h0 : List D} {f : D → EnvE → HpE → Out} (I : List D → EnvE → HpE → Prop) (step : ∀ x r env h, I (x :: r) env h → ∃ env' h', (f x env h = .nx env' h' ∨ f x env h = .cnt env' h') ∧ src.map (look h') = h0 ∧ I r env' h') :
    ∀ (xs : List D) (env : EnvE) (h : HpE), I xs env h → ∃ env' h', forL src h0 f xs env h = .nx env' h' ∧ I [] env' h'
  | [], env, h, hi => ⟨env, h, by rw [forL], hi⟩
  | x :: xs, env, h, hi => by
    obtain ⟨env', h', e, hs, hi'⟩ := step x xs env h hi
    obtain ⟨env2, h2, e2, hi2⟩ := forL_ex I step xs env' h' hi'
    refine ⟨env2, h2, ?_, hi2⟩
    rw [forL]
    rcases e with e | e <;> (rw [e]; simp only [hs, if_true]; exact e2)
/-- .. or a return on the way -/
theorem forL_ex2 {src h0 : List D} {f : D → EnvE → HpE → Out} (I : List D → EnvE → HpE → Prop) (Rt : D → HpE → Prop) (step : ∀ x r env h, I (x :: r) env h → (∃ env' h', (f x env h = .nx env' h' ∨ f x env h = .cnt env' h') ∧ src.map (look h') = h0 ∧ I r env' h') ∨ ∃ d h', f x env h = .ret d h' ∧ Rt d h') :
    ∀ (xs : List D) (env : EnvE) (h : HpE), I xs env h → (∃ env' h', forL src h0 f xs env h = .nx env' h' ∧ I [] env' h') ∨ ∃ d h', forL src h0 f xs env h = .ret d h' ∧ Rt d h'
  | [], env, h, hi => .inl ⟨env, h, by rw [forL], hi⟩
  | x :: xs, env, h, hi => by
    rcases step x xs env h hi with ⟨env', h', e, hs, hi'⟩ | ⟨d, h', e, hr⟩
    · have key : forL src h0 f (x :: xs) env h = forL src h0 f xs env' h' := by
        rw [forL]
        rcases e with e | e <;> (rw [e]; simp only [hs, if_true])
      rcases forL_ex2 I Rt step xs env' h' hi' with ⟨env2, h2, e2, hi2⟩ | ⟨d, h2, e2, hr⟩
      · exact .inl ⟨env2, h2, key.trans e2, hi2⟩
      · exact .inr ⟨d, h2, key.trans e2, hr⟩
    · refine .inr ⟨d, h', ?_, hr⟩
      rw [forL, e]
/-! ### data without places -/
mutual
theorem below_mono {n m : Nat} (h : n ≤ m) : ∀ {d : D}, below n d = true → below m d = true
  | .ref k, e => by rw [below] at e ⊢; exact decide_eq_true (Nat.lt_of_lt_of_le (of_decide_eq_true e) h)
  | .tup ds, e => by rw [below] at e ⊢; exact belowL_mono h e
  | .lst ds, e => by rw [below] at e ⊢; exact belowL_mono h e
  | .dct kvs, e => by rw [below] at e ⊢; exact belowP_mono h e
  | .non, _ | .bl _, _ | .int _, _ | .str _, _ | .exc _, _ | .scr _, _ => by rw [below] <;> (intros; contradiction)
theorem belowL_mono {n m : Nat} (h : n ≤ m) : ∀ {ds : List D}, belowL n ds = true → belowL m ds = true
  | [], _ => by rw [belowL]
  | d :: ds, e => by
    rw [belowL, Bool.and_eq_true] at e ⊢
    exact ⟨below_mono h e.1, belowL_mono h e.2⟩
theorem belowP_mono {n m : Nat} (h : n ≤ m) : ∀ {ds : List (D × D)}, belowP n ds = true → belowP m ds = true
  | [], _ => by rw [belowP]
  | (k, d) :: ds, e => by
    rw [belowP, Bool.and_eq_true, Bool.and_eq_true] at e ⊢
    exact ⟨⟨below_mono h e.1.1, below_mono h e.1.2⟩, belowP_mono h e.2⟩
end
theorem cellBelow_mono {n m : Nat} (h : n ≤ m) {c : Cell} (e : cellBelow n c = true) : cellBelow m c = true := by
  cases c with
  | lst ds => exact belowL_mono h e
  | dct ds => exact belowP_mono h e
  | ins c fs =>
    show fs.all _ = true
    have e : (fs.all fun p => below n p.2) = true := e
    rw [List.all_eq_true] at e ⊢
    exact fun p hp => below_mono h (e p hp)
mutual
theorem frzW_cl {f : Nat → Option D} : ∀ {d : D}, below 0 d = true → frzW f d = some d
  | .ref k, e => by rw [below] at e; simp at e
  | .tup ds, e => by rw [below] at e; rw [frzW, frzL_cl e]; rfl
  | .lst ds, e => by rw [below] at e; rw [frzW, frzL_cl e]; rfl
  | .dct kvs, e => by rw [below] at e; rw [frzW, frzP_cl e]; rfl
  | .non, _ | .bl _, _ | .int _, _ | .str _, _ | .exc _, _ | .scr _, _ => by rw [frzW] <;> (intros; contradiction)
theorem frzL_cl {f : Nat → Option D} : ∀ {ds : List D}, belowL 0 ds = true → frzL f ds = some ds
  | [], _ => by rw [frzL]
  | d :: ds, e => by
    rw [belowL, Bool.and_eq_true] at e
    rw [frzL, frzW_cl e.1, frzL_cl e.2]
theorem frzP_cl {f : Nat → Option D} : ∀ {ds : List (D × D)}, belowP 0 ds = true → frzP f ds = some ds
  | [], _ => by rw [frzP]
  | (k, d) :: ds, e => by
    rw [belowP, Bool.and_eq_true, Bool.and_eq_true] at e
    rw [frzP, frzW_cl e.1.1, frzW_cl e.1.2, frzP_cl e.2]
end
theorem frz_cl {n0 : Nat} {h : HpE} {d : D} (e : below 0 d = true) : ∀ k, frz n0 h k d = some d
  | 0 => frzW_cl e
  | k + 1 => frzW_cl e
/-- places without places in them -/
def Cl (h : HpE) : Prop := ∀ c ∈ h, cellBelow 0 c = true
theorem Cl.app {h : HpE} {c : Cell} (e : Cl h) (hc : cellBelow 0 c = true) : Cl (h ++ [c]) := fun x hx => by
  rcases List.mem_append.mp hx with hx | hx
  · exact e x hx
  · rw [List.mem_singleton] at hx; subst hx; exact hc
theorem Cl.set {h : HpE} {c : Cell} {i : Nat} (e : Cl h) (hc : cellBelow 0 c = true) : Cl (h.set i c) := fun x hx => by
  rcases List.mem_or_eq_of_mem_set hx with hx | hx
  · exact e x hx
  · subst hx; exact hc
theorem fin_cl {n0 : Nat} {d : D} {h t : HpE} (hl : h.length = n0) (hc : Cl h) (hd : below 0 d = true) : fin n0 d (h ++ t) = .ok d h := by
  unfold fin
  have ht : (h ++ t).take n0 = h := by rw [← hl]; simp
  split
  · rename_i q
    rw [List.length_append] at q
    have : t = [] := List.length_eq_zero_iff.mp (by omega)
    rw [this, List.append_nil]
  · rw [ht, if_pos (by rw [List.all_eq_true]; exact fun c hc' => cellBelow_mono (Nat.zero_le _) (hc c hc')), frz_cl hd]
/-- a list made in the call is handed out -/
theorem fin_ref {n0 : Nat} {h t : HpE} {xs : List D} (hl : h.length = n0) (hc : Cl h) (hd : belowL 0 xs = true) : fin n0 (.ref n0) (h ++ .lst xs :: t) = .ok (.lst xs) h := by
  unfold fin
  have ht : (h ++ .lst xs :: t).take n0 = h := by rw [← hl]; simp
  rw [if_neg (by rw [List.length_append, List.length_cons]; omega), ht, if_pos (by rw [List.all_eq_true]; exact fun c hc' => cellBelow_mono (Nat.zero_le _) (hc c hc'))]
  have e : frz n0 (h ++ .lst xs :: t) 4 (.ref n0) = some (.lst xs) := by
    show frzW _ _ = _
    rw [frzW, if_neg (Nat.lt_irrefl _)]
    have : (h ++ Cell.lst xs :: t)[n0]? = some (.lst xs) := by rw [← hl]; simp
    rw [this]
    simp only [frzL_cl hd, Option.map_some]
  rw [e]
@[simp] theorem below_int (n : Nat) (i : Int) : below n (.int i) = true := by rw [below] <;> (intros; contradiction)
@[simp] theorem below_bl (n : Nat) (i : Bool) : below n (.bl i) = true := by rw [below] <;> (intros; contradiction)
@[simp] theorem below_str (n : Nat) (i : Str) : below n (.str i) = true := by rw [below] <;> (intros; contradiction)
@[simp] theorem below_non (n : Nat) : below n .non = true := by rw [below] <;> (intros; contradiction)
@[simp] theorem below_tup (n : Nat) (ds : List D) : below n (.tup ds) = belowL n ds := by rw [below]
@[simp] theorem below_lst (n : Nat) (ds : List D) : below n (.lst ds) = belowL n ds := by rw [below]
@[simp] theorem belowL_nil (n : Nat) : belowL n [] = true := by rw [belowL]
@[simp] theorem belowL_cons (n : Nat) (d : D) (ds : List D) : belowL n (d :: ds) = (below n d && belowL n ds) := by rw [belowL]
theorem belowL_all {n : Nat} : ∀ {ds : List D}, belowL n ds = true ↔ ∀ d ∈ ds, below n d = true
  | [] => by simp
  | d :: ds => by rw [belowL_cons, Bool.and_eq_true, belowL_all]; simp
mutual
theorem Dat.below {n : Nat} : ∀ {d : D}, Dat d → below n d = true
  | .non, _ | .bl _, _ | .int _, _ | .str _, _ => by simp
  | .tup ds, h => by rw [dat_tup] at h; rw [below_tup]; exact DatL.below h
  | .lst ds, h => by rw [dat_lst] at h; rw [below_lst]; exact DatL.below h
  | .dct _, h | .ref _, h | .exc _, h | .scr _, h => by simp at h
theorem DatL.below {n : Nat} : ∀ {ds : List D}, DatL ds → belowL n ds = true
  | [], _ => by simp
  | d :: ds, h => by
    rw [datL_cons] at h
    rw [belowL_cons, Dat.below h.1, DatL.below h.2]; rfl
end
end Ev
namespace Ev
open PySem
/-- a loop that looks at each thing and leaves with False -/
theorem forL_all {src h0 : List D} {f : D → EnvE → HpE → Out} {h : HpE} (q : D → Bool) (E : EnvE → Prop) (hs : src.map (look h) = h0) : ∀ {xs : List D} {env : EnvE}, (∀ x ∈ xs, ∀ env, E env → (q x = true → ∃ env', f x env h = .nx env' h ∧ E env') ∧ (q x = false → f x env h = .ret (.bl false) h)) → E env →
    (xs.all q = true → ∃ env', forL src h0 f xs env h = .nx env' h ∧ E env') ∧ (xs.all q = false → forL src h0 f xs env h = .ret (.bl false) h)
  | [], env, _, he => ⟨fun _ => ⟨env, by rw [forL], he⟩, fun z => by simp at z⟩
  | x :: xs, env, hf, he => by
    obtain ⟨h1, h2⟩ := hf x List.mem_cons_self env he
    rw [List.all_cons]
    cases hq : q x
    · refine ⟨fun z => by simp at z, fun _ => ?_⟩
      rw [forL, h2 hq]
    · obtain ⟨env', e1, he'⟩ := h1 hq
      have IH := forL_all (src := src) (h0 := h0) (f := f) (h := h) q E hs (xs := xs) (env := env') (fun y hy => hf y (List.mem_cons_of_mem _ hy)) he'
      have key : forL src h0 f (x :: xs) env h = forL src h0 f xs env' h := by
        rw [forL, e1]; simp only [hs, if_true]
      rw [key, Bool.true_and]
      exact IH
end Ev
namespace Ev
open PySem
theorem for_range {G : List D} {call : CallF} {t : NT} {it : CL} {body : SL} {env : EnvE} {h h' : HpE} {n : Int} (ev : evL G call it env h = .ok [.int n] h') (hs : smallI n) :
    exS G call (.for t .range it body) env h = forL [.int n] [.int n] (fun x env h => (ofO (asgNT t x env) h).out fun env' h => exL G call body env' h) (rangeL 0 n) env h' := by
  rw [exS_forS, ev]
  have : items .range [D.int n] = some (rangeL 0 n) := by
    show (if smallI n then some (rangeL 0 n) else none) = _
    rw [if_pos hs]
  simp [this]
end Ev

namespace whatfailed_k52_whole_forms_spoilt
open PySem Ev
def isIntD : D → Bool
  | .int _ => true
  | _ => false
theorem is_int_ok (n : Nat) (h : HpE) {v : D} (hv : Dat v) : callF GG fns (n + 1) 24 [v] h = .ok (.bl (isIntD v)) h := by
  rw [call_run (fn := f_is_int) rfl rfl]
  simp only [f_is_int, b_is_int]
  cases v <;> simp [isIntD] <;> simp at hv
def w5 : List Str := ["+", "-", "*", "least", "most"]
mutual
def fA (P : Str → Bool) : Nat → D → Bool
  | 0, _ => false
  | d + 1, .int i => decide (-99 ≤ i) && decide (i ≤ 99)
  | d + 1, .tup [.str w, p] => (w == "port") && (match p with | .str p => P p | _ => false)
  | d + 1, .tup [.str w, a, b] => (w5.any fun x => x == w) && fA P d a && fA P d b
  | d + 1, .tup [.str w, c, a, b] => (w == "if") && fC P d c && fA P d a && fA P d b
  | _, _ => false
def fC (P : Str → Bool) : Nat → D → Bool
  | 0, _ => false
  | d + 1, .tup [.str w] => w == "yes"
  | d + 1, .tup [.str w, a] => (w == "not") && fC P d a
  | d + 1, .tup [.str w, a, b] => if w == "<" || w == "=" then fA P d a && fA P d b else if w == "and" || w == "or" then fC P d a && fC P d b else false
  | _, _ => false
end
structure PrtOk (ports : D) (P : Str → Bool) : Prop where
  ref : ∀ h, look h ports = ports
  inn : ∀ p, PyData.strOk p = true → oIn false (.str p) ports = some (.bl (P p))
theorem sk_port : PyData.strOk "port" = true := by decide +kernel
theorem sk_if : PyData.strOk "if" = true := by decide +kernel
theorem ok5 : ∀ x ∈ w5, PyData.strOk x = true := by decide +kernel
theorem e5 : ([.str "+", .str "-", .str "*", .str "least", .str "most"] : List D) = w5.map .str := rfl
theorem np5 : (w5.any fun x => x == ("port" : Str)) = false := by decide +kernel
theorem ni5 : (w5.any fun x => x == ("if" : Str)) = false := by decide +kernel
theorem pif : (("port" : Str) == ("if" : Str)) = false := by decide +kernel
theorem ifp : (("if" : Str) == ("port" : Str)) = false := by decide +kernel
theorem sz5 : 5 ≤ sz := by decide
theorem amt_ok (d n : Nat) (h : HpE) {v ports : D} {P : Str → Bool} (hp : PrtOk ports P) (hv : Dat v)
    (iA : ∀ v, Dat v → callF GG fns (n + 1) 16 [v, ports, .int d] h = .ok (.bl (fA P d v)) h) (iC : ∀ v, Dat v → callF GG fns (n + 1) 18 [v, ports, .int d] h = .ok (.bl (fC P d v)) h) :
    callF GG fns (n + 2) 16 [v, ports, .int (d + 1 : Nat)] h = .ok (.bl (fA P (d + 1) v)) h := by
  rw [call_run (fn := f_is_amount) rfl rfl]
  simp only [f_is_amount, b_is_amount]
  have hd : ((d : Int) + 1 == 0) = false := by simp; omega
  have hd2 : ((d : Int) + 1 - 1) = d := by omega
  simp [hd, hd2, is_int_ok n h hv]
  cases v with
  | int i =>
    simp [isIntD, fA, GG, sel_ite]
    by_cases q : -99 ≤ i <;> simp [q]
  | tup ds =>
    simp [isIntD]
    match ds, hv with
    | [], _ => simp [fA]
    | [x], hv => simp [fA]
    | [x, y], hv =>
      simp at hv
      obtain ⟨h1, h2⟩ := hv
      cases x with
      | str w =>
        rw [dat_str] at h1
        by_cases w1 : w = ("port" : Str)
        · subst w1
          cases y with
          | str p => rw [dat_str] at h2; simp [oEq_str, sk_port, fA, hp.ref, hp.inn p h2]
          | _ => simp [oEq_str, sk_port, fA] <;> simp at h2
        · have w1 : (w == ("port" : Str)) = false := by simpa using w1
          by_cases w2 : w = ("if" : Str)
          · subst w2; simp [oEq_str, sk_port, sk_if, fA, ifp]
          · have w2 : (w == ("if" : Str)) = false := by simpa using w2
            simp [oEq_str, h1, sk_port, sk_if, w1, w2, fA, e5, oIn_strs true h1 ok5, sz5]
            cases hw : (w5.any fun x => x == w) <;> simp
      | _ => simp [fA] <;> simp at h1
    | [x, y, z], hv =>
      simp at hv
      obtain ⟨h1, h2, h3⟩ := hv
      cases x with
      | str w =>
        rw [dat_str] at h1
        by_cases w1 : w = ("port" : Str)
        · subst w1; simp [oEq_str, sk_port, fA, np5]
        · have w1 : (w == ("port" : Str)) = false := by simpa using w1
          by_cases w2 : w = ("if" : Str)
          · subst w2; simp [oEq_str, sk_port, sk_if, fA, ifp, ni5]
          · have w2 : (w == ("if" : Str)) = false := by simpa using w2
            simp [oEq_str, h1, sk_port, sk_if, w1, w2, fA, e5, oIn_strs true h1 ok5, sz5, iA y h2, iA z h3, hd2]
            cases hw : (w5.any fun x => x == w) <;> simp [iA y h2, iA z h3, hd2]
            cases fA P d y <;> simp [iA z h3, hd2]
      | _ => simp [fA] <;> simp at h1
    | [x, y, z, t], hv =>
      simp at hv
      obtain ⟨h1, h2, h3, h4⟩ := hv
      cases x with
      | str w =>
        rw [dat_str] at h1
        by_cases w1 : w = ("port" : Str)
        · subst w1; simp [oEq_str, sk_port, fA, pif]
        · have w1 : (w == ("port" : Str)) = false := by simpa using w1
          by_cases w2 : w = ("if" : Str)
          · subst w2
            simp [oEq_str, sk_port, sk_if, fA, ifp, iC y h2, iA z h3, iA t h4, hd2]
            cases fC P d y <;> simp [iA z h3, iA t h4, hd2]
            cases fA P d z <;> simp [iA t h4, hd2]
          · have w2 : (w == ("if" : Str)) = false := by simpa using w2
            simp [oEq_str, h1, sk_port, sk_if, w1, w2, fA, e5, oIn_strs true h1 ok5, sz5]
            cases hw : (w5.any fun x => x == w) <;> simp
      | _ => simp [fA] <;> simp at h1
    | x :: y :: z :: t :: u :: r, hv =>
      simp at hv
      obtain ⟨h1, h2⟩ := hv
      have l2 : ¬ ((r.length : Int) + 1 + 1 + 1 + 1 + 1 < 2) := by omega
      have l3 : ¬ ((r.length : Int) + 1 + 1 + 1 + 1 + 1 = 2) := by omega
      have l4 : ¬ ((r.length : Int) + 1 + 1 + 1 + 1 + 1 = 4) := by omega
      have l5 : ¬ ((r.length : Int) + 1 + 1 + 1 + 1 + 1 = 3) := by omega
      have l6 : ((r.length : Int) + 1 + 1 + 1 + 1 + 1 == 2) = false := by simpa using l3
      have l7 : ((r.length : Int) + 1 + 1 + 1 + 1 + 1 == 4) = false := by simpa using l4
      have l8 : ((r.length : Int) + 1 + 1 + 1 + 1 + 1 == 3) = false := by simpa using l5
      cases x with
      | str w =>
        rw [dat_str] at h1
        by_cases w1 : w = ("port" : Str)
        · subst w1; simp [oEq_str, sk_port, l2, fA, l6]
        · have w1 : (w == ("port" : Str)) = false := by simpa using w1
          by_cases w2 : w = ("if" : Str)
          · subst w2; simp [oEq_str, sk_port, sk_if, l2, fA, ifp, l7]
          · have w2 : (w == ("if" : Str)) = false := by simpa using w2
            simp [oEq_str, h1, sk_port, sk_if, l2, w1, w2, fA, e5, oIn_strs true h1 ok5, sz5, l8]
            cases hw : (w5.any fun x => x == w) <;> simp
      | _ => simp [fA, l2] <;> simp at h1
  | str x => simp [isIntD, fA]
  | non => simp [isIntD, fA]
  | bl b => simp [isIntD, fA]
  | lst _ => simp [isIntD, fA]
  | _ => simp at hv
/-- the words of conditions -/
theorem cwords (w : Str) : w = ("yes" : Str) ∨ w = ("<" : Str) ∨ w = ("=" : Str) ∨ w = ("and" : Str) ∨ w = ("or" : Str) ∨ w = ("not" : Str) ∨
    ((w == ("yes" : Str)) = false ∧ (w == ("<" : Str)) = false ∧ (w == ("=" : Str)) = false ∧ (w == ("and" : Str)) = false ∧ (w == ("or" : Str)) = false ∧ (w == ("not" : Str)) = false) := by
  by_cases h1 : w = ("yes" : Str) <;> by_cases h2 : w = ("<" : Str) <;> by_cases h3 : w = ("=" : Str) <;> by_cases h4 : w = ("and" : Str) <;> by_cases h5 : w = ("or" : Str) <;> by_cases h6 : w = ("not" : Str) <;> simp_all
def wlt : List Str := ["<", "="]
def wao : List Str := ["and", "or"]
theorem elt : ([.str "<", .str "="] : List D) = wlt.map .str := rfl
theorem eao : ([.str "and", .str "or"] : List D) = wao.map .str := rfl
theorem oklt : ∀ x ∈ wlt, PyData.strOk x = true := by decide +kernel
theorem okao : ∀ x ∈ wao, PyData.strOk x = true := by decide +kernel
theorem sk_yes : PyData.strOk "yes" = true := by decide +kernel
theorem sk_not : PyData.strOk "not" = true := by decide +kernel
theorem sk_lt : PyData.strOk "<" = true := by decide +kernel
theorem sk_e : PyData.strOk "=" = true := by decide +kernel
theorem sk_and : PyData.strOk "and" = true := by decide +kernel
theorem sk_or : PyData.strOk "or" = true := by decide +kernel
theorem sz2 : 2 ≤ sz := by decide
theorem alt (w : Str) : (wlt.any fun y => y == w) = (w == ("<" : Str) || w == ("=" : Str)) := by
  simp [wlt, Bool.beq_comm (a := w)]
theorem aao (w : Str) : (wao.any fun y => y == w) = (w == ("and" : Str) || w == ("or" : Str)) := by
  simp [wao, Bool.beq_comm (a := w)]
theorem in_lt {w : Str} (h : PyData.strOk w = true) : oIn false (.str w) (.tup [.str "<", .str "="]) = some (.bl (w == ("<" : Str) || w == ("=" : Str))) := by
  rw [elt, oIn_strs false h oklt, alt]; rfl
theorem in_ao {w : Str} (h : PyData.strOk w = true) : oIn false (.str w) (.tup [.str "and", .str "or"]) = some (.bl (w == ("and" : Str) || w == ("or" : Str))) := by
  rw [eao, oIn_strs false h okao, aao]; rfl
theorem cond_ok (d n : Nat) (h : HpE) {v ports : D} {P : Str → Bool} (hp : PrtOk ports P) (hv : Dat v)
    (iA : ∀ v, Dat v → callF GG fns (n + 1) 16 [v, ports, .int d] h = .ok (.bl (fA P d v)) h) (iC : ∀ v, Dat v → callF GG fns (n + 1) 18 [v, ports, .int d] h = .ok (.bl (fC P d v)) h) :
    callF GG fns (n + 2) 18 [v, ports, .int (d + 1 : Nat)] h = .ok (.bl (fC P (d + 1) v)) h := by
  rw [call_run (fn := f_is_condition) rfl rfl]
  simp only [f_is_condition, b_is_condition]
  have hd : ((d : Int) + 1 == 0) = false := by simp; omega
  have hd2 : ((d : Int) + 1 - 1) = d := by omega
  cases v with
  | tup ds =>
    match ds, hv with
    | [], _ => simp [hd, fC]
    | x :: r, hv =>
      simp at hv
      obtain ⟨h1, hr⟩ := hv
      cases x with
      | str w =>
        rw [dat_str] at h1
        match r, hr with
        | [], _ =>
          rcases cwords w with rfl | rfl | rfl | rfl | rfl | rfl | ⟨w1, w2, w3, w4, w5, w6⟩
          · simp [hd, hd2, fC, oEq_str, in_lt, in_ao, sz2, sk_yes, sk_not, sk_lt, sk_e, sk_and, sk_or]
          · simp [hd, hd2, fC, oEq_str, in_lt, in_ao, sz2, sk_yes, sk_not, sk_lt, sk_e, sk_and, sk_or]
          · simp [hd, hd2, fC, oEq_str, in_lt, in_ao, sz2, sk_yes, sk_not, sk_lt, sk_e, sk_and, sk_or]
          · simp [hd, hd2, fC, oEq_str, in_lt, in_ao, sz2, sk_yes, sk_not, sk_lt, sk_e, sk_and, sk_or]
          · simp [hd, hd2, fC, oEq_str, in_lt, in_ao, sz2, sk_yes, sk_not, sk_lt, sk_e, sk_and, sk_or]
          · simp [hd, hd2, fC, oEq_str, in_lt, in_ao, sz2, sk_yes, sk_not, sk_lt, sk_e, sk_and, sk_or]
          · simp [hd, hd2, fC, oEq_str, in_lt, in_ao, sz2, sk_yes, sk_not, sk_lt, sk_e, sk_and, sk_or, h1, w1, w2, w3, w4, w5, w6]
        | [y], hr =>
          simp at hr
          rcases cwords w with rfl | rfl | rfl | rfl | rfl | rfl | ⟨w1, w2, w3, w4, w5, w6⟩
          · simp [hd, hd2, fC, oEq_str, in_lt, in_ao, sz2, sk_yes, sk_not, sk_lt, sk_e, sk_and, sk_or, iC y hr]
          · simp [hd, hd2, fC, oEq_str, in_lt, in_ao, sz2, sk_yes, sk_not, sk_lt, sk_e, sk_and, sk_or, iC y hr]
          · simp [hd, hd2, fC, oEq_str, in_lt, in_ao, sz2, sk_yes, sk_not, sk_lt, sk_e, sk_and, sk_or, iC y hr]
          · simp [hd, hd2, fC, oEq_str, in_lt, in_ao, sz2, sk_yes, sk_not, sk_lt, sk_e, sk_and, sk_or, iC y hr]
          · simp [hd, hd2, fC, oEq_str, in_lt, in_ao, sz2, sk_yes, sk_not, sk_lt, sk_e, sk_and, sk_or, iC y hr]
          · simp [hd, hd2, fC, oEq_str, in_lt, in_ao, sz2, sk_yes, sk_not, sk_lt, sk_e, sk_and, sk_or, iC y hr]
          · simp [hd, hd2, fC, oEq_str, in_lt, in_ao, sz2, sk_yes, sk_not, sk_lt, sk_e, sk_and, sk_or, iC y hr, h1, w1, w2, w3, w4, w5, w6]
        | [y, z], hr =>
          simp at hr
          rcases cwords w with rfl | rfl | rfl | rfl | rfl | rfl | ⟨w1, w2, w3, w4, w5, w6⟩
          · simp [hd, hd2, fC, oEq_str, in_lt, in_ao, sz2, sk_yes, sk_not, sk_lt, sk_e, sk_and, sk_or, iA y hr.1, iA z hr.2, iC y hr.1, iC z hr.2]
          · simp [hd, hd2, fC, oEq_str, in_lt, in_ao, sz2, sk_yes, sk_not, sk_lt, sk_e, sk_and, sk_or, iA y hr.1, iA z hr.2, iC y hr.1, iC z hr.2]; cases fA P d y <;> simp [iA z hr.2, hd2]
          · simp [hd, hd2, fC, oEq_str, in_lt, in_ao, sz2, sk_yes, sk_not, sk_lt, sk_e, sk_and, sk_or, iA y hr.1, iA z hr.2, iC y hr.1, iC z hr.2]; cases fA P d y <;> simp [iA z hr.2, hd2]
          · simp [hd, hd2, fC, oEq_str, in_lt, in_ao, sz2, sk_yes, sk_not, sk_lt, sk_e, sk_and, sk_or, iA y hr.1, iA z hr.2, iC y hr.1, iC z hr.2]; cases fC P d y <;> simp [iC z hr.2, hd2]
          · simp [hd, hd2, fC, oEq_str, in_lt, in_ao, sz2, sk_yes, sk_not, sk_lt, sk_e, sk_and, sk_or, iA y hr.1, iA z hr.2, iC y hr.1, iC z hr.2]; cases fC P d y <;> simp [iC z hr.2, hd2]
          · simp [hd, hd2, fC, oEq_str, in_lt, in_ao, sz2, sk_yes, sk_not, sk_lt, sk_e, sk_and, sk_or, iA y hr.1, iA z hr.2, iC y hr.1, iC z hr.2]
          · simp [hd, hd2, fC, oEq_str, in_lt, in_ao, sz2, sk_yes, sk_not, sk_lt, sk_e, sk_and, sk_or, iA y hr.1, iA z hr.2, iC y hr.1, iC z hr.2, h1, w1, w2, w3, w4, w5, w6]
        | y :: z :: u :: r, hr =>
          have l1 : ((r.length : Int) + 1 + 1 + 1 + 1 == 1) = false := by simp; omega
          have l2 : ((r.length : Int) + 1 + 1 + 1 + 1 == 2) = false := by simp; omega
          have l3 : ((r.length : Int) + 1 + 1 + 1 + 1 == 3) = false := by simp; omega
          rcases cwords w with rfl | rfl | rfl | rfl | rfl | rfl | ⟨w1, w2, w3, w4, w5, w6⟩
          · simp [hd, hd2, fC, oEq_str, in_lt, in_ao, sz2, sk_yes, sk_not, sk_lt, sk_e, sk_and, sk_or, l1, l2, l3]
          · simp [hd, hd2, fC, oEq_str, in_lt, in_ao, sz2, sk_yes, sk_not, sk_lt, sk_e, sk_and, sk_or, l1, l2, l3]
          · simp [hd, hd2, fC, oEq_str, in_lt, in_ao, sz2, sk_yes, sk_not, sk_lt, sk_e, sk_and, sk_or, l1, l2, l3]
          · simp [hd, hd2, fC, oEq_str, in_lt, in_ao, sz2, sk_yes, sk_not, sk_lt, sk_e, sk_and, sk_or, l1, l2, l3]
          · simp [hd, hd2, fC, oEq_str, in_lt, in_ao, sz2, sk_yes, sk_not, sk_lt, sk_e, sk_and, sk_or, l1, l2, l3]
          · simp [hd, hd2, fC, oEq_str, in_lt, in_ao, sz2, sk_yes, sk_not, sk_lt, sk_e, sk_and, sk_or, l1, l2, l3]
          · simp [hd, hd2, fC, oEq_str, in_lt, in_ao, sz2, sk_yes, sk_not, sk_lt, sk_e, sk_and, sk_or, l1, l2, l3, h1, w1, w2, w3, w4, w5, w6]
      | _ => simp [fC, hd] <;> simp at h1
  | lst _ => simp [hd, fC]
  | str x => simp [hd, fC]
  | non => simp [hd, fC]
  | bl b => simp [hd, fC]
  | int _ => simp [hd, fC]
  | _ => simp at hv
end whatfailed_k52_whole_forms_spoilt

namespace whatfailed_k52_whole_forms_spoilt
open PySem Ev
theorem amt_cond {ports : D} {P : Str → Bool} (hp : PrtOk ports P) : ∀ (d n : Nat) (h : HpE) (v : D), Dat v → callF GG fns (n + d + 2) 16 [v, ports, .int d] h = .ok (.bl (fA P d v)) h ∧ callF GG fns (n + d + 2) 18 [v, ports, .int d] h = .ok (.bl (fC P d v)) h
  | 0, n, h, v, hv => by
    constructor
    · rw [call_run (fn := f_is_amount) rfl rfl]
      simp [f_is_amount, b_is_amount, fA]
    · rw [call_run (fn := f_is_condition) rfl rfl]
      simp [f_is_condition, b_is_condition, fC]
  | d + 1, n, h, v, hv => by
    have IH := amt_cond hp d
    exact ⟨amt_ok d (n + d + 1) h hp hv (fun v hv => (IH n h v hv).1) (fun v hv => (IH n h v hv).2), cond_ok d (n + d + 1) h hp hv (fun v hv => (IH n h v hv).1) (fun v hv => (IH n h v hv).2)⟩
theorem lis_int_ok (n : Nat) (h : HpE) {v : D} (hv : Dat v) : callF GG fns (n + 1) 30 [v] h = .ok (.bl (isIntD v)) h := by
  rw [call_run (fn := f__law_is_int) rfl rfl]
  simp only [f__law_is_int, b__law_is_int]
  cases v <;> simp [isIntD] <;> simp at hv
theorem sk_am : PyData.strOk "amount" = true := by decide +kernel
theorem sk_co : PyData.strOk "cond" = true := by decide +kernel
theorem in_5 {w : Str} (h : PyData.strOk w = true) : oIn false (.str w) (.tup [.str "+", .str "-", .str "*", .str "least", .str "most"]) = some (.bl (w5.any fun y => y == w)) := by
  rw [e5, oIn_strs false h ok5]; rfl
theorem sl1 (x : D) (r : List D) : oSl (.tup (x :: r)) (some 1) none = some (.tup r) := by
  simp [oSl, cut, sIx, List.take_of_length_le]
theorem sl2 (x y : D) (r : List D) : oSl (.tup (x :: y :: r)) (some 2) none = some (.tup r) := by
  simp [oSl, cut, sIx, List.take_of_length_le]
theorem sz3 : 3 ≤ sz := by decide
theorem sz0 : 0 ≤ sz := by decide
theorem sz1 : 1 ≤ sz := by decide
theorem formA_ok (d n : Nat) (h : HpE) {v ports : D} {P : Str → Bool} (hp : PrtOk ports P) (hv : Dat v)
    (iA : ∀ v, Dat v → callF GG fns (n + 1) 17 [v, ports, .int d, .str "amount"] h = .ok (.bl (fA P d v)) h) (iC : ∀ v, Dat v → callF GG fns (n + 1) 17 [v, ports, .int d, .str "cond"] h = .ok (.bl (fC P d v)) h) :
    callF GG fns (n + 2) 17 [v, ports, .int (d + 1 : Nat), .str "amount"] h = .ok (.bl (fA P (d + 1) v)) h := by
  rw [call_run (fn := f__law_form) rfl rfl]
  simp only [f__law_form, b__law_form]
  have hd : ((d : Int) + 1 == 0) = false := by simp; omega
  have hd2 : ((d : Int) + 1 - 1) = d := by omega
  have L := lis_int_ok n h hv
  cases v with
  | int i =>
    simp [hd, oEq_str, sk_am, L, isIntD, fA]
    by_cases q : -99 ≤ i <;> simp [q]
  | tup ds =>
    match ds, hv with
    | [], _ => simp [hd, oEq_str, sk_am, L, isIntD, fA]
    | x :: r, hv =>
      simp at hv
      obtain ⟨h1, hr⟩ := hv
      cases x with
      | str w =>
        rw [dat_str] at h1
        match r, hr with
        | [], _ =>
          by_cases w1 : w = ("port" : Str)
          · subst w1; simp [hd, oEq_str, sk_am, sk_port, L, isIntD, fA]
          · have w1 : (w == ("port" : Str)) = false := by simpa using w1
            by_cases w2 : w = ("if" : Str)
            · subst w2; simp [hd, oEq_str, sk_am, sk_port, sk_if, L, isIntD, fA]
            · have w2 : (w == ("if" : Str)) = false := by simpa using w2
              simp [hd, oEq_str, h1, sk_am, sk_port, sk_if, L, isIntD, fA, w1, w2, in_5, sz5]
              cases (w5.any fun x => x == w) <;> simp
        | [y], hr =>
          simp at hr
          by_cases w1 : w = ("port" : Str)
          · subst w1
            cases y with
            | str p => rw [dat_str] at hr; simp [hd, oEq_str, sk_am, sk_port, L, isIntD, fA, hp.ref, hp.inn p hr]
            | _ => simp [hd, oEq_str, sk_am, sk_port, L, isIntD, fA] <;> simp at hr
          · have w1 : (w == ("port" : Str)) = false := by simpa using w1
            by_cases w2 : w = ("if" : Str)
            · subst w2; simp [hd, oEq_str, sk_am, sk_port, sk_if, L, isIntD, fA]
            · have w2 : (w == ("if" : Str)) = false := by simpa using w2
              simp [hd, oEq_str, h1, sk_am, sk_port, sk_if, L, isIntD, fA, w1, w2, in_5, sz5]
              cases (w5.any fun x => x == w) <;> simp
        | [y, z], hr =>
          simp at hr
          by_cases w1 : w = ("port" : Str)
          · subst w1; simp [hd, oEq_str, sk_am, sk_port, L, isIntD, fA, np5]
          · have w1 : (w == ("port" : Str)) = false := by simpa using w1
            by_cases w2 : w = ("if" : Str)
            · subst w2; simp [hd, oEq_str, sk_am, sk_port, sk_if, L, isIntD, fA, ni5]
            · have w2 : (w == ("if" : Str)) = false := by simpa using w2
              simp [hd, hd2, oEq_str, h1, sk_am, sk_port, sk_if, L, isIntD, fA, w1, w2, in_5, sz5]
              cases (w5.any fun x => x == w) <;> simp [sl1, evC_compS, compL, iA y hr.1, iA z hr.2, hd2, sz2, oAll, bls?]
        | [y, z, t], hr =>
          simp at hr
          by_cases w1 : w = ("port" : Str)
          · subst w1; simp [hd, oEq_str, sk_am, sk_port, L, isIntD, fA]
          · have w1 : (w == ("port" : Str)) = false := by simpa using w1
            by_cases w2 : w = ("if" : Str)
            · subst w2
              simp [hd, hd2, oEq_str, sk_am, sk_port, sk_if, L, isIntD, fA, iC y hr.1]
              cases fC P d y <;> simp [sl2, evC_compS, compL, iA z hr.2.1, iA t hr.2.2, hd2, sz2, oAll, bls?]
            · have w2 : (w == ("if" : Str)) = false := by simpa using w2
              simp [hd, hd2, oEq_str, h1, sk_am, sk_port, sk_if, L, isIntD, fA, w1, w2, in_5, sz5]
              cases (w5.any fun x => x == w) <;> simp
        | y :: z :: t :: u :: r, hr =>
          have l2 : ((r.length : Int) + 1 + 1 + 1 + 1 + 1 == 2) = false := by simp; omega
          have l3 : ((r.length : Int) + 1 + 1 + 1 + 1 + 1 == 3) = false := by simp; omega
          have l4 : ((r.length : Int) + 1 + 1 + 1 + 1 + 1 == 4) = false := by simp; omega
          have l0 : ((r.length : Int) + 1 + 1 + 1 + 1 + 1 == 0) = false := by simp; omega
          by_cases w1 : w = ("port" : Str)
          · subst w1; simp [hd, oEq_str, sk_am, sk_port, L, isIntD, fA, l0, l2]
          · have w1 : (w == ("port" : Str)) = false := by simpa using w1
            by_cases w2 : w = ("if" : Str)
            · subst w2; simp [hd, oEq_str, sk_am, sk_port, sk_if, L, isIntD, fA, l0, l4]
            · have w2 : (w == ("if" : Str)) = false := by simpa using w2
              simp [hd, oEq_str, h1, sk_am, sk_port, sk_if, L, isIntD, fA, w1, w2, in_5, sz5, l0, l3]
              cases (w5.any fun x => x == w) <;> simp [l3]
      | _ =>
        have l0 : ((r.length : Int) + 1 == 0) = false := by simp; omega
        simp [hd, oEq_str, sk_am, L, isIntD, fA, l0] <;> simp at h1
  | str x => simp [hd, oEq_str, sk_am, L, isIntD, fA]
  | non => simp [hd, oEq_str, sk_am, L, isIntD, fA]
  | bl b => simp [hd, oEq_str, sk_am, L, isIntD, fA]
  | lst _ => simp [hd, oEq_str, sk_am, L, isIntD, fA]
  | _ => simp at hv
end whatfailed_k52_whole_forms_spoilt

namespace whatfailed_k52_whole_forms_spoilt
open PySem Ev
theorem coam : (("cond" : Str) == ("amount" : Str)) = false := by simp
theorem formC_ok (d n : Nat) (h : HpE) {v ports : D} {P : Str → Bool} (hp : PrtOk ports P) (hv : Dat v)
    (iA : ∀ v, Dat v → callF GG fns (n + 1) 17 [v, ports, .int d, .str "amount"] h = .ok (.bl (fA P d v)) h) (iC : ∀ v, Dat v → callF GG fns (n + 1) 17 [v, ports, .int d, .str "cond"] h = .ok (.bl (fC P d v)) h) :
    callF GG fns (n + 2) 17 [v, ports, .int (d + 1 : Nat), .str "cond"] h = .ok (.bl (fC P (d + 1) v)) h := by
  rw [call_run (fn := f__law_form) rfl rfl]
  simp only [f__law_form, b__law_form]
  have hd : ((d : Int) + 1 == 0) = false := by simp; omega
  have hd2 : ((d : Int) + 1 - 1) = d := by omega
  cases v with
  | tup ds =>
    match ds, hv with
    | [], _ => simp [hd, oEq_str, sk_am, sk_co, fC]
    | x :: r, hv =>
      simp at hv
      obtain ⟨h1, hr⟩ := hv
      cases x with
      | str w =>
        rw [dat_str] at h1
        match r, hr with
        | [], _ =>
          rcases cwords w with rfl | rfl | rfl | rfl | rfl | rfl | ⟨w1, w2, w3, w4, w5, w6⟩
          · simp [hd, hd2, fC, oEq_str, in_lt, in_ao, sz2, sk_am, sk_co, sk_yes, sk_not, sk_lt, sk_e, sk_and, sk_or]
          · simp [hd, hd2, fC, oEq_str, in_lt, in_ao, sz2, sk_am, sk_co, sk_yes, sk_not, sk_lt, sk_e, sk_and, sk_or]
          · simp [hd, hd2, fC, oEq_str, in_lt, in_ao, sz2, sk_am, sk_co, sk_yes, sk_not, sk_lt, sk_e, sk_and, sk_or]
          · simp [hd, hd2, fC, oEq_str, in_lt, in_ao, sz2, sk_am, sk_co, sk_yes, sk_not, sk_lt, sk_e, sk_and, sk_or]
          · simp [hd, hd2, fC, oEq_str, in_lt, in_ao, sz2, sk_am, sk_co, sk_yes, sk_not, sk_lt, sk_e, sk_and, sk_or]
          · simp [hd, hd2, fC, oEq_str, in_lt, in_ao, sz2, sk_am, sk_co, sk_yes, sk_not, sk_lt, sk_e, sk_and, sk_or]
          · simp [hd, hd2, fC, oEq_str, in_lt, in_ao, sz2, sk_am, sk_co, sk_yes, sk_not, sk_lt, sk_e, sk_and, sk_or, h1, w1, w2, w3, w4, w5, w6]
        | [y], hr =>
          simp at hr
          rcases cwords w with rfl | rfl | rfl | rfl | rfl | rfl | ⟨w1, w2, w3, w4, w5, w6⟩
          · simp [hd, hd2, fC, oEq_str, in_lt, in_ao, sz2, sk_am, sk_co, sk_yes, sk_not, sk_lt, sk_e, sk_and, sk_or, iC y hr]
          · simp [hd, hd2, fC, oEq_str, in_lt, in_ao, sz2, sk_am, sk_co, sk_yes, sk_not, sk_lt, sk_e, sk_and, sk_or, iC y hr]
          · simp [hd, hd2, fC, oEq_str, in_lt, in_ao, sz2, sk_am, sk_co, sk_yes, sk_not, sk_lt, sk_e, sk_and, sk_or, iC y hr]
          · simp [hd, hd2, fC, oEq_str, in_lt, in_ao, sz2, sk_am, sk_co, sk_yes, sk_not, sk_lt, sk_e, sk_and, sk_or, iC y hr]
          · simp [hd, hd2, fC, oEq_str, in_lt, in_ao, sz2, sk_am, sk_co, sk_yes, sk_not, sk_lt, sk_e, sk_and, sk_or, iC y hr]
          · simp [hd, hd2, fC, oEq_str, in_lt, in_ao, sz2, sk_am, sk_co, sk_yes, sk_not, sk_lt, sk_e, sk_and, sk_or, iC y hr]
          · simp [hd, hd2, fC, oEq_str, in_lt, in_ao, sz2, sk_am, sk_co, sk_yes, sk_not, sk_lt, sk_e, sk_and, sk_or, iC y hr, h1, w1, w2, w3, w4, w5, w6]
        | [y, z], hr =>
          simp at hr
          rcases cwords w with rfl | rfl | rfl | rfl | rfl | rfl | ⟨w1, w2, w3, w4, w5, w6⟩
          · simp [hd, hd2, fC, oEq_str, in_lt, in_ao, sz2, sk_am, sk_co, sk_yes, sk_not, sk_lt, sk_e, sk_and, sk_or, iA y hr.1, iA z hr.2, iC y hr.1, iC z hr.2, sl1, evC_compS, compL, oAll, bls?]
          · simp [hd, hd2, fC, oEq_str, in_lt, in_ao, sz2, sk_am, sk_co, sk_yes, sk_not, sk_lt, sk_e, sk_and, sk_or, iA y hr.1, iA z hr.2, iC y hr.1, iC z hr.2, sl1, evC_compS, compL, oAll, bls?]
          · simp [hd, hd2, fC, oEq_str, in_lt, in_ao, sz2, sk_am, sk_co, sk_yes, sk_not, sk_lt, sk_e, sk_and, sk_or, iA y hr.1, iA z hr.2, iC y hr.1, iC z hr.2, sl1, evC_compS, compL, oAll, bls?]
          · simp [hd, hd2, fC, oEq_str, in_lt, in_ao, sz2, sk_am, sk_co, sk_yes, sk_not, sk_lt, sk_e, sk_and, sk_or, iA y hr.1, iA z hr.2, iC y hr.1, iC z hr.2, sl1, evC_compS, compL, oAll, bls?]
          · simp [hd, hd2, fC, oEq_str, in_lt, in_ao, sz2, sk_am, sk_co, sk_yes, sk_not, sk_lt, sk_e, sk_and, sk_or, iA y hr.1, iA z hr.2, iC y hr.1, iC z hr.2, sl1, evC_compS, compL, oAll, bls?]
          · simp [hd, hd2, fC, oEq_str, in_lt, in_ao, sz2, sk_am, sk_co, sk_yes, sk_not, sk_lt, sk_e, sk_and, sk_or, iA y hr.1, iA z hr.2, iC y hr.1, iC z hr.2, sl1, evC_compS, compL, oAll, bls?]
          · simp [hd, hd2, fC, oEq_str, in_lt, in_ao, sz2, sk_am, sk_co, sk_yes, sk_not, sk_lt, sk_e, sk_and, sk_or, iA y hr.1, iA z hr.2, iC y hr.1, iC z hr.2, sl1, evC_compS, compL, oAll, bls?, h1, w1, w2, w3, w4, w5, w6]
        | y :: z :: u :: r, hr =>
          have l0 : ((r.length : Int) + 1 + 1 + 1 + 1 == 0) = false := by simp; omega
          have l1 : ((r.length : Int) + 1 + 1 + 1 + 1 == 1) = false := by simp; omega
          have l2 : ((r.length : Int) + 1 + 1 + 1 + 1 == 2) = false := by simp; omega
          have l3 : ((r.length : Int) + 1 + 1 + 1 + 1 == 3) = false := by simp; omega
          rcases cwords w with rfl | rfl | rfl | rfl | rfl | rfl | ⟨w1, w2, w3, w4, w5, w6⟩
          · simp [hd, hd2, fC, oEq_str, in_lt, in_ao, sz2, sk_am, sk_co, sk_yes, sk_not, sk_lt, sk_e, sk_and, sk_or, l0, l1, l2, l3]
          · simp [hd, hd2, fC, oEq_str, in_lt, in_ao, sz2, sk_am, sk_co, sk_yes, sk_not, sk_lt, sk_e, sk_and, sk_or, l0, l1, l2, l3]
          · simp [hd, hd2, fC, oEq_str, in_lt, in_ao, sz2, sk_am, sk_co, sk_yes, sk_not, sk_lt, sk_e, sk_and, sk_or, l0, l1, l2, l3]
          · simp [hd, hd2, fC, oEq_str, in_lt, in_ao, sz2, sk_am, sk_co, sk_yes, sk_not, sk_lt, sk_e, sk_and, sk_or, l0, l1, l2, l3]
          · simp [hd, hd2, fC, oEq_str, in_lt, in_ao, sz2, sk_am, sk_co, sk_yes, sk_not, sk_lt, sk_e, sk_and, sk_or, l0, l1, l2, l3]
          · simp [hd, hd2, fC, oEq_str, in_lt, in_ao, sz2, sk_am, sk_co, sk_yes, sk_not, sk_lt, sk_e, sk_and, sk_or, l0, l1, l2, l3]
          · simp [hd, hd2, fC, oEq_str, in_lt, in_ao, sz2, sk_am, sk_co, sk_yes, sk_not, sk_lt, sk_e, sk_and, sk_or, l0, l1, l2, l3, h1, w1, w2, w3, w4, w5, w6]
      | _ =>
        have l0 : ((r.length : Int) + 1 == 0) = false := by simp; omega
        simp [fC, hd, oEq_str, sk_am, sk_co, l0] <;> simp at h1
  | lst _ => simp [hd, oEq_str, sk_am, sk_co, fC]
  | str x => simp [hd, oEq_str, sk_am, sk_co, fC]
  | non => simp [hd, oEq_str, sk_am, sk_co, fC]
  | bl b => simp [hd, oEq_str, sk_am, sk_co, fC]
  | int _ => simp [hd, oEq_str, sk_am, sk_co, fC]
  | _ => simp at hv
theorem form_ok {ports : D} {P : Str → Bool} (hp : PrtOk ports P) : ∀ (d n : Nat) (h : HpE) (v : D), Dat v → callF GG fns (n + d + 2) 17 [v, ports, .int d, .str "amount"] h = .ok (.bl (fA P d v)) h ∧ callF GG fns (n + d + 2) 17 [v, ports, .int d, .str "cond"] h = .ok (.bl (fC P d v)) h
  | 0, n, h, v, hv => by
    constructor
    · rw [call_run (fn := f__law_form) rfl rfl]
      simp [f__law_form, b__law_form, fA]
    · rw [call_run (fn := f__law_form) rfl rfl]
      simp [f__law_form, b__law_form, fC]
  | d + 1, n, h, v, hv => by
    have IH := form_ok hp d
    exact ⟨formA_ok d (n + d + 1) h hp hv (fun v hv => (IH n h v hv).1) (fun v hv => (IH n h v hv).2), formC_ok d (n + d + 1) h hp hv (fun v hv => (IH n h v hv).1) (fun v hv => (IH n h v hv).2)⟩
theorem like_bl (n : Nat) (h : HpE) (a b : Bool) : callF GG fns (n + 1) 15 [.bl a, .bl b] h = .ok (.bl (a == b)) h := by
  rw [call_run (fn := f__law_like) rfl rfl]
  simp [f__law_like, b__law_like, oEq_of, eqv]
end whatfailed_k52_whole_forms_spoilt

namespace whatfailed_k52_whole_forms_spoilt
open PySem Ev
theorem fin_len {n : Nat} {d : D} {h : HpE} (e : h.length = n) : fin n d h = .ok d h := by subst e; exact fin_same d h
/-- the drawn row and the place in it -/
def drL (row : List Int) (at' : Nat) : List D := [.lst (row.map .int), .int at']
def dr (row : List Int) (at' : Nat) : Cell := .lst (drL row at')
def pv (row : List Int) (at' : Nat) (n : Int) : Int := ((row.getD (at' % row.length) 0).fdiv (1 + (at' / row.length : Nat))).fmod n
theorem pv_lt {row : List Int} {a : Nat} {n : Int} (hn : 0 < n) : 0 ≤ pv row a n ∧ pv row a n < n := by
  unfold pv
  rw [Int.fmod_eq_emod_of_nonneg _ (by omega)]
  exact ⟨Int.emod_nonneg _ (by omega), Int.emod_lt_of_pos _ hn⟩
theorem pick_ok (k : Nat) {h : HpE} {p : Nat} {row : List Int} {a : Nat} {n : Int} (hp : h[p]? = some (dr row a)) (hr : 0 < row.length ∧ row.length < 1000) (ha : a < 1000000000) (hn : 0 < n) :
    callF GG fns (k + 1) 3 [.ref p, .int n] h = .ok (.int (pv row a n)) (h.set p (dr row (a + 1))) := by
  rw [call_run (fn := f__law_pick) rfl rfl]
  simp only [f__law_pick, b__law_pick]
  obtain ⟨hl, hl2⟩ := hr
  have hlook : look h (.ref p) = .lst [.lst (row.map .int), .int a] := by simp [look, hp, dr, drL]
  have hset : mSet [.ref p, .int 1, .int ((a : Int) + 1)] h = some (.non, h.set p (dr row (a + 1))) := by
    simp [mSet, hp, dr, drL]
  have hm : a % row.length < row.length := Nat.mod_lt _ hl
  have e3 : ixN row.length ((a % row.length : Nat) : Int) = some (a % row.length) := ixN_nat hm
  obtain ⟨v, e4⟩ : ∃ v, row[a % row.length]? = some v := ⟨_, List.getElem?_eq_getElem hm⟩
  have e5 : row.getD (a % row.length) 0 = v := by rw [List.getD_eq_getElem?_getD, e4]; rfl
  have hd : a / row.length ≤ a := Nat.div_le_self _ _
  have M1 : ∀ h : HpE, opEv .mod [.int a, .int row.length] h = .ok (.int ((a % row.length : Nat) : Int)) h := fun h => by
    rw [op_mod_ok (by omega), Int.fmod_eq_emod_of_nonneg _ (by omega)]; rfl
  have F1 : ∀ h : HpE, opEv .fdiv [.int a, .int row.length] h = .ok (.int ((a / row.length : Nat) : Int)) h := fun h => by
    rw [op_fdiv_ok (by omega) (by omega), Int.fdiv_eq_ediv_of_nonneg _ (by omega)]; rfl
  have F2 : ∀ (h : HpE) (i : Int), opEv .fdiv [.int i, .int (1 + ((a / row.length : Nat) : Int))] h = .ok (.int (i.fdiv (1 + ((a / row.length : Nat) : Int)))) h := fun h i => by
    generalize a / row.length = q at hd
    exact op_fdiv_ok (by omega) (by omega)
  have M2 : ∀ (h : HpE) (i : Int), opEv .mod [.int i, .int n] h = .ok (.int (i.fmod n)) h := fun h i => op_mod_ok (by omega)
  unfold pv
  rw [e5]
  clear e5
  generalize hq : a / row.length = q at *
  generalize hmm : a % row.length = m at *
  simp [hlook, hset, sz2, M1, F1, e3, e4, F2, M2]
  exact fin_len (by simp)
end whatfailed_k52_whole_forms_spoilt

namespace whatfailed_k52_whole_forms_spoilt
open PySem Ev
/-- the bound on the places in the row -/
abbrev TOP : Nat := 1000000000
section
variable {h : HpE} {p : Nat} {row : List Int} (hp : p < h.length) (hr : 0 < row.length ∧ row.length < 1000)
include hp hr
theorem pick (k : Nat) {a : Nat} {n : Int} (ha : a < TOP) (hn : 0 < n) : callF GG fns (k + 1) 3 [.ref p, .int n] (h.set p (dr row a)) = .ok (.int (pv row a n)) (h.set p (dr row (a + 1))) := by
  rw [pick_ok k (row := row) (a := a) (by rw [List.getElem?_set_self hp]) hr ha hn, List.set_set]
/-- .. as a number -/
theorem pickN (m : Nat) {a : Nat} {n : Nat} (hm : 0 < m) (ha : a < TOP) (hn : 0 < n) : ∃ r : Nat, r < n ∧ callF GG fns m 3 [.ref p, .int n] (h.set p (dr row a)) = .ok (.int (r : Nat)) (h.set p (dr row (a + 1))) := by
  obtain ⟨k, rfl⟩ : ∃ k, m = k + 1 := ⟨m - 1, by omega⟩
  have h1 := pick hp hr k (n := (n : Int)) ha (by omega)
  obtain ⟨h2, h3⟩ := pv_lt (row := row) (a := a) (n := (n : Int)) (by omega)
  refine ⟨(pv row a n).toNat, by omega, ?_⟩
  rw [h1]
  congr 2
  omega
end
/-- texts among which one picks -/
def PS (ps : List Str) (p : Str) : Bool := ps.any fun y => y == p
theorem prt_tup {ps : List Str} (h : ∀ x ∈ ps, PyData.strOk x = true) : PrtOk (.tup (ps.map .str)) (PS ps) := ⟨fun _ => rfl, fun p hp => by rw [oIn_strs false hp h]; rfl⟩
theorem prt_lst {ps : List Str} (h : ∀ x ∈ ps, PyData.strOk x = true) : PrtOk (.lst (ps.map .str)) (PS ps) := ⟨fun _ => rfl, fun p hp => by rw [oIn_strsL false hp h]; rfl⟩
mutual
theorem fA_up {P : Str → Bool} : ∀ (d : Nat) (v : D), fA P d v = true → fA P (d + 1) v = true
  | 0, v, h => by simp [fA] at h
  | d + 1, .int i, h => by simpa [fA] using h
  | d + 1, .tup [.str w, p], h => by simpa [fA] using h
  | d + 1, .tup [.str w, a, b], h => by
    simp only [fA, Bool.and_eq_true] at h ⊢
    exact ⟨⟨h.1.1, fA_up d a h.1.2⟩, fA_up d b h.2⟩
  | d + 1, .tup [.str w, c, a, b], h => by
    simp only [fA, Bool.and_eq_true] at h ⊢
    exact ⟨⟨⟨h.1.1.1, fC_up d c h.1.1.2⟩, fA_up d a h.1.2⟩, fA_up d b h.2⟩
  | d + 1, .non, h | d + 1, .bl _, h | d + 1, .str _, h | d + 1, .lst _, h | d + 1, .dct _, h | d + 1, .ref _, h | d + 1, .exc _, h | d + 1, .scr _, h => by simp [fA] at h
  | d + 1, .tup [], h | d + 1, .tup [_], h | d + 1, .tup (_ :: _ :: _ :: _ :: _ :: _), h => by simp [fA] at h
  | d + 1, .tup [.non, _], h | d + 1, .tup [.bl _, _], h | d + 1, .tup [.int _, _], h | d + 1, .tup [.tup _, _], h | d + 1, .tup [.lst _, _], h | d + 1, .tup [.dct _, _], h | d + 1, .tup [.ref _, _], h | d + 1, .tup [.exc _, _], h | d + 1, .tup [.scr _, _], h => by simp [fA] at h
  | d + 1, .tup [.non, _, _], h | d + 1, .tup [.bl _, _, _], h | d + 1, .tup [.int _, _, _], h | d + 1, .tup [.tup _, _, _], h | d + 1, .tup [.lst _, _, _], h | d + 1, .tup [.dct _, _, _], h | d + 1, .tup [.ref _, _, _], h | d + 1, .tup [.exc _, _, _], h | d + 1, .tup [.scr _, _, _], h => by simp [fA] at h
  | d + 1, .tup [.non, _, _, _], h | d + 1, .tup [.bl _, _, _, _], h | d + 1, .tup [.int _, _, _, _], h | d + 1, .tup [.tup _, _, _, _], h | d + 1, .tup [.lst _, _, _, _], h | d + 1, .tup [.dct _, _, _, _], h | d + 1, .tup [.ref _, _, _, _], h | d + 1, .tup [.exc _, _, _, _], h | d + 1, .tup [.scr _, _, _, _], h => by simp [fA] at h
theorem fC_up {P : Str → Bool} : ∀ (d : Nat) (v : D), fC P d v = true → fC P (d + 1) v = true
  | 0, v, h => by simp [fC] at h
  | d + 1, .tup [.str w], h => by simpa [fC] using h
  | d + 1, .tup [.str w, a], h => by
    simp only [fC, Bool.and_eq_true] at h ⊢
    exact ⟨h.1, fC_up d a h.2⟩
  | d + 1, .tup [.str w, a, b], h => by
    rw [fC] at h ⊢
    split at h
    · rename_i q
      rw [if_pos q]
      rw [Bool.and_eq_true] at h ⊢
      exact ⟨fA_up d a h.1, fA_up d b h.2⟩
    · rename_i q
      rw [if_neg q]
      split at h
      · rename_i q
        rw [if_pos q]
        rw [Bool.and_eq_true] at h ⊢
        exact ⟨fC_up d a h.1, fC_up d b h.2⟩
      · cases h
  | d + 1, .non, h | d + 1, .bl _, h | d + 1, .int _, h | d + 1, .str _, h | d + 1, .lst _, h | d + 1, .dct _, h | d + 1, .ref _, h | d + 1, .exc _, h | d + 1, .scr _, h => by simp [fC] at h
  | d + 1, .tup [], h | d + 1, .tup (_ :: _ :: _ :: _ :: _), h => by simp [fC] at h
  | d + 1, .tup [.non], h | d + 1, .tup [.bl _], h | d + 1, .tup [.int _], h | d + 1, .tup [.tup _], h | d + 1, .tup [.lst _], h | d + 1, .tup [.dct _], h | d + 1, .tup [.ref _], h | d + 1, .tup [.exc _], h | d + 1, .tup [.scr _], h => by simp [fC] at h
  | d + 1, .tup [.non, _], h | d + 1, .tup [.bl _, _], h | d + 1, .tup [.int _, _], h | d + 1, .tup [.tup _, _], h | d + 1, .tup [.lst _, _], h | d + 1, .tup [.dct _, _], h | d + 1, .tup [.ref _, _], h | d + 1, .tup [.exc _, _], h | d + 1, .tup [.scr _, _], h => by simp [fC] at h
  | d + 1, .tup [.non, _, _], h | d + 1, .tup [.bl _, _, _], h | d + 1, .tup [.int _, _, _], h | d + 1, .tup [.tup _, _, _], h | d + 1, .tup [.lst _, _, _], h | d + 1, .tup [.dct _, _, _], h | d + 1, .tup [.ref _, _, _], h | d + 1, .tup [.exc _, _, _], h | d + 1, .tup [.scr _, _, _], h => by simp [fC] at h
end
theorem fA_le {P : Str → Bool} {d e : Nat} {v : D} (h : fA P d v = true) (hd : d ≤ e) : fA P e v = true := by
  induction hd with
  | refl => exact h
  | step _ ih => exact fA_up _ _ ih
theorem fC_le {P : Str → Bool} {d e : Nat} {v : D} (h : fC P d v = true) (hd : d ≤ e) : fC P e v = true := by
  induction hd with
  | refl => exact h
  | step _ ih => exact fC_up _ _ ih
end whatfailed_k52_whole_forms_spoilt

namespace whatfailed_k52_whole_forms_spoilt
open PySem Ev
/-- the ports' names, as a list or a tuple -/
structure PX (ports : D) (ps : List Str) : Prop where
  ref : ∀ h, look h ports = ports
  len : oLen ports = some (.int ps.length)
  ix : ∀ i : Nat, i < ps.length → ∃ x, x ∈ ps ∧ oIx ports (.int (i : Nat)) = some (.str x)
  ne : 0 < ps.length
  ok : ∀ x ∈ ps, PyData.strOk x = true
theorem ix_strs {ps : List Str} {i : Nat} (hi : i < ps.length) : ∃ x, x ∈ ps ∧ ((ixN (ps.map D.str).length (i : Int)).bind fun j => (ps.map D.str)[j]?) = some (.str x) := by
  refine ⟨ps[i], List.getElem_mem hi, ?_⟩
  rw [ixN_nat (by simpa using hi)]
  simp [hi]
theorem px_tup {ps : List Str} (hn : 0 < ps.length) (ok : ∀ x ∈ ps, PyData.strOk x = true) : PX (.tup (ps.map .str)) ps :=
  ⟨fun _ => rfl, by simp, fun i hi => by rw [oIx_tup]; exact ix_strs hi, hn, ok⟩
theorem px_lst {ps : List Str} (hn : 0 < ps.length) (ok : ∀ x ∈ ps, PyData.strOk x = true) : PX (.lst (ps.map .str)) ps :=
  ⟨fun _ => rfl, by simp, fun i hi => by rw [oIx_lst]; exact ix_strs hi, hn, ok⟩
def cst : Nat → Nat
  | 0 => 2
  | d + 1 => 3 + 2 * cst d
theorem PS_mem {ps : List Str} {x : Str} (h : x ∈ ps) : PS ps x = true := by
  unfold PS
  rw [List.any_eq_true]
  exact ⟨x, h, by simp⟩
theorem w5_ix {r : Nat} (hr : r < 5) : ∃ w, (w5.any fun x => x == w) = true ∧ ((ixN 5 (r : Int)).bind fun j => ([.str "+", .str "-", .str "*", .str "least", .str "most"] : List D)[j]?) = some (.str w) := by
  rw [ixN_nat hr]
  match r, hr with
  | 0, _ => exact ⟨"+", by decide +kernel, rfl⟩
  | 1, _ => exact ⟨"-", by decide +kernel, rfl⟩
  | 2, _ => exact ⟨"*", by decide +kernel, rfl⟩
  | 3, _ => exact ⟨"least", by decide +kernel, rfl⟩
  | 4, _ => exact ⟨"most", by decide +kernel, rfl⟩
theorem sz4 : 4 ≤ sz := by decide
section
variable {h : HpE} {p : Nat} {row : List Int} (hp : p < h.length) (hr : 0 < row.length ∧ row.length < 1000) {ports : D} {ps : List Str} (hx : PX ports ps)
include hp hr hx
theorem amount : ∀ (deep m a : Nat), deep + 2 ≤ m → a + cst deep ≤ TOP → ∃ v a', a ≤ a' ∧ a' ≤ a + cst deep ∧ fA (PS ps) (deep + 2) v = true ∧ callF GG fns m 33 [.ref p, ports, .int deep] (h.set p (dr row a)) = .ok v (h.set p (dr row a'))
  | 0, m, a, hm, ha => by
    obtain ⟨r, hr1, e1⟩ := pickN hp hr (m - 1) (by omega) (a := a) (n := 7) (by simp [cst] at ha; omega) (by omega)
    obtain ⟨r2, hr2, e2⟩ := pickN hp hr (m - 1) (by omega) (a := a + 1) (n := 3) (by simp [cst] at ha; omega) (by omega)
    obtain ⟨r3, hr3, e3⟩ := pickN hp hr (m - 1) (by omega) (a := a + 1) (n := ps.length) (by simp [cst] at ha; omega) hx.ne
    obtain ⟨x, hxm, ex⟩ := hx.ix r3 hr3
    by_cases q : r = 2
    · refine ⟨.int r2, a + 2, by omega, by simp [cst], by simp [fA]; omega, ?_⟩
      rw [call_at (by omega) (fn := f__law_amount) rfl rfl]
      simp only [f__law_amount, b__law_amount]
      subst q
      simp at e1 e2
      simp [e1, e2]
      exact fin_len (by simp)
    · refine ⟨.tup [.str "port", .str x], a + 2, by omega, by simp [cst], by simp [fA, PS_mem hxm], ?_⟩
      rw [call_at (by omega) (fn := f__law_amount) rfl rfl]
      simp only [f__law_amount, b__law_amount]
      (try simp at e1); (try simp at e3)
      have q2 : ((r : Int) == 2) = false := by simp; omega
      simp [e1, e3, q2, hx.ref, hx.len, ex, sz2]
      exact fin_len (by simp)
  | d + 1, m, a, hm, ha => by
    have IH := amount d
    have hc : cst (d + 1) = 3 + 2 * cst d := rfl
    obtain ⟨r, hr1, e1⟩ := pickN hp hr (m - 1) (by omega) (a := a) (n := 7) (by omega) (by omega)
    simp at e1
    by_cases q0 : r = 0
    · subst q0
      obtain ⟨r2, hr2, e2⟩ := pickN hp hr (m - 1) (by omega) (a := a + 1) (n := 5) (by omega) (by omega)
      obtain ⟨w, hw, ew⟩ := w5_ix hr2
      obtain ⟨v1, a1, b1, c1, f1, g1⟩ := IH (m - 1) (a + 2) (by omega) (by omega)
      obtain ⟨v2, a2, b2, c2, f2, g2⟩ := IH (m - 1) a1 (by omega) (by omega)
      refine ⟨.tup [.str w, v1, v2], a2, by omega, by omega, by simp [fA, hw, fA_le f1, fA_le f2], ?_⟩
      rw [call_at (by omega) (fn := f__law_amount) rfl rfl]
      simp only [f__law_amount, b__law_amount]
      (try simp at e2); (try simp at ew)
      have hd0 : (0 : Int) < (d : Int) + 1 := by omega
      have hd2 : (d : Int) + 1 - 1 = d := by omega
      simp [e1, e2, ew, sz5, hd0, hd2, g1, g2, sz3]
      exact fin_len (by simp)
    · have q0' : ((r : Int) == 0) = false := by simp; omega
      by_cases q1 : r = 1
      · subst q1
        obtain ⟨r3, hr3, e3⟩ := pickN hp hr (m - 1) (by omega) (a := a + 1) (n := ps.length) (by omega) hx.ne
        obtain ⟨x, hxm, ex⟩ := hx.ix r3 hr3
        obtain ⟨r4, hr4, e4⟩ := pickN hp hr (m - 1) (by omega) (a := a + 2) (n := 2) (by omega) (by omega)
        obtain ⟨v1, a1, b1, c1, f1, g1⟩ := IH (m - 1) (a + 3) (by omega) (by omega)
        obtain ⟨v2, a2, b2, c2, f2, g2⟩ := IH (m - 1) a1 (by omega) (by omega)
        refine ⟨.tup [.str "if", .tup [.str "=", .tup [.str "port", .str x], .int r4], v1, v2], a2, by omega, by omega, ?_, ?_⟩
        · simp [fA, fC, fA_le f1, fA_le f2, PS_mem hxm]; omega
        rw [call_at (by omega) (fn := f__law_amount) rfl rfl]
        simp only [f__law_amount, b__law_amount]
        (try simp at e3); (try simp at e4)
        have hd0 : (0 : Int) < (d : Int) + 1 := by omega
        have hd2 : (d : Int) + 1 - 1 = d := by omega
        simp [e1, e3, e4, hd0, hd2, g1, g2, hx.ref, hx.len, ex, sz2, sz3, sz4]
        exact fin_len (by simp)
      · have q1' : ((r : Int) == 1) = false := by simp; omega
        have hd0 : (0 : Int) < (d : Int) + 1 := by omega
        by_cases q : r = 2
        · subst q
          obtain ⟨r2, hr2, e2⟩ := pickN hp hr (m - 1) (by omega) (a := a + 1) (n := 3) (by omega) (by omega)
          refine ⟨.int r2, a + 2, by omega, by omega, by simp [fA]; omega, ?_⟩
          rw [call_at (by omega) (fn := f__law_amount) rfl rfl]
          simp only [f__law_amount, b__law_amount]
          (try simp at e2)
          simp [e1, e2, hd0]
          exact fin_len (by simp)
        · obtain ⟨r3, hr3, e3⟩ := pickN hp hr (m - 1) (by omega) (a := a + 1) (n := ps.length) (by omega) hx.ne
          obtain ⟨x, hxm, ex⟩ := hx.ix r3 hr3
          refine ⟨.tup [.str "port", .str x], a + 2, by omega, by omega, by simp [fA, PS_mem hxm], ?_⟩
          rw [call_at (by omega) (fn := f__law_amount) rfl rfl]
          simp only [f__law_amount, b__law_amount]
          (try simp at e3)
          have q2 : ((r : Int) == 2) = false := by simp; omega
          simp [e1, e3, q0', q1', q2, hd0, hx.ref, hx.len, ex, sz2]
          exact fin_len (by simp)
end
end whatfailed_k52_whole_forms_spoilt

namespace whatfailed_k52_whole_forms_spoilt
open PySem Ev
section
variable {h : HpE} {p : Nat} {row : List Int} (hp : p < h.length) (hr : 0 < row.length ∧ row.length < 1000) {ports : D} {ps : List Str} (hx : PX ports ps)
include hp hr hx
theorem cond (m a : Nat) (hm : 5 ≤ m) (ha : a + 18 ≤ TOP) : ∃ v a', a ≤ a' ∧ a' ≤ a + 18 ∧ fC (PS ps) 5 v = true ∧ callF GG fns m 29 [.ref p, ports] (h.set p (dr row a)) = .ok v (h.set p (dr row a')) := by
  obtain ⟨r, hr1, e1⟩ := pickN hp hr (m - 1) (by omega) (a := a) (n := 8) (by omega) (by omega)
  obtain ⟨x, hxm, ex⟩ := hx.ix (ps.length - 1) (by have := hx.ne; omega)
  have el : oIx ports (.int ((ps.length : Int) - 1)) = some (.str x) := by
    rw [← ex]; congr 2; have := hx.ne; omega
  simp at e1
  by_cases q0 : r = 0
  · subst q0
    refine ⟨.tup [.str "yes"], a + 1, by omega, by omega, by simp [fC], ?_⟩
    rw [call_at (by omega) (fn := f__law_cond) rfl rfl]
    simp only [f__law_cond, b__law_cond]
    simp at e1
    simp [e1, hx.ref, hx.len, el, sz1, sz2]
    exact fin_len (by simp)
  have q0' : ((r : Int) == 0) = false := by simp; omega
  by_cases q1 : r = 1
  · subst q1
    obtain ⟨v1, a1, b1, c1, f1, g1⟩ := amount hp hr hx 1 (m - 1) (a + 1) (by omega) (by simp [cst]; omega)
    simp [cst] at c1
    refine ⟨.tup [.str "not", .tup [.str "=", .tup [.str "port", .str x], v1]], a1, by omega, by omega, by simp [fC, fA, PS_mem hxm, f1], ?_⟩
    rw [call_at (by omega) (fn := f__law_cond) rfl rfl]
    simp only [f__law_cond, b__law_cond]
    simp at e1 g1
    simp [e1, hx.ref, hx.len, el, sz1, sz2, sz3, g1]
    exact fin_len (by simp)
  have q1' : ((r : Int) == 1) = false := by simp; omega
  by_cases q2 : r = 2
  · subst q2
    obtain ⟨v1, a1, b1, c1, f1, g1⟩ := amount hp hr hx 0 (m - 1) (a + 1) (by omega) (by simp [cst]; omega)
    simp [cst] at c1
    obtain ⟨v2, a2, b2, c2, f2, g2⟩ := amount hp hr hx 0 (m - 1) a1 (by omega) (by simp [cst]; omega)
    simp [cst] at c2
    have k1 : fA (PS ps) 3 v1 = true := fA_le f1 (by omega)
    have k2 : fA (PS ps) 3 v2 = true := fA_le f2 (by omega)
    refine ⟨.tup [.str "or", .tup [.str "=", .tup [.str "port", .str x], v1], .tup [.str "<", v2, .tup [.str "port", .str x]]], a2, by omega, by omega, by simp [fC, fA, PS_mem hxm, k1, k2], ?_⟩
    rw [call_at (by omega) (fn := f__law_cond) rfl rfl]
    simp only [f__law_cond, b__law_cond]
    simp at e1 g1 g2
    simp [e1, hx.ref, hx.len, el, sz1, sz2, sz3, g1, g2]
    exact fin_len (by simp)
  have q2' : ((r : Int) == 2) = false := by simp; omega
  obtain ⟨v1, a1, b1, c1, f1, g1⟩ := amount hp hr hx 2 (m - 1) (a + 1) (by omega) (by simp [cst]; omega)
  simp [cst] at c1
  refine ⟨.tup [.str "=", .tup [.str "port", .str x], v1], a1, by omega, by omega, by simp [fC, fA, PS_mem hxm, f1], ?_⟩
  rw [call_at (by omega) (fn := f__law_cond) rfl rfl]
  simp only [f__law_cond, b__law_cond]
  simp at g1
  simp [e1, hx.ref, hx.len, el, sz1, sz2, sz3, g1, q0', q1', q2']
  exact fin_len (by simp)
end
end whatfailed_k52_whole_forms_spoilt

namespace whatfailed_k52_whole_forms_spoilt
open PySem Ev
/-! small data -/
mutual
def hgt : D → Nat
  | .tup ds | .lst ds => hgtL ds + 1
  | _ => 0
def hgtL : List D → Nat
  | [] => 0
  | d :: ds => max (hgt d) (hgtL ds)
end
@[simp] theorem hgt_non : hgt .non = 0 := by rw [hgt] <;> (intros; contradiction)
@[simp] theorem hgt_int (i : Int) : hgt (.int i) = 0 := by rw [hgt] <;> (intros; contradiction)
@[simp] theorem hgt_bl (i : Bool) : hgt (.bl i) = 0 := by rw [hgt] <;> (intros; contradiction)
@[simp] theorem hgt_str (x : Str) : hgt (.str x) = 0 := by rw [hgt] <;> (intros; contradiction)
@[simp] theorem hgt_tup (ds : List D) : hgt (.tup ds) = hgtL ds + 1 := by rw [hgt]
@[simp] theorem hgt_lst (ds : List D) : hgt (.lst ds) = hgtL ds + 1 := by rw [hgt]
@[simp] theorem hgtL_nil : hgtL [] = 0 := by rw [hgtL]
@[simp] theorem hgtL_cons (d : D) (ds : List D) : hgtL (d :: ds) = max (hgt d) (hgtL ds) := by rw [hgtL]
mutual
def sm : D → Bool
  | .non | .bl _ | .int _ => true
  | .str x => PyData.strOk x
  | .tup ds | .lst ds => decide (ds.length ≤ 4) && smL ds
  | _ => false
def smL : List D → Bool
  | [] => true
  | d :: ds => sm d && smL ds
end
mutual
theorem sm_dat : ∀ {d : D}, sm d = true → Dat d
  | .non, _ | .bl _, _ | .int _, _ => by simp
  | .str x, h => by rw [dat_str]; rw [sm] at h; exact h
  | .tup ds, h => by rw [sm, Bool.and_eq_true] at h; rw [dat_tup]; exact smL_dat h.2
  | .lst ds, h => by rw [sm, Bool.and_eq_true] at h; rw [dat_lst]; exact smL_dat h.2
  | .dct _, h | .ref _, h | .exc _, h | .scr _, h => by simp [sm] at h
theorem smL_dat : ∀ {ds : List D}, smL ds = true → DatL ds
  | [], _ => by simp
  | d :: ds, h => by
    rw [smL, Bool.and_eq_true] at h
    rw [datL_cons]; exact ⟨sm_dat h.1, smL_dat h.2⟩
end
@[simp] theorem sm_non : sm .non = true := by rw [sm] <;> (intros; contradiction)
@[simp] theorem sm_int (i : Int) : sm (.int i) = true := by rw [sm] <;> (intros; contradiction)
@[simp] theorem sm_bl (i : Bool) : sm (.bl i) = true := by rw [sm] <;> (intros; contradiction)
@[simp] theorem sm_str (x : Str) : sm (.str x) = PyData.strOk x := by rw [sm]
@[simp] theorem sm_tup (ds : List D) : sm (.tup ds) = (decide (ds.length ≤ 4) && smL ds) := by rw [sm]
@[simp] theorem sm_lst (ds : List D) : sm (.lst ds) = (decide (ds.length ≤ 4) && smL ds) := by rw [sm]
@[simp] theorem smL_nil : smL [] = true := by rw [smL]
@[simp] theorem smL_cons (d : D) (ds : List D) : smL (d :: ds) = (sm d && smL ds) := by rw [smL]
theorem sk_plus : PyData.strOk "+" = true := by decide +kernel
theorem sk_p : PyData.strOk "p" = true := by decide +kernel
theorem sk_zz : PyData.strOk "zz" = true := by decide +kernel
theorem sk_xor : PyData.strOk "xor" = true := by decide +kernel
theorem sk_least : PyData.strOk "least" = true := by decide +kernel
theorem w5_sk {w : Str} (h : (w5.any fun x => x == w) = true) : PyData.strOk w = true := by
  rw [List.any_eq_true] at h
  obtain ⟨x, hx, e⟩ := h
  have := eq_of_beq e
  subst this
  exact ok5 x hx
theorem ix2 {α : Type} {a b : α} {r : Nat} (hr : r < 2) : ∃ x, (x = a ∨ x = b) ∧ ((ixN 2 (r : Int)).bind fun j => [a, b][j]?) = some x := by
  rw [ixN_nat hr]
  match r, hr with
  | 0, _ => exact ⟨a, .inl rfl, rfl⟩
  | 1, _ => exact ⟨b, .inr rfl, rfl⟩
theorem ix3 {α : Type} {a b c : α} {r : Nat} (hr : r < 3) : ∃ x, (x = a ∨ x = b ∨ x = c) ∧ ((ixN 3 (r : Int)).bind fun j => [a, b, c][j]?) = some x := by
  rw [ixN_nat hr]
  match r, hr with
  | 0, _ => exact ⟨a, .inl rfl, rfl⟩
  | 1, _ => exact ⟨b, .inr (.inl rfl), rfl⟩
  | 2, _ => exact ⟨c, .inr (.inr rfl), rfl⟩
theorem ix4 {α : Type} {a b c d : α} {r : Nat} (hr : r < 4) : ∃ x, (x = a ∨ x = b ∨ x = c ∨ x = d) ∧ ((ixN 4 (r : Int)).bind fun j => [a, b, c, d][j]?) = some x := by
  rw [ixN_nat hr]
  match r, hr with
  | 0, _ => exact ⟨a, .inl rfl, rfl⟩
  | 1, _ => exact ⟨b, .inr (.inl rfl), rfl⟩
  | 2, _ => exact ⟨c, .inr (.inr (.inl rfl)), rfl⟩
  | 3, _ => exact ⟨d, .inr (.inr (.inr rfl)), rfl⟩
section
variable {h : HpE} {p : Nat} {row : List Int} (hp : p < h.length) (hr : 0 < row.length ∧ row.length < 1000) {ports : D} {ps : List Str} (hx : PX ports ps)
include hp hr hx
/-- the smallest of them -/
theorem grown_a0 (d : Int) (m a : Nat) (hm : 2 ≤ m) (ha : a + 4 ≤ TOP) (hd : d < 2 ∨ pv row a 6 = 0) : ∃ v a', a ≤ a' ∧ a' ≤ a + 4 ∧ (sm v = true ∧ hgt v ≤ 3) ∧ callF GG fns m 13 [.ref p, ports, .int d, .str "amount"] (h.set p (dr row a)) = .ok v (h.set p (dr row a')) := by
  have e1 := pick hp hr (m - 2) (a := a) (n := 6) (by omega) (by omega)
  rw [show m - 2 + 1 = m - 1 by omega] at e1
  obtain ⟨r2, hr2, e2⟩ := pickN hp hr (m - 1) (by omega) (a := a + 1) (n := ps.length) (by omega) hx.ne
  obtain ⟨x, hxm, ex⟩ := hx.ix r2 hr2
  obtain ⟨r3, hr3, e3⟩ := pickN hp hr (m - 1) (by omega) (a := a + 2) (n := 199) (by omega) (by omega)
  obtain ⟨r4, hr4, e4⟩ := pickN hp hr (m - 1) (by omega) (a := a + 3) (n := 4) (by omega) (by omega)
  obtain ⟨v, hv, ev⟩ := ix4 (a := D.tup [.str "port", .str x]) (b := .int ((r3 : Int) - 99)) (c := .int 99) (d := .int (-99)) hr4
  refine ⟨v, a + 4, by omega, by omega, ?_, ?_⟩
  · rcases hv with rfl | rfl | rfl | rfl <;> simp [sk_port, hx.ok x hxm]
  rw [call_at (by omega) (fn := f__law_grown) rfl rfl]
  simp only [f__law_grown, b__law_grown]
  simp at e3 e4
  by_cases hd2 : d < 2
  · simp [e1, e2, e3, e4, hd2, hx.ref, hx.len, ex, ev, oEq_str, sk_am, sz2, sz4]
    exact fin_len (by simp)
  · have hd : pv row a 6 = 0 := hd.resolve_left hd2
    rw [hd] at e1
    simp [e1, e2, e3, e4, hd2, hx.ref, hx.len, ex, ev, oEq_str, sk_am, sz2, sz4]
    exact fin_len (by simp)
end
end whatfailed_k52_whole_forms_spoilt

namespace whatfailed_k52_whole_forms_spoilt
open PySem Ev
section
variable {h : HpE} {p : Nat} {row : List Int} (hp : p < h.length) (hr : 0 < row.length ∧ row.length < 1000) {ports : D} {ps : List Str} (hx : PX ports ps)
include hp hr hx
theorem grown_c0 (d : Int) (m a : Nat) (hm : 2 ≤ m) (ha : a + 4 ≤ TOP) (hd : d < 3 ∨ pv row a 6 = 0) : ∃ v a', a ≤ a' ∧ a' ≤ a + 4 ∧ (sm v = true ∧ hgt v ≤ 3) ∧ callF GG fns m 13 [.ref p, ports, .int d, .str "cond"] (h.set p (dr row a)) = .ok v (h.set p (dr row a')) := by
  have e1 := pick hp hr (m - 2) (a := a) (n := 6) (by omega) (by omega)
  rw [show m - 2 + 1 = m - 1 by omega] at e1
  obtain ⟨r3, hr3, e3⟩ := pickN hp hr (m - 1) (by omega) (a := a + 1) (n := 9) (by omega) (by omega)
  obtain ⟨r4, hr4, e4⟩ := pickN hp hr (m - 1) (by omega) (a := a + 2) (n := 3) (by omega) (by omega)
  obtain ⟨x, hxm, ex⟩ := hx.ix (ps.length - 1) (by have := hx.ne; omega)
  have el : oIx ports (.int ((ps.length : Int) - 1)) = some (.str x) := by
    rw [← ex]; congr 2; have := hx.ne; omega
  obtain ⟨x0, hxm0, ex0⟩ := hx.ix 0 hx.ne
  obtain ⟨v, hv, ev⟩ := ix3 (a := D.tup [.str "yes"]) (b := .tup [.str "<", .tup [.str "port", .str x0], .int 1]) (c := .tup [.str "=", .int r3, .tup [.str "port", .str x]]) hr4
  refine ⟨v, a + 3, by omega, by omega, ?_, ?_⟩
  · rcases hv with rfl | rfl | rfl <;> simp [sk_port, sk_yes, sk_lt, sk_e, hx.ok x hxm, hx.ok x0 hxm0]
  rw [call_at (by omega) (fn := f__law_grown) rfl rfl]
  simp only [f__law_grown, b__law_grown]
  simp at e3 e4 ex0
  by_cases hd2 : d < 3
  · simp [e1, e3, e4, hd2, hx.ref, hx.len, el, ex0, ev, oEq_str, sk_am, sk_co, sz1, sz2, sz3]
    exact fin_len (by simp)
  · have hd : pv row a 6 = 0 := hd.resolve_left hd2
    rw [hd] at e1
    simp [e1, e3, e4, hd2, hx.ref, hx.len, el, ex0, ev, oEq_str, sk_am, sk_co, sz1, sz2, sz3]
    exact fin_len (by simp)
theorem grown : ∀ (deep m a : Nat), deep + 2 ≤ m → a + (10 * deep + 10) ≤ TOP →
    (∃ v a', a ≤ a' ∧ a' ≤ a + (10 * deep + 10) ∧ (sm v = true ∧ hgt v ≤ deep + 3) ∧ callF GG fns m 13 [.ref p, ports, .int deep, .str "amount"] (h.set p (dr row a)) = .ok v (h.set p (dr row a'))) ∧
    (∃ v a', a ≤ a' ∧ a' ≤ a + (10 * deep + 10) ∧ (sm v = true ∧ hgt v ≤ deep + 3) ∧ callF GG fns m 13 [.ref p, ports, .int deep, .str "cond"] (h.set p (dr row a)) = .ok v (h.set p (dr row a')))
  | 0, m, a, hm, ha => by
    obtain ⟨v, a', h1, h2, h3, h4⟩ := grown_a0 hp hr hx 0 m a (by omega) (by omega) (.inl (by omega))
    obtain ⟨w, b', g1, g2, g3, g4⟩ := grown_c0 hp hr hx 0 m a (by omega) (by omega) (.inl (by omega))
    exact ⟨⟨v, a', h1, by omega, ⟨h3.1, by omega⟩, h4⟩, ⟨w, b', g1, by omega, ⟨g3.1, by omega⟩, g4⟩⟩
  | d + 1, m, a, hm, ha => by
    have IH := grown d
    have e1 := pick hp hr (m - 2) (a := a) (n := 6) (by omega) (by omega)
    rw [show m - 2 + 1 = m - 1 by omega] at e1
    have hd2 : (d : Int) + 1 - 1 = d := by omega
    constructor
    · by_cases q : ((d + 1 : Nat) : Int) < 2 ∨ pv row a 6 = 0
      · obtain ⟨v, a', h1, h2, h3, h4⟩ := grown_a0 hp hr hx (d + 1 : Nat) m a (by omega) (by omega) q
        exact ⟨v, a', h1, by omega, ⟨h3.1, by omega⟩, h4⟩
      · obtain ⟨q1, q2⟩ := not_or.mp q
        have q1' : ¬ (d : Int) + 1 < 2 := by omega
        have q2' : (pv row a 6 == 0) = false := by simpa using q2
        by_cases q3 : pv row a 6 = 1
        · obtain ⟨_, v1, a1, b1, c1, f1, g1⟩ := IH (m - 1) (a + 1) (by omega) (by omega)
          obtain ⟨v2, a2, b2, c2, f2, g2⟩ := grown_a0 hp hr hx 1 (m - 1) a1 (by omega) (by omega) (.inl (by omega))
          obtain ⟨v3, a3, b3, c3, f3, g3⟩ := grown_a0 hp hr hx 1 (m - 1) a2 (by omega) (by omega) (.inl (by omega))
          refine ⟨.tup [.str "if", v1, v2, v3], a3, by omega, by omega, ⟨by simp [sk_if, f1.1, f2.1, f3.1], by simp; omega⟩, ?_⟩
          rw [call_at (by omega) (fn := f__law_grown) rfl rfl]
          simp only [f__law_grown, b__law_grown]
          rw [q3] at e1
          simp [e1, q1', hd2, g1, g2, g3, oEq_str, sk_am, sz4]
          exact fin_len (by simp)
        · have q3' : (pv row a 6 == 1) = false := by simpa using q3
          obtain ⟨r2, hr2, e2⟩ := pickN hp hr (m - 1) (by omega) (a := a + 1) (n := 5) (by omega) (by omega)
          obtain ⟨w, hw, ew⟩ := w5_ix hr2
          obtain ⟨⟨v1, a1, b1, c1, f1, g1⟩, _⟩ := IH (m - 1) (a + 2) (by omega) (by omega)
          obtain ⟨v2, a2, b2, c2, f2, g2⟩ := grown_a0 hp hr hx 1 (m - 1) a1 (by omega) (by omega) (.inl (by omega))
          refine ⟨.tup [.str w, v1, v2], a2, by omega, by omega, ⟨by simp [w5_sk hw, f1.1, f2.1], by simp; omega⟩, ?_⟩
          rw [call_at (by omega) (fn := f__law_grown) rfl rfl]
          simp only [f__law_grown, b__law_grown]
          (try simp at e2); (try simp at ew)
          simp [e1, e2, ew, q1', q2', q3', hd2, g1, g2, oEq_str, sk_am, sz3, sz5]
          exact fin_len (by simp)
    · by_cases q : ((d + 1 : Nat) : Int) < 3 ∨ pv row a 6 = 0
      · obtain ⟨v, a', h1, h2, h3, h4⟩ := grown_c0 hp hr hx (d + 1 : Nat) m a (by omega) (by omega) q
        exact ⟨v, a', h1, by omega, ⟨h3.1, by omega⟩, h4⟩
      · obtain ⟨q1, q2⟩ := not_or.mp q
        have q1' : ¬ (d : Int) + 1 < 3 := by omega
        have q2' : (pv row a 6 == 0) = false := by simpa using q2
        by_cases q3 : pv row a 6 = 1
        · obtain ⟨_, v1, a1, b1, c1, f1, g1⟩ := IH (m - 1) (a + 1) (by omega) (by omega)
          refine ⟨.tup [.str "not", v1], a1, by omega, by omega, ⟨by simp [sk_not, f1.1], by simp; omega⟩, ?_⟩
          rw [call_at (by omega) (fn := f__law_grown) rfl rfl]
          simp only [f__law_grown, b__law_grown]
          rw [q3] at e1
          simp [e1, q1', hd2, g1, oEq_str, sk_am, sk_co, sz2]
          exact fin_len (by simp)
        · have q3' : (pv row a 6 == 1) = false := by simpa using q3
          by_cases q4 : pv row a 6 = 2
          · obtain ⟨⟨v1, a1, b1, c1, f1, g1⟩, _⟩ := IH (m - 1) (a + 1) (by omega) (by omega)
            obtain ⟨v2, a2, b2, c2, f2, g2⟩ := grown_a0 hp hr hx 1 (m - 1) a1 (by omega) (by omega) (.inl (by omega))
            refine ⟨.tup [.str "<", v1, v2], a2, by omega, by omega, ⟨by simp [sk_lt, f1.1, f2.1], by simp; omega⟩, ?_⟩
            rw [call_at (by omega) (fn := f__law_grown) rfl rfl]
            simp only [f__law_grown, b__law_grown]
            rw [q4] at e1
            simp [e1, q1', hd2, g1, g2, oEq_str, sk_am, sk_co, sz3]
            exact fin_len (by simp)
          · have q4' : (pv row a 6 == 2) = false := by simpa using q4
            obtain ⟨r2, hr2, e2⟩ := pickN hp hr (m - 1) (by omega) (a := a + 1) (n := 2) (by omega) (by omega)
            obtain ⟨w, hw, ew⟩ := ix2 (a := D.str "and") (b := D.str "or") hr2
            obtain ⟨_, v1, a1, b1, c1, f1, g1⟩ := IH (m - 1) (a + 2) (by omega) (by omega)
            refine ⟨.tup [w, v1, .tup [.str "yes"]], a1, by omega, by omega, ⟨by rcases hw with rfl | rfl <;> simp [sk_and, sk_or, sk_yes, f1.1], by rcases hw with rfl | rfl <;> simp <;> omega⟩, ?_⟩
            rw [call_at (by omega) (fn := f__law_grown) rfl rfl]
            simp only [f__law_grown, b__law_grown]
            (try simp at e2)
            simp [e1, e2, ew, q1', q2', q3', q4', hd2, g1, oEq_str, sk_am, sk_co, sz1, sz2, sz3]
            exact fin_len (by simp)
end
end whatfailed_k52_whole_forms_spoilt

namespace whatfailed_k52_whole_forms_spoilt
open PySem Ev
theorem oSl_hi (xs : List D) (i : Nat) (hi : i ≤ xs.length) : oSl (.tup xs) none (some (i : Int)) = some (.tup (xs.take i)) := by
  have : ¬ ((i : Int) < 0) := by omega
  simp [oSl, cut, sIx, this, Nat.min_eq_left hi]
theorem oSl_lo (xs : List D) (i : Nat) (hi : i ≤ xs.length) : oSl (.tup xs) (some (i : Int)) none = some (.tup (xs.drop i)) := by
  have : ¬ ((i : Int) < 0) := by omega
  simp [oSl, cut, sIx, this, Nat.min_eq_left hi, List.take_of_length_le]
theorem smL_all {ds : List D} : smL ds = true ↔ ∀ d ∈ ds, sm d = true := by
  induction ds with
  | nil => simp
  | cons d ds ih => rw [smL_cons, Bool.and_eq_true, ih]; simp
theorem hgtL_le {ds : List D} {k : Nat} (h : hgtL ds ≤ k) : ∀ d ∈ ds, hgt d ≤ k := by
  induction ds with
  | nil => simp
  | cons d ds ih =>
    rw [hgtL_cons] at h
    intro x hx
    rcases List.mem_cons.mp hx with rfl | hx
    · omega
    · exact ih (by omega) x hx
def bad23 (v : D) : List D := [.non, .bl true, .int 100, .int (-100), .str "p", .lst [v], .tup [], .tup [.str "port"], .tup [.str "port", .str "zz"], .tup [.str "port", .int 3], .tup [.str "if", .tup [.str "yes"], .int 1], .tup [.str "+", .int 1], .tup [.str "+", .int 1, .int 2, .int 3],
  .tup [.str "yes", .int 1], .tup [.str "not"], .tup [.str "and", .tup [.str "yes"]], .tup [.str "<", .int 1], .tup [.str "xor", .int 1, .int 2], .tup [.int 1, .int 2, .int 3], .tup [.str "=", .tup [.str "yes"], .int 1], .tup [.str "not", .int 1], .tup [.tup [.str "yes"]], .tup [.str "least", .int 1, .tup [.str "yes"]]]
theorem bad23_sm {v : D} (hv : sm v = true) : ∀ d ∈ bad23 v, sm d = true := by
  intro d hd
  simp only [bad23, List.mem_cons, List.mem_nil_iff, or_false] at hd
  rcases hd with rfl | rfl | rfl | rfl | rfl | rfl | rfl | rfl | rfl | rfl | rfl | rfl | rfl | rfl | rfl | rfl | rfl | rfl | rfl | rfl | rfl | rfl | rfl <;>
    simp [hv, sk_p, sk_port, sk_zz, sk_if, sk_yes, sk_plus, sk_not, sk_and, sk_lt, sk_xor, sk_e, sk_least]
theorem sz13 : 13 ≤ sz := by decide
theorem sz10 : 10 ≤ sz := by decide
theorem sz23 : 23 ≤ sz := by decide
theorem op_mkTup' {ds : List D} {h : HpE} (hz : ds.length ≤ sz) : opEv .mkTup ds h = .ok (.tup ds) h := by rw [op_mkTup, if_pos hz]
section
variable {h : HpE} {p : Nat} {row : List Int} (hp : p < h.length) (hr : 0 < row.length ∧ row.length < 1000)
include hp hr
def notTup : D → Bool
  | .tup _ => false
  | _ => true
theorem spoilt_nt (v : D) (m a : Nat) (ht : notTup v = true) (hv : sm v = true) (hm : 2 ≤ m) (ha : a + 3 ≤ TOP) : ∃ w a', a ≤ a' ∧ a' ≤ a + 3 ∧ sm w = true ∧ callF GG fns m 14 [.ref p, v] (h.set p (dr row a)) = .ok w (h.set p (dr row a')) := by
    obtain ⟨r, hr1, e1⟩ := pickN hp hr (m - 1) (by omega) (a := a) (n := 9) (by omega) (by omega)
    obtain ⟨r2, hr2, e2⟩ := pickN hp hr (m - 1) (by omega) (a := a + 1) (n := 23) (by omega) (by omega)
    have hb : r2 < (bad23 v).length := hr2
    have eb : ((ixN 23 (r2 : Int)).bind fun j => (bad23 v)[j]?) = some (bad23 v)[r2] := by
      rw [ixN_nat hr2]; exact List.getElem?_eq_getElem hb
    refine ⟨(bad23 v)[r2], a + 2, by omega, by omega, bad23_sm hv _ (List.getElem_mem hb), ?_⟩
    rw [call_at (by omega) (fn := f__law_spoilt) rfl rfl]
    simp only [f__law_spoilt, b__law_spoilt]
    simp at e1 e2
    have hd := sm_dat hv
    have eL : [D.non, .bl true, .int 100, .int (-100), .str "p", .lst [v], .tup [], .tup [.str "port"], .tup [.str "port", .str "zz"], .tup [.str "port", .int 3], .tup [.str "if", .tup [.str "yes"], .int 1], .tup [.str "+", .int 1], .tup [.str "+", .int 1, .int 2, .int 3],
      .tup [.str "yes", .int 1], .tup [.str "not"], .tup [.str "and", .tup [.str "yes"]], .tup [.str "<", .int 1], .tup [.str "xor", .int 1, .int 2], .tup [.int 1, .int 2, .int 3], .tup [.str "=", .tup [.str "yes"], .int 1], .tup [.str "not", .int 1], .tup [.tup [.str "yes"]], .tup [.str "least", .int 1, .tup [.str "yes"]]] = bad23 v := rfl
    have hl : (bad23 v).length = 23 := rfl
    generalize hB : bad23 v = B at *
    cases v with
    | tup _ => cases ht
    | dct _ => simp at hd
    | ref _ => simp at hd
    | exc _ => simp at hd
    | scr _ => simp at hd
    | _ =>
      by_cases q : (r : Int) < 5 <;> cases q2 : ((r : Int) == 5) <;>
      (simp [e1, e2, eL, eb, hl, q, q2, sz0, sz1, sz2, sz3, sz4, sz10, sz13, sz23]
       exact fin_len (by simp))
theorem spoilt_t (ds : List D) (m a : Nat) (hv : sm (.tup ds) = true) (hm : 2 ≤ m) (ha : a + 3 ≤ TOP)
    (rec' : ∀ v ∈ ds, ∃ w a', a + 2 ≤ a' ∧ a' ≤ a + 2 + (m - 2) * 3 ∧ sm w = true ∧ callF GG fns (m - 1) 14 [.ref p, v] (h.set p (dr row (a + 2))) = .ok w (h.set p (dr row a'))) :
    ∃ w a', a ≤ a' ∧ a' ≤ a + 3 + (m - 2) * 3 ∧ sm w = true ∧ callF GG fns m 14 [.ref p, .tup ds] (h.set p (dr row a)) = .ok w (h.set p (dr row a')) := by
    obtain ⟨r, hr1, e1⟩ := pickN hp hr (m - 1) (by omega) (a := a) (n := 9) (by omega) (by omega)
    have hv' := hv
    rw [sm_tup, Bool.and_eq_true, decide_eq_true_eq] at hv'
    have eL : [D.non, .bl true, .int 100, .int (-100), .str "p", .lst [.tup ds], .tup [], .tup [.str "port"], .tup [.str "port", .str "zz"], .tup [.str "port", .int 3], .tup [.str "if", .tup [.str "yes"], .int 1], .tup [.str "+", .int 1], .tup [.str "+", .int 1, .int 2, .int 3],
      .tup [.str "yes", .int 1], .tup [.str "not"], .tup [.str "and", .tup [.str "yes"]], .tup [.str "<", .int 1], .tup [.str "xor", .int 1, .int 2], .tup [.int 1, .int 2, .int 3], .tup [.str "=", .tup [.str "yes"], .int 1], .tup [.str "not", .int 1], .tup [.tup [.str "yes"]], .tup [.str "least", .int 1, .tup [.str "yes"]]] = bad23 (.tup ds) := rfl
    have hl : (bad23 (.tup ds)).length = 23 := rfl
    simp at e1
    by_cases q : (r : Int) < 5 ∧ 1 < ds.length
    · obtain ⟨q, q1⟩ := q
      have q1' : (1 : Int) < ds.length := by omega
      obtain ⟨r2, hr2, e2⟩ := pickN hp hr (m - 1) (by omega) (a := a + 1) (n := ds.length - 1) (by omega) (by omega)
      have hi : 1 + r2 < ds.length := by omega
      obtain ⟨w, a', b1, c1, f1, g1⟩ := rec' ds[1 + r2] (List.getElem_mem hi)
      refine ⟨.tup (ds.take (1 + r2) ++ [w] ++ ds.drop (1 + r2 + 1)), a', by omega, by omega, ?_, ?_⟩
      · rw [sm_tup, Bool.and_eq_true, decide_eq_true_eq, smL_all]
        refine ⟨by simp; omega, fun d hd => ?_⟩
        have := smL_all.mp hv'.2
        simp only [List.append_assoc, List.mem_append, List.mem_cons, List.mem_nil_iff, or_false] at hd
        rcases hd with hd | rfl | hd
        · exact this d (List.mem_of_mem_take hd)
        · exact f1
        · exact this d (List.mem_of_mem_drop hd)
      rw [call_at (by omega) (fn := f__law_spoilt) rfl rfl]
      simp only [f__law_spoilt, b__law_spoilt]
      have e2' : callF GG fns (m - 1) 3 [D.ref p, D.int ((ds.length : Int) - 1)] (h.set p (dr row (a + 1))) = .ok (.int (r2 : Nat)) (h.set p (dr row (a + 1 + 1))) := by
        rw [← e2]; congr 3; congr 1; congr 1; omega
      have x1 : ((ixN ds.length (1 + (r2 : Int))).bind fun j => ds[j]?) = some ds[1 + r2] := by
        have := ixN_nat hi
        rw [show (((1 + r2 : Nat)) : Int) = 1 + (r2 : Int) by omega] at this
        rw [this]
        exact List.getElem?_eq_getElem hi
      have x2 : oSl (.tup ds) none (some (1 + (r2 : Int))) = some (.tup (ds.take (1 + r2))) := by
        have := oSl_hi ds (1 + r2) (by omega)
        rwa [show (((1 + r2 : Nat)) : Int) = 1 + (r2 : Int) by omega] at this
      have x3 : oSl (.tup ds) (some (1 + (r2 : Int) + 1)) none = some (.tup (ds.drop (1 + r2 + 1))) := by
        have := oSl_lo ds (1 + r2 + 1) (by omega)
        rwa [show (((1 + r2 + 1 : Nat)) : Int) = 1 + (r2 : Int) + 1 by omega] at this
      have z1 : min (1 + r2) ds.length + 1 ≤ sz := Nat.le_trans (by omega) sz10
      have z2 : min (1 + r2) ds.length + 1 + (ds.length - (1 + r2 + 1)) ≤ sz := Nat.le_trans (by omega) sz10
      generalize hB : bad23 (.tup ds) = B at *
      simp [e1, e2', eL, hl, q, q1, q1', x1, x2, x3, g1, z1, z2, sz0, sz1, sz2, sz3, sz4, sz10, sz13, sz23]
      exact fin_len (by simp)
    · have q' : (r : Int) < 5 → ¬ (1 : Int) < ds.length := fun h1 h2 => q ⟨h1, by omega⟩
      cases q2 : ((r : Int) == 5)
      · obtain ⟨r2, hr2, e2⟩ := pickN hp hr (m - 1) (by omega) (a := a + 1) (n := 23) (by omega) (by omega)
        have hb : r2 < (bad23 (.tup ds)).length := hr2
        have eb : ((ixN 23 (r2 : Int)).bind fun j => (bad23 (.tup ds))[j]?) = some (bad23 (.tup ds))[r2] := by
          rw [ixN_nat hr2]; exact List.getElem?_eq_getElem hb
        refine ⟨(bad23 (.tup ds))[r2], a + 2, by omega, by omega, bad23_sm hv _ (List.getElem_mem hb), ?_⟩
        rw [call_at (by omega) (fn := f__law_spoilt) rfl rfl]
        simp only [f__law_spoilt, b__law_spoilt]
        simp at e2
        generalize hB : bad23 (.tup ds) = B at *
        by_cases q3 : (r : Int) < 5
        · have q4 := q' q3
          have q5 : ¬ 1 < ds.length := by omega
          have q6 : decide ((1 : Int) < ds.length) = false := decide_eq_false q4
          simp [e1, e2, eL, eb, hl, q2, q3, q6, sz0, sz1, sz2, sz3, sz4, sz10, sz13, sz23]
          exact fin_len (by simp)
        · simp [e1, e2, eL, eb, hl, q2, q3, sz0, sz1, sz2, sz3, sz4, sz10, sz13, sz23]
          exact fin_len (by simp)
      · refine ⟨.lst ds, a + 1, by omega, by omega, by rw [sm_lst]; simp [hv'.1, hv'.2], ?_⟩
        have q3 : ¬ (r : Int) < 5 := by have := eq_of_beq q2; omega
        rw [call_at (by omega) (fn := f__law_spoilt) rfl rfl]
        simp only [f__law_spoilt, b__law_spoilt]
        generalize hB : bad23 (.tup ds) = B at *
        simp [e1, eL, hl, q2, q3, sz0, sz1, sz2, sz3, sz4, sz10, sz13, sz23]
        exact fin_len (by simp)
theorem spoilt : ∀ (k : Nat) (v : D) (m a : Nat), hgt v ≤ k → sm v = true → k + 2 ≤ m → m ≤ 1000 → a + 3 + (m - 2) * 3 ≤ TOP → ∃ w a', a ≤ a' ∧ a' ≤ a + 3 + (m - 2) * 3 ∧ sm w = true ∧ callF GG fns m 14 [.ref p, v] (h.set p (dr row a)) = .ok w (h.set p (dr row a')) := by
  intro k
  induction k with
  | zero =>
    intro v m a hk hv hm hm2 ha
    obtain ⟨w, a', h1, h2, h3, h4⟩ := spoilt_nt hp hr v m a (by cases v <;> first | rfl | simp at hk) hv (by omega) (by omega)
    exact ⟨w, a', h1, by omega, h3, h4⟩
  | succ k ih =>
    intro v m a hk hv hm hm2 ha
    cases hn : notTup v
    · obtain ⟨ds, rfl⟩ : ∃ ds, v = .tup ds := by cases v <;> first | exact ⟨_, rfl⟩ | cases hn
      have hv' := hv
      rw [sm_tup, Bool.and_eq_true] at hv'
      rw [hgt_tup] at hk
      exact spoilt_t hp hr ds m a hv (by omega) (by omega) fun v hv2 => by
        obtain ⟨w, a', h1, h2, h3, h4⟩ := ih v (m - 1) (a + 2) (hgtL_le (by omega) v hv2) (smL_all.mp hv'.2 v hv2) (by omega) (by omega) (by omega)
        exact ⟨w, a', h1, by omega, h3, h4⟩
    · obtain ⟨w, a', h1, h2, h3, h4⟩ := spoilt_nt hp hr v m a hn hv (by omega) (by omega)
      exact ⟨w, a', h1, by omega, h3, h4⟩
end
end whatfailed_k52_whole_forms_spoilt

namespace whatfailed_k52_whole_forms_spoilt
open PySem Ev
theorem amt8 {ports : D} {P : Str → Bool} (hp : PrtOk ports P) (m : Nat) (h : HpE) (v : D) (hm : 10 ≤ m) (hv : Dat v) : callF GG fns m 16 [v, ports] h = .ok (.bl (fA P 8 v)) h := by
  obtain ⟨n, rfl⟩ : ∃ n, m = n + 8 + 2 := ⟨m - 10, by omega⟩
  have := (amt_cond hp 8 n h v hv).1
  rw [show n + 8 + 2 = (n + 9) + 1 by omega] at this ⊢
  rw [call_run1 (fn := f_is_amount) (d := .int 8) rfl rfl rfl]
  exact this
theorem cnd8 {ports : D} {P : Str → Bool} (hp : PrtOk ports P) (m : Nat) (h : HpE) (v : D) (hm : 10 ≤ m) (hv : Dat v) : callF GG fns m 18 [v, ports] h = .ok (.bl (fC P 8 v)) h := by
  obtain ⟨n, rfl⟩ : ∃ n, m = n + 8 + 2 := ⟨m - 10, by omega⟩
  have := (amt_cond hp 8 n h v hv).2
  rw [show n + 8 + 2 = (n + 9) + 1 by omega] at this ⊢
  rw [call_run1 (fn := f_is_condition) (d := .int 8) rfl rfl rfl]
  exact this
theorem frmA {ports : D} {P : Str → Bool} (hp : PrtOk ports P) (m : Nat) (h : HpE) (v : D) (hm : 10 ≤ m) (hv : Dat v) : callF GG fns m 17 [v, ports, .int 8, .str "amount"] h = .ok (.bl (fA P 8 v)) h := by
  obtain ⟨n, rfl⟩ : ∃ n, m = n + 8 + 2 := ⟨m - 10, by omega⟩
  exact (form_ok hp 8 n h v hv).1
theorem frmC {ports : D} {P : Str → Bool} (hp : PrtOk ports P) (m : Nat) (h : HpE) (v : D) (hm : 10 ≤ m) (hv : Dat v) : callF GG fns m 17 [v, ports, .int 8, .str "cond"] h = .ok (.bl (fC P 8 v)) h := by
  obtain ⟨n, rfl⟩ : ∃ n, m = n + 8 + 2 := ⟨m - 10, by omega⟩
  exact (form_ok hp 8 n h v hv).2
theorem likeB (m : Nat) (h : HpE) (a b : Bool) (hm : 0 < m) : callF GG fns m 15 [.bl a, .bl b] h = .ok (.bl (a == b)) h := by
  obtain ⟨n, rfl⟩ : ∃ n, m = n + 1 := ⟨m - 1, by omega⟩
  exact like_bl n h a b
/-- the inner loop's body -/
def ftFor : S := match b__law_forms_told with
  | .cons (.for _ _ _ (.cons _ (.cons f _))) _ => f
  | _ => .pass
def ftBody : SL := match ftFor with
  | .for _ _ _ b => b
  | _ => .nil
theorem ft_turn {ports : D} {P : Str → Bool} (hp : PrtOk ports P) (m : Nat) (h : HpE) (hm : 10 ≤ m) (r k v o : D) (ho : Dat o) : exL GG (callF GG fns m) ftBody [some r, some ports, some k, some v, some o] h = .nx [some r, some ports, some k, some v, some o] h := by
  simp only [ftBody, ftFor, b__law_forms_told]
  simp [amt8 hp m h o hm ho, cnd8 hp m h o hm ho, frmA hp m h o hm ho, frmC hp m h o hm ho, likeB m h _ _ (show 0 < m by omega)]
theorem ft_loop {ports : D} {P : Str → Bool} (hp : PrtOk ports P) (m : Nat) (h : HpE) (hm : 10 ≤ m) (r k v : D) (src : List D) {xs : List D} (hx : DatL xs) (o : Option D) :
    ∃ o', forL src (src.map (look h)) (fun x env h => (ofO (asgNT (.name 4) x env) h).out fun env' h => exL GG (callF GG fns m) ftBody env' h) xs [some r, some ports, some k, some v, o] h = .nx [some r, some ports, some k, some v, o'] h := by
  obtain ⟨env', h', e, hi⟩ := forL_ex (src := src) (h0 := src.map (look h)) (f := fun x env h => (ofO (asgNT (.name 4) x env) h).out fun env' h => exL GG (callF GG fns m) ftBody env' h)
    (fun xs env h' => DatL xs ∧ (∃ o, env = [some r, some ports, some k, some v, o]) ∧ h' = h) (fun x rr env h' ⟨h1, ⟨o, h2⟩, h3⟩ => by
      subst h2 h3
      rw [datL_cons] at h1
      refine ⟨[some r, some ports, some k, some v, some x], h', .inl ?_, rfl, h1.2, ⟨_, rfl⟩, rfl⟩
      simp
      exact ft_turn hp m h' hm r k v x h1.1) xs _ h ⟨hx, ⟨o, rfl⟩, rfl⟩
  obtain ⟨_, ⟨o', rfl⟩, rfl⟩ := hi
  exact ⟨o', e⟩
def ftIt : CL := match ftFor with
  | .for _ _ it _ => it
  | _ => .nil
def ftAsg : S := match b__law_forms_told with
  | .cons (.for _ _ _ (.cons s _)) _ => s
  | _ => .pass
theorem ftFor_eq : ftFor = .for (.name 4) .plain ftIt ftBody := rfl
theorem ft_eq : b__law_forms_told = .cons (.for (.name 2) .plain (.cons (.op .mkTup (.cons (.lit (.str "amount")) (.cons (.lit (.str "cond")) .nil))) .nil) (.cons ftAsg (.cons ftFor .nil))) (.cons (.ret (.lit (.bl true))) .nil) := rfl
theorem sz6 : 6 ≤ sz := by decide
theorem ft_for {ports : D} {P : Str → Bool} (hp : PrtOk ports P) (m : Nat) (hm : 10 ≤ m) (r k v : D) (o : Option D) {h h2 h3 : HpE} {w1 w2 : D} (g1 : callF GG fns m 14 [r, v] h = .ok w1 h2) (g2 : callF GG fns m 14 [r, v] h2 = .ok w2 h3)
    (x : DatL [v, w1, w2, .tup [.str "not", v], .tup [.str "+", v, .int 1], .tup [.str "if", v, .int 1, .int 2]]) :
    ∃ o', exS GG (callF GG fns m) ftFor [some r, some ports, some k, some v, o] h = .nx [some r, some ports, some k, some v, o'] h3 := by
  obtain ⟨o', e⟩ := ft_loop hp m h3 hm r k v [.tup [v, w1, w2, .tup [.str "not", v], .tup [.str "+", v, .int 1], .tup [.str "if", v, .int 1, .int 2]]] x o
  refine ⟨o', ?_⟩
  rw [ftFor_eq, exS_forS]
  have ev : evL GG (callF GG fns m) ftIt [some r, some ports, some k, some v, o] h = .ok [.tup [v, w1, w2, .tup [.str "not", v], .tup [.str "+", v, .int 1], .tup [.str "if", v, .int 1, .int 2]]] h3 := by
    simp only [ftIt, ftFor, b__law_forms_told]
    simp [g1, g2, sz2, sz3, sz4, sz6]
  rw [ev]
  simp only [out_okS, List.map_cons, List.map_nil, look_tup, items_plain, asIter_tup, ofO_some]
  exact e
section
variable {h : HpE} {p : Nat} {row : List Int} (hp : p < h.length) (hr : 0 < row.length ∧ row.length < 1000) {ports : D} {ps : List Str} (hx : PX ports ps) (hq : PrtOk ports (PS ps))
include hp hr hx hq
theorem forms_told (m a : Nat) (hm : 20 ≤ m) (hm2 : m ≤ 1000) (ha : a + 20000 ≤ TOP) : ∃ a', a ≤ a' ∧ a' ≤ a + 20000 ∧ callF GG fns m 4 [.ref p, ports] (h.set p (dr row a)) = .ok (.bl true) (h.set p (dr row a')) := by
  obtain ⟨r1, hr1, e1⟩ := pickN hp hr (m - 1) (by omega) (a := a) (n := 9) (by omega) (by omega)
  obtain ⟨⟨v1, a1, b1, c1, f1, g1⟩, _⟩ := grown hp hr hx (1 + r1) (m - 1) (a + 1) (by omega) (by omega)
  obtain ⟨w1, a2, b2, c2, f2, g2⟩ := spoilt hp hr 15 v1 (m - 1) a1 (by omega) f1.1 (by omega) (by omega) (by omega)
  obtain ⟨w2, a3, b3, c3, f3, g3⟩ := spoilt hp hr 15 v1 (m - 1) a2 (by omega) f1.1 (by omega) (by omega) (by omega)
  obtain ⟨r2, hr2, e2⟩ := pickN hp hr (m - 1) (by omega) (a := a3) (n := 9) (by omega) (by omega)
  obtain ⟨_, v4, a4, b4, c4, f4, g4⟩ := grown hp hr hx (1 + r2) (m - 1) (a3 + 1) (by omega) (by omega)
  obtain ⟨w5, a5, b5, c5, f5, g5⟩ := spoilt hp hr 15 v4 (m - 1) a4 (by omega) f4.1 (by omega) (by omega) (by omega)
  obtain ⟨w6, a6, b6, c6, f6, g6⟩ := spoilt hp hr 15 v4 (m - 1) a5 (by omega) f4.1 (by omega) (by omega) (by omega)
  refine ⟨a6, by omega, by omega, ?_⟩
  have x1 : DatL [v1, w1, w2, .tup [.str "not", v1], .tup [.str "+", v1, .int 1], .tup [.str "if", v1, .int 1, .int 2]] := by
    simp [sm_dat f1.1, sm_dat f2, sm_dat f3, dat_str, sk_not, sk_plus, sk_if]
  have x2 : DatL [v4, w5, w6, .tup [.str "not", v4], .tup [.str "+", v4, .int 1], .tup [.str "if", v4, .int 1, .int 2]] := by
    simp [sm_dat f4.1, sm_dat f5, sm_dat f6, dat_str, sk_not, sk_plus, sk_if]
  obtain ⟨o1, L1⟩ := ft_for hq (m - 1) (by omega) (.ref p) (.str "amount") v1 none g2 g3 x1
  obtain ⟨o2, L2⟩ := ft_for hq (m - 1) (by omega) (.ref p) (.str "cond") v4 o1 g5 g6 x2
  rw [call_at (by omega) (fn := f__law_forms_told) rfl rfl]
  simp only [f__law_forms_told]
  rw [ft_eq]
  have A1 : exS GG (callF GG fns (m - 1)) ftAsg [some (.ref p), some ports, some (.str "amount"), none, none] (h.set p (dr row a)) = .nx [some (.ref p), some ports, some (.str "amount"), some v1, none] (h.set p (dr row a1)) := by
    simp only [ftAsg, b__law_forms_told]
    (try simp at e1); (try simp at g1)
    simp [e1, g1]
  have A2 : exS GG (callF GG fns (m - 1)) ftAsg [some (.ref p), some ports, some (.str "cond"), some v1, o1] (h.set p (dr row a3)) = .nx [some (.ref p), some ports, some (.str "cond"), some v4, o1] (h.set p (dr row a4)) := by
    simp only [ftAsg, b__law_forms_told]
    (try simp at e2); (try simp at g4)
    simp [e2, g4]
  simp [exS_forS, forL, sz2, A1, L1, A2, L2]
  exact fin_len (by simp)
end
end whatfailed_k52_whole_forms_spoilt

namespace whatfailed_k52_whole_forms_spoilt
open PySem Ev
theorem isint (m : Nat) (h : HpE) {v : D} (hm : 0 < m) (hv : Dat v) : callF GG fns m 24 [v] h = .ok (.bl (isIntD v)) h := by
  obtain ⟨n, rfl⟩ : ∃ n, m = n + 1 := ⟨m - 1, by omega⟩
  exact is_int_ok n h hv
def LET : Str := "abcdefghijklmnopqrstuvwxyz"
def wds : List Str := ["well", "port", "if", "and", "or", "not", "least", "most", "yes", "kinds", "device", "wires", "parts", "outer", "ports", "modes"]
theorem wds_eq : g_WORDS = wds.map .str := rfl
theorem wds_ok : ∀ x ∈ wds, PyData.strOk x = true := by decide +kernel
def letIn (c : Nat) : Bool := !(Builtin.Str.occurrences LET ⟨#[c]⟩ 0 LET.length 1).isEmpty
def nameS (x : Str) : Bool := decide (1 ≤ x.length) && decide (x.length ≤ 8) && !(wds.any fun y => y == x) && x.cps.toList.all letIn
def fName : D → Bool
  | .str x => nameS x
  | _ => false
def Sht (v : D) : Prop := ∀ x, v = .str x → x.length ≤ sz
theorem isname (m : Nat) (h : HpE) {v : D} (hm : 0 < m) (hv : Dat v) (hs : Sht v) : callF GG fns m 32 [v] h = .ok (.bl (fName v)) h := by
  rw [call_at hm (fn := f_is_name) rfl rfl]
  simp only [f_is_name, b_is_name, wds_eq]
  cases v with
  | str x =>
    have hx := hs x rfl
    rw [dat_str] at hv
    have hlen : oLen (.str x) = some (.int x.length) := by
      show (if x.length ≤ sz then _ else none) = _
      rw [if_pos hx]
    have hit : asIter (.str x) = some (x.cps.toList.map fun c => .str ⟨#[c]⟩) := by
      show (if x.length ≤ sz then _ else none) = _
      rw [if_pos hx]
    have hG : GG[2]? = some (.str LET) := rfl
    have hc : evC GG (callF GG fns (m - 1)) (.comp [1] (.name 1) .plain (.cons (.var 0) .nil) .nil (.op .inn (.cons (.var 1) (.cons (.glb 2) .nil)))) [some (.str x), none] h = .ok (.lst (x.cps.toList.map fun c => .bl (letIn c))) h := by
      have := comp_map (G := GG) (call := callF GG fns (m - 1)) (env := [some (.str x), none]) (h := h) (own := [1]) (t := .name 1) (k := .plain) (it := .cons (.var 0) .nil) (e := .op .inn (.cons (.var 1) (.cons (.glb 2) .nil))) (ds := [.str x]) (xs := x.cps.toList.map fun c => .str ⟨#[c]⟩)
        (fun d => match d with | .str y => D.bl (!(Builtin.Str.occurrences LET y 0 LET.length 1).isEmpty) | _ => .non) (fun d => [some (.str x), some d]) (by simp) (by simpa using hit)
        (by rw [List.length_map, Array.length_toList]; exact hx) (fun d hd => by simp) (fun d hd => by
          obtain ⟨c, _, rfl⟩ := List.mem_map.mp hd
          simp [hG, oIn])
      rw [List.map_map] at this
      exact this
    by_cases h1 : 1 ≤ x.length
    · have g1 : decide ((1 : Int) ≤ x.length) = true := decide_eq_true (by omega)
      by_cases h2 : x.length ≤ 8
      · have g2 : decide ((x.length : Int) ≤ 8) = true := decide_eq_true (by omega)
        cases h3 : wds.any fun y => y == x
        · simp [hlen, h1, h2, g1, g2, h3, oIn_strs false hv wds_ok, hc, oAll_map, fName, nameS]
        · simp [hlen, h1, h2, g1, g2, h3, oIn_strs false hv wds_ok, fName, nameS]
      · have g2 : decide ((x.length : Int) ≤ 8) = false := decide_eq_false (by omega)
        simp [hlen, h1, h2, g1, g2, fName, nameS]
    · have g1 : decide ((1 : Int) ≤ x.length) = false := decide_eq_false (by omega)
      simp [hlen, h1, g1, fName, nameS]
  | _ => simp [fName] <;> simp at hv
end whatfailed_k52_whole_forms_spoilt

namespace whatfailed_k52_whole_forms_spoilt
open PySem Ev
/-- rising texts -/
def rising : List Str → Bool
  | a :: b :: r => ltStr a b && rising (b :: r)
  | _ => true
theorem rising_range : ∀ (xs : List Str), ((List.range (xs.length - 1)).all fun k => ltStr (xs.getD k "") (xs.getD (k + 1) "")) = rising xs
  | [] => rfl
  | [a] => rfl
  | a :: b :: r => by
    have IH := rising_range (b :: r)
    rw [show (a :: b :: r).length - 1 = (b :: r).length - 1 + 1 by simp, List.range_succ_eq_map, List.all_cons, List.all_map, rising]
    congr 1
theorem range_items (n : Nat) : rangeL 0 ((n : Int) - 1) = (List.range (n - 1)).map fun (i : Nat) => D.int i := by
  unfold rangeL
  rw [show ((n : Int) - 1 - 0).toNat = n - 1 by omega]
  simp
theorem isrising (m : Nat) (h : HpE) {v : D} {xs : List Str} (hm : 0 < m) (hl : ∀ h, look h v = v) (hv : oLen v = some (.int xs.length)) (hx : ∀ i : Nat, i < xs.length → oIx v (.int (i : Nat)) = some (.str (xs.getD i ""))) (hz : xs.length ≤ 1000) :
    callF GG fns m 28 [v] h = .ok (.bl (rising xs)) h := by
  rw [call_at hm (fn := f_is_rising) rfl rfl]
  simp only [f_is_rising, b_is_rising]
  have hc : evC GG (callF GG fns (m - 1)) (.comp [1] (.name 1) .range (.cons (.op .sub (.cons (.op .len (.cons (.var 0) .nil)) (.cons (.lit (.int 1)) .nil))) .nil) .nil (.op .lt (.cons (.op .ix (.cons (.var 0) (.cons (.var 1) .nil))) (.cons (.op .ix (.cons (.var 0) (.cons (.op .add (.cons (.var 1) (.cons (.lit (.int 1)) .nil))) .nil))) .nil)))) [some v, none] h =
      .ok (.lst ((List.range (xs.length - 1)).map fun k => .bl (ltStr (xs.getD k "") (xs.getD (k + 1) "")))) h := by
    have := comp_map (G := GG) (call := callF GG fns (m - 1)) (env := [some v, none]) (h := h) (own := [1]) (t := .name 1) (k := .range) (it := .cons (.op .sub (.cons (.op .len (.cons (.var 0) .nil)) (.cons (.lit (.int 1)) .nil))) .nil) (e := .op .lt (.cons (.op .ix (.cons (.var 0) (.cons (.var 1) .nil))) (.cons (.op .ix (.cons (.var 0) (.cons (.op .add (.cons (.var 1) (.cons (.lit (.int 1)) .nil))) .nil))) .nil)))
      (ds := [.int ((xs.length : Int) - 1)]) (xs := (List.range (xs.length - 1)).map fun (i : Nat) => D.int i)
      (fun d => match d with | .int i => D.bl (ltStr (xs.getD i.toNat "") (xs.getD (i.toNat + 1) "")) | _ => .non) (fun d => [some v, some d]) (by simp [hl, hv]) ?_ ?_ (fun d hd => by simp) (fun d hd => ?_)
    · rw [List.map_map] at this
      exact this
    · show (if smallI ((xs.length : Int) - 1) then some (rangeL 0 ((xs.length : Int) - 1)) else none) = _
      rw [if_pos (by unfold smallI; omega), range_items]
    · rw [List.length_map, List.length_range]; exact Nat.le_trans (by omega) (show 1000 ≤ sz by decide)
    · obtain ⟨k, hk, rfl⟩ := List.mem_map.mp hd
      rw [List.mem_range] at hk
      have x1 := hx k (by omega)
      have x2 := hx (k + 1) (by omega)
      rw [show (((k + 1 : Nat)) : Int) = (k : Int) + 1 by omega] at x2
      simp [hl, x1, x2]
  have hr := rising_range xs
  simp only [List.getD_eq_getElem?_getD] at hr
  simp [hc, oAll_map]
  exact hr
theorem strs_len (xs : List Str) : oLen (.lst (xs.map D.str)) = some (.int xs.length) := by simp
theorem strs_ix (xs : List Str) (i : Nat) (hi : i < xs.length) : oIx (.lst (xs.map D.str)) (.int (i : Nat)) = some (.str (xs.getD i "")) := by
  rw [oIx_lst, ixN_nat (by simpa using hi)]
  simp [hi]
theorem strs_ixT (xs : List Str) (i : Nat) (hi : i < xs.length) : oIx (.tup (xs.map D.str)) (.int (i : Nat)) = some (.str (xs.getD i "")) := by
  rw [oIx_tup, ixN_nat (by simpa using hi)]
  simp [hi]
theorem isrisingL (m : Nat) (h : HpE) (xs : List Str) (hm : 0 < m) (hz : xs.length ≤ 1000) : callF GG fns m 28 [.lst (xs.map .str)] h = .ok (.bl (rising xs)) h :=
  isrising m h hm (fun _ => rfl) (strs_len xs) (strs_ix xs) hz
theorem isrisingT (m : Nat) (h : HpE) (xs : List Str) (hm : 0 < m) (hz : xs.length ≤ 1000) : callF GG fns m 28 [.tup (xs.map .str)] h = .ok (.bl (rising xs)) h :=
  isrising m h hm (fun _ => rfl) (by simp) (strs_ixT xs) hz
/-! ### rows -/
def tupLen (k : Nat) : D → Bool
  | .tup ds => decide (ds.length = k)
  | _ => false
def fstD : D → D
  | .tup (d :: _) => d
  | _ => .non
def strV : D → Str
  | .str x => x
  | _ => ""
def fRows (k : Nat) : D → Bool
  | .tup ds => ds.all (tupLen k) && (ds.all fun d => fName (fstD d)) && rising (ds.map fun d => strV (fstD d))
  | _ => false
theorem isrows (k m : Nat) (h : HpE) {v : D} (hk : 0 < k) (hm : 2 ≤ m) (hv : Dat v) (hs : ∀ ds, v = .tup ds → ds.length ≤ 1000 ∧ ∀ d ∈ ds, Sht (fstD d)) : callF GG fns m 23 [v, .int k] h = .ok (.bl (fRows k v)) h := by
  rw [call_at (by omega) (fn := f_is_rows) rfl rfl]
  simp only [f_is_rows, b_is_rows]
  cases v with
  | tup ds =>
    obtain ⟨hl, hsh⟩ := hs ds rfl
    rw [dat_tup] at hv
    have hz : ds.length ≤ sz := Nat.le_trans hl (by decide)
    have c1 : evC GG (callF GG fns (m - 1)) (.comp [2] (.name 2) .plain (.cons (.var 0) .nil) .nil (.and (.op (.isi .tuple) (.cons (.var 2) .nil)) (.op .eq (.cons (.op .len (.cons (.var 2) .nil)) (.cons (.var 1) .nil))))) [some (.tup ds), some (.int k), none] h = .ok (.lst (ds.map fun d => .bl (tupLen k d))) h := by
      refine comp_map (ds := [.tup ds]) (env' := fun d => [some (.tup ds), some (.int k), some d]) _ (by simp) (by simp) hz (fun d hd => by simp) (fun d hd => ?_)
      have hd := hv.mem d hd
      cases d with
      | tup es =>
        simp [tupLen]
        rw [Bool.eq_iff_iff]; simp; omega
      | _ => simp [tupLen] <;> simp at hd
    cases h1 : ds.all (tupLen k)
    · simp [c1, oAll_map, h1, fRows]
    · have c2 : evC GG (callF GG fns (m - 1)) (.comp [2] (.name 2) .plain (.cons (.var 0) .nil) .nil (.call 32 (.cons (.op .ix (.cons (.var 2) (.cons (.lit (.int 0)) .nil))) .nil))) [some (.tup ds), some (.int k), none] h = .ok (.lst (ds.map fun d => .bl (fName (fstD d)))) h := by
        refine comp_map (ds := [.tup ds]) (env' := fun d => [some (.tup ds), some (.int k), some d]) _ (by simp) (by simp) hz (fun d hd => by simp) (fun d hd => ?_)
        have hdt := List.all_eq_true.mp h1 d hd
        have hdd := hv.mem d hd
        have hss := hsh d hd
        match d, hdt, hdd, hss with
        | .tup (e :: es), _, hdd, hss =>
          simp at hdd
          simp [fstD, isname (m - 1) h (by omega) hdd.1 hss]
        | .tup [], hdt, _, _ => simp [tupLen] at hdt; omega
      cases h2 : ds.all fun d => fName (fstD d)
      · simp [c1, c2, oAll_map, h1, h2, fRows]
      · have c3 : evC GG (callF GG fns (m - 1)) (.comp [2] (.name 2) .plain (.cons (.var 0) .nil) .nil (.op .ix (.cons (.var 2) (.cons (.lit (.int 0)) .nil)))) [some (.tup ds), some (.int k), none] h = .ok (.lst (ds.map fstD)) h := by
          refine comp_map (ds := [.tup ds]) (env' := fun d => [some (.tup ds), some (.int k), some d]) _ (by simp) (by simp) hz (fun d hd => by simp) (fun d hd => ?_)
          have hdt := List.all_eq_true.mp h1 d hd
          match d, hdt with
          | .tup (e :: es), _ => simp [fstD]
          | .tup [], hdt => simp [tupLen] at hdt; omega
        have e3 : ds.map fstD = (ds.map fun d => strV (fstD d)).map D.str := by
          rw [List.map_map]
          refine List.map_congr_left fun d hd => ?_
          have := List.all_eq_true.mp h2 d hd
          cases q : fstD d with
          | str x => simp [q, strV]
          | _ => rw [q] at this; simp [fName] at this
        have r := isrisingL (m - 1) h (ds.map fun d => strV (fstD d)) (by omega) (by rw [List.length_map]; exact hl)
        rw [← e3] at r
        simp [c1, c2, c3, oAll_map, h1, h2, r, fRows]
  | _ => simp [fRows] <;> simp at hv
end whatfailed_k52_whole_forms_spoilt

namespace whatfailed_k52_whole_forms_spoilt
open PySem Ev
/-! ### good data: short texts, short tuples -/
mutual
def gd : D → Bool
  | .non | .bl _ | .int _ => true
  | .str x => PyData.strOk x && decide (x.length ≤ 100)
  | .tup ds | .lst ds => decide (ds.length ≤ 60) && gdL ds
  | _ => false
def gdL : List D → Bool
  | [] => true
  | d :: ds => gd d && gdL ds
end
mutual
theorem gd_dat : ∀ {d : D}, gd d = true → Dat d
  | .non, _ | .bl _, _ | .int _, _ => by simp
  | .str x, h => by rw [dat_str]; rw [gd, Bool.and_eq_true] at h; exact h.1
  | .tup ds, h => by rw [gd, Bool.and_eq_true] at h; rw [dat_tup]; exact gdL_dat h.2
  | .lst ds, h => by rw [gd, Bool.and_eq_true] at h; rw [dat_lst]; exact gdL_dat h.2
  | .dct _, h | .ref _, h | .exc _, h | .scr _, h => by simp [gd] at h
theorem gdL_dat : ∀ {ds : List D}, gdL ds = true → DatL ds
  | [], _ => by simp
  | d :: ds, h => by
    rw [gdL, Bool.and_eq_true] at h
    rw [datL_cons]; exact ⟨gd_dat h.1, gdL_dat h.2⟩
end
@[simp] theorem gd_non : gd .non = true := by rw [gd] <;> (intros; contradiction)
@[simp] theorem gd_int (i : Int) : gd (.int i) = true := by rw [gd] <;> (intros; contradiction)
@[simp] theorem gd_bl (i : Bool) : gd (.bl i) = true := by rw [gd] <;> (intros; contradiction)
@[simp] theorem gd_str (x : Str) : gd (.str x) = (PyData.strOk x && decide (x.length ≤ 100)) := by rw [gd]
@[simp] theorem gd_tup (ds : List D) : gd (.tup ds) = (decide (ds.length ≤ 60) && gdL ds) := by rw [gd]
@[simp] theorem gd_lst (ds : List D) : gd (.lst ds) = (decide (ds.length ≤ 60) && gdL ds) := by rw [gd]
@[simp] theorem gdL_nil : gdL [] = true := by rw [gdL]
@[simp] theorem gdL_cons (d : D) (ds : List D) : gdL (d :: ds) = (gd d && gdL ds) := by rw [gdL]
theorem gdL_all {ds : List D} : gdL ds = true ↔ ∀ d ∈ ds, gd d = true := by
  induction ds with
  | nil => simp
  | cons d ds ih => rw [gdL_cons, Bool.and_eq_true, ih]; simp
theorem gd_sht {v : D} (h : gd v = true) : Sht v := fun x e => by
  subst e
  rw [gd_str, Bool.and_eq_true, decide_eq_true_eq] at h
  exact Nat.le_trans h.2 (by decide)
theorem gd_mem {ds : List D} (h : gd (.tup ds) = true) : ∀ d ∈ ds, gd d = true := by
  rw [gd_tup, Bool.and_eq_true] at h
  exact gdL_all.mp h.2
theorem gd_fst {d : D} (h : gd d = true) : gd (fstD d) = true := by
  unfold fstD
  split
  · exact gd_mem h _ List.mem_cons_self
  · simp
theorem rows (k m : Nat) (h : HpE) {v : D} (hk : 0 < k) (hm : 2 ≤ m) (hg : gd v = true) : callF GG fns m 23 [v, .int k] h = .ok (.bl (fRows k v)) h :=
  isrows k m h hk hm (gd_dat hg) fun ds e => by
    subst e
    have := hg
    rw [gd_tup, Bool.and_eq_true, decide_eq_true_eq] at this
    exact ⟨by omega, fun d hd => gd_sht (gd_fst (gd_mem hg d hd))⟩
/-! ### values -/
def inR (i : Int) : Bool := decide (-99 ≤ i) && decide (i ≤ 99)
def fVals : D → Bool
  | .tup ds => match ints? ds with
    | some is => !is.isEmpty && is.all inR && decide (sortSetI is = is)
    | none => false
  | _ => false
theorem ints_all : ∀ (ds : List D), ds.all isIntD = (ints? ds).isSome
  | [] => rfl
  | .int i :: r => by simp [isIntD, ints?, ints_all r]
  | .non :: r | .bl _ :: r | .str _ :: r | .tup _ :: r | .lst _ :: r | .dct _ :: r | .ref _ :: r | .exc _ :: r | .scr _ :: r => by simp [isIntD, ints?]
theorem ints_map : ∀ {ds : List D} {is : List Int}, ints? ds = some is → ds = is.map .int
  | [], _, h => by simp [ints?] at h; subst h; rfl
  | .int i :: r, is, h => by
    rw [ints?] at h
    obtain ⟨js, h1, rfl⟩ := Option.map_eq_some_iff.mp h
    rw [List.map_cons, ← ints_map h1]
  | .non :: r, _, h | .bl _ :: r, _, h | .str _ :: r, _, h | .tup _ :: r, _, h | .lst _ :: r, _, h | .dct _ :: r, _, h | .ref _ :: r, _, h | .exc _ :: r, _, h | .scr _ :: r, _, h => by simp [ints?] at h
theorem ints_back (is : List Int) : ints? (is.map .int) = some is := by
  induction is with
  | nil => rfl
  | cons i r ih => rw [List.map_cons, ints?, ih]; rfl
theorem eqvL_ints : ∀ (a b : List Int), eqvL (a.map .int) (b.map .int) = decide (a = b)
  | [], [] => by simp [eqvL]
  | [], _ :: _ => by simp [eqvL]
  | _ :: _, [] => by simp [eqvL]
  | x :: a, y :: b => by
    rw [List.map_cons, List.map_cons, eqvL, eqvL_ints a b, eqv]
    by_cases e : x = y <;> simp [e]
theorem dep_ints (is : List Int) : depL (is.map D.int) = some 0 := by
  induction is with
  | nil => simp [depL]
  | cons i r ih => simp [depL, dep, ih]
theorem flat_ints (is : List Int) : flat64 (.lst (is.map .int)) = true := by simp [flat64, dep, dep_ints]
theorem isvalues (m : Nat) (h : HpE) {v : D} (hm : 2 ≤ m) (hg : gd v = true) : callF GG fns m 31 [v] h = .ok (.bl (fVals v)) h := by
  rw [call_at (by omega) (fn := f_is_values) rfl rfl]
  simp only [f_is_values, b_is_values]
  have hv := gd_dat hg
  cases v with
  | tup ds =>
    have hl := hg
    rw [gd_tup, Bool.and_eq_true, decide_eq_true_eq] at hl
    rw [dat_tup] at hv
    have hz : ds.length ≤ sz := Nat.le_trans hl.1 (by decide)
    have c1 : evC GG (callF GG fns (m - 1)) (.comp [1] (.name 1) .plain (.cons (.var 0) .nil) .nil (.call 24 (.cons (.var 1) .nil))) [some (.tup ds), none] h = .ok (.lst (ds.map fun d => .bl (isIntD d))) h := by
      refine comp_map (ds := [.tup ds]) (env' := fun d => [some (.tup ds), some d]) _ (by simp) (by simp) hz (fun d hd => by simp) (fun d hd => ?_)
      simp [isint (m - 1) h (by omega) (hv.mem d hd)]
    cases h0 : ds.isEmpty
    · have ha := ints_all ds
      cases h1 : ints? ds with
      | none =>
        rw [h1] at ha
        have ha : ds.all isIntD = false := ha
        simp [c1, oAll_map, h0, ha, fVals, h1]
      | some is =>
        rw [h1] at ha
        have ha : ds.all isIntD = true := ha
        have e := ints_map h1
        have c2 : evC GG (callF GG fns (m - 1)) (.comp [1] (.name 1) .plain (.cons (.var 0) .nil) .nil (.chain .le .le (.op .neg (.cons (.glb 0) .nil)) (.var 1) (.glb 0))) [some (.tup ds), none] h = .ok (.lst (is.map fun i => .bl (inR i))) h := by
          have := comp_map (G := GG) (call := callF GG fns (m - 1)) (env := [some (.tup ds), none]) (h := h) (own := [1]) (t := .name 1) (k := .plain) (it := .cons (.var 0) .nil) (e := .chain .le .le (.op .neg (.cons (.glb 0) .nil)) (.var 1) (.glb 0)) (ds := [.tup ds]) (xs := ds)
            (fun d => match d with | .int i => D.bl (inR i) | _ => .non) (fun d => [some (.tup ds), some d]) (by simp) (by simp) hz (fun d hd => by simp) (fun d hd => by
              rw [e] at hd
              obtain ⟨i, _, rfl⟩ := List.mem_map.mp hd
              simp [GG, inR]
              by_cases q : -99 ≤ i <;> simp [q])
          rw [this]
          congr 2
          rw [e, List.map_map]
          rfl
        have hne : is.isEmpty = false := by rw [e] at h0; simpa using h0
        have hs : oSortedSet (.tup ds) = some (.lst ((sortSetI is).map .int)) := by
          show (match ints? ds with | some is => if is.length < 64 then some (D.lst ((sortSetI is).map .int)) else none | none => none) = _
          rw [h1]
          simp only
          rw [if_pos (by have : is.length = ds.length := by rw [e]; simp
                         omega)]
        have he : oEq false (.lst ((sortSetI is).map .int)) (.lst ds) = some (.bl (decide (sortSetI is = is))) := by
          rw [e, oEq_of (flat_ints _) (flat_ints _)]
          simp [eqv, eqvL_ints]
        cases h3 : is.all inR
        · simp [c1, c2, oAll_map, h0, ha, h3, fVals, h1, hne]
        · simp [c1, c2, oAll_map, h0, ha, h3, fVals, h1, hne, hs, he]
    · have : ds = [] := by simpa using h0
      subst this
      simp [fVals, ints?]
  | _ => simp [fVals] <;> simp at hv
end whatfailed_k52_whole_forms_spoilt

namespace whatfailed_k52_whole_forms_spoilt
open PySem Ev
def rowsOf : D → List D
  | .tup ds => ds
  | _ => []
def sndD : D → D
  | .tup (_ :: d :: _) => d
  | _ => .non
def thdD : D → D
  | .tup (_ :: _ :: d :: _) => d
  | _ => .non
def namesD (v : D) : List Str := (rowsOf v).map fun d => strV (fstD d)
def costOk : D → Bool
  | .int i => decide (1 ≤ i) && decide (i ≤ 9)
  | _ => false
def fKind : D → Bool
  | .tup [a, c, ms] => fRows 2 a && fRows 3 ms && ((rowsOf a).all fun d => fVals (sndD d)) && fC (PS (namesD a)) 8 c && ((rowsOf ms).all fun d => costOk (sndD d) && fC (PS (namesD a)) 8 (thdD d))
  | _ => false
/-- rows that are rows -/
theorem fRows_parts {k : Nat} {v : D} (h : fRows k v = true) : ∃ ds, v = .tup ds ∧ (∀ d ∈ ds, tupLen k d = true) ∧ (∀ d ∈ ds, fName (fstD d) = true) ∧ rising (ds.map fun d => strV (fstD d)) = true := by
  cases v with
  | tup ds =>
    simp only [fRows, Bool.and_eq_true, List.all_eq_true] at h
    exact ⟨ds, rfl, h.1.1, h.1.2, h.2⟩
  | _ => cases h
theorem tup2 {d : D} (h : tupLen 2 d = true) : ∃ x y, d = .tup [x, y] := by
  cases d with
  | tup ds =>
    match ds, h with
    | [x, y], _ => exact ⟨x, y, rfl⟩
    | [], h => simp [tupLen] at h
    | [_], h => simp [tupLen] at h
    | _ :: _ :: _ :: _, h => simp [tupLen] at h
  | _ => cases h
theorem tup3 {d : D} (h : tupLen 3 d = true) : ∃ x y z, d = .tup [x, y, z] := by
  cases d with
  | tup ds =>
    match ds, h with
    | [x, y, z], _ => exact ⟨x, y, z, rfl⟩
    | [], h => simp [tupLen] at h
    | [_], h => simp [tupLen] at h
    | [_, _], h => simp [tupLen] at h
    | _ :: _ :: _ :: _ :: _, h => simp [tupLen] at h
  | _ => cases h
theorem name_str {d : D} (h : fName d = true) : ∃ x, d = .str x := by
  cases d with
  | str x => exact ⟨x, rfl⟩
  | _ => cases h
theorem names_map {k : Nat} {a : D} (h : fRows k a = true) : (rowsOf a).map fstD = (namesD a).map D.str := by
  obtain ⟨ds, rfl, h1, h2, h3⟩ := fRows_parts h
  unfold namesD
  rw [List.map_map]
  refine List.map_congr_left fun d hd => ?_
  obtain ⟨x, e⟩ := name_str (h2 d hd)
  simp [e, strV]
theorem names_ok {k : Nat} {a : D} (hg : gd a = true) (h : fRows k a = true) : ∀ x ∈ namesD a, PyData.strOk x = true := by
  obtain ⟨ds, rfl, h1, h2, h3⟩ := fRows_parts h
  intro x hx
  unfold namesD at hx
  obtain ⟨d, hd, rfl⟩ := List.mem_map.mp hx
  obtain ⟨y, e⟩ := name_str (h2 d hd)
  have := gd_fst (gd_mem hg d hd)
  rw [e, gd_str, Bool.and_eq_true] at this
  rw [e]
  exact this.1
def kndFor : S := match b_is_kind with
  | .cons _ (.cons _ (.cons _ (.cons f _))) => f
  | _ => .pass
def kndBody : SL := match kndFor with
  | .for _ _ _ b => b
  | _ => .nil
theorem kndFor_eq : kndFor = .for (.tup [(.name 2), (.name 3), (.name 4)]) .plain (.cons (.op .ix (.cons (.var 0) (.cons (.lit (.int 2)) .nil))) .nil) kndBody := rfl
theorem gl_cost : GG[1]? = some (.int 9) := rfl
theorem knd_body {P : Str → Bool} {prt : D} (hp : PrtOk prt P) (m : Nat) (h : HpE) (hm : 10 ≤ m) (v x y z : D) (hy : Dat y) (hz : Dat z) (o5 o6 : Option D) :
    exL GG (callF GG fns m) kndBody [some v, some prt, some x, some y, some z, o5, o6] h = if (costOk y && fC P 8 z) = true then .nx [some v, some prt, some x, some y, some z, o5, o6] h else .ret (.bl false) h := by
  simp only [kndBody, kndFor, b_is_kind]
  cases y with
  | int i =>
    have hi := isint m h (by omega) (dat_int i)
    have hc := cnd8 hp m h z (by omega) hz
    by_cases q1 : 1 ≤ i
    · by_cases q2 : i ≤ 9
      · cases q3 : fC P 8 z <;> simp [hi, isIntD, gl_cost, q1, q2, q3, hc, costOk]
      · simp [hi, isIntD, gl_cost, q1, q2, costOk]
    · simp [hi, isIntD, gl_cost, q1, costOk]
  | _ =>
    have hi := isint m h (by omega) hy
    simp [hi, isIntD, costOk]
theorem iskindD (m : Nat) (h : HpE) {v : D} (hm : 11 ≤ m) (hv : Dat v) (hp : ∀ a c ms, v = .tup [a, c, ms] → gd a = true ∧ gd ms = true) : callF GG fns m 19 [v] h = .ok (.bl (fKind v)) h := by
  rw [call_at (by omega) (fn := f_is_kind) rfl rfl]
  simp only [f_is_kind, b_is_kind]
  cases v with
  | tup ds =>
    by_cases h3 : ds.length = 3
    · match ds, h3 with
      | [a, c, ms], _ =>
        obtain ⟨ga, gm⟩ := hp a c ms rfl
        have dc : Dat c := by simp at hv; exact hv.2.1
        have r1 := rows 2 (m - 1) h (by omega) (by omega) ga
        have r2 := rows 3 (m - 1) h (by omega) (by omega) gm
        simp at r1 r2
        cases q1 : fRows 2 a
        · simp [(gd_dat ga).look, (gd_dat gm).look, r1, q1, fKind]
        · cases q2 : fRows 3 ms
          · simp [(gd_dat ga).look, (gd_dat gm).look, r1, r2, q1, q2, fKind]
          · obtain ⟨as, rfl, u1, u2, u3⟩ := fRows_parts q1
            obtain ⟨bs, rfl, w1, w2, w3⟩ := fRows_parts q2
            have hza : as.length ≤ sz := by
              rw [gd_tup, Bool.and_eq_true, decide_eq_true_eq] at ga; exact Nat.le_trans ga.1 (by decide)
            have ha : ∀ d ∈ as, ∃ x y, d = .tup [x, y] ∧ gd y = true := fun d hd => by
              obtain ⟨x, y, e⟩ := tup2 (u1 d hd)
              subst e
              exact ⟨x, y, rfl, gd_mem (gd_mem ga _ hd) y (by simp)⟩
            have hb : ∀ d ∈ bs, ∃ x y z, d = .tup [x, y, z] ∧ gd y = true ∧ gd z = true := fun d hd => by
              obtain ⟨x, y, z, e⟩ := tup3 (w1 d hd)
              subst e
              exact ⟨x, y, z, rfl, gd_mem (gd_mem gm _ hd) y (by simp), gd_mem (gd_mem gm _ hd) z (by simp)⟩
            have c1 : ∀ o1 o2 o3 o4, evC GG (callF GG fns (m - 1)) (.comp [5, 6] (.tup [(.name 5), (.name 6)]) .plain (.cons (.op .ix (.cons (.var 0) (.cons (.lit (.int 0)) .nil))) .nil) .nil (.var 5)) [some (.tup [.tup as, c, .tup bs]), o1, o2, o3, o4, none, none] h = .ok (.lst (as.map fstD)) h := fun o1 o2 o3 o4 => by
              refine comp_map (ds := [.tup as]) (env' := fun d => [some (.tup [.tup as, c, .tup bs]), o1, o2, o3, o4, some (fstD d), some (sndD d)]) _ (by simp) (by simp) hza (fun d hd => ?_) (fun d hd => ?_)
              · obtain ⟨x, y, rfl, _⟩ := ha d hd
                simp [fstD, sndD]
              · simp
            have c2 : ∀ o1 o2 o3 o4, evC GG (callF GG fns (m - 1)) (.comp [5, 6] (.tup [(.name 5), (.name 6)]) .plain (.cons (.op .ix (.cons (.var 0) (.cons (.lit (.int 0)) .nil))) .nil) .nil (.call 31 (.cons (.var 6) .nil))) [some (.tup [.tup as, c, .tup bs]), o1, o2, o3, o4, none, none] h = .ok (.lst (as.map fun d => .bl (fVals (sndD d)))) h := fun o1 o2 o3 o4 => by
              refine comp_map (ds := [.tup as]) (env' := fun d => [some (.tup [.tup as, c, .tup bs]), o1, o2, o3, o4, some (fstD d), some (sndD d)]) _ (by simp) (by simp) hza (fun d hd => ?_) (fun d hd => ?_)
              · obtain ⟨x, y, rfl, _⟩ := ha d hd
                simp [fstD, sndD]
              · obtain ⟨x, y, rfl, gy⟩ := ha d hd
                simp [sndD, isvalues (m - 1) h (by omega) gy]
            have nm := names_map q1
            have nm' : as.map fstD = (namesD (.tup as)).map D.str := nm
            rw [nm'] at c1
            have pk := prt_lst (names_ok ga q1)
            have hc := cnd8 pk (m - 1) h c (by omega) dc
            cases q3 : as.all fun d => fVals (sndD d)
            · simp [(gd_dat ga).look, (gd_dat gm).look, r1, r2, q1, q2, c1, c2, oAll_map, q3, fKind, rowsOf]
            · cases q4 : fC (PS (namesD (.tup as))) 8 c
              · simp [(gd_dat ga).look, (gd_dat gm).look, r1, r2, q1, q2, c1, c2, oAll_map, q3, hc, q4, fKind, rowsOf]
              · have F := forL_all (src := [.tup bs]) (h0 := [.tup bs]) (h := h) (f := fun x env h => (ofO (asgNT (.tup [.name 2, .name 3, .name 4]) x env) h).out fun env' h => exL GG (callF GG fns (m - 1)) kndBody env' h)
                  (fun d => costOk (sndD d) && fC (PS (namesD (.tup as))) 8 (thdD d)) (fun env => ∃ o2 o3 o4, env = [some (.tup [.tup as, c, .tup bs]), some (.lst ((namesD (.tup as)).map D.str)), o2, o3, o4, none, none]) (by simp) (xs := bs) (env := [some (.tup [.tup as, c, .tup bs]), some (.lst ((namesD (.tup as)).map D.str)), none, none, none, none, none])
                  (fun d hd env ⟨o2, o3, o4, he⟩ => by
                    subst he
                    obtain ⟨x, y, z, rfl, gy, gz⟩ := hb d hd
                    have kb := knd_body pk (m - 1) h (by omega) (.tup [.tup as, c, .tup bs]) x y z (gd_dat gy) (gd_dat gz) none none
                    simp only [sndD, thdD]
                    refine ⟨fun e => ⟨[some (.tup [.tup as, c, .tup bs]), some (.lst ((namesD (.tup as)).map D.str)), some x, some y, some z, none, none], ?_, _, _, _, rfl⟩, fun e => ?_⟩
                    · rw [if_pos e] at kb
                      simp [kb]
                    · rw [if_neg (by rw [e]; simp)] at kb
                      simp [kb]) ⟨none, none, none, rfl⟩
                cases q5 : bs.all fun d => costOk (sndD d) && fC (PS (namesD (.tup as))) 8 (thdD d)
                · have F := F.2 q5
                  have e5 : exS GG (callF GG fns (m - 1)) kndFor [some (.tup [.tup as, c, .tup bs]), some (.lst ((namesD (.tup as)).map D.str)), none, none, none, none, none] h = .ret (.bl false) h := by
                    rw [kndFor_eq, exS_forS]
                    simp
                    exact F
                  simp only [kndFor, b_is_kind] at e5
                  simp [(gd_dat ga).look, (gd_dat gm).look, r1, r2, q1, q2, c1, c2, oAll_map, q3, hc, q4, e5, fKind, rowsOf, q5]
                · obtain ⟨env', F, _⟩ := F.1 q5
                  have e5 : exS GG (callF GG fns (m - 1)) kndFor [some (.tup [.tup as, c, .tup bs]), some (.lst ((namesD (.tup as)).map D.str)), none, none, none, none, none] h = .nx env' h := by
                    rw [kndFor_eq, exS_forS]
                    simp
                    exact F
                  simp only [kndFor, b_is_kind] at e5
                  simp [(gd_dat ga).look, (gd_dat gm).look, r1, r2, q1, q2, c1, c2, oAll_map, q3, hc, q4, e5, fKind, rowsOf, q5]
    · have h3' : ((ds.length : Int) == 3) = false := by simp; omega
      have : fKind (.tup ds) = false := by
        unfold fKind
        split
        · rename_i q; cases q; simp at h3
        · rfl
      simp [h3', this]
  | _ => simp [fKind] <;> simp at hv
theorem iskind (m : Nat) (h : HpE) {v : D} (hm : 11 ≤ m) (hg : gd v = true) : callF GG fns m 19 [v] h = .ok (.bl (fKind v)) h :=
  iskindD m h hm (gd_dat hg) fun a c ms e => by subst e; exact ⟨gd_mem hg a (by simp), gd_mem hg ms (by simp)⟩
end whatfailed_k52_whole_forms_spoilt

namespace whatfailed_k52_whole_forms_spoilt
open PySem Ev
def fLib (v : D) : Bool := fRows 2 v && (rowsOf v).all fun d => fKind (sndD d)
theorem gd_len {ds : List D} (h : gd (.tup ds) = true) : ds.length ≤ sz ∧ ds.length ≤ 1000 := by
  rw [gd_tup, Bool.and_eq_true, decide_eq_true_eq] at h
  exact ⟨Nat.le_trans h.1 (by decide), by omega⟩
theorem islib (m : Nat) (h : HpE) {v : D} (hm : 12 ≤ m) (hg : gd v = true) : callF GG fns m 21 [v] h = .ok (.bl (fLib v)) h := by
  rw [call_at (by omega) (fn := f_is_library) rfl rfl]
  simp only [f_is_library, b_is_library]
  have r1 := rows 2 (m - 1) h (by omega) (by omega) hg
  simp at r1
  cases q1 : fRows 2 v
  · simp [r1, q1, fLib]
  · obtain ⟨as, rfl, u1, u2, u3⟩ := fRows_parts q1
    have ha : ∀ d ∈ as, ∃ x y, d = .tup [x, y] ∧ gd y = true := fun d hd => by
      obtain ⟨x, y, e⟩ := tup2 (u1 d hd)
      subst e
      exact ⟨x, y, rfl, gd_mem (gd_mem hg _ hd) y (by simp)⟩
    have c1 : evC GG (callF GG fns (m - 1)) (.comp [1, 2] (.tup [(.name 1), (.name 2)]) .plain (.cons (.var 0) .nil) .nil (.call 19 (.cons (.var 2) .nil))) [some (.tup as), none, none] h = .ok (.lst (as.map fun d => .bl (fKind (sndD d)))) h := by
      refine comp_map (ds := [.tup as]) (env' := fun d => [some (.tup as), some (fstD d), some (sndD d)]) _ (by simp) (by simp) (gd_len hg).1 (fun d hd => ?_) (fun d hd => ?_)
      · obtain ⟨x, y, rfl, _⟩ := ha d hd
        simp [fstD, sndD]
      · obtain ⟨x, y, rfl, gy⟩ := ha d hd
        simp [sndD, iskind (m - 1) h (by omega) gy]
    simp [r1, q1, c1, oAll_map, fLib, rowsOf]
def prtOk (d : D) : Bool := fName (sndD d) && fRows 2 (thdD d) && (rowsOf (thdD d)).all fun e => fName (sndD e)
def fOut : D → Bool
  | .tup ds => ds.all fName && rising (ds.map strV)
  | _ => false
def fDev : D → Bool
  | .tup [lib, ws, ps, outer] => fLib lib && fRows 2 ws && ((rowsOf ws).all fun d => fVals (sndD d)) && fRows 3 ps && (rowsOf ps).all prtOk && fOut outer
  | _ => false
def devFor : S := match b_is_device with
  | .cons _ (.cons _ (.cons f _)) => f
  | _ => .pass
def devBody : SL := match devFor with
  | .for _ _ _ b => b
  | _ => .nil
theorem devFor_eq : devFor = .for (.tup [(.name 1), (.name 2), (.name 3)]) .plain (.cons (.op .ix (.cons (.var 0) (.cons (.lit (.int 2)) .nil))) .nil) devBody := rfl
theorem dev_body (m : Nat) (h : HpE) (hm : 2 ≤ m) (v x y z : D) (hy : gd y = true) (hz : gd z = true) (o4 : Option D) :
    exL GG (callF GG fns m) devBody [some v, some x, some y, some z, o4, none, none, none] h = if prtOk (.tup [x, y, z]) = true then .nx [some v, some x, some y, some z, o4, none, none, none] h else .ret (.bl false) h := by
  simp only [devBody, devFor, b_is_device]
  have n1 := isname m h (by omega) (gd_dat hy) (gd_sht hy)
  have r1 := rows 2 m h (by omega) (by omega) hz
  simp at r1
  rw [show prtOk (.tup [x, y, z]) = (fName y && fRows 2 z && (rowsOf z).all fun e => fName (sndD e)) from rfl]
  cases q1 : fName y
  · simp [n1, q1]
  · cases q2 : fRows 2 z
    · simp [n1, q1, r1, q2]
    · obtain ⟨as, rfl, u1, u2, u3⟩ := fRows_parts q2
      have ha : ∀ d ∈ as, ∃ x y, d = .tup [x, y] ∧ gd y = true := fun d hd => by
        obtain ⟨x, y, e⟩ := tup2 (u1 d hd)
        subst e
        exact ⟨x, y, rfl, gd_mem (gd_mem hz _ hd) y (by simp)⟩
      have c1 : evC GG (callF GG fns m) (.comp [7, 5] (.tup [(.name 7), (.name 5)]) .plain (.cons (.var 3) .nil) .nil (.call 32 (.cons (.var 5) .nil))) [some v, some x, some y, some (.tup as), o4, none, none, none] h = .ok (.lst (as.map fun d => .bl (fName (sndD d)))) h := by
        refine comp_map (ds := [.tup as]) (env' := fun d => [some v, some x, some y, some (.tup as), o4, some (sndD d), none, some (fstD d)]) _ (by simp) (by simp) (gd_len hz).1 (fun d hd => ?_) (fun d hd => ?_)
        · obtain ⟨x, y, rfl, _⟩ := ha d hd
          simp [fstD, sndD]
        · obtain ⟨x, y, rfl, gy⟩ := ha d hd
          simp [sndD, isname m h (by omega) (gd_dat gy) (gd_sht gy)]
      cases q3 : as.all fun e => fName (sndD e)
      · simp [n1, q1, r1, q2, c1, oAll_map, q3, rowsOf]
      · simp [n1, q1, r1, q2, c1, oAll_map, q3, rowsOf]
theorem isdevice (m : Nat) (h : HpE) {v : D} (hm : 13 ≤ m) (hg : gd v = true) : callF GG fns m 22 [v] h = .ok (.bl (fDev v)) h := by
  rw [call_at (by omega) (fn := f_is_device) rfl rfl]
  simp only [f_is_device, b_is_device]
  have hv := gd_dat hg
  cases v with
  | tup ds =>
    have hl := hg
    rw [gd_tup, Bool.and_eq_true, decide_eq_true_eq] at hl
    by_cases h3 : ds.length = 4
    · match ds, h3 with
      | [lib, ws, ps, outer], _ =>
        simp at hl
        obtain ⟨g1, g2, g3, g4⟩ := hl
        have d1 := gd_dat g1
        have d2 := gd_dat g2
        have d3 := gd_dat g3
        have d4 := gd_dat g4
        have r1 := islib (m - 1) h (by omega) g1
        have r2 := rows 2 (m - 1) h (by omega) (by omega) g2
        have r3 := rows 3 (m - 1) h (by omega) (by omega) g3
        simp at r2 r3
        cases q1 : fLib lib
        · simp [d1.look, d2.look, d3.look, r1, q1, fDev]
        · cases q2 : fRows 2 ws
          · simp [d1.look, d2.look, d3.look, r1, q1, r2, q2, fDev]
          · obtain ⟨as, rfl, u1, u2, u3⟩ := fRows_parts q2
            have ha : ∀ d ∈ as, ∃ x y, d = .tup [x, y] ∧ gd y = true := fun d hd => by
              obtain ⟨x, y, e⟩ := tup2 (u1 d hd)
              subst e
              exact ⟨x, y, rfl, gd_mem (gd_mem g2 _ hd) y (by simp)⟩
            have c1 : evC GG (callF GG fns (m - 1)) (.comp [5, 6] (.tup [(.name 5), (.name 6)]) .plain (.cons (.op .ix (.cons (.var 0) (.cons (.lit (.int 1)) .nil))) .nil) .nil (.call 31 (.cons (.var 6) .nil))) [some (.tup [lib, .tup as, ps, outer]), none, none, none, none, none, none, none] h = .ok (.lst (as.map fun d => .bl (fVals (sndD d)))) h := by
              refine comp_map (ds := [.tup as]) (env' := fun d => [some (.tup [lib, .tup as, ps, outer]), none, none, none, none, some (fstD d), some (sndD d), none]) _ (by simp) (by simp) (gd_len g2).1 (fun d hd => ?_) (fun d hd => ?_)
              · obtain ⟨x, y, rfl, _⟩ := ha d hd
                simp [fstD, sndD]
              · obtain ⟨x, y, rfl, gy⟩ := ha d hd
                simp [sndD, isvalues (m - 1) h (by omega) gy]
            cases q3 : as.all fun d => fVals (sndD d)
            · simp [d1.look, d2.look, d3.look, r1, q1, r2, q2, c1, oAll_map, q3, fDev, rowsOf]
            · cases q4 : fRows 3 ps
              · simp [d1.look, d2.look, d3.look, r1, q1, r2, q2, c1, oAll_map, q3, r3, q4, fDev, rowsOf]
              · obtain ⟨bs, rfl, w1, w2, w3⟩ := fRows_parts q4
                have hb : ∀ d ∈ bs, ∃ x y z, d = .tup [x, y, z] ∧ gd y = true ∧ gd z = true := fun d hd => by
                  obtain ⟨x, y, z, e⟩ := tup3 (w1 d hd)
                  subst e
                  exact ⟨x, y, z, rfl, gd_mem (gd_mem g3 _ hd) y (by simp), gd_mem (gd_mem g3 _ hd) z (by simp)⟩
                have F := forL_all (src := [.tup bs]) (h0 := [.tup bs]) (h := h) (f := fun x env h => (ofO (asgNT (.tup [.name 1, .name 2, .name 3]) x env) h).out fun env' h => exL GG (callF GG fns (m - 1)) devBody env' h)
                  prtOk (fun env => ∃ o2 o3 o4, env = [some (.tup [lib, .tup as, .tup bs, outer]), o2, o3, o4, none, none, none, none]) (by simp) (xs := bs) (env := [some (.tup [lib, .tup as, .tup bs, outer]), none, none, none, none, none, none, none])
                  (fun d hd env ⟨o2, o3, o4, he⟩ => by
                    subst he
                    obtain ⟨x, y, z, rfl, gy, gz⟩ := hb d hd
                    have kb := dev_body (m - 1) h (by omega) (.tup [lib, .tup as, .tup bs, outer]) x y z gy gz none
                    refine ⟨fun e => ⟨[some (.tup [lib, .tup as, .tup bs, outer]), some x, some y, some z, none, none, none, none], ?_, _, _, _, rfl⟩, fun e => ?_⟩
                    · rw [if_pos e] at kb
                      simp [kb]
                    · rw [if_neg (by rw [e]; simp)] at kb
                      simp [kb]) ⟨none, none, none, rfl⟩
                cases q5 : bs.all prtOk
                · have F := F.2 q5
                  have e5 : exS GG (callF GG fns (m - 1)) devFor [some (.tup [lib, .tup as, .tup bs, outer]), none, none, none, none, none, none, none] h = .ret (.bl false) h := by
                    rw [devFor_eq, exS_forS]
                    simp
                    exact F
                  simp only [devFor, b_is_device] at e5
                  simp [d1.look, d2.look, d3.look, r1, q1, r2, q2, c1, oAll_map, q3, r3, q4, e5, fDev, rowsOf, q5]
                · obtain ⟨env', F, o2, o3, o4, rfl⟩ := F.1 q5
                  have e5 : exS GG (callF GG fns (m - 1)) devFor [some (.tup [lib, .tup as, .tup bs, outer]), none, none, none, none, none, none, none] h = .nx [some (.tup [lib, .tup as, .tup bs, outer]), o2, o3, o4, none, none, none, none] h := by
                    rw [devFor_eq, exS_forS]
                    simp
                    exact F
                  simp only [devFor, b_is_device] at e5
                  cases outer with
                  | tup os =>
                    have c2 : evC GG (callF GG fns (m - 1)) (.comp [5] (.name 5) .plain (.cons (.var 4) .nil) .nil (.call 32 (.cons (.var 5) .nil))) [some (.tup [lib, .tup as, .tup bs, .tup os]), o2, o3, o4, some (.tup os), none, none, none] h = .ok (.lst (os.map fun d => .bl (fName d))) h := by
                      refine comp_map (ds := [.tup os]) (env' := fun d => [some (.tup [lib, .tup as, .tup bs, .tup os]), o2, o3, o4, some (.tup os), some d, none, none]) _ (by simp) (by simp) (gd_len g4).1 (fun d hd => by simp) (fun d hd => ?_)
                      have gdd := gd_mem g4 d hd
                      simp [isname (m - 1) h (by omega) (gd_dat gdd) (gd_sht gdd)]
                    cases q6 : os.all fName
                    · simp [d1.look, d2.look, d3.look, r1, q1, r2, q2, c1, oAll_map, q3, r3, q4, e5, fDev, rowsOf, q5, c2, q6, fOut]
                    · have eo : os = (os.map strV).map D.str := by
                        rw [List.map_map]
                        conv => lhs; rw [← List.map_id os]
                        refine List.map_congr_left fun d hd => ?_
                        obtain ⟨x, e⟩ := name_str (List.all_eq_true.mp q6 d hd)
                        simp [e, strV]
                      have rr := isrisingT (m - 1) h (os.map strV) (by omega) (by rw [List.length_map]; exact (gd_len g4).2)
                      rw [← eo] at rr
                      simp [d1.look, d2.look, d3.look, r1, q1, r2, q2, c1, oAll_map, q3, r3, q4, e5, fDev, rowsOf, q5, c2, q6, fOut, rr]
                  | _ =>
                    simp [d1.look, d2.look, d3.look, r1, q1, r2, q2, c1, oAll_map, q3, r3, q4, e5, fDev, rowsOf, q5, fOut] <;> simp at d4
    · have h3' : ((ds.length : Int) == 4) = false := by simp; omega
      have : fDev (.tup ds) = false := by
        unfold fDev
        split
        · rename_i q; cases q; simp at h3
        · rfl
      simp [h3', this]
  | _ => simp [fDev] <;> simp at hv
end whatfailed_k52_whole_forms_spoilt

namespace whatfailed_k52_whole_forms_spoilt
open PySem Ev
/-- a kind that is one, its condition another -/
theorem kindform (m : Nat) (h : HpE) {a c c' ms : D} (hm : 11 ≤ m) (hg : gd (.tup [a, c, ms]) = true) (hk : fKind (.tup [a, c, ms]) = true) (hc : Dat c') :
    callF GG fns m 20 [.tup [a, c', ms]] h = .ok (.bl (fC (PS (namesD a)) 8 c')) h ∧ fKind (.tup [a, c', ms]) = fC (PS (namesD a)) 8 c' := by
  simp only [fKind, Bool.and_eq_true] at hk
  obtain ⟨⟨⟨⟨q1, q2⟩, q3⟩, q4⟩, q5⟩ := hk
  have hl := hg
  rw [gd_tup, Bool.and_eq_true, decide_eq_true_eq] at hl
  simp at hl
  obtain ⟨ga, gc, gm⟩ := hl
  refine ⟨?_, by simp only [fKind, q1, q2, q3, q5, Bool.true_and, Bool.and_true]⟩
  obtain ⟨as, rfl, u1, u2, u3⟩ := fRows_parts q1
  obtain ⟨bs, rfl, w1, w2, w3⟩ := fRows_parts q2
  have q5 : ∀ d ∈ bs, (costOk (sndD d) && fC (PS (namesD (.tup as))) 8 (thdD d)) = true := List.all_eq_true.mp q5
  have pk := prt_lst (names_ok ga q1)
  have nm' : as.map fstD = (namesD (.tup as)).map D.str := names_map q1
  rw [call_at (by omega) (fn := f__law_kind_form) rfl rfl]
  simp only [f__law_kind_form, b__law_kind_form]
  have c1 : evC GG (callF GG fns (m - 1)) (.comp [3] (.name 3) .plain (.cons (.op .ix (.cons (.var 0) (.cons (.lit (.int 0)) .nil))) .nil) .nil (.op .ix (.cons (.var 3) (.cons (.lit (.int 0)) .nil)))) [some (.tup [.tup as, c', .tup bs]), none, none, none] h = .ok (.lst (as.map fstD)) h := by
    refine comp_map (ds := [.tup as]) (env' := fun d => [some (.tup [.tup as, c', .tup bs]), none, none, some d]) _ (by simp) (by simp) (gd_len ga).1 (fun d hd => by simp) (fun d hd => ?_)
    obtain ⟨x, y, rfl⟩ := tup2 (u1 d hd)
    simp [fstD]
  rw [nm'] at c1
  have c2 : evC GG (callF GG fns (m - 1)) (.comp [3] (.name 3) .plain (.cons (.op .ix (.cons (.var 0) (.cons (.lit (.int 2)) .nil))) .nil) .nil (.and (.call 17 (.cons (.op .ix (.cons (.var 3) (.cons (.lit (.int 2)) .nil))) (.cons (.var 1) (.cons (.lit (.int 8)) (.cons (.lit (.str "cond")) .nil))))) (.and (.op .le (.cons (.lit (.int 1)) (.cons (.op .ix (.cons (.var 3) (.cons (.lit (.int 1)) .nil))) .nil))) (.op .le (.cons (.op .ix (.cons (.var 3) (.cons (.lit (.int 1)) .nil))) (.cons (.lit (.int 9)) .nil))))))
      [some (.tup [.tup as, c', .tup bs]), some (.lst ((namesD (.tup as)).map D.str)), none, none] h = .ok (.lst (bs.map fun d => .bl true)) h := by
    refine comp_map (ds := [.tup bs]) (env' := fun d => [some (.tup [.tup as, c', .tup bs]), some (.lst ((namesD (.tup as)).map D.str)), none, some d]) _ (by simp) (by simp) (gd_len gm).1 (fun d hd => by simp) (fun d hd => ?_)
    have q := q5 d hd
    have gdd := gd_mem gm d hd
    obtain ⟨x, y, z, rfl⟩ := tup3 (w1 d hd)
    rw [Bool.and_eq_true] at q
    obtain ⟨k1, k2⟩ := q
    have k1 : costOk y = true := k1
    have k2 : fC (PS (namesD (.tup as))) 8 z = true := k2
    have gz := gd_mem gdd z (by simp)
    have f1 := frmC pk (m - 1) h z (by omega) (gd_dat gz)
    rw [k2] at f1
    cases y with
    | int i =>
      simp only [costOk, Bool.and_eq_true, decide_eq_true_eq] at k1
      simp [f1, k1.1, k1.2]
    | _ => cases k1
  have e2 : oAll (.lst (bs.map fun d => D.bl true)) = some (.bl true) := by
    rw [oAll_map (fun _ => true) bs]; simp
  have f2 := frmC pk (m - 1) h c' (by omega) hc
  simp [c1, c2, e2, f2]
/-! ### the row of drawn numbers -/
theorem mul_ok {i j : Int} (h : HpE) (hb : big i ∨ big j) : opEv .mul [.int i, .int j] h = .ok (.int (i * j)) h := by
  rw [op_mulS]
  show rs (if decide (big i ∨ big j) = true then _ else none) h = _
  rw [if_pos (decide_eq_true hb)]
  rfl
theorem mod_pos {i j : Int} (h : HpE) (hj : 0 < j) : opEv .mod [.int i, .int j] h = .ok (.int (i % j)) h := by
  rw [op_mod_ok (by omega), Int.fmod_eq_emod_of_nonneg _ (by omega)]
theorem fdiv_pos {i j : Int} (h : HpE) (hj : 0 < j) (hs : j < 1073741824) : opEv .fdiv [.int i, .int j] h = .ok (.int (i / j)) h := by
  rw [op_fdiv_ok (by omega) (by omega), Int.fdiv_eq_ediv_of_nonneg _ (by omega)]
theorem mixed (m : Nat) (h : HpE) (ns : List Int) (k : Int) (hm : 0 < m) : ∃ r : Int, callF GG fns m 11 [.scr ns, .int k] h = .ok (.int r) h := by
  have A1 : ∀ i : Int, opEv .mul [.int i, .int 48271] h = .ok (.int (i * 48271)) h := fun i => mul_ok h (.inr (by decide))
  have A2 : ∀ i : Int, opEv .mul [.int i, .int 69621] h = .ok (.int (i * 69621)) h := fun i => mul_ok h (.inr (by decide))
  have A3 : ∀ i : Int, opEv .mul [.int i, .int 16807] h = .ok (.int (i * 16807)) h := fun i => mul_ok h (.inr (by decide))
  have S1 : ∀ i : Int, opEv .mul [.int (i % 2147483647), .int (i % 2147483647)] h = .ok (.int (i % 2147483647 * (i % 2147483647))) h := fun i => mul_ok h (.inl (by unfold big; omega))
  have S2 : ∀ i : Int, opEv .mul [.int (i % 2147483629), .int (i % 2147483629)] h = .ok (.int (i % 2147483629 * (i % 2147483629))) h := fun i => mul_ok h (.inl (by unfold big; omega))
  have M1 : ∀ i : Int, opEv .mod [.int i, .int 2147483647] h = .ok (.int (i % 2147483647)) h := fun i => mod_pos h (by decide)
  have M2 : ∀ i : Int, opEv .mod [.int i, .int 2147483629] h = .ok (.int (i % 2147483629)) h := fun i => mod_pos h (by decide)
  have M3 : ∀ i : Int, opEv .mod [.int i, .int 2147483563] h = .ok (.int (i % 2147483563)) h := fun i => mod_pos h (by decide)
  have M4 : ∀ i : Int, opEv .mod [.int i, .int 1000003] h = .ok (.int (i % 1000003)) h := fun i => mod_pos h (by decide)
  have D1 : ∀ i : Int, opEv .fdiv [.int i, .int 7] h = .ok (.int (i / 7)) h := fun i => fdiv_pos h (by decide) (by decide)
  have D2 : ∀ i : Int, opEv .fdiv [.int i, .int 11] h = .ok (.int (i / 11)) h := fun i => fdiv_pos h (by decide) (by decide)
  have D3 : ∀ i : Int, opEv .fdiv [.int i, .int 5] h = .ok (.int (i / 5)) h := fun i => fdiv_pos h (by decide) (by decide)
  suffices Q : ∀ c : Int, (exS GG (callF GG fns (m - 1)) (.ite (.op .gt (.cons (.op .len (.cons (.var 0) .nil)) (.cons (.lit (.int 0)) .nil))) (.cons (.asg (.name 2) (.op .ix (.cons (.var 0) (.cons (.op .mod (.cons (.var 1) (.cons (.op .len (.cons (.var 0) .nil)) .nil))) .nil)))) .nil) .nil) [some (.scr ns), some (.int k), some (.int 0), none, none, none] h = .nx [some (.scr ns), some (.int k), some (.int c), none, none, none] h) →
      ∃ r : Int, callF GG fns m 11 [.scr ns, .int k] h = .ok (.int r) h by
    by_cases hn : ns = []
    · refine Q 0 ?_
      subst hn
      simp
    · have hl : 0 < ns.length := by cases ns <;> simp_all
      have h1 : (0 : Int) ≤ k % ns.length := Int.emod_nonneg _ (by omega)
      have h2 : k % ns.length < ns.length := Int.emod_lt_of_pos _ (by omega)
      have h3 : (k % ns.length).toNat < ns.length := by omega
      refine Q ns[(k % ns.length).toNat] ?_
      have e1 : opEv .mod [.int k, .int ns.length] h = .ok (.int (k % ns.length)) h := mod_pos h (by omega)
      have e2 : ((ixN ns.length (k % ns.length)).bind fun j => ns[j]?.map D.int) = some (.int ns[(k % ns.length).toNat]) := by
        rw [ixN_of h1 h2]
        simp [h3]
      have e3 : decide ((0 : Int) < ns.length) = true := decide_eq_true (by omega)
      simp [e1, e2, e3, hl]
  intro c hc
  rw [call_at hm (fn := f__law_mixed) rfl rfl]
  simp only [f__law_mixed, b__law_mixed]
  rw [exL_consT]
  have e0 : exS GG (callF GG fns (m - 1)) (.asg (.name 2) (.lit (.int 0))) ([D.scr ns, .int k].map some ++ List.replicate (6 - 2) none) h = .nx [some (.scr ns), some (.int k), some (.int 0), none, none, none] h := by simp
  rw [e0, then_nx, exL_consT, hc, then_nx]
  simp [-op_mulS, A1, A2, A3, S1, S2, M1, M2, M3, M4, D1, D2, D3]
end whatfailed_k52_whole_forms_spoilt

namespace whatfailed_k52_whole_forms_spoilt
open PySem Ev
theorem look_last (h : HpE) (ds : List D) : look (h ++ [.lst ds]) (.ref h.length) = .lst ds := by simp [look]
theorem app_last (h : HpE) (ds : List D) (d : D) (hz : ds.length < sz) : mAppend [.ref h.length, d] (h ++ [.lst ds]) = some (.non, h ++ [.lst (ds ++ [d])]) := by
  simp [mAppend, hz]
@[simp] theorem recv_lst (ds : List D) : recvOk .append (.lst ds) = true := rfl
def rowBody : SL := match b__law_row with
  | .cons _ (.cons _ (.cons _ (.cons (.for _ _ _ b) _))) => b
  | _ => .nil
def rowIf : S := match b__law_row with
  | .cons _ (.cons s _) => s
  | _ => .pass
theorem row_eq : b__law_row = .cons (.asg (.name 2) (.lit (.int 0))) (.cons rowIf (.cons (.asg (.name 3) (.op .newL .nil)) (.cons (.for (.name 4) .range (.cons (.var 1) .nil) rowBody) (.cons (.ret (.var 3)) .nil)))) := rfl
theorem pow18 (h : HpE) : opEv .pow [.int 10, .int 18] h = .ok (.int (10 ^ 18)) h := by
  simp
theorem row_body (m : Nat) (h : HpE) (ns : List Int) (many b k : Int) (row : List Int) (hm : 0 < m) (hz : row.length < sz) :
    ∃ b' v, exL GG (callF GG fns m) rowBody [some (.scr ns), some (.int many), some (.int b), some (.ref h.length), some (.int k)] (h ++ [.lst (row.map .int)]) =
      .nx [some (.scr ns), some (.int many), some (.int b'), some (.ref h.length), some (.int k)] (h ++ [.lst ((row ++ [v]).map .int)]) := by
  simp only [rowBody, b__law_row]
  have hz' : (row.map D.int).length < sz := by simpa using hz
  by_cases q : 0 < b
  · have M : ∀ hh : HpE, opEv .mod [.int b, .int 1000] hh = .ok (.int (b % 1000)) hh := fun hh => mod_pos hh (by decide)
    have Dv : ∀ hh : HpE, opEv .fdiv [.int b, .int 1000] hh = .ok (.int (b / 1000)) hh := fun hh => fdiv_pos hh (by decide) (by decide)
    refine ⟨b / 1000, b % 1000, ?_⟩
    simp [q, look_last, app_last h (row.map .int) _ hz', M, Dv]
  · obtain ⟨r, hr⟩ := mixed m (h ++ [.lst (row.map .int)]) ns k hm
    refine ⟨b, r, ?_⟩
    simp [q, look_last, app_last h (row.map .int) _ hz', hr]
theorem row_if (m : Nat) (h : HpE) (ns : List Int) (many : Int) : ∃ b : Int, exS GG (callF GG fns m) rowIf [some (.scr ns), some (.int many), some (.int 0), none, none] h = .nx [some (.scr ns), some (.int many), some (.int b), none, none] h := by
  cases ns with
  | nil => refine ⟨0, ?_⟩; simp only [rowIf, b__law_row]; simp
  | cons n r =>
    have P := pow18 h
    simp only [rowIf, b__law_row]
    generalize (10 : Int) ^ 18 = T at P
    cases q2 : decide (T ≤ n)
    · refine ⟨0, ?_⟩
      simp [-op_powS, P, q2]
    · refine ⟨n, ?_⟩
      simp [-op_powS, P, q2]
theorem row_loop (m : Nat) (h : HpE) (ns : List Int) (many : Nat) (b : Int) (hm : 0 < m) (hmany : many ≤ 1000) : ∃ (row : List Int) (b' : Int) (o : Option D), row.length = many ∧
    forL [.int many] [.int many] (fun x env h => (ofO (asgNT (.name 4) x env) h).out fun env' h => exL GG (callF GG fns m) rowBody env' h) (rangeL 0 many) [some (.scr ns), some (.int many), some (.int b), some (.ref h.length), none] (h ++ [.lst []]) =
      .nx [some (.scr ns), some (.int many), some (.int b'), some (.ref h.length), o] (h ++ [.lst (row.map .int)]) := by
  have hsz : 1000 < sz := by unfold sz; omega
  obtain ⟨env', h', e, hi⟩ := forL_ex (src := [.int many]) (h0 := [.int many]) (f := fun x env h => (ofO (asgNT (.name 4) x env) h).out fun env' h => exL GG (callF GG fns m) rowBody env' h)
    (fun xs env h' => ∃ (b : Int) (row : List Int) (o : Option D), (∀ x ∈ xs, ∃ k : Int, x = .int k) ∧ env = [some (.scr ns), some (.int many), some (.int b), some (.ref h.length), o] ∧ h' = h ++ [.lst (row.map .int)] ∧ row.length + xs.length = many)
    (fun x r env h' ⟨b, row, o, hx, he, hh, hl⟩ => by
      subst he hh
      obtain ⟨k, rfl⟩ := hx x List.mem_cons_self
      simp at hl
      obtain ⟨b', v, eb⟩ := row_body m h ns many b k row (by omega) (by omega)
      refine ⟨_, _, .inl ?_, by simp, b', row ++ [v], some (.int k), fun y hy => hx y (List.mem_cons_of_mem _ hy), rfl, rfl, by simp; omega⟩
      simp [eb]) (rangeL 0 many) [some (.scr ns), some (.int many), some (.int b), some (.ref h.length), none] (h ++ [.lst []])
    ⟨b, [], none, by unfold rangeL; intro x hx; obtain ⟨k, _, rfl⟩ := List.mem_map.mp hx; exact ⟨_, rfl⟩, rfl, rfl, by simp [rangeL]⟩
  obtain ⟨b', row, o, _, rfl, rfl, hl⟩ := hi
  exact ⟨row, b', o, by simpa using hl, e⟩
theorem lawrow (m : Nat) (h : HpE) (ns : List Int) (many : Nat) (hm : 2 ≤ m) (hmany : many ≤ 1000) (hc : Cl h) : ∃ row : List Int, row.length = many ∧ callF GG fns m 1 [.scr ns, .int many] h = .ok (.lst (row.map .int)) h := by
  obtain ⟨b, hb⟩ := row_if (m - 1) h ns many
  obtain ⟨row, b', o, hl, e⟩ := row_loop (m - 1) h ns many b (by omega) hmany
  refine ⟨row, hl, ?_⟩
  rw [call_at (by omega) (fn := f__law_row) rfl rfl]
  simp only [f__law_row]
  rw [row_eq, exL_consT]
  have e0 : exS GG (callF GG fns (m - 1)) (.asg (.name 2) (.lit (.int 0))) ([D.scr ns, .int many].map some ++ List.replicate (5 - 2) none) h = .nx [some (.scr ns), some (.int many), some (.int 0), none, none] h := by simp
  rw [e0, then_nx, exL_consT, hb, then_nx, exL_consT]
  have e1 : exS GG (callF GG fns (m - 1)) (.asg (.name 3) (.op .newL .nil)) [some (.scr ns), some (.int many), some (.int b), none, none] h = .nx [some (.scr ns), some (.int many), some (.int b), some (.ref h.length), none] (h ++ [.lst []]) := by simp
  rw [e1, then_nx, exL_consT]
  have hsm : smallI (many : Int) := by unfold smallI; omega
  have e2 : exS GG (callF GG fns (m - 1)) (.for (.name 4) .range (.cons (.var 1) .nil) rowBody) [some (.scr ns), some (.int many), some (.int b), some (.ref h.length), none] (h ++ [.lst []]) = .nx [some (.scr ns), some (.int many), some (.int b'), some (.ref h.length), o] (h ++ [.lst (row.map .int)]) := by
    have ev : evL GG (callF GG fns (m - 1)) (.cons (.var 1) .nil) [some (.scr ns), some (.int many), some (.int b), some (.ref h.length), none] (h ++ [.lst []]) = .ok [.int many] (h ++ [.lst []]) := by simp
    exact (for_range ev hsm).trans e
  rw [e2, then_nx]
  have := fin_ref (h := h) (t := []) (xs := row.map D.int) (n0 := h.length) rfl hc (belowL_all.mpr fun d hd => by obtain ⟨i, _, rfl⟩ := List.mem_map.mp hd; simp)
  rw [← this]
  simp
end whatfailed_k52_whole_forms_spoilt

namespace whatfailed_k52_whole_forms_spoilt
open PySem Ev
/-- a part: its name, its kind, its links -/
structure Prt where
  n : Str
  k : Str
  l : D
def Prt.d (p : Prt) : D := .tup [.str p.n, .str p.k, p.l]
/-- a device's data -/
def devD (lib ws : D) (ps : List Prt) (outer : D) : D := .tup [lib, ws, .tup (ps.map Prt.d), outer]
theorem partnames (m : Nat) (h : HpE) (lib ws outer : D) (ps : List Prt) (hm : 0 < m) (hz : ps.length ≤ 1000) : callF GG fns m 26 [devD lib ws ps outer] h = .ok (.tup ((ps.map Prt.n).map .str)) h := by
  rw [call_at hm (fn := f_part_names) rfl rfl]
  simp only [f_part_names, b_part_names]
  have c1 : evC GG (callF GG fns (m - 1)) (.comp [1, 2, 3] (.tup [(.name 1), (.name 2), (.name 3)]) .plain (.cons (.op .ix (.cons (.var 0) (.cons (.lit (.int 2)) .nil))) .nil) .nil (.var 1)) [some (devD lib ws ps outer), none, none, none] h = .ok (.lst ((ps.map Prt.n).map .str)) h := by
    have := comp_map (G := GG) (call := callF GG fns (m - 1)) (env := [some (devD lib ws ps outer), none, none, none]) (h := h) (own := [1, 2, 3]) (t := .tup [(.name 1), (.name 2), (.name 3)]) (k := .plain) (it := .cons (.op .ix (.cons (.var 0) (.cons (.lit (.int 2)) .nil))) .nil) (e := .var 1)
      (ds := [.tup (ps.map Prt.d)]) (xs := ps.map Prt.d) fstD (fun d => [some (devD lib ws ps outer), some (fstD d), some (sndD d), some (thdD d)]) (by simp [devD]) (by simp) (by rw [List.length_map]; exact Nat.le_trans hz (by decide)) (fun d hd => by
        obtain ⟨p, _, rfl⟩ := List.mem_map.mp hd
        simp [Prt.d, fstD, sndD, thdD]) (fun d hd => by simp)
    rw [this, List.map_map, List.map_map]
    rfl
  simp [c1]
theorem isparts (m : Nat) (h : HpE) (lib ws outer : D) (ps : List Prt) (xs : List Str) (hm : 2 ≤ m) (hz : ps.length ≤ 1000) (hx : xs.length ≤ 1000) (ok : ∀ x ∈ xs, PyData.strOk x = true) (okp : ∀ p ∈ ps, PyData.strOk p.n = true) :
    callF GG fns m 10 [.tup (xs.map .str), devD lib ws ps outer] h = .ok (.bl (rising xs && xs.all fun x => PS (ps.map Prt.n) x)) h := by
  rw [call_at (by omega) (fn := f_is_parts) rfl rfl]
  simp only [f_is_parts, b_is_parts]
  have hxz : (xs.map D.str).length ≤ sz := by rw [List.length_map]; exact Nat.le_trans hx (by decide)
  have c1 : evC GG (callF GG fns (m - 1)) (.comp [2] (.name 2) .plain (.cons (.var 0) .nil) .nil (.op (.isi .str) (.cons (.var 2) .nil))) [some (.tup (xs.map .str)), some (devD lib ws ps outer), none] h = .ok (.lst (xs.map fun x => .bl true)) h := by
    have := comp_map (G := GG) (call := callF GG fns (m - 1)) (env := [some (.tup (xs.map .str)), some (devD lib ws ps outer), none]) (h := h) (own := [2]) (t := .name 2) (k := .plain) (it := .cons (.var 0) .nil) (e := .op (.isi .str) (.cons (.var 2) .nil))
      (ds := [.tup (xs.map .str)]) (xs := xs.map .str) (fun _ => .bl true) (fun d => [some (.tup (xs.map .str)), some (devD lib ws ps outer), some d]) (by simp) (by simp) hxz (fun d hd => by simp) (fun d hd => by
        obtain ⟨p, _, rfl⟩ := List.mem_map.mp hd
        simp)
    rw [this, List.map_map]
    rfl
  have pn := partnames (m - 1) h lib ws outer ps (by omega) hz
  have c2 : evC GG (callF GG fns (m - 1)) (.comp [2] (.name 2) .plain (.cons (.var 0) .nil) .nil (.op .inn (.cons (.var 2) (.cons (.call 26 (.cons (.var 1) .nil)) .nil)))) [some (.tup (xs.map .str)), some (devD lib ws ps outer), none] h = .ok (.lst (xs.map fun x => .bl (PS (ps.map Prt.n) x))) h := by
    have := comp_map (G := GG) (call := callF GG fns (m - 1)) (env := [some (.tup (xs.map .str)), some (devD lib ws ps outer), none]) (h := h) (own := [2]) (t := .name 2) (k := .plain) (it := .cons (.var 0) .nil) (e := .op .inn (.cons (.var 2) (.cons (.call 26 (.cons (.var 1) .nil)) .nil)))
      (ds := [.tup (xs.map .str)]) (xs := xs.map .str) (fun d => .bl (PS (ps.map Prt.n) (strV d))) (fun d => [some (.tup (xs.map .str)), some (devD lib ws ps outer), some d]) (by simp) (by simp) hxz (fun d hd => by simp) (fun d hd => by
        obtain ⟨x, hxm, rfl⟩ := List.mem_map.mp hd
        have okp' : ∀ y ∈ ps.map Prt.n, PyData.strOk y = true := fun y hy => by
          obtain ⟨p, hp, rfl⟩ := List.mem_map.mp hy
          exact okp p hp
        have := oIn_strs (xs := ps.map Prt.n) false (ok x hxm) okp'
        simp only [evC_opS, evL_consS, evC_varS, evC_callS, slot_s, slot_0, ofO_some, bind_okS, evL_nilS, pn, op_innS, look_str, look_tup, this, rs_some]
        rfl)
    rw [this, List.map_map]
    rfl
  have r := isrisingT (m - 1) h xs (by omega) hx
  have e1 : oAll (.lst (xs.map fun _ => D.bl true)) = some (.bl true) := by rw [oAll_map (fun _ => true) xs]; simp
  cases q : rising xs
  · simp [c1, e1, r, q]
  · simp [c1, e1, r, q, c2, oAll_map]
end whatfailed_k52_whole_forms_spoilt

namespace whatfailed_k52_whole_forms_spoilt
open PySem Ev
/-- a library of two kinds -/
def libD (a b : D) : D := .tup [.tup [.str "k", a], .tup [.str "l", b]]
theorem lib_dict (a b : D) : oDict (libD a b) = some (.dct [(.str "k", a), (.str "l", b)]) := by
  simp [libD, oDict, pairs?, isKeyD, mkDct, dput]
def kndOf (a b : D) (k : Str) : D := if k = "k" then a else b
theorem lib_get (a b : D) {k : Str} (hk : k = "k" ∨ k = "l") : oIx (.dct [(.str "k", a), (.str "l", b)]) (.str k) = some (kndOf a b k) := by
  rcases hk with rfl | rfl <;> simp [oIx, kOk, isKeyD, dget, kndOf]
/-- a loop that leaves at the first thing that is meant -/
theorem forL_find {src h0 : List D} {f : D → EnvE → HpE → Out} {h : HpE} (q : D → Bool) (g : D → D) (E : EnvE → Prop) (hs : src.map (look h) = h0) : ∀ {xs : List D} {env : EnvE}, (∀ x ∈ xs, ∀ env, E env → (q x = true → f x env h = .ret (g x) h) ∧ (q x = false → ∃ env', f x env h = .nx env' h ∧ E env')) → E env →
    (∀ x, xs.find? q = some x → forL src h0 f xs env h = .ret (g x) h) ∧ (xs.find? q = none → ∃ env', forL src h0 f xs env h = .nx env' h ∧ E env')
  | [], env, _, he => ⟨fun x z => by simp at z, fun _ => ⟨env, by rw [forL], he⟩⟩
  | x :: xs, env, hf, he => by
    obtain ⟨h1, h2⟩ := hf x List.mem_cons_self env he
    rw [List.find?_cons]
    cases hq : q x
    · obtain ⟨env', e1, he'⟩ := h2 hq
      have IH := forL_find (src := src) (h0 := h0) (f := f) (h := h) q g E hs (xs := xs) (env := env') (fun y hy => hf y (List.mem_cons_of_mem _ hy)) he'
      have key : forL src h0 f (x :: xs) env h = forL src h0 f xs env' h := by
        rw [forL, e1]; simp only [hs, if_true]
      rw [key]
      exact IH
    · refine ⟨fun y z => ?_, fun z => by simp at z⟩
      cases z
      rw [forL, h1 hq]
def mofBody : SL := match b_modes_of with
  | .cons _ (.cons (.for _ _ _ b) _) => b
  | _ => .nil
/-- the modes' names of a kind -/
def modesK (kd : D) : List Str := namesD (thdD kd)
theorem mof_body (m : Nat) (h : HpE) (v a b l : D) (part n k : Str) (o6 o7 o8 : Option D) (hp : PyData.strOk part = true) (hn : PyData.strOk n = true) (hk : k = "k" ∨ k = "l") {x y : D} {ms : List D} (hkd : kndOf a b k = .tup [x, y, .tup ms]) (hm3 : ∀ d ∈ ms, tupLen 3 d = true) (hms : ms.map fstD = (modesK (kndOf a b k)).map .str) (hz : ms.length ≤ 1000) :
    exL GG (callF GG fns m) mofBody [some v, some (.str part), some (.dct [(.str "k", a), (.str "l", b)]), some (.str n), some (.str k), some l, none, none, none] h =
      if n == part then .ret (.tup ((("well" : Str) :: modesK (kndOf a b k)).map .str)) h else .nx [some v, some (.str part), some (.dct [(.str "k", a), (.str "l", b)]), some (.str n), some (.str k), some l, none, none, none] h := by
  simp only [mofBody, b_modes_of]
  have c1 : evC GG (callF GG fns m) (.comp [6, 7, 8] (.tup [(.name 6), (.name 7), (.name 8)]) .plain (.cons (.op .ix (.cons (.op .ix (.cons (.var 2) (.cons (.var 4) .nil))) (.cons (.lit (.int 2)) .nil))) .nil) .nil (.var 6)) [some v, some (.str part), some (.dct [(.str "k", a), (.str "l", b)]), some (.str n), some (.str k), some l, none, none, none] h = .ok (.lst (ms.map fstD)) h := by
    refine comp_map (ds := [.tup ms]) (env' := fun d => [some v, some (.str part), some (.dct [(.str "k", a), (.str "l", b)]), some (.str n), some (.str k), some l, some (fstD d), some (sndD d), some (thdD d)]) _ ?_ (by simp) (Nat.le_trans hz (by decide)) (fun d hd => ?_) (fun d hd => by simp)
    · have g := lib_get a b hk
      rw [hkd] at g
      simp [g]
    · obtain ⟨x, y, z, rfl⟩ := tup3 (hm3 d hd)
      simp [fstD, sndD, thdD]
  have hz2 : 1 + ms.length ≤ sz := Nat.le_trans (by omega) (show 1001 ≤ sz by decide)
  cases q : (n == part)
  · simp [oEq_str, hp, hn, q]
  · simp [oEq_str, hp, hn, q, c1, sz1, hz2, hms]
    have : (modesK (kndOf a b k)).length = ms.length := by
      have := congrArg List.length hms
      simpa using this.symm
    simp [this, hz2]
end whatfailed_k52_whole_forms_spoilt

namespace whatfailed_k52_whole_forms_spoilt
open PySem Ev
/-- a kind as far as its modes go -/
structure KdOk (kd : D) : Prop where
  ex : ∃ x y ms, kd = .tup [x, y, .tup ms] ∧ (∀ d ∈ ms, tupLen 3 d = true) ∧ ms.map fstD = (modesK kd).map .str ∧ ms.length ≤ 1000
structure PsOk (ps : List Prt) : Prop where
  k : ∀ p ∈ ps, p.k = "k" ∨ p.k = "l"
  n : ∀ p ∈ ps, PyData.strOk p.n = true
  z : ps.length ≤ 1000
/-- a part's modes -/
def modesP (a b : D) (ps : List Prt) (part : Str) : List Str := match ps.find? fun p => p.n == part with
  | some p => "well" :: modesK (kndOf a b p.k)
  | none => []
theorem mof_eq : b_modes_of = .cons (.asg (.name 2) (.op .dictOf (.cons (.op .ix (.cons (.var 0) (.cons (.lit (.int 0)) .nil))) .nil))) (.cons (.for (.tup [(.name 3), (.name 4), (.name 5)]) .plain (.cons (.op .ix (.cons (.var 0) (.cons (.lit (.int 2)) .nil))) .nil) mofBody) (.cons (.ret (.op .mkTup .nil)) .nil)) := rfl
theorem find_map {ps : List Prt} {part : Str} : (ps.map Prt.d).find? (fun d => strV (fstD d) == part) = (ps.find? fun p => p.n == part).map Prt.d := by
  rw [List.find?_map]
  rfl
theorem modesof (m : Nat) (h : HpE) (a b ws outer : D) (ps : List Prt) (part : Str) (hm : 0 < m) (hp : PyData.strOk part = true) (P : PsOk ps) (ka : KdOk a) (kb : KdOk b) :
    callF GG fns m 27 [devD (libD a b) ws ps outer, .str part] h = .ok (.tup ((modesP a b ps part).map .str)) h := by
  have kd : ∀ k, KdOk (kndOf a b k) := fun k => by
    unfold kndOf; split
    · exact ka
    · exact kb
  rw [call_at hm (fn := f_modes_of) rfl rfl]
  simp only [f_modes_of]
  rw [mof_eq, exL_consT]
  have e0 : exS GG (callF GG fns (m - 1)) (.asg (.name 2) (.op .dictOf (.cons (.op .ix (.cons (.var 0) (.cons (.lit (.int 0)) .nil))) .nil))) ([devD (libD a b) ws ps outer, .str part].map some ++ List.replicate (9 - 2) none) h =
      .nx [some (devD (libD a b) ws ps outer), some (.str part), some (.dct [(.str "k", a), (.str "l", b)]), none, none, none, none, none, none] h := by
    have g := lib_dict a b
    have l : ∀ h, look h (libD a b) = libD a b := fun _ => rfl
    simp [devD, g, l]
  rw [e0, then_nx, exL_consT]
  have F := forL_find (src := [.tup (ps.map Prt.d)]) (h0 := [.tup (ps.map Prt.d)]) (h := h) (f := fun x env h => (ofO (asgNT (.tup [.name 3, .name 4, .name 5]) x env) h).out fun env' h => exL GG (callF GG fns (m - 1)) mofBody env' h)
    (fun d => strV (fstD d) == part) (fun d => .tup ((("well" : Str) :: modesK (kndOf a b (strV (sndD d)))).map .str)) (fun env => ∃ o3 o4 o5, env = [some (devD (libD a b) ws ps outer), some (.str part), some (.dct [(.str "k", a), (.str "l", b)]), o3, o4, o5, none, none, none]) (by simp)
    (xs := ps.map Prt.d) (env := [some (devD (libD a b) ws ps outer), some (.str part), some (.dct [(.str "k", a), (.str "l", b)]), none, none, none, none, none, none])
    (fun d hd env ⟨o3, o4, o5, he⟩ => by
      subst he
      obtain ⟨p, hpm, rfl⟩ := List.mem_map.mp hd
      obtain ⟨x, y, ms, k1, k2, k3, k4⟩ := (kd p.k).ex
      have B := mof_body (m - 1) h (devD (libD a b) ws ps outer) a b p.l part p.n p.k none none none hp (P.n p hpm) (P.k p hpm) k1 k2 k3 k4
      have f1 : fstD p.d = .str p.n := rfl
      have f2 : sndD p.d = .str p.k := rfl
      have f3 : ∀ s : Str, strV (.str s) = s := fun _ => rfl
      rw [f1, f2, f3, f3]
      refine ⟨fun e => ?_, fun e => ⟨[some (devD (libD a b) ws ps outer), some (.str part), some (.dct [(.str "k", a), (.str "l", b)]), some (.str p.n), some (.str p.k), some p.l, none, none, none], ?_, _, _, _, rfl⟩⟩
      · rw [if_pos e] at B
        simp only [Prt.d]
        simp [-List.map_cons, B]
      · rw [if_neg (by rw [e]; simp)] at B
        simp only [Prt.d]
        simp [B]) ⟨none, none, none, rfl⟩
  rw [find_map] at F
  have S : ∀ o : Out, forL [.tup (ps.map Prt.d)] [.tup (ps.map Prt.d)] (fun x env h => (ofO (asgNT (.tup [.name 3, .name 4, .name 5]) x env) h).out fun env' h => exL GG (callF GG fns (m - 1)) mofBody env' h) (ps.map Prt.d) [some (devD (libD a b) ws ps outer), some (.str part), some (.dct [(.str "k", a), (.str "l", b)]), none, none, none, none, none, none] h = o →
      exS GG (callF GG fns (m - 1)) (.for (.tup [(.name 3), (.name 4), (.name 5)]) .plain (.cons (.op .ix (.cons (.var 0) (.cons (.lit (.int 2)) .nil))) .nil) mofBody) [some (devD (libD a b) ws ps outer), some (.str part), some (.dct [(.str "k", a), (.str "l", b)]), none, none, none, none, none, none] h = o := fun o e => by
    rw [exS_forS, ← e]
    simp [devD]
  unfold modesP
  cases q : ps.find? fun p => p.n == part with
  | none =>
    rw [q] at F
    obtain ⟨env', e, _⟩ := F.2 rfl
    rw [S _ e]
    simp [sz0]
  | some p =>
    rw [q] at F
    have e := F.1 p.d rfl
    rw [S _ e]
    simp [Prt.d, sndD, strV]
end whatfailed_k52_whole_forms_spoilt

namespace whatfailed_k52_whole_forms_spoilt
open PySem Ev
def lmoBody : SL := match b__law_modes with
  | .cons (.for _ _ _ b) _ => b
  | _ => .nil
theorem lmo_eq : b__law_modes = .cons (.for (.tup [(.name 2), (.name 3), (.name 4)]) .plain (.cons (.op .ix (.cons (.var 0) (.cons (.lit (.int 2)) .nil))) .nil) lmoBody) (.cons (.ret (.op .mkLst .nil)) .nil) := rfl
theorem lmo_body (m : Nat) (h : HpE) (ws outer a b l : D) (ps : List Prt) (part n k : Str) (hp : PyData.strOk part = true) (hn : PyData.strOk n = true) (hk : k = "k" ∨ k = "l") {x y : D} {ms : List D} (hkd : kndOf a b k = .tup [x, y, .tup ms]) (hm3 : ∀ d ∈ ms, tupLen 3 d = true) (hms : ms.map fstD = (modesK (kndOf a b k)).map .str) (hz : ms.length ≤ 1000) :
    exL GG (callF GG fns m) lmoBody [some (devD (libD a b) ws ps outer), some (.str part), some (.str n), some (.str k), some l, none, none, none] h =
      if n == part then .ret (.lst ((("well" : Str) :: modesK (kndOf a b k)).map .str)) h else .nx [some (devD (libD a b) ws ps outer), some (.str part), some (.str n), some (.str k), some l, none, none, none] h := by
  simp only [lmoBody, b__law_modes]
  have c1 : evC GG (callF GG fns m) (.comp [5, 6, 7] (.tup [(.name 5), (.name 6), (.name 7)]) .plain (.cons (.op .ix (.cons (.op .ix (.cons (.op .dictOf (.cons (.op .ix (.cons (.var 0) (.cons (.lit (.int 0)) .nil))) .nil)) (.cons (.var 3) .nil))) (.cons (.lit (.int 2)) .nil))) .nil) .nil (.var 5)) [some (devD (libD a b) ws ps outer), some (.str part), some (.str n), some (.str k), some l, none, none, none] h = .ok (.lst (ms.map fstD)) h := by
    refine comp_map (ds := [.tup ms]) (env' := fun d => [some (devD (libD a b) ws ps outer), some (.str part), some (.str n), some (.str k), some l, some (fstD d), some (sndD d), some (thdD d)]) _ ?_ (by simp) (Nat.le_trans hz (by decide)) (fun d hd => ?_) (fun d hd => by simp)
    · have g := lib_get a b hk
      rw [hkd] at g
      have gd := lib_dict a b
      have ll : ∀ h, look h (libD a b) = libD a b := fun _ => rfl
      simp [devD, ll, gd, g]
    · obtain ⟨x, y, z, rfl⟩ := tup3 (hm3 d hd)
      simp [fstD, sndD, thdD]
  have hz2 : 1 + ms.length ≤ sz := Nat.le_trans (by omega) (show 1001 ≤ sz by decide)
  cases q : (n == part)
  · simp [oEq_str, hp, hn, q]
  · simp [oEq_str, hp, hn, q, c1, sz1, hz2, hms]
    have : (modesK (kndOf a b k)).length = ms.length := by
      have := congrArg List.length hms
      simpa using this.symm
    simp [this, hz2]
theorem lawmodes (m : Nat) (h : HpE) (a b ws outer : D) (ps : List Prt) (part : Str) (hm : 0 < m) (hp : PyData.strOk part = true) (P : PsOk ps) (ka : KdOk a) (kb : KdOk b) :
    callF GG fns m 25 [devD (libD a b) ws ps outer, .str part] h = .ok (.lst ((modesP a b ps part).map .str)) h := by
  have kd : ∀ k, KdOk (kndOf a b k) := fun k => by
    unfold kndOf; split
    · exact ka
    · exact kb
  rw [call_at hm (fn := f__law_modes) rfl rfl]
  simp only [f__law_modes]
  rw [lmo_eq, exL_consT]
  have F := forL_find (src := [.tup (ps.map Prt.d)]) (h0 := [.tup (ps.map Prt.d)]) (h := h) (f := fun x env h => (ofO (asgNT (.tup [.name 2, .name 3, .name 4]) x env) h).out fun env' h => exL GG (callF GG fns (m - 1)) lmoBody env' h)
    (fun d => strV (fstD d) == part) (fun d => .lst ((("well" : Str) :: modesK (kndOf a b (strV (sndD d)))).map .str)) (fun env => ∃ o3 o4 o5, env = [some (devD (libD a b) ws ps outer), some (.str part), o3, o4, o5, none, none, none]) (by simp)
    (xs := ps.map Prt.d) (env := [some (devD (libD a b) ws ps outer), some (.str part), none, none, none, none, none, none])
    (fun d hd env ⟨o3, o4, o5, he⟩ => by
      subst he
      obtain ⟨p, hpm, rfl⟩ := List.mem_map.mp hd
      obtain ⟨x, y, ms, k1, k2, k3, k4⟩ := (kd p.k).ex
      have B := lmo_body (m - 1) h ws outer a b p.l ps part p.n p.k hp (P.n p hpm) (P.k p hpm) k1 k2 k3 k4
      have f1 : fstD p.d = .str p.n := rfl
      have f2 : sndD p.d = .str p.k := rfl
      have f3 : ∀ s : Str, strV (.str s) = s := fun _ => rfl
      rw [f1, f2, f3, f3]
      refine ⟨fun e => ?_, fun e => ⟨[some (devD (libD a b) ws ps outer), some (.str part), some (.str p.n), some (.str p.k), some p.l, none, none, none], ?_, _, _, _, rfl⟩⟩
      · rw [if_pos e] at B
        simp only [Prt.d]
        simp [-List.map_cons, B]
      · rw [if_neg (by rw [e]; simp)] at B
        simp only [Prt.d]
        simp [B]) ⟨none, none, none, rfl⟩
  rw [find_map] at F
  have S : ∀ o : Out, forL [.tup (ps.map Prt.d)] [.tup (ps.map Prt.d)] (fun x env h => (ofO (asgNT (.tup [.name 2, .name 3, .name 4]) x env) h).out fun env' h => exL GG (callF GG fns (m - 1)) lmoBody env' h) (ps.map Prt.d) [some (devD (libD a b) ws ps outer), some (.str part), none, none, none, none, none, none] h = o →
      exS GG (callF GG fns (m - 1)) (.for (.tup [(.name 2), (.name 3), (.name 4)]) .plain (.cons (.op .ix (.cons (.var 0) (.cons (.lit (.int 2)) .nil))) .nil) lmoBody) ([devD (libD a b) ws ps outer, .str part].map some ++ List.replicate (8 - 2) none) h = o := fun o e => by
    rw [exS_forS, ← e]
    simp [devD]
  unfold modesP
  cases q : ps.find? fun p => p.n == part with
  | none =>
    rw [q] at F
    obtain ⟨env', e, _⟩ := F.2 rfl
    rw [S _ e]
    simp [sz0]
  | some p =>
    rw [q] at F
    have e := F.1 p.d rfl
    rw [S _ e]
    simp [Prt.d, sndD, strV]
end whatfailed_k52_whole_forms_spoilt

namespace whatfailed_k52_whole_forms_spoilt
open PySem Ev
def okM (a b : D) (ps : List Prt) (part : Str) : D → Bool
  | .tup [x, .str y] => eqv x (.str part) && PS (modesP a b ps part) y
  | _ => false
def imoBody : SL := match b_is_modes with
  | .cons _ (.cons (.for _ _ _ b) _) => b
  | _ => .nil
theorem imo_eq : b_is_modes = .cons (.ite (.or (.op .not (.cons (.op (.isi .tuple) (.cons (.var 0) .nil)) .nil)) (.op .ne (.cons (.op .len (.cons (.var 0) .nil)) (.cons (.op .len (.cons (.op .ix (.cons (.var 1) (.cons (.lit (.int 2)) .nil))) .nil)) .nil)))) (.cons (.ret (.lit (.bl false))) .nil) .nil)
  (.cons (.for (.tup [(.name 2), (.name 3)]) .zip (.cons (.var 0) (.cons (.call 26 (.cons (.var 1) .nil)) .nil)) imoBody) (.cons (.ret (.lit (.bl true))) .nil)) := rfl
/-- what is told of a part: flat -/
def Told (d : D) : Prop := Dat d ∧ ∀ x y, d = .tup [x, y] → flat64 x = true
theorem imo_body (m : Nat) (h : HpE) (v ws outer a b : D) (ps : List Prt) (part : Str) (t : D) (hm : 0 < m) (ht : Told t) (hp : PyData.strOk part = true) (P : PsOk ps) (ka : KdOk a) (kb : KdOk b) (okm : ∀ x ∈ modesP a b ps part, PyData.strOk x = true) :
    exL GG (callF GG fns m) imoBody [some v, some (devD (libD a b) ws ps outer), some t, some (.str part)] h = if okM a b ps part t = true then .nx [some v, some (devD (libD a b) ws ps outer), some t, some (.str part)] h else .ret (.bl false) h := by
  simp only [imoBody, b_is_modes]
  have M := modesof m h a b ws outer ps part hm hp P ka kb
  obtain ⟨hd, hf⟩ := ht
  cases t with
  | tup ds =>
    match ds, hd, hf with
    | [x, y], hd, hf =>
      have hx := hf x y rfl
      have hE := oEq_of hx (flat_str hp) true
      simp at hd
      have lx := hd.1.look h
      cases q : eqv x (.str part)
      · have : okM a b ps part (.tup [x, y]) = false := by cases y <;> simp [okM, q]
        simp [this, lx, hE, q]
      · cases y with
        | str y =>
          have hy := dat_str.mp hd.2
          have hI : oIn true (.str y) (.tup ((modesP a b ps part).map .str)) = some (.bl (!PS (modesP a b ps part) y)) := oIn_strs (xs := modesP a b ps part) true hy okm
          cases hq : PS (modesP a b ps part) y <;> simp [okM, lx, hE, q, M, hI, hq]
        | _ => simp [okM, lx, hE, q] <;> simp at hd
    | [], _, _ => simp [okM]
    | [_], _, _ => simp [okM]
    | _ :: _ :: _ :: r, _, _ =>
      have l3 : ((r.length : Int) + 1 + 1 + 1 == 2) = false := by simp; omega
      simp [okM, l3]
  | _ => simp [okM] <;> simp at hd
end whatfailed_k52_whole_forms_spoilt

namespace whatfailed_k52_whole_forms_spoilt
open PySem Ev
theorem zip_mem : ∀ {vs ns : List D} {d : D}, d ∈ zipL vs ns → ∃ x y, d = .tup [x, y] ∧ x ∈ vs ∧ y ∈ ns
  | [], _, _, h => by simp [zipL] at h
  | _ :: _, [], _, h => by simp [zipL] at h
  | a :: as, b :: bs, d, h => by
    simp only [zipL, List.mem_cons] at h
    rcases h with rfl | h
    · exact ⟨a, b, rfl, List.mem_cons_self, List.mem_cons_self⟩
    · obtain ⟨x, y, e, h1, h2⟩ := zip_mem h
      exact ⟨x, y, e, List.mem_cons_of_mem _ h1, List.mem_cons_of_mem _ h2⟩
def fMod (a b : D) (ps : List Prt) (vs : List D) : Bool := decide (vs.length = ps.length) && (zipL vs ((ps.map Prt.n).map .str)).all fun d => okM a b ps (strV (sndD d)) (fstD d)
theorem for_zip {G : List D} {call : CallF} {t : NT} {it : CL} {body : SL} {env : EnvE} {h h' : HpE} {xs ys : List D} (ev : evL G call it env h = .ok [.tup xs, .tup ys] h') :
    exS G call (.for t .zip it body) env h = forL [.tup xs, .tup ys] [.tup xs, .tup ys] (fun x env h => (ofO (asgNT t x env) h).out fun env' h => exL G call body env' h) (zipL xs ys) env h' := by
  rw [exS_forS, ev]
  rfl
theorem ismodes (m : Nat) (h : HpE) (a b ws outer : D) (ps : List Prt) (vs : List D) (hm : 2 ≤ m) (ht : ∀ d ∈ vs, Told d) (P : PsOk ps) (ka : KdOk a) (kb : KdOk b) (okm : ∀ part, ∀ x ∈ modesP a b ps part, PyData.strOk x = true) :
    callF GG fns m 9 [.tup vs, devD (libD a b) ws ps outer] h = .ok (.bl (fMod a b ps vs)) h := by
  rw [call_at (by omega) (fn := f_is_modes) rfl rfl]
  simp only [f_is_modes]
  rw [imo_eq]
  by_cases hl : vs.length = ps.length
  · have pn := partnames (m - 1) h (libD a b) ws outer ps (by omega) P.z
    have F := forL_all (src := [.tup vs, .tup ((ps.map Prt.n).map .str)]) (h0 := [.tup vs, .tup ((ps.map Prt.n).map .str)]) (h := h) (f := fun x env h => (ofO (asgNT (.tup [.name 2, .name 3]) x env) h).out fun env' h => exL GG (callF GG fns (m - 1)) imoBody env' h)
      (fun d => okM a b ps (strV (sndD d)) (fstD d)) (fun env => ∃ o2 o3, env = [some (.tup vs), some (devD (libD a b) ws ps outer), o2, o3]) (by simp) (xs := zipL vs ((ps.map Prt.n).map .str)) (env := [some (.tup vs), some (devD (libD a b) ws ps outer), none, none])
      (fun d hd env ⟨o2, o3, he⟩ => by
        subst he
        obtain ⟨x, y, rfl, hx, hy⟩ := zip_mem hd
        obtain ⟨part, hpm, rfl⟩ := List.mem_map.mp hy
        obtain ⟨p, hpp, rfl⟩ := List.mem_map.mp hpm
        have B := imo_body (m - 1) h (.tup vs) ws outer a b ps p.n x (by omega) (ht x hx) (P.n p hpp) P ka kb (okm p.n)
        simp only [fstD, sndD, strV]
        refine ⟨fun e => ⟨[some (.tup vs), some (devD (libD a b) ws ps outer), some x, some (.str p.n)], ?_, _, _, rfl⟩, fun e => ?_⟩
        · rw [if_pos e] at B
          simp [B]
        · rw [if_neg (by rw [e]; simp)] at B
          simp [B]) ⟨none, none, rfl⟩
    have ev : evL GG (callF GG fns (m - 1)) (.cons (.var 0) (.cons (.call 26 (.cons (.var 1) .nil)) .nil)) [some (.tup vs), some (devD (libD a b) ws ps outer), none, none] h = .ok [.tup vs, .tup ((ps.map Prt.n).map .str)] h := by
      simp only [evL_consS, evC_varS, evC_callS, slot_s, slot_0, ofO_some, bind_okS, evL_nilS, pn]
    have fz := for_zip (t := .tup [.name 2, .name 3]) (body := imoBody) ev
    have e1 : exS GG (callF GG fns (m - 1)) (.ite (.or (.op .not (.cons (.op (.isi .tuple) (.cons (.var 0) .nil)) .nil)) (.op .ne (.cons (.op .len (.cons (.var 0) .nil)) (.cons (.op .len (.cons (.op .ix (.cons (.var 1) (.cons (.lit (.int 2)) .nil))) .nil)) .nil)))) (.cons (.ret (.lit (.bl false))) .nil) .nil) ([D.tup vs, devD (libD a b) ws ps outer].map some ++ List.replicate (4 - 2) none) h = .nx [some (.tup vs), some (devD (libD a b) ws ps outer), none, none] h := by
      simp [devD, hl]
    rw [exL_consT, e1, then_nx, exL_consT, fz]
    unfold fMod
    rw [decide_eq_true hl, Bool.true_and]
    cases q : (zipL vs ((ps.map Prt.n).map .str)).all fun d => okM a b ps (strV (sndD d)) (fstD d)
    · rw [F.2 q]
      simp
    · obtain ⟨env', e, _⟩ := F.1 q
      rw [e]
      simp
  · have l' : ((vs.length : Int) == ps.length) = false := by simp; omega
    simp [devD, l', hl, fMod]
end whatfailed_k52_whole_forms_spoilt

namespace whatfailed_k52_whole_forms_spoilt
open PySem Ev
theorem dput_new {kvs : List (D × D)} {k v : D} (h : ∀ p ∈ kvs, p.1 ≠ k) : dput kvs k v = kvs ++ [(k, v)] := by
  unfold dput
  rw [if_neg]
  rw [List.any_eq_true]
  rintro ⟨p, hp, e⟩
  exact h p hp (of_decide_eq_true e)
theorem mkDct_nodup : ∀ {ps acc : List (D × D)}, ((acc ++ ps).map (·.1)).Nodup → ps.foldl (fun acc kv => dput acc kv.1 kv.2) acc = acc ++ ps
  | [], acc, _ => by simp
  | p :: ps, acc, h => by
    rw [List.foldl_cons, dput_new]
    · have := mkDct_nodup (ps := ps) (acc := acc ++ [(p.1, p.2)]) (by simpa using h)
      rw [this]; simp
    · intro q hq e
      rw [List.map_append, List.nodup_append] at h
      exact h.2.2 q.1 (List.mem_map.mpr ⟨q, hq, rfl⟩) p.1 (by simp) e
/-- the wires with their values -/
def wsD (wl : List Str) (V : D) : D := .tup (wl.map fun w => .tup [.str w, V])
theorem ws_pairs (wl : List Str) (V : D) : pairs? (wl.map fun w => D.tup [.str w, V]) = some (wl.map fun w => (D.str w, V)) := by
  induction wl with
  | nil => rfl
  | cons w r ih => rw [List.map_cons, pairs?, ih]; rfl
theorem ws_dict (wl : List Str) (V : D) (hn : wl.Nodup) : oDict (wsD wl V) = some (.dct (wl.map fun w => (.str w, V))) := by
  show (match pairs? (wl.map fun w => D.tup [.str w, V]) with | some ps => if ps.all (fun kv => isKeyD kv.1) = true then some (D.dct (mkDct ps)) else none | none => none) = _
  rw [ws_pairs]
  simp only
  rw [if_pos (by rw [List.all_eq_true]; intro p hp; obtain ⟨w, _, rfl⟩ := List.mem_map.mp hp; rfl)]
  congr 2
  have := mkDct_nodup (ps := wl.map fun w => (D.str w, V)) (acc := []) (by
    rw [List.nil_append, List.map_map]
    exact List.Pairwise.map _ (fun a b h e => h (by injection e)) hn)
  exact this
end whatfailed_k52_whole_forms_spoilt

namespace whatfailed_k52_whole_forms_spoilt
open PySem Ev
theorem dget_ws (V : D) (w : Str) : ∀ wl : List Str, dget (wl.map fun w => (D.str w, V)) (.str w) = if PS wl w = true then some V else none
  | [] => rfl
  | x :: r => by
    have ih := dget_ws V w r
    unfold dget at ih ⊢
    rw [List.map_cons, List.find?_cons]
    by_cases q : x = w
    · subst q; simp [PS]
    · have q' : (x == w) = false := by simpa using q
      have q2 : decide (D.str x = D.str w) = false := by simp [q]
      simp only [q2]
      rw [ih]
      simp [PS, q']
theorem oIn_dct (n : Bool) (kvs : List (D × D)) (w : Str) : oIn n (.str w) (.dct kvs) = some (.bl (if n then !(dget kvs (.str w)).isSome else (dget kvs (.str w)).isSome)) := rfl
theorem oIx_dct (kvs : List (D × D)) (w : Str) : oIx (.dct kvs) (.str w) = dget kvs (.str w) := rfl
def seeOk (wl : List Str) (vs : List Int) : D → Bool
  | .tup [.str w, .int i] => PS wl w && vs.any fun j => j == i
  | _ => false
def fSee (wl : List Str) (vs : List Int) (v : D) : Bool := fRows 2 v && (rowsOf v).all (seeOk wl vs)
theorem memD_ints (i : Int) : ∀ vs : List Int, memD (.int i) (vs.map .int) = vs.any fun j => j == i
  | [] => rfl
  | y :: ys => by
    have := memD_ints i ys
    unfold memD at this ⊢
    rw [List.map_cons, List.any_cons, this, List.any_cons]
    simp [eqv]
theorem flat_intsT (vs : List Int) : (vs.map D.int).all flat64 = true := by
  rw [List.all_eq_true]
  intro d hd
  obtain ⟨x, hx, rfl⟩ := List.mem_map.mp hd
  simp
theorem oIn_ints (n : Bool) (i : Int) (vs : List Int) : oIn n (.int i) (.tup (vs.map .int)) = some (.bl (if n then !(vs.any fun j => j == i) else vs.any fun j => j == i)) := by
  show (if flat64 (.int i) = true ∧ (vs.map D.int).all flat64 = true then some (D.bl (if n then !memD (.int i) (vs.map .int) else memD (.int i) (vs.map .int))) else none) = _
  rw [if_pos ⟨flat_int i, flat_intsT vs⟩, memD_ints]
theorem isseeing (m : Nat) (h : HpE) (lib outer : D) (ps : List Prt) (wl : List Str) (vs : List Int) {v : D} (hm : 3 ≤ m) (hg : gd v = true) (hn : wl.Nodup) :
    callF GG fns m 6 [v, devD lib (wsD wl (.tup (vs.map .int))) ps outer] h = .ok (.bl (fSee wl vs v)) h := by
  rw [call_at (by omega) (fn := f_is_seeing) rfl rfl]
  simp only [f_is_seeing, b_is_seeing]
  have r1 := rows 2 (m - 1) h (by omega) (by omega) hg
  simp at r1
  cases q1 : fRows 2 v
  · simp [r1, q1, fSee]
  · obtain ⟨as, rfl, u1, u2, u3⟩ := fRows_parts q1
    have wd := ws_dict wl (.tup (vs.map .int)) hn
    have lw : ∀ h, look h (wsD wl (.tup (vs.map .int))) = wsD wl (.tup (vs.map .int)) := fun _ => rfl
    have c1 : evC GG (callF GG fns (m - 1)) (.comp [3, 4] (.tup [(.name 3), (.name 4)]) .plain (.cons (.var 0) .nil) .nil (.and (.op .inn (.cons (.var 3) (.cons (.var 2) .nil))) (.and (.call 24 (.cons (.var 4) .nil)) (.op .inn (.cons (.var 4) (.cons (.op .ix (.cons (.var 2) (.cons (.var 3) .nil))) .nil))))))
        [some (.tup as), some (devD lib (wsD wl (.tup (vs.map .int))) ps outer), some (.dct (wl.map fun w => (.str w, .tup (vs.map .int)))), none, none] h = .ok (.lst (as.map fun d => .bl (seeOk wl vs d))) h := by
      refine comp_map (ds := [.tup as]) (env' := fun d => [some (.tup as), some (devD lib (wsD wl (.tup (vs.map .int))) ps outer), some (.dct (wl.map fun w => (.str w, .tup (vs.map .int)))), some (fstD d), some (sndD d)]) _ (by simp) (by simp) (gd_len hg).1 (fun d hd => ?_) (fun d hd => ?_)
      · obtain ⟨x, y, rfl⟩ := tup2 (u1 d hd)
        simp [fstD, sndD]
      · have un := u2 d hd
        have gdd := gd_mem hg d hd
        obtain ⟨x, y, rfl⟩ := tup2 (u1 d hd)
        have gy := gd_mem gdd y (by simp)
        obtain ⟨w, rfl⟩ := name_str un
        have I := isint (m - 1) h (by omega) (gd_dat gy)
        have dg := dget_ws (.tup (vs.map .int)) w wl
        simp only [fstD, sndD]
        have e1 : oIn false (.str w) (.dct (wl.map fun w => (.str w, .tup (vs.map .int)))) = some (.bl (PS wl w)) := by
          rw [oIn_dct, dg]
          cases PS wl w <;> rfl
        have e2 : PS wl w = true → oIx (.dct (wl.map fun w => (.str w, .tup (vs.map .int)))) (.str w) = some (.tup (vs.map .int)) := fun q => by
          rw [oIx_dct, dg, if_pos q]
        cases q : PS wl w
        · have : seeOk wl vs (.tup [.str w, y]) = false := by cases y <;> simp [seeOk, q]
          simp [e1, q, this]
        · have e2 := e2 q
          have dy := gd_dat gy
          cases y with
          | int i => simp [e1, q, e2, I, isIntD, seeOk, oIn_ints]
          | _ => simp [e1, q, I, isIntD, seeOk] <;> simp at dy
    simp [r1, q1, devD, lw, wd]
    simp [devD] at c1
    simp [c1, oAll_map, fSee, q1, rowsOf]
theorem isseeings (m : Nat) (h : HpE) (lib outer : D) (ps : List Prt) (wl : List Str) (vs : List Int) (xs : List D) (hm : 4 ≤ m) (hz : xs.length ≤ sz) (hg : ∀ x ∈ xs, gd x = true) (hn : wl.Nodup) :
    callF GG fns m 7 [.tup xs, devD lib (wsD wl (.tup (vs.map .int))) ps outer] h = .ok (.bl (xs.all (fSee wl vs))) h := by
  rw [call_at (by omega) (fn := f_is_seeings) rfl rfl]
  simp only [f_is_seeings, b_is_seeings]
  have c1 : evC GG (callF GG fns (m - 1)) (.comp [2] (.name 2) .plain (.cons (.var 0) .nil) .nil (.call 6 (.cons (.var 2) (.cons (.var 1) .nil)))) [some (.tup xs), some (devD lib (wsD wl (.tup (vs.map .int))) ps outer), none] h = .ok (.lst (xs.map fun d => .bl (fSee wl vs d))) h := by
    refine comp_map (ds := [.tup xs]) (env' := fun d => [some (.tup xs), some (devD lib (wsD wl (.tup (vs.map .int))) ps outer), some d]) _ (by simp) (by simp) hz (fun d hd => by simp) (fun d hd => ?_)
    have := isseeing (m - 1) h lib outer ps wl vs (by omega) (hg d hd) hn
    simp [this]
  simp [c1, oAll_map]
end whatfailed_k52_whole_forms_spoilt

namespace whatfailed_k52_whole_forms_spoilt
open PySem Ev
theorem fin_refk {n0 k : Nat} {h H : HpE} {xs : List D} (hl : H.take n0 = h) (hk : n0 ≤ k) (hx : H[k]? = some (.lst xs)) (hc : Cl h) (hd : belowL 0 xs = true) : fin n0 (.ref k) H = .ok (.lst xs) h := by
  have hkl : k < H.length := by
    by_cases q : k < H.length
    · exact q
    · rw [List.getElem?_eq_none (by omega)] at hx; cases hx
  unfold fin
  rw [if_neg (by omega), hl, if_pos (by rw [List.all_eq_true]; exact fun c hc' => cellBelow_mono (Nat.zero_le _) (hc c hc'))]
  have e : frz n0 H 4 (.ref k) = some (.lst xs) := by
    show frzW _ _ = _
    rw [frzW, if_neg (by omega), hx]
    simp only [frzL_cl hd, Option.map_some]
  rw [e]
def pairD (n mo : Str) : D := .tup [.str n, .str mo]
def amInner : SL := match b__law_all_modes with
  | .cons _ (.cons (.for _ _ _ (.cons _ (.cons (.for _ _ _ b) _))) _) => b
  | _ => .nil
def amOuter : SL := .cons (.asg (.name 5) (.op .newL .nil)) (.cons (.for (.name 6) .plain (.cons (.var 1) .nil) amInner) (.cons (.asg (.name 1) (.var 5)) .nil))
theorem am_eq : b__law_all_modes = .cons (.asg (.name 1) (.op .newL (.cons (.op .mkTup .nil) .nil))) (.cons (.for (.tup [(.name 2), (.name 3), (.name 4)]) .plain (.cons (.op .ix (.cons (.var 0) (.cons (.lit (.int 2)) .nil))) .nil) amOuter) (.cons (.ret (.var 1)) .nil)) := rfl
def tupV : D → List D
  | .tup ds => ds
  | _ => []
/-- the rows made of one row -/
def grow1 (n : Str) (ms : List Str) (d : D) : List D := ms.map fun mo => .tup (tupV d ++ [pairD n mo])
theorem am_inner (m : Nat) (a b ws outer : D) (ps : List Prt) (n : Str) (x3 x4 : D) (k : Nat) (hm : 0 < m) (hn : PyData.strOk n = true) (P : PsOk ps) (ka : KdOk a) (kb : KdOk b) (hz : (modesP a b ps n).length ≤ 3)
    (H : HpE) (hk : k < H.length) (r : List D) (hr : r.length ≤ 10) (acc : List D) (hacc : acc.length ≤ 1000) (o7 : Option D) :
    exL GG (callF GG fns m) amInner [some (devD (libD a b) ws ps outer), some (.ref k), some (.str n), some x3, some x4, some (.ref H.length), some (.tup r), o7] (H ++ [.lst acc]) =
      .nx [some (devD (libD a b) ws ps outer), some (.ref k), some (.str n), some x3, some x4, some (.ref H.length), some (.tup r), o7] (H ++ [.lst (acc ++ grow1 n (modesP a b ps n) (.tup r))]) := by
  simp only [amInner, b__law_all_modes]
  have M := lawmodes m (H ++ [.lst acc]) a b ws outer ps n hm hn P ka kb
  have zr : r.length + 1 ≤ sz := Nat.le_trans (by omega) (show 11 ≤ sz by decide)
  have c1 : evC GG (callF GG fns m) (.comp [7] (.name 7) .plain (.cons (.call 25 (.cons (.var 0) (.cons (.var 2) .nil))) .nil) .nil (.op .add (.cons (.var 6) (.cons (.op .mkTup (.cons (.op .mkTup (.cons (.var 2) (.cons (.var 7) .nil))) .nil)) .nil))))
      [some (devD (libD a b) ws ps outer), some (.ref k), some (.str n), some x3, some x4, some (.ref H.length), some (.tup r), o7] (H ++ [.lst acc]) = .ok (.lst (((modesP a b ps n).map D.str).map fun d => .tup (r ++ [.tup [.str n, d]]))) (H ++ [.lst acc]) := by
    refine comp_map (ds := [.lst ((modesP a b ps n).map D.str)]) (env' := fun d => [some (devD (libD a b) ws ps outer), some (.ref k), some (.str n), some x3, some x4, some (.ref H.length), some (.tup r), some d]) _ (by simp [M]) (by simp) (by rw [List.length_map]; exact Nat.le_trans hz (by decide)) (fun d hd => by simp) (fun d hd => ?_)
    obtain ⟨x, hx, rfl⟩ := List.mem_map.mp hd
    simp [sz1, sz2, oAdd, zr]
  rw [List.map_map] at c1
  have zz : acc.length + (modesP a b ps n).length ≤ sz := Nat.le_trans (by omega) (show 1003 ≤ sz by decide)
  simp [look_last, recvOk, c1, mExtend, zz, grow1, tupV, pairD]
theorem am_row (m : Nat) (a b ws outer : D) (ps : List Prt) (n : Str) (x3 x4 : D) (k : Nat) (hm : 0 < m) (hn : PyData.strOk n = true) (P : PsOk ps) (ka : KdOk a) (kb : KdOk b) (hz : (modesP a b ps n).length ≤ 3)
    (H : HpE) (hk : k < H.length) (rows : List D) (hrow : H[k]? = some (.lst rows)) (hr : ∀ d ∈ rows, ∃ r, d = .tup r ∧ r.length ≤ 10) (hrl : rows.length ≤ 300) (o5 o6 o7 : Option D) :
    ∃ o6', exL GG (callF GG fns m) amOuter [some (devD (libD a b) ws ps outer), some (.ref k), some (.str n), some x3, some x4, o5, o6, o7] H =
      .nx [some (devD (libD a b) ws ps outer), some (.ref H.length), some (.str n), some x3, some x4, some (.ref H.length), o6', o7] (H ++ [.lst (rows.flatMap (grow1 n (modesP a b ps n)))]) := by
  have hk2 : ∀ c, look (H ++ [c]) (.ref k) = .lst rows := fun c => by
    simp [look, List.getElem?_append_left hk, hrow]
  obtain ⟨env', h', e, hi⟩ := forL_ex (src := [.ref k]) (h0 := [.lst rows]) (f := fun x env h => (ofO (asgNT (.name 6) x env) h).out fun env' h => exL GG (callF GG fns m) amInner env' h)
    (fun xs env h' => ∃ (acc : List D) (o6 : Option D), (∀ d ∈ xs, ∃ r, d = .tup r ∧ r.length ≤ 10) ∧ env = [some (devD (libD a b) ws ps outer), some (.ref k), some (.str n), some x3, some x4, some (.ref H.length), o6, o7] ∧ h' = H ++ [.lst acc] ∧
      acc ++ xs.flatMap (grow1 n (modesP a b ps n)) = rows.flatMap (grow1 n (modesP a b ps n)) ∧ acc.length + 3 * xs.length ≤ 900)
    (fun x r env h' ⟨acc, o6, hx, he, hh, hl, hb⟩ => by
      subst he hh
      obtain ⟨rr, rfl, hrr⟩ := hx x List.mem_cons_self
      simp at hb
      refine ⟨_, _, .inl ?_, by simp [hk2], acc ++ grow1 n (modesP a b ps n) (.tup rr), some (.tup rr), fun y hy => hx y (List.mem_cons_of_mem _ hy), rfl, rfl, ?_, ?_⟩
      · have := am_inner m a b ws outer ps n x3 x4 k hm hn P ka kb hz H hk rr hrr acc (by omega) o7
        simp [this]
      · rw [← hl, List.flatMap_cons, List.append_assoc]
      · simp [grow1]; omega) rows [some (devD (libD a b) ws ps outer), some (.ref k), some (.str n), some x3, some x4, some (.ref H.length), o6, o7] (H ++ [.lst []])
    ⟨[], o6, hr, rfl, rfl, by simp, by simp; omega⟩
  obtain ⟨acc, o6', _, rfl, rfl, hl, _⟩ := hi
  refine ⟨o6', ?_⟩
  simp at hl
  unfold amOuter
  rw [exL_consT]
  have e0 : exS GG (callF GG fns m) (.asg (.name 5) (.op .newL .nil)) [some (devD (libD a b) ws ps outer), some (.ref k), some (.str n), some x3, some x4, o5, o6, o7] H = .nx [some (devD (libD a b) ws ps outer), some (.ref k), some (.str n), some x3, some x4, some (.ref H.length), o6, o7] (H ++ [.lst []]) := by
    simp [sz0]
  rw [e0, then_nx, exL_consT]
  have e1 : exS GG (callF GG fns m) (.for (.name 6) .plain (.cons (.var 1) .nil) amInner) [some (devD (libD a b) ws ps outer), some (.ref k), some (.str n), some x3, some x4, some (.ref H.length), o6, o7] (H ++ [.lst []]) = .nx [some (devD (libD a b) ws ps outer), some (.ref k), some (.str n), some x3, some x4, some (.ref H.length), o6', o7] (H ++ [.lst acc]) := by
    rw [exS_forS]
    simp [hk2]
    simpa using e
  rw [e1, then_nx]
  simp [hl]
def growP (a b : D) (ps : List Prt) (rows : List D) (p : Prt) : List D := rows.flatMap (grow1 p.n (modesP a b ps p.n))
theorem growP_len (a b : D) (ps : List Prt) (hz : ∀ n, (modesP a b ps n).length ≤ 3) (rows : List D) (p : Prt) : (growP a b ps rows p).length ≤ 3 * rows.length := by
  unfold growP
  induction rows with
  | nil => simp
  | cons r rs ih =>
    have := hz p.n
    simp only [List.flatMap_cons, List.length_append, List.length_cons]
    have e : (grow1 p.n (modesP a b ps p.n) r).length = (modesP a b ps p.n).length := by simp [grow1]
    omega
theorem growP_tup (a b : D) (ps : List Prt) (rows : List D) (p : Prt) (j : Nat) (hr : ∀ d ∈ rows, ∃ r, d = .tup r ∧ r.length ≤ j) : ∀ d ∈ growP a b ps rows p, ∃ r, d = .tup r ∧ r.length ≤ j + 1 := by
  intro d hd
  unfold growP at hd
  obtain ⟨x, hx, hd⟩ := List.mem_flatMap.mp hd
  obtain ⟨r, rfl, hl⟩ := hr x hx
  obtain ⟨mo, _, rfl⟩ := List.mem_map.mp hd
  exact ⟨_, rfl, by simp [tupV]; omega⟩
theorem allmodes (m : Nat) (h : HpE) (a b ws outer : D) (ps : List Prt) (hm : 2 ≤ m) (P : PsOk ps) (hp3 : ps.length ≤ 3) (ka : KdOk a) (kb : KdOk b) (hz : ∀ n, (modesP a b ps n).length ≤ 3) (hc : Cl h)
    (hbel : belowL 0 (ps.foldl (growP a b ps) [.tup []]) = true) :
    callF GG fns m 8 [devD (libD a b) ws ps outer] h = .ok (.lst (ps.foldl (growP a b ps) [.tup []])) h := by
  rw [call_at (by omega) (fn := f__law_all_modes) rfl rfl]
  simp only [f__law_all_modes]
  rw [am_eq, exL_consT]
  have e0 : exS GG (callF GG fns (m - 1)) (.asg (.name 1) (.op .newL (.cons (.op .mkTup .nil) .nil))) ([devD (libD a b) ws ps outer].map some ++ List.replicate (8 - 1) none) h = .nx [some (devD (libD a b) ws ps outer), some (.ref h.length), none, none, none, none, none, none] (h ++ [.lst [.tup []]]) := by
    simp [sz0, sz1]
  rw [e0, then_nx, exL_consT]
  obtain ⟨env', h', e, hi⟩ := forL_ex (src := [.tup (ps.map Prt.d)]) (h0 := [.tup (ps.map Prt.d)]) (f := fun x env h => (ofO (asgNT (.tup [.name 2, .name 3, .name 4]) x env) h).out fun env' h => exL GG (callF GG fns (m - 1)) amOuter env' h)
    (fun xs env h' => ∃ (pre : HpE) (rows : List D) (psl : List Prt) (o2 o3 o4 o5 o6 o7 : Option D), xs = psl.map Prt.d ∧ (∀ p ∈ psl, p ∈ ps) ∧ env = [some (devD (libD a b) ws ps outer), some (.ref (h ++ pre).length), o2, o3, o4, o5, o6, o7] ∧ h' = (h ++ pre) ++ [.lst rows] ∧
      psl.foldl (growP a b ps) rows = ps.foldl (growP a b ps) [.tup []] ∧ rows.length * 3 ^ psl.length ≤ 27 ∧ (∃ j, j + psl.length ≤ 3 ∧ ∀ d ∈ rows, ∃ r, d = .tup r ∧ r.length ≤ j))
    (fun x r env h' ⟨pre, rows, psl, o2, o3, o4, o5, o6, o7, hx, hps, he, hh, hf, hl, j, hj, hr⟩ => by
      subst he hh
      cases psl with
      | nil => simp at hx
      | cons p psl =>
        simp at hx
        obtain ⟨rfl, rfl⟩ := hx
        have hpp := hps p List.mem_cons_self
        have h3 : 3 ^ psl.length ≥ 1 := Nat.one_le_pow _ _ (by omega)
        have hpow : rows.length * (3 ^ psl.length * 3) ≤ 27 := by
          have := hl
          rw [List.length_cons, Nat.pow_succ] at this
          exact this
        have hrl : rows.length ≤ 9 := by
          have : rows.length * 3 ≤ rows.length * (3 ^ psl.length * 3) := Nat.mul_le_mul_left _ (by omega)
          omega
        simp at hj
        obtain ⟨o6', B⟩ := am_row (m - 1) a b ws outer ps p.n (.str p.k) p.l (h ++ pre).length (by omega) (P.n p hpp) P ka kb (hz p.n) ((h ++ pre) ++ [.lst rows]) (by simp) rows (by simp) (fun d hd => by
          obtain ⟨r, e, hl⟩ := hr d hd
          exact ⟨r, e, by omega⟩) (by omega) o5 o6 o7
        refine ⟨[some (devD (libD a b) ws ps outer), some (.ref (h ++ (pre ++ [Cell.lst rows])).length), some (.str p.n), some (.str p.k), some p.l, some (.ref ((h ++ pre) ++ [Cell.lst rows]).length), o6', o7], (h ++ (pre ++ [Cell.lst rows])) ++ [.lst (growP a b ps rows p)], .inl ?_, by simp, pre ++ [Cell.lst rows], growP a b ps rows p, psl, some (.str p.n), some (.str p.k), some p.l, some (.ref ((h ++ pre) ++ [Cell.lst rows]).length), o6', o7, rfl, fun q hq => hps q (List.mem_cons_of_mem _ hq), rfl, rfl, hf, ?_, j + 1, by omega, growP_tup a b ps rows p j hr⟩
        · simp only [Prt.d]
          simp
          simp at B
          rw [B]
          simp [growP]
        · have g := growP_len a b ps hz rows p
          calc (growP a b ps rows p).length * 3 ^ psl.length ≤ (3 * rows.length) * 3 ^ psl.length := Nat.mul_le_mul_right _ g
            _ = rows.length * (3 ^ psl.length * 3) := by rw [Nat.mul_comm 3, Nat.mul_assoc, Nat.mul_comm 3]
            _ ≤ 27 := hpow)
    (ps.map Prt.d) [some (devD (libD a b) ws ps outer), some (.ref h.length), none, none, none, none, none, none] (h ++ [.lst [.tup []]])
    ⟨[], [.tup []], ps, none, none, none, none, none, none, rfl, fun p hp => hp, by simp, by simp, rfl, by
      have : (3 : Nat) ^ ps.length ≤ 3 ^ 3 := Nat.pow_le_pow_right (by omega) hp3
      simpa using this, 0, by omega, fun d hd => by simp at hd; exact ⟨[], hd, by simp⟩⟩
  obtain ⟨pre, rows, psl, o2, o3, o4, o5, o6, o7, hx, _, rfl, rfl, hf, _, _⟩ := hi
  have hn : psl = [] := by
    cases psl with
    | nil => rfl
    | cons _ _ => simp at hx
  subst hn
  simp at hf
  have e1 : exS GG (callF GG fns (m - 1)) (.for (.tup [(.name 2), (.name 3), (.name 4)]) .plain (.cons (.op .ix (.cons (.var 0) (.cons (.lit (.int 2)) .nil))) .nil) amOuter) [some (devD (libD a b) ws ps outer), some (.ref h.length), none, none, none, none, none, none] (h ++ [.lst [.tup []]]) =
      .nx [some (devD (libD a b) ws ps outer), some (.ref (h ++ pre).length), o2, o3, o4, o5, o6, o7] ((h ++ pre) ++ [.lst rows]) := by
    rw [exS_forS]
    simp only [evL_consS, evC_opS, evC_varS, slot_0, ofO_some, bind_okS, evC_litS, evL_nilS, op_ixS, look_intS]
    simp [devD] at e
    simp [devD, e]
  rw [e1, then_nx]
  have F := fin_refk (h := h) (H := (h ++ pre) ++ [.lst rows]) (k := (h ++ pre).length) (n0 := h.length) (xs := rows) (by simp) (by simp) (by simp) hc (hf ▸ hbel)
  rw [← hf, ← F]
  simp
end whatfailed_k52_whole_forms_spoilt

namespace whatfailed_k52_whole_forms_spoilt
open PySem Ev
theorem gw_yes : gd (.str "yes") = true := by decide +kernel
theorem gw_port : gd (.str "port") = true := by decide +kernel
theorem gw_if : gd (.str "if") = true := by decide +kernel
theorem gw_not : gd (.str "not") = true := by decide +kernel
theorem gw_lt : gd (.str "<") = true := by decide +kernel
theorem gw_e : gd (.str "=") = true := by decide +kernel
theorem gw_and : gd (.str "and") = true := by decide +kernel
theorem gw_or : gd (.str "or") = true := by decide +kernel
theorem gw_5 : ∀ x ∈ w5, gd (.str x) = true := by decide +kernel
theorem gd_t1 {a : D} (ha : gd a = true) : gd (.tup [a]) = true := by simp [ha]
theorem gd_t2 {a b : D} (ha : gd a = true) (hb : gd b = true) : gd (.tup [a, b]) = true := by simp [ha, hb]
theorem gd_t3 {a b c : D} (ha : gd a = true) (hb : gd b = true) (hc : gd c = true) : gd (.tup [a, b, c]) = true := by simp [ha, hb, hc]
theorem gd_t4 {a b c d : D} (ha : gd a = true) (hb : gd b = true) (hc : gd c = true) (hd : gd d = true) : gd (.tup [a, b, c, d]) = true := by simp [ha, hb, hc, hd]
theorem g5 {w : Str} (h : (w5.any fun x => x == w) = true) : gd (.str w) = true := by
  rw [List.any_eq_true] at h
  obtain ⟨x, hx, e⟩ := h
  have := eq_of_beq e
  subst this
  exact gw_5 x hx
theorem gweq {w v : Str} (h : (w == v) = true) (g : gd (.str v) = true) : gd (.str w) = true := by
  have := eq_of_beq h
  subst this
  exact g
mutual
theorem gd_fA {P : Str → Bool} (hP : ∀ x, P x = true → gd (.str x) = true) : ∀ (d : Nat) (v : D), fA P d v = true → gd v = true
  | 0, v, h => by simp [fA] at h
  | d + 1, .int i, h => by simp
  | d + 1, .tup [.str w, p], h => by
    simp only [fA, Bool.and_eq_true] at h
    cases p with
    | str p => exact gd_t2 (gweq h.1 gw_port) (hP p h.2)
    | _ => cases h.2
  | d + 1, .tup [.str w, a, b], h => by
    simp only [fA, Bool.and_eq_true] at h
    exact gd_t3 (g5 h.1.1) (gd_fA hP d a h.1.2) (gd_fA hP d b h.2)
  | d + 1, .tup [.str w, c, a, b], h => by
    simp only [fA, Bool.and_eq_true] at h
    exact gd_t4 (gweq h.1.1.1 gw_if) (gd_fC hP d c h.1.1.2) (gd_fA hP d a h.1.2) (gd_fA hP d b h.2)
  | d + 1, .non, h | d + 1, .bl _, h | d + 1, .str _, h | d + 1, .lst _, h | d + 1, .dct _, h | d + 1, .ref _, h | d + 1, .exc _, h | d + 1, .scr _, h => by simp [fA] at h
  | d + 1, .tup [], h | d + 1, .tup [_], h | d + 1, .tup (_ :: _ :: _ :: _ :: _ :: _), h => by simp [fA] at h
  | d + 1, .tup [.non, _], h | d + 1, .tup [.bl _, _], h | d + 1, .tup [.int _, _], h | d + 1, .tup [.tup _, _], h | d + 1, .tup [.lst _, _], h | d + 1, .tup [.dct _, _], h | d + 1, .tup [.ref _, _], h | d + 1, .tup [.exc _, _], h | d + 1, .tup [.scr _, _], h => by simp [fA] at h
  | d + 1, .tup [.non, _, _], h | d + 1, .tup [.bl _, _, _], h | d + 1, .tup [.int _, _, _], h | d + 1, .tup [.tup _, _, _], h | d + 1, .tup [.lst _, _, _], h | d + 1, .tup [.dct _, _, _], h | d + 1, .tup [.ref _, _, _], h | d + 1, .tup [.exc _, _, _], h | d + 1, .tup [.scr _, _, _], h => by simp [fA] at h
  | d + 1, .tup [.non, _, _, _], h | d + 1, .tup [.bl _, _, _, _], h | d + 1, .tup [.int _, _, _, _], h | d + 1, .tup [.tup _, _, _, _], h | d + 1, .tup [.lst _, _, _, _], h | d + 1, .tup [.dct _, _, _, _], h | d + 1, .tup [.ref _, _, _, _], h | d + 1, .tup [.exc _, _, _, _], h | d + 1, .tup [.scr _, _, _, _], h => by simp [fA] at h
theorem gd_fC {P : Str → Bool} (hP : ∀ x, P x = true → gd (.str x) = true) : ∀ (d : Nat) (v : D), fC P d v = true → gd v = true
  | 0, v, h => by simp [fC] at h
  | d + 1, .tup [.str w], h => by simp only [fC] at h; exact gd_t1 (gweq h gw_yes)
  | d + 1, .tup [.str w, a], h => by
    simp only [fC, Bool.and_eq_true] at h
    exact gd_t2 (gweq h.1 gw_not) (gd_fC hP d a h.2)
  | d + 1, .tup [.str w, a, b], h => by
    rw [fC] at h
    split at h
    · rename_i q
      rw [Bool.and_eq_true] at h
      rw [Bool.or_eq_true] at q
      exact gd_t3 (q.elim (fun q => gweq q gw_lt) fun q => gweq q gw_e) (gd_fA hP d a h.1) (gd_fA hP d b h.2)
    · rename_i q
      split at h
      · rename_i q
        rw [Bool.and_eq_true] at h
        rw [Bool.or_eq_true] at q
        exact gd_t3 (q.elim (fun q => gweq q gw_and) fun q => gweq q gw_or) (gd_fC hP d a h.1) (gd_fC hP d b h.2)
      · cases h
  | d + 1, .non, h | d + 1, .bl _, h | d + 1, .int _, h | d + 1, .str _, h | d + 1, .lst _, h | d + 1, .dct _, h | d + 1, .ref _, h | d + 1, .exc _, h | d + 1, .scr _, h => by simp [fC] at h
  | d + 1, .tup [], h | d + 1, .tup (_ :: _ :: _ :: _ :: _), h => by simp [fC] at h
  | d + 1, .tup [.non], h | d + 1, .tup [.bl _], h | d + 1, .tup [.int _], h | d + 1, .tup [.tup _], h | d + 1, .tup [.lst _], h | d + 1, .tup [.dct _], h | d + 1, .tup [.ref _], h | d + 1, .tup [.exc _], h | d + 1, .tup [.scr _], h => by simp [fC] at h
  | d + 1, .tup [.non, _], h | d + 1, .tup [.bl _, _], h | d + 1, .tup [.int _, _], h | d + 1, .tup [.tup _, _], h | d + 1, .tup [.lst _, _], h | d + 1, .tup [.dct _, _], h | d + 1, .tup [.ref _, _], h | d + 1, .tup [.exc _, _], h | d + 1, .tup [.scr _, _], h => by simp [fC] at h
  | d + 1, .tup [.non, _, _], h | d + 1, .tup [.bl _, _, _], h | d + 1, .tup [.int _, _, _], h | d + 1, .tup [.tup _, _, _], h | d + 1, .tup [.lst _, _, _], h | d + 1, .tup [.dct _, _, _], h | d + 1, .tup [.ref _, _, _], h | d + 1, .tup [.exc _, _, _], h | d + 1, .tup [.scr _, _, _], h => by simp [fC] at h
end
theorem PS_gd {ns : List Str} (ok : ∀ x ∈ ns, gd (.str x) = true) : ∀ x, PS ns x = true → gd (.str x) = true := fun x h => by
  unfold PS at h
  rw [List.any_eq_true] at h
  obtain ⟨y, hy, e⟩ := h
  exact gweq (by rw [Bool.beq_comm]; exact e) (ok y hy)
/-! ### a drawn kind -/
def portsL (ns : List Str) (V : D) : List D := ns.map fun n => .tup [.str n, V]
/-- a mode that was drawn -/
def MdOk (ns : List Str) (d : D) : Prop := ∃ n i c, d = .tup [.str n, .int i, c] ∧ 1 ≤ i ∧ i ≤ 9 ∧ fC (PS ns) 8 c = true
def lkBody : SL := match b__law_kind with
  | .cons _ (.cons (.for _ _ _ b) _) => b
  | _ => .nil
def lkFor : S := match b__law_kind with
  | .cons _ (.cons f _) => f
  | _ => .pass
def lkIt : CL := match lkFor with
  | .for _ _ it _ => it
  | _ => .nil
theorem lkFor_eq : lkFor = .for (.name 4) .plain lkIt lkBody := rfl
section
variable {h : HpE} {p : Nat} {row : List Int} (hp : p < h.length) (hr : 0 < row.length ∧ row.length < 1000)
include hp
theorem set_app (a : Nat) (t : HpE) : (h ++ t).set p (dr row a) = h.set p (dr row a) ++ t := by rw [List.set_append_left _ _ hp]
include hr
theorem pickA (t : HpE) (m : Nat) {a : Nat} {n : Nat} (hm : 0 < m) (ha : a < TOP) (hn : 0 < n) : ∃ r : Nat, r < n ∧ callF GG fns m 3 [.ref p, .int n] (h.set p (dr row a) ++ t) = .ok (.int (r : Nat)) (h.set p (dr row (a + 1)) ++ t) := by
  obtain ⟨r, h1, h2⟩ := pickN (h := h ++ t) (p := p) (by simp; omega) hr m hm ha hn
  rw [set_app hp, set_app hp] at h2
  exact ⟨r, h1, h2⟩
theorem condA (t : HpE) {ports : D} {ps : List Str} (hx : PX ports ps) (m a : Nat) (hm : 5 ≤ m) (ha : a + 18 ≤ TOP) : ∃ v a', a ≤ a' ∧ a' ≤ a + 18 ∧ fC (PS ps) 5 v = true ∧ callF GG fns m 29 [.ref p, ports] (h.set p (dr row a) ++ t) = .ok v (h.set p (dr row a') ++ t) := by
  obtain ⟨v, a', h1, h2, h3, h4⟩ := cond (h := h ++ t) (p := p) (by simp; omega) hr hx m a hm ha
  rw [set_app hp, set_app hp] at h4
  exact ⟨v, a', h1, h2, h3, h4⟩
theorem lk_body {ns : List Str} (hn : 0 < ns.length) (ok : ∀ x ∈ ns, PyData.strOk x = true) (x1 : D) (mode : Str) (o5 o6 : Option D) (m a : Nat) (hm : 6 ≤ m) (ha : a + 20 ≤ TOP) (acc : List D) (hacc : acc.length ≤ 5) :
    ∃ t a', a ≤ a' ∧ a' ≤ a + 20 ∧ MdOk ns t ∧ fstD t = .str mode ∧ exL GG (callF GG fns m) lkBody [some (.ref p), some x1, some (.lst (ns.map .str)), some (.ref h.length), some (.str mode), o5, o6] (h.set p (dr row a) ++ [.lst acc]) =
      .nx [some (.ref p), some x1, some (.lst (ns.map .str)), some (.ref h.length), some (.str mode), o5, o6] (h.set p (dr row a') ++ [.lst (acc ++ [t])]) := by
  have hx := px_lst hn ok
  obtain ⟨r1, hr1, e1⟩ := pickA hp hr [.lst acc] m (by omega) (a := a) (n := 3) (by omega) (by omega)
  obtain ⟨c, a2, b2, c2, f2, e2⟩ := condA hp hr [.lst acc] hx m (a + 1) (by omega) (by omega)
  obtain ⟨r3, hr3, e3⟩ := pickA hp hr [.lst acc] m (by omega) (a := a2) (n := 3) (by omega) (by omega)
  obtain ⟨x, hxm, ex⟩ := hx.ix (ns.length - 1) (by omega)
  have el : oIx (.lst (ns.map .str)) (.int ((ns.length : Int) - 1)) = some (.str x) := by
    rw [← ex]; congr 2; omega
  obtain ⟨v, hv, ev⟩ := ix3 (a := c) (b := D.tup [.str "=", .tup [.str "port", .str x], .int 0]) (c := .tup [.str "yes"]) hr3
  refine ⟨.tup [.str mode, .int (1 + (r1 : Int)), v], a2 + 1, by omega, by omega, ⟨mode, _, v, rfl, by omega, by omega, ?_⟩, rfl, ?_⟩
  · rcases hv with rfl | rfl | rfl
    · exact fC_le f2 (by omega)
    · simp [fC, fA, PS_mem hxm]
    · simp [fC]
  · simp only [lkBody, b__law_kind]
    have hl2 : look (h.set p (dr row a) ++ [Cell.lst acc]) (.ref h.length) = .lst acc := by
      have := look_last (h.set p (dr row a)) acc
      rw [List.length_set] at this
      exact this
    have ap : mAppend [.ref h.length, .tup [.str mode, .int (1 + (r1 : Int)), v]] (h.set p (dr row (a2 + 1)) ++ [.lst acc]) = some (.non, h.set p (dr row (a2 + 1)) ++ [.lst (acc ++ [.tup [.str mode, .int (1 + (r1 : Int)), v]])]) := by
      have := app_last (h.set p (dr row (a2 + 1))) acc (.tup [.str mode, .int (1 + (r1 : Int)), v]) (Nat.lt_of_le_of_lt hacc (by decide))
      rw [List.length_set] at this
      exact this
    simp at e1 e3
    have el' := el
    simp at el'
    simp [hl2, e1, e2, e3, el', ev, ap, sz1, sz2, sz3]
theorem lawkind {ns : List Str} (hn : 0 < ns.length) (hn3 : ns.length ≤ 3) (ok : ∀ x ∈ ns, gd (.str x) = true) (V : D) (hV : gd V = true) (hcl : Cl h) (m a : Nat) (hm : 7 ≤ m) (ha : a + 100 ≤ TOP) :
    ∃ c ms a' k, a ≤ a' ∧ a' ≤ a + 100 ∧ fC (PS ns) 5 c = true ∧ (∀ d ∈ ms, MdOk ns d) ∧ ms.map fstD = ((["bad", "odd"] : List Str).take k).map .str ∧
      callF GG fns m 12 [.ref p, .lst (portsL ns V)] (h.set p (dr row a)) = .ok (.tup [.tup (portsL ns V), c, .tup ms]) (h.set p (dr row a')) := by
  have ok' : ∀ x ∈ ns, PyData.strOk x = true := fun x hx => by
    have := ok x hx
    rw [gd_str, Bool.and_eq_true] at this
    exact this.1
  have hx := px_lst hn ok'
  have c1 : ∀ H : HpE, evC GG (callF GG fns (m - 1)) (.comp [5, 6] (.tup [(.name 5), (.name 6)]) .plain (.cons (.var 1) .nil) .nil (.var 5)) [some (.ref p), some (.lst (portsL ns V)), none, none, none, none, none] H = .ok (.lst (ns.map .str)) H := fun H => by
    have := comp_map (G := GG) (call := callF GG fns (m - 1)) (env := [some (.ref p), some (.lst (portsL ns V)), none, none, none, none, none]) (h := H) (own := [5, 6]) (t := .tup [(.name 5), (.name 6)]) (k := .plain) (it := .cons (.var 1) .nil) (e := .var 5)
      (ds := [.lst (portsL ns V)]) (xs := portsL ns V) fstD (fun d => [some (.ref p), some (.lst (portsL ns V)), none, none, none, some (fstD d), some (sndD d)]) (by simp) (by simp) (by simp [portsL]; exact Nat.le_trans hn3 (by decide)) (fun d hd => by
        obtain ⟨n, _, rfl⟩ := List.mem_map.mp hd
        simp [fstD, sndD]) (fun d hd => by simp)
    rw [this]
    simp [portsL, fstD]
  have e0 : exS GG (callF GG fns (m - 1)) (.asg (.tup [(.name 2), (.name 3)]) (.op .mkTup (.cons (.comp [5, 6] (.tup [(.name 5), (.name 6)]) .plain (.cons (.var 1) .nil) .nil (.var 5)) (.cons (.op .newL .nil) .nil)))) [some (.ref p), some (.lst (portsL ns V)), none, none, none, none, none] (h.set p (dr row a)) =
      .nx [some (.ref p), some (.lst (portsL ns V)), some (.lst (ns.map .str)), some (.ref h.length), none, none, none] (h.set p (dr row a) ++ [.lst []]) := by
    simp [c1, sz0, sz2]
  obtain ⟨r1, hr1, e1⟩ := pickA hp hr [.lst []] (m - 1) (by omega) (a := a) (n := 3) (by omega) (by omega)
  -- the loop
  have L : ∃ ms a' k o, a ≤ a' ∧ a' ≤ a + 50 ∧ (∀ d ∈ ms, MdOk ns d) ∧ ms.map fstD = ((["bad", "odd"] : List Str).take k).map .str ∧
      exS GG (callF GG fns (m - 1)) lkFor [some (.ref p), some (.lst (portsL ns V)), some (.lst (ns.map .str)), some (.ref h.length), none, none, none] (h.set p (dr row a) ++ [.lst []]) =
      .nx [some (.ref p), some (.lst (portsL ns V)), some (.lst (ns.map .str)), some (.ref h.length), o, none, none] (h.set p (dr row a') ++ [.lst ms]) := by
    rw [lkFor_eq, exS_forS]
    have ev : ∀ xs : List D, oSl (.tup [.str "bad", .str "odd"]) none (some (r1 : Int)) = some (.tup xs) → evL GG (callF GG fns (m - 1)) lkIt [some (.ref p), some (.lst (portsL ns V)), some (.lst (ns.map .str)), some (.ref h.length), none, none, none] (h.set p (dr row a) ++ [.lst []]) = .ok [.tup xs] (h.set p (dr row (a + 1)) ++ [.lst []]) := fun xs hxs => by
      simp only [lkIt, lkFor, b__law_kind]
      simp at e1
      simp [e1, sz2, hxs]
    have hcase : r1 = 0 ∨ r1 = 1 ∨ r1 = 2 := by omega
    rcases hcase with rfl | rfl | rfl
    · skip
      rw [ev [] (by rfl)]
      exact ⟨[], a + 1, 0, none, by omega, by omega, fun d hd => by simp at hd, rfl, by simp [forL]⟩
    · skip
      rw [ev [.str "bad"] (by rfl)]
      obtain ⟨t, a', g1, g2, g3, g4, g5⟩ := lk_body hp hr hn ok' (.lst (portsL ns V)) "bad" none none (m - 1) (a + 1) (by omega) (by omega) [] (by simp)
      exact ⟨[t], a', 1, some (.str "bad"), by omega, by omega, fun d hd => by simp at hd; subst hd; exact g3, by simp [g4], by simp [forL, g5]⟩
    · skip
      rw [ev [.str "bad", .str "odd"] (by rfl)]
      obtain ⟨t, a', g1, g2, g3, g4, g5⟩ := lk_body hp hr hn ok' (.lst (portsL ns V)) "bad" none none (m - 1) (a + 1) (by omega) (by omega) [] (by simp)
      obtain ⟨t2, a2, k1, k2, k3, k4, k5⟩ := lk_body hp hr hn ok' (.lst (portsL ns V)) "odd" none none (m - 1) a' (by omega) (by omega) [t] (by simp)
      simp at g5 k5
      exact ⟨[t, t2], a2, 2, some (.str "odd"), by omega, by omega, fun d hd => by simp at hd; rcases hd with rfl | rfl <;> assumption, by simp [g4, k4], by simp [forL, g5, k5]⟩
  obtain ⟨ms, a', k, o, b1, b2, b3, b4, b5⟩ := L
  obtain ⟨c, a2, d2, d3, f2, e2⟩ := condA hp hr [.lst ms] hx (m - 1) a' (by omega) (by omega)
  refine ⟨c, ms, a2, k, by omega, by omega, f2, b3, b4, ?_⟩
  have eqb : b__law_kind = .cons (.asg (.tup [(.name 2), (.name 3)]) (.op .mkTup (.cons (.comp [5, 6] (.tup [(.name 5), (.name 6)]) .plain (.cons (.var 1) .nil) .nil (.var 5)) (.cons (.op .newL .nil) .nil)))) (.cons lkFor (.cons (.ret (.op .mkTup (.cons (.op .tupleOf (.cons (.var 1) .nil)) (.cons (.call 29 (.cons (.var 0) (.cons (.var 2) .nil))) (.cons (.op .tupleOf (.cons (.var 3) .nil)) .nil))))) .nil)) := rfl
  rw [call_at (by omega) (fn := f__law_kind) rfl rfl]
  simp only [f__law_kind]
  rw [eqb, exL_consT]
  have ea : ([D.ref p, .lst (portsL ns V)].map some ++ List.replicate (7 - 2) none : EnvE) = [some (.ref p), some (.lst (portsL ns V)), none, none, none, none, none] := rfl
  rw [ea, e0, then_nx, exL_consT, b5, then_nx]
  have hl2 : look (h.set p (dr row a2) ++ [Cell.lst ms]) (.ref h.length) = .lst ms := by
    have := look_last (h.set p (dr row a2)) ms
    rw [List.length_set] at this
    exact this
  have pgd : ∀ d ∈ ms, gd d = true := fun d hd => by
    obtain ⟨n, i, c, rfl, _, _, hc⟩ := b3 d hd
    have hnm : D.str n ∈ ms.map fstD := List.mem_map.mpr ⟨_, hd, rfl⟩
    rw [b4] at hnm
    obtain ⟨y, hy, e⟩ := List.mem_map.mp hnm
    have hy := List.mem_of_mem_take hy
    injection e with e
    subst e
    have gy : gd (.str y) = true := by
      have : ∀ y ∈ (["bad", "odd"] : List Str), gd (.str y) = true := by decide +kernel
      exact this y hy
    exact gd_t3 gy (by simp) (gd_fC (PS_gd ok) _ _ hc)
  have hbel : below 0 (.tup [.tup (portsL ns V), c, .tup ms]) = true := by
    have h1 : belowL 0 (portsL ns V) = true := belowL_all.mpr fun d hd => by
      obtain ⟨n, _, rfl⟩ := List.mem_map.mp hd
      simp [(gd_dat hV).below]
    have h2 : below 0 c = true := (gd_dat (gd_fC (PS_gd ok) _ _ f2)).below
    have h3 : belowL 0 ms = true := belowL_all.mpr fun d hd => (gd_dat (pgd d hd)).below
    simp [h1, h2, h3]
  have F := fin_cl (n0 := h.length) (h := h.set p (dr row a2)) (t := [.lst ms]) (by simp) (hcl.set (c := dr row a2) (by simp [dr, drL, cellBelow, belowL_all])) hbel
  rw [List.length_set, ← F]
  simp [e2, hl2, sz3]
end
end whatfailed_k52_whole_forms_spoilt

namespace whatfailed_k52_whole_forms_spoilt
open PySem Ev
theorem compL_ex {src h0 : List D} {f : D → HpE → Res (Option D)} (I : List D → HpE → List D → Prop) (step : ∀ x r h acc, I (x :: r) h acc → ∃ o h', f x h = .ok o h' ∧ src.map (look h') = h0 ∧ I r h' (acc ++ o.toList)) (bd : ∀ h acc, I [] h acc → acc.length ≤ sz) :
    ∀ (xs : List D) (h : HpE) (acc : List D), I xs h acc → ∃ h' acc', compL src h0 f xs h acc = .ok acc' h' ∧ I [] h' acc'
  | [], h, acc, hi => ⟨h, acc, by rw [compL, if_pos (bd h acc hi)], hi⟩
  | x :: xs, h, acc, hi => by
    obtain ⟨o, h', e, hs, hi'⟩ := step x xs h acc hi
    obtain ⟨h2, acc2, e2, hi2⟩ := compL_ex I step bd xs h' _ hi'
    refine ⟨h2, acc2, ?_, hi2⟩
    rw [compL, e]
    cases o with
    | none => simp only [hs, if_true]; simpa using e2
    | some y => simp only [hs, if_true]; simpa using e2
/-- what is asked of a drawn kind -/
def KindOk (ns : List Str) (V d : D) : Prop := ∃ c ms k, d = .tup [.tup (portsL ns V), c, .tup ms] ∧ fC (PS ns) 5 c = true ∧ (∀ d ∈ ms, MdOk ns d) ∧ ms.map fstD = ((["bad", "odd"] : List Str).take k).map .str
theorem bo_gd : ∀ y ∈ (["bad", "odd"] : List Str), gd (.str y) = true := by decide +kernel
theorem MsOk_gd {ns : List Str} (ok : ∀ x ∈ ns, gd (.str x) = true) {ms : List D} {k : Nat} (b3 : ∀ d ∈ ms, MdOk ns d) (b4 : ms.map fstD = ((["bad", "odd"] : List Str).take k).map .str) : ∀ d ∈ ms, gd d = true := fun d hd => by
  obtain ⟨n, i, c, rfl, _, _, hc⟩ := b3 d hd
  have hnm : D.str n ∈ ms.map fstD := List.mem_map.mpr ⟨_, hd, rfl⟩
  rw [b4] at hnm
  obtain ⟨y, hy, e⟩ := List.mem_map.mp hnm
  have hy := List.mem_of_mem_take hy
  injection e with e
  subst e
  exact gd_t3 (bo_gd y hy) (by simp) (gd_fC (PS_gd ok) _ _ hc)
theorem gd_portsL {ns : List Str} {V : D} (ok : ∀ x ∈ ns, gd (.str x) = true) (hn : ns.length ≤ 60) (hV : gd V = true) : gd (.tup (portsL ns V)) = true := by
  rw [gd_tup, Bool.and_eq_true, decide_eq_true_eq]
  refine ⟨by simpa [portsL] using hn, gdL_all.mpr fun d hd => ?_⟩
  obtain ⟨n, hn, rfl⟩ := List.mem_map.mp hd
  exact gd_t2 (ok n hn) hV
theorem KindOk.gd {ns : List Str} {V d : D} (K : KindOk ns V d) (ok : ∀ x ∈ ns, gd (.str x) = true) (hn : ns.length ≤ 60) (hV : gd V = true) : gd d = true := by
  obtain ⟨c, ms, k, rfl, h1, h2, h3⟩ := K
  refine gd_t3 (gd_portsL ok hn hV) (gd_fC (PS_gd ok) _ _ h1) ?_
  rw [gd_tup, Bool.and_eq_true, decide_eq_true_eq]
  refine ⟨?_, gdL_all.mpr (MsOk_gd ok h2 h3)⟩
  have := congrArg List.length h3
  simp at this
  omega
/-- a text and its signs -/
structure WOk (W : Str) (wl : List Str) : Prop where
  it : asIter (.str W) = some (wl.map .str)
  ln : oLen (.str W) = some (.int wl.length)
  ix : ∀ i : Nat, i < wl.length → ∃ x, x ∈ wl ∧ oIx (.str W) (.int (i : Nat)) = some (.str x)
def wires3 (r : Nat) : List Str := (["a", "b", "c", "d"] : List Str).take (2 + r)
theorem wok (r : Nat) (hr : r < 3) : ∃ W, oSl (.str "abcd") none (some (2 + (r : Int))) = some (.str W) ∧ WOk W (wires3 r) := by
  have hc : r = 0 ∨ r = 1 ∨ r = 2 := by omega
  rcases hc with rfl | rfl | rfl
  · refine ⟨"ab", by decide +kernel, by decide +kernel, by decide +kernel, fun i hi => ?_⟩
    have hi : i < 2 := hi
    have hc : i = 0 ∨ i = 1 := by omega
    rcases hc with rfl | rfl
    · exact ⟨"a", by decide +kernel, by decide +kernel⟩
    · exact ⟨"b", by decide +kernel, by decide +kernel⟩
  · refine ⟨"abc", by decide +kernel, by decide +kernel, by decide +kernel, fun i hi => ?_⟩
    have hi : i < 3 := hi
    have hc : i = 0 ∨ i = 1 ∨ i = 2 := by omega
    rcases hc with rfl | rfl | rfl
    · exact ⟨"a", by decide +kernel, by decide +kernel⟩
    · exact ⟨"b", by decide +kernel, by decide +kernel⟩
    · exact ⟨"c", by decide +kernel, by decide +kernel⟩
  · refine ⟨"abcd", by decide +kernel, by decide +kernel, by decide +kernel, fun i hi => ?_⟩
    have hi : i < 4 := hi
    have hc : i = 0 ∨ i = 1 ∨ i = 2 ∨ i = 3 := by omega
    rcases hc with rfl | rfl | rfl | rfl
    · exact ⟨"a", by decide +kernel, by decide +kernel⟩
    · exact ⟨"b", by decide +kernel, by decide +kernel⟩
    · exact ⟨"c", by decide +kernel, by decide +kernel⟩
    · exact ⟨"d", by decide +kernel, by decide +kernel⟩
def dvB1 : SL := match b__law_device with
  | .cons _ (.cons (.for _ _ _ b) _) => b
  | _ => .nil
def dvB2 : SL := match b__law_device with
  | .cons _ (.cons _ (.cons (.for _ _ _ b) _)) => b
  | _ => .nil
def dvI2 : CL := match b__law_device with
  | .cons _ (.cons _ (.cons (.for _ _ it _) _)) => it
  | _ => .nil
def dvA0 : S := match b__law_device with
  | .cons s _ => s
  | _ => .pass
def dvA3 : S := match b__law_device with
  | .cons _ (.cons _ (.cons _ (.cons s _))) => s
  | _ => .pass
def dvR : C := match b__law_device with
  | .cons _ (.cons _ (.cons _ (.cons _ (.cons (.ret e) _)))) => e
  | _ => .var 0
theorem dv_eq : b__law_device = .cons dvA0 (.cons (.for (.name 6) .range (.cons (.lit (.int 2)) .nil) dvB1) (.cons (.for (.name 6) .range dvI2 dvB2) (.cons dvA3 (.cons (.ret dvR) .nil)))) := rfl
section
variable {h : HpE} {p : Nat} {row : List Int} (hp : p < h.length) (hr : 0 < row.length ∧ row.length < 1000)
theorem lookA (c : Cell) (l q : List D) : look (h.set p c ++ [.lst l, .lst q]) (.ref h.length) = .lst l := by simp [look]
theorem lookB (c : Cell) (l q : List D) : look (h.set p c ++ [.lst l, .lst q]) (.ref (h.length + 1)) = .lst q := by simp [look]
theorem apA (c : Cell) (l q : List D) (d : D) (hz : l.length < sz) : mAppend [.ref h.length, d] (h.set p c ++ [.lst l, .lst q]) = some (.non, h.set p c ++ [.lst (l ++ [d]), .lst q]) := by simp [mAppend, hz]
theorem apB (c : Cell) (l q : List D) (d : D) (hz : q.length < sz) : mAppend [.ref (h.length + 1), d] (h.set p c ++ [.lst l, .lst q]) = some (.non, h.set p c ++ [.lst l, .lst (q ++ [d])]) := by
  have e : h.length + 1 = (h.set p c ++ [Cell.lst l]).length := by simp
  have : (h.set p c ++ [Cell.lst l, Cell.lst q]) = (h.set p c ++ [Cell.lst l]) ++ [.lst q] := by simp
  rw [this, e, app_last _ _ _ hz]
  simp
def abc : List Str := ["p", "q", "r"]
theorem abc_gd : ∀ x ∈ abc, gd (.str x) = true := by decide +kernel
theorem ports_cut (V : D) (k r : Nat) (hk : k < 2) (hr : r < 2) : oSl (.lst [.tup [.str "p", V], .tup [.str "q", V], .tup [.str "r", V]]) (some (2 - (r : Int) - (k : Int))) none = some (.lst (portsL (abc.drop (2 - r - k)) V)) := by
  have h1 : k = 0 ∨ k = 1 := by omega
  have h2 : r = 0 ∨ r = 1 := by omega
  rcases h1 with rfl | rfl <;> rcases h2 with rfl | rfl <;> rfl
include hp hr
theorem dv_b1 (hcl : Cl h) (k : Nat) (hk : k < 2) (kn : Str) (hkn : oIx (.str "kl") (.int k) = some (.str kn)) (x1 V x3 : D) (hV : gd V = true) (hVt : ∀ h, look h V = V) (o7 o8 o9 oA oB oC oD : Option D) (m a : Nat) (hm : 8 ≤ m) (ha : a + 120 ≤ TOP) (lib : List D) (hlib : lib.length ≤ 5) (hlg : ∀ d ∈ lib, gd d = true) :
    ∃ kd r a' o7', a ≤ a' ∧ a' ≤ a + 101 ∧ r < 2 ∧ KindOk (abc.drop (2 - r - k)) V kd ∧
      exL GG (callF GG fns m) dvB1 [some (.ref p), some x1, some V, some x3, some (.ref h.length), some (.ref (h.length + 1)), some (.int k), o7, o8, o9, oA, oB, oC, oD] (h.set p (dr row a) ++ [.lst lib, .lst []]) =
      .nx [some (.ref p), some x1, some V, some x3, some (.ref h.length), some (.ref (h.length + 1)), some (.int k), o7', o8, o9, oA, oB, oC, oD] (h.set p (dr row a') ++ [.lst (lib ++ [.tup [.str kn, kd]]), .lst []]) := by
  obtain ⟨r, hr1, e1⟩ := pickA hp hr [.lst lib, .lst []] m (by omega) (a := a) (n := 2) (by omega) (by omega)
  have hcl' : Cl (h ++ [.lst lib, .lst []]) := by
    have := (hcl.app (c := .lst lib) (by show belowL 0 lib = true; exact belowL_all.mpr fun d hd => (gd_dat (hlg d hd)).below)).app (c := .lst []) (by show belowL 0 [] = true; simp)
    simpa using this
  have hdl : (abc.drop (2 - r - k)).length ≤ 3 := by rw [List.length_drop]; exact Nat.sub_le _ _
  have hdp : 0 < (abc.drop (2 - r - k)).length := by rw [List.length_drop]; show 0 < 3 - _; omega
  have okd : ∀ x ∈ abc.drop (2 - r - k), gd (.str x) = true := fun x hx => abc_gd x (List.mem_of_mem_drop hx)
  obtain ⟨c, ms, a', j, b1, b2, b3, b4, b5, b6⟩ := lawkind (h := h ++ [.lst lib, .lst []]) (p := p) (by simp; omega) hr (ns := abc.drop (2 - r - k)) hdp hdl okd V hV hcl' m (a + 1) (by omega) (by omega)
  rw [set_app hp, set_app hp] at b6
  refine ⟨_, r, a', some (.lst (portsL (abc.drop (2 - r - k)) V)), by omega, by omega, hr1, ⟨c, ms, j, rfl, b3, b4, b5⟩, ?_⟩
  simp only [dvB1, b__law_device]
  have pc := ports_cut V k r hk hr1
  have ap := apA (h := h) (p := p) (dr row a') lib [] (.tup [.str kn, .tup [.tup (portsL (abc.drop (2 - r - k)) V), c, .tup ms]]) (Nat.lt_of_le_of_lt hlib (by decide))
  simp at e1
  simp only [exL_consT, exS_asgS, evC_opS, evL_consS, evC_litS, evC_varS, slot_s, slot_0, ofO_some, bind_okS, evL_nilS]
  simp [e1, sz2, sz3, pc, lookA, ap, b6, hkn]
end
end whatfailed_k52_whole_forms_spoilt

namespace whatfailed_k52_whole_forms_spoilt
open PySem Ev
def LnOk (ns wl : List Str) (ls : List D) : Prop := ls.map fstD = ns.map .str ∧ ∀ d ∈ ls, ∃ n w, d = .tup [.str n, .str w] ∧ w ∈ wl
def dvL : C := match dvB2 with
  | .cons _ (.cons (.asg _ (.op _ (.cons e _))) _) => e
  | _ => .var 0
def dvLi : CL := match dvL with
  | .comp _ _ _ it _ _ => it
  | _ => .nil
def dvLe : C := match dvL with
  | .comp _ _ _ _ _ e => e
  | _ => .var 0
theorem dvL_eq : dvL = .comp [12, 13] (.tup [.name 12, .name 13]) .plain dvLi .nil dvLe := rfl
theorem dvB2_eq : dvB2 = .cons (.asg (.name 8) (.call 3 (.cons (.var 0) (.cons (.lit (.int 2)) .nil)))) (.cons (.asg (.name 9) (.op .tupleOf (.cons dvL .nil))) (.cons (.expr (.mth .append (.var 5) (.cons (.op .mkTup (.cons (.op .ix (.cons (.lit (.str "uvwxy")) (.cons (.var 6) .nil))) (.cons (.op .ix (.cons (.lit (.str "kl")) (.cons (.var 8) .nil))) (.cons (.var 9) .nil)))) .nil))) .nil)) := rfl
theorem kl0 : oIx (.str "kl") (.int (0 : Nat)) = some (.str "k") := by decide +kernel
theorem kl1 : oIx (.str "kl") (.int (1 : Nat)) = some (.str "l") := by decide +kernel
section
variable {h : HpE} {p : Nat} {row : List Int} (hp : p < h.length) (hr : 0 < row.length ∧ row.length < 1000)
include hp hr
theorem dv_links (x1 x2 : D) (W : Str) (wl ns : List Str) (V : D) (hW : WOk W wl) (hwl : 0 < wl.length) (hns : ns.length ≤ 3) (r : Nat) (lib pl : List D) (kn : Str) (c ms : D) (hlib : oIx (.lst lib) (.int (r : Nat)) = some (.tup [.str kn, .tup [.tup (portsL ns V), c, ms]]))
    (o6 o7 o9 oA oB : Option D) (m a : Nat) (hm : 2 ≤ m) (ha : a + 10 ≤ TOP) :
    ∃ ls a', a ≤ a' ∧ a' ≤ a + 3 ∧ LnOk ns wl ls ∧ evC GG (callF GG fns m) dvL [some (.ref p), some x1, some x2, some (.str W), some (.ref h.length), some (.ref (h.length + 1)), o6, o7, some (.int r), o9, oA, oB, none, none] (h.set p (dr row a) ++ [.lst lib, .lst pl]) = .ok (.lst ls) (h.set p (dr row a') ++ [.lst lib, .lst pl]) := by
  obtain ⟨H', ls, e, rest, done, a', hns', hxs, hL, hH, ha1, ha2⟩ := compL_ex (src := [.tup (portsL ns V)]) (h0 := [.tup (portsL ns V)])
    (f := fun x h' => (ofO (asgNT (.tup [.name 12, .name 13]) x [some (.ref p), some x1, some x2, some (.str W), some (.ref h.length), some (.ref (h.length + 1)), o6, o7, some (.int r), o9, oA, oB, none, none]) h').bind fun env' h => (evIf GG (callF GG fns m) .nil env' h).bind fun b h => if b = true then (evC GG (callF GG fns m) dvLe env' h).bind fun d h => .ok (some d) h else .ok none h)
    (fun xs H acc => ∃ rest done a', ns = done ++ rest ∧ xs = portsL rest V ∧ LnOk done wl acc ∧ H = h.set p (dr row a') ++ [.lst lib, .lst pl] ∧ a ≤ a' ∧ a' = a + done.length)
    (fun x xr H acc ⟨rest, done, a', hns', hxs, hL, hH, ha1, ha2⟩ => by
      subst hH
      cases rest with
      | nil => simp [portsL] at hxs
      | cons n rest =>
        simp [portsL] at hxs
        obtain ⟨rfl, rfl⟩ := hxs
        have hdl : done.length ≤ 3 := by
          have := congrArg List.length hns'
          simp at this
          omega
        obtain ⟨k, hk, e1⟩ := pickA hp hr [.lst lib, .lst pl] m (by omega) (a := a') (n := wl.length) (by omega) hwl
        obtain ⟨w, hw, ew⟩ := hW.ix k hk
        refine ⟨some (.tup [.str n, .str w]), h.set p (dr row (a' + 1)) ++ [.lst lib, .lst pl], ?_, by simp, rest, done ++ [n], a' + 1, by simp [hns'], rfl, ⟨?_, ?_⟩, rfl, by omega, by simp; omega⟩
        · simp only [dvLe, dvL, dvB2, b__law_device]
          have hl := hW.ln
          simp [hl, e1, ew, sz2]
        · simp [hL.1, fstD]
        · intro d hd
          simp at hd
          rcases hd with hd | rfl
          · exact hL.2 d hd
          · exact ⟨n, w, rfl, hw⟩)
    (fun H acc ⟨rest, done, a', hns', hxs, hL, _⟩ => by
      have h1 := congrArg List.length hL.1
      have h2 := congrArg List.length hns'
      simp at h1 h2
      have : acc.length ≤ 3 := by omega
      exact Nat.le_trans this (by decide))
    (portsL ns V) (h.set p (dr row a) ++ [.lst lib, .lst pl]) [] ⟨ns, [], a, rfl, rfl, ⟨rfl, fun d hd => by simp at hd⟩, rfl, by omega, rfl⟩
  have hrest : rest = [] := by
    cases rest with
    | nil => rfl
    | cons _ _ => simp [portsL] at hxs
  subst hrest
  simp at hns'
  subst hns'
  refine ⟨ls, a', ha1, by omega, hL, ?_⟩
  subst hH
  rw [dvL_eq, evC_compS]
  have ev : evL GG (callF GG fns m) dvLi [some (.ref p), some x1, some x2, some (.str W), some (.ref h.length), some (.ref (h.length + 1)), o6, o7, some (.int r), o9, oA, oB, none, none] (h.set p (dr row a) ++ [.lst lib, .lst pl]) = .ok [.tup (portsL ns V)] (h.set p (dr row a) ++ [.lst lib, .lst pl]) := by
    simp only [dvLi, dvL, dvB2, b__law_device]
    simp only [evC_opS, evL_consS, evC_litS, evC_varS, slot_s, slot_0, ofO_some, bind_okS, evL_nilS, op_ixS, lookA, look_intS, hlib, rs_some]
    simp
  rw [ev]
  simp only [bind_okS, List.map_cons, List.map_nil, look_tup, items_plain, asIter_tup, ofO_some]
  have we : wipeE [some (.ref p), some x1, some x2, some (.str W), some (.ref h.length), some (.ref (h.length + 1)), o6, o7, some (.int r), o9, oA, oB, none, none] [12, 13] = [some (.ref p), some x1, some x2, some (.str W), some (.ref h.length), some (.ref (h.length + 1)), o6, o7, some (.int r), o9, oA, oB, none, none] := rfl
  rw [we, e]
  rfl
/-- a drawn part -/
def PrtOk2 (na nb wl : List Str) (q : Prt) : Prop := ∃ ls, q.l = .tup ls ∧ ((q.k = "k" ∧ LnOk na wl ls) ∨ (q.k = "l" ∧ LnOk nb wl ls))
theorem dv_b2 (x1 x2 : D) (W : Str) (wl na nb : List Str) (V : D) (hW : WOk W wl) (hwl : 0 < wl.length) (hna : na.length ≤ 3) (hnb : nb.length ≤ 3) (pl : List D) (ca msa cb msb : D) (hpl : pl.length ≤ 5)
    (ki : Nat) (un : Str) (hun : oIx (.str "uvwxy") (.int (ki : Nat)) = some (.str un)) (o7 o8 o9 oA oB : Option D) (m a : Nat) (hm : 2 ≤ m) (ha : a + 15 ≤ TOP) :
    ∃ q a' o8' o9', a ≤ a' ∧ a' ≤ a + 4 ∧ q.n = un ∧ PrtOk2 na nb wl q ∧
      exL GG (callF GG fns m) dvB2 [some (.ref p), some x1, some x2, some (.str W), some (.ref h.length), some (.ref (h.length + 1)), some (.int ki), o7, o8, o9, oA, oB, none, none] (h.set p (dr row a) ++ [.lst [.tup [.str "k", .tup [.tup (portsL na V), ca, msa]], .tup [.str "l", .tup [.tup (portsL nb V), cb, msb]]], .lst pl]) =
      .nx [some (.ref p), some x1, some x2, some (.str W), some (.ref h.length), some (.ref (h.length + 1)), some (.int ki), o7, o8', o9', oA, oB, none, none] (h.set p (dr row a') ++ [.lst [.tup [.str "k", .tup [.tup (portsL na V), ca, msa]], .tup [.str "l", .tup [.tup (portsL nb V), cb, msb]]], .lst (pl ++ [q.d])]) := by
  obtain ⟨r, hr1, e1⟩ := pickA hp hr [.lst [.tup [.str "k", .tup [.tup (portsL na V), ca, msa]], .tup [.str "l", .tup [.tup (portsL nb V), cb, msb]]], .lst pl] m (by omega) (a := a) (n := 2) (by omega) (by omega)
  simp at e1
  have hc : r = 0 ∨ r = 1 := by omega
  rcases hc with rfl | rfl
  · obtain ⟨ls, a', b1, b2, b3, b4⟩ := dv_links hp hr x1 x2 W wl na V hW hwl hna 0 [.tup [.str "k", .tup [.tup (portsL na V), ca, msa]], .tup [.str "l", .tup [.tup (portsL nb V), cb, msb]]] pl "k" ca msa rfl (some (.int ki)) o7 o9 oA oB m (a + 1) hm (by omega)
    refine ⟨⟨un, "k", .tup ls⟩, a', some (.int 0), some (.tup ls), by omega, by omega, rfl, ⟨ls, rfl, .inl ⟨rfl, b3⟩⟩, ?_⟩
    have k0 := kl0
    simp at b4 e1 k0
    have ap := apB (h := h) (p := p) (dr row a') [.tup [.str "k", .tup [.tup (portsL na V), ca, msa]], .tup [.str "l", .tup [.tup (portsL nb V), cb, msb]]] pl (.tup [.str un, .str "k", .tup ls]) (Nat.lt_of_le_of_lt hpl (by decide))
    rw [dvB2_eq]
    simp [e1, b4, hun, k0, sz3, lookB, recvOk, ap, Prt.d]
  · obtain ⟨ls, a', b1, b2, b3, b4⟩ := dv_links hp hr x1 x2 W wl nb V hW hwl hnb 1 [.tup [.str "k", .tup [.tup (portsL na V), ca, msa]], .tup [.str "l", .tup [.tup (portsL nb V), cb, msb]]] pl "l" cb msb rfl (some (.int ki)) o7 o9 oA oB m (a + 1) hm (by omega)
    refine ⟨⟨un, "l", .tup ls⟩, a', some (.int 1), some (.tup ls), by omega, by omega, rfl, ⟨ls, rfl, .inr ⟨rfl, b3⟩⟩, ?_⟩
    have k1 := kl1
    simp at b4 e1 k1
    have ap := apB (h := h) (p := p) (dr row a') [.tup [.str "k", .tup [.tup (portsL na V), ca, msa]], .tup [.str "l", .tup [.tup (portsL nb V), cb, msb]]] pl (.tup [.str un, .str "l", .tup ls]) (Nat.lt_of_le_of_lt hpl (by decide))
    rw [dvB2_eq]
    simp [e1, b4, hun, k1, sz3, lookB, recvOk, ap, Prt.d]
end
end whatfailed_k52_whole_forms_spoilt

namespace whatfailed_k52_whole_forms_spoilt
open PySem Ev
def dvO : C := match dvA3 with
  | .asg _ (.op _ (.cons e _)) => e
  | _ => .var 0
def dvOi : CL := match dvO with
  | .comp _ _ _ _ i _ => i
  | _ => .nil
theorem dvA3_eq : dvA3 = .asg (.name 10) (.op .tupleOf (.cons dvO .nil)) := rfl
theorem dvO_eq : dvO = .comp [11] (.name 11) .plain (.cons (.var 3) .nil) dvOi (.var 11) := rfl
/-- a drawn device -/
structure DevOk (na nb wl : List Str) (vs : List Int) (ka kb : D) (ps : List Prt) (outs : List Str) : Prop where
  cna : na = (["r"] : List Str) ∨ na = (["q", "r"] : List Str)
  cnb : nb = (["q", "r"] : List Str) ∨ nb = (["p", "q", "r"] : List Str)
  cwl : ∃ r, r < 3 ∧ wl = wires3 r
  cvs : vs = [0, 1] ∨ vs = [0, 1, 2]
  cka : KindOk na (.tup (vs.map .int)) ka
  ckb : KindOk nb (.tup (vs.map .int)) kb
  pn : ∃ j, j < 3 ∧ ps.map Prt.n = (["u", "v", "w"] : List Str).take (1 + j)
  pp : ∀ q ∈ ps, PrtOk2 na nb wl q
  cout : outs.Sublist wl
theorem rg1 : rangeL 0 1 = [.int 0] := rfl
theorem rg2 : rangeL 0 2 = [.int 0, .int 1] := rfl
theorem rg3 : rangeL 0 3 = [.int 0, .int 1, .int 2] := rfl
theorem uv0 : oIx (.str "uvwxy") (.int (0 : Nat)) = some (.str "u") := by decide +kernel
theorem uv1 : oIx (.str "uvwxy") (.int (1 : Nat)) = some (.str "v") := by decide +kernel
theorem uv2 : oIx (.str "uvwxy") (.int (2 : Nat)) = some (.str "w") := by decide +kernel
theorem gd_vs {vs : List Int} (h : vs.length ≤ 60) : gd (.tup (vs.map .int)) = true := by
  rw [gd_tup, Bool.and_eq_true, decide_eq_true_eq]
  exact ⟨by simpa using h, gdL_all.mpr fun d hd => by obtain ⟨i, _, rfl⟩ := List.mem_map.mp hd; simp⟩
theorem wires3_len (r : Nat) (hr : r < 3) : (wires3 r).length = 2 + r := by
  unfold wires3; rw [List.length_take]
  show min (2 + r) 4 = _
  omega
theorem wires3_gd (r : Nat) : ∀ x ∈ wires3 r, gd (.str x) = true := fun x hx => by
  have : ∀ x ∈ (["a", "b", "c", "d"] : List Str), gd (.str x) = true := by decide +kernel
  exact this x (List.mem_of_mem_take hx)
section
variable {h : HpE} {p : Nat} {row : List Int} (hp : p < h.length) (hr : 0 < row.length ∧ row.length < 1000)
include hp hr
theorem dv_outer (x1 x2 : D) (W : Str) (wl : List Str) (hW : WOk W wl) (hwl : wl.length ≤ 4) (lib pl : List D) (o6 o7 o8 o9 oA : Option D) (m a : Nat) (hm : 2 ≤ m) (ha : a + 10 ≤ TOP) :
    ∃ (outs : List Str) (a' : Nat), a ≤ a' ∧ a' ≤ a + 4 ∧ outs.Sublist wl ∧ evC GG (callF GG fns m) dvO [some (.ref p), some x1, some x2, some (.str W), some (.ref h.length), some (.ref (h.length + 1)), o6, o7, o8, o9, oA, none, none, none] (h.set p (dr row a) ++ [.lst lib, .lst pl]) = .ok (.lst (outs.map .str)) (h.set p (dr row a') ++ [.lst lib, .lst pl]) := by
  obtain ⟨H', ls, e, rest, done, outs, a', hns', hxs, hL, hS, hH, ha1, ha2⟩ := compL_ex (src := [.str W]) (h0 := [.str W])
    (f := fun x h' => (ofO (asgNT (.name 11) x [some (.ref p), some x1, some x2, some (.str W), some (.ref h.length), some (.ref (h.length + 1)), o6, o7, o8, o9, oA, none, none, none]) h').bind fun env' h => (evIf GG (callF GG fns m) dvOi env' h).bind fun b h => if b = true then (evC GG (callF GG fns m) (.var 11) env' h).bind fun d h => .ok (some d) h else .ok none h)
    (fun xs H acc => ∃ (rest done outs : List Str) (a' : Nat), wl = done ++ rest ∧ xs = rest.map .str ∧ acc = outs.map .str ∧ outs.Sublist done ∧ H = h.set p (dr row a') ++ [.lst lib, .lst pl] ∧ a ≤ a' ∧ a' = a + done.length)
    (fun x xr H acc ⟨rest, done, outs, a', hns', hxs, hL, hS, hH, ha1, ha2⟩ => by
      subst hH hL
      cases rest with
      | nil => simp at hxs
      | cons n rest =>
        simp at hxs
        obtain ⟨rfl, rfl⟩ := hxs
        have hdl : done.length ≤ 4 := by
          have := congrArg List.length hns'
          simp at this
          omega
        obtain ⟨k, hk, e1⟩ := pickA hp hr [.lst lib, .lst pl] m (by omega) (a := a') (n := 3) (by omega) (by omega)
        simp at e1
        by_cases hk0 : 0 < k
        · have hk' : (0 : Int) < k := by omega
          refine ⟨some (.str n), h.set p (dr row (a' + 1)) ++ [.lst lib, .lst pl], ?_, by simp, rest, done ++ [n], outs ++ [n], a' + 1, by simp [hns'], rfl, by simp, hS.append (List.Sublist.refl _), rfl, by omega, by simp; omega⟩
          simp only [dvOi, dvO, dvA3, b__law_device]
          simp [e1, hk0]
        · have hk' : ¬ (0 : Int) < k := by omega
          refine ⟨none, h.set p (dr row (a' + 1)) ++ [.lst lib, .lst pl], ?_, by simp, rest, done ++ [n], outs, a' + 1, by simp [hns'], rfl, by simp, hS.trans (List.sublist_append_left _ _), rfl, by omega, by simp; omega⟩
          simp only [dvOi, dvO, dvA3, b__law_device]
          simp [e1, hk0])
    (fun H acc ⟨rest, done, outs, a', hns', hxs, hL, hS, _⟩ => by
      have h1 := hS.length_le
      have h2 := congrArg List.length hns'
      subst hL
      simp at h2
      simp
      have : outs.length ≤ 4 := by omega
      exact Nat.le_trans this (by decide))
    (wl.map .str) (h.set p (dr row a) ++ [.lst lib, .lst pl]) [] ⟨wl, [], [], a, rfl, rfl, rfl, List.Sublist.refl _, rfl, by omega, rfl⟩
  have hrest : rest = [] := by
    cases rest with
    | nil => rfl
    | cons _ _ => simp at hxs
  subst hrest hL
  simp at hns'
  subst hns'
  refine ⟨outs, a', ha1, by omega, hS, ?_⟩
  subst hH
  rw [dvO_eq, evC_compS]
  have hit := hW.it
  have ev : evL GG (callF GG fns m) (.cons (.var 3) .nil) [some (.ref p), some x1, some x2, some (.str W), some (.ref h.length), some (.ref (h.length + 1)), o6, o7, o8, o9, oA, none, none, none] (h.set p (dr row a) ++ [.lst lib, .lst pl]) = .ok [.str W] (h.set p (dr row a) ++ [.lst lib, .lst pl]) := by simp
  rw [ev]
  simp only [bind_okS, List.map_cons, List.map_nil, look_str, items_plain, hit, ofO_some]
  have we : wipeE [some (.ref p), some x1, some x2, some (.str W), some (.ref h.length), some (.ref (h.length + 1)), o6, o7, o8, o9, oA, none, none, none] [11] = [some (.ref p), some x1, some x2, some (.str W), some (.ref h.length), some (.ref (h.length + 1)), o6, o7, o8, o9, oA, none, none, none] := rfl
  rw [we, e]
  rfl
end
end whatfailed_k52_whole_forms_spoilt

namespace whatfailed_k52_whole_forms_spoilt
open PySem Ev
section
variable {h : HpE} {p : Nat} {row : List Int} (hp : p < h.length) (hr : 0 < row.length ∧ row.length < 1000)
include hp hr
theorem dv_a0 (x1 : D) (m a : Nat) (hm : 2 ≤ m) (ha : a + 10 ≤ TOP) :
    ∃ (vs : List Int) (W : Str) (r : Nat), (vs = [0, 1] ∨ vs = [0, 1, 2]) ∧ r < 3 ∧ WOk W (wires3 r) ∧ exS GG (callF GG fns m) dvA0 [some (.ref p), some x1, none, none, none, none, none, none, none, none, none, none, none, none] (h.set p (dr row a)) =
      .nx [some (.ref p), some x1, some (.tup (vs.map .int)), some (.str W), some (.ref h.length), some (.ref (h.length + 1)), none, none, none, none, none, none, none, none] (h.set p (dr row (a + 2)) ++ [.lst [], .lst []]) := by
  obtain ⟨r1, hr1, e1⟩ := pickN hp hr m (by omega) (a := a) (n := 3) (by omega) (by omega)
  obtain ⟨r2, hr2, e2⟩ := pickN hp hr m (by omega) (a := a + 1) (n := 3) (by omega) (by omega)
  obtain ⟨W, w1, w2⟩ := wok r2 hr2
  obtain ⟨v, hv, ev⟩ := ix3 (a := D.tup [.int 0, .int 1]) (b := D.tup [.int 0, .int 1]) (c := D.tup [.int 0, .int 1, .int 2]) hr1
  have : ∃ vs : List Int, (vs = [0, 1] ∨ vs = [0, 1, 2]) ∧ v = .tup (vs.map .int) := by
    rcases hv with rfl | rfl | rfl
    · exact ⟨[0, 1], .inl rfl, rfl⟩
    · exact ⟨[0, 1], .inl rfl, rfl⟩
    · exact ⟨[0, 1, 2], .inr rfl, rfl⟩
  obtain ⟨vs, hvs, rfl⟩ := this
  refine ⟨vs, W, r2, hvs, hr2, w2, ?_⟩
  simp only [dvA0, b__law_device]
  simp at e1 e2
  simp [e1, e2, ev, w1, sz0, sz2, sz3, sz4]
theorem dv_kinds (hcl : Cl h) (x1 x3 : D) (vs : List Int) (hvs : vs.length ≤ 60) (m a : Nat) (hm : 8 ≤ m) (ha : a + 250 ≤ TOP) :
    ∃ na nb ka kb a' o6 o7, a ≤ a' ∧ a' ≤ a + 202 ∧ (na = (["r"] : List Str) ∨ na = (["q", "r"] : List Str)) ∧ (nb = (["q", "r"] : List Str) ∨ nb = (["p", "q", "r"] : List Str)) ∧ KindOk na (.tup (vs.map .int)) ka ∧ KindOk nb (.tup (vs.map .int)) kb ∧
      exS GG (callF GG fns m) (.for (.name 6) .range (.cons (.lit (.int 2)) .nil) dvB1) [some (.ref p), some x1, some (.tup (vs.map .int)), some x3, some (.ref h.length), some (.ref (h.length + 1)), none, none, none, none, none, none, none, none] (h.set p (dr row a) ++ [.lst [], .lst []]) =
      .nx [some (.ref p), some x1, some (.tup (vs.map .int)), some x3, some (.ref h.length), some (.ref (h.length + 1)), o6, o7, none, none, none, none, none, none] (h.set p (dr row a') ++ [.lst [.tup [.str "k", ka], .tup [.str "l", kb]], .lst []]) := by
  have hV := gd_vs hvs
  obtain ⟨ka, r1, a1, o7, b1, b2, b3, b4, b5⟩ := dv_b1 hp hr hcl 0 (by omega) "k" kl0 x1 (.tup (vs.map .int)) x3 hV (fun _ => rfl) none none none none none none none m a hm (by omega) [] (by simp) (fun d hd => by simp at hd)
  have gka : gd ka = true := b4.gd (fun x hx => abc_gd x (List.mem_of_mem_drop hx)) (by rw [List.length_drop]; exact Nat.le_trans (Nat.sub_le _ _) (by decide)) hV
  have hlg : ∀ d ∈ [D.tup [.str "k", ka]], gd d = true := fun d hd => by
    simp at hd; subst hd
    exact gd_t2 (by decide +kernel) gka
  obtain ⟨kb, r2, a2, o7', c1, c2, c3, c4, c5⟩ := dv_b1 hp hr hcl 1 (by omega) "l" kl1 x1 (.tup (vs.map .int)) x3 hV (fun _ => rfl) o7 none none none none none none m a1 hm (by omega) [.tup [.str "k", ka]] (by simp) hlg
  refine ⟨_, _, ka, kb, a2, some (.int 1), o7', by omega, by omega, ?_, ?_, b4, c4, ?_⟩
  · have hc : r1 = 0 ∨ r1 = 1 := by omega
    rcases hc with rfl | rfl
    · left; rfl
    · right; rfl
  · have hc : r2 = 0 ∨ r2 = 1 := by omega
    rcases hc with rfl | rfl
    · left; rfl
    · right; rfl
  · have ev : evL GG (callF GG fns m) (.cons (.lit (.int 2)) .nil) [some (.ref p), some x1, some (.tup (vs.map .int)), some x3, some (.ref h.length), some (.ref (h.length + 1)), none, none, none, none, none, none, none, none] (h.set p (dr row a) ++ [.lst [], .lst []]) = .ok [.int 2] (h.set p (dr row a) ++ [.lst [], .lst []]) := by simp
    rw [for_range ev (by decide), rg2]
    simp at b5 c5
    simp [forL, b5, c5]
theorem dv_parts (x1 : D) (W : Str) (wl na nb : List Str) (V : D) (hW : WOk W wl) (hwl : 0 < wl.length) (hna : na.length ≤ 3) (hnb : nb.length ≤ 3) (ca msa cb msb : D) (o6 o7 : Option D) (m a : Nat) (hm : 2 ≤ m) (ha : a + 100 ≤ TOP) :
    ∃ (ps : List Prt) (a' j : Nat) (e6 e7 e8 e9 : Option D), a ≤ a' ∧ a' ≤ a + 20 ∧ j < 3 ∧ ps.map Prt.n = (["u", "v", "w"] : List Str).take (1 + j) ∧ (∀ q ∈ ps, PrtOk2 na nb wl q) ∧
      exS GG (callF GG fns m) (.for (.name 6) .range dvI2 dvB2) [some (.ref p), some (.int 3), some x1, some (.str W), some (.ref h.length), some (.ref (h.length + 1)), o6, o7, none, none, none, none, none, none] (h.set p (dr row a) ++ [.lst [.tup [.str "k", .tup [.tup (portsL na V), ca, msa]], .tup [.str "l", .tup [.tup (portsL nb V), cb, msb]]], .lst []]) =
      .nx [some (.ref p), some (.int 3), some x1, some (.str W), some (.ref h.length), some (.ref (h.length + 1)), e6, e7, e8, e9, none, none, none, none] (h.set p (dr row a') ++ [.lst [.tup [.str "k", .tup [.tup (portsL na V), ca, msa]], .tup [.str "l", .tup [.tup (portsL nb V), cb, msb]]], .lst (ps.map Prt.d)]) := by
  obtain ⟨j, hj, e1⟩ := pickA hp hr [.lst [.tup [.str "k", .tup [.tup (portsL na V), ca, msa]], .tup [.str "l", .tup [.tup (portsL nb V), cb, msb]]], .lst []] m (by omega) (a := a) (n := 3) (by omega) (by omega)
  have ev : evL GG (callF GG fns m) dvI2 [some (.ref p), some (.int 3), some x1, some (.str W), some (.ref h.length), some (.ref (h.length + 1)), o6, o7, none, none, none, none, none, none] (h.set p (dr row a) ++ [.lst [.tup [.str "k", .tup [.tup (portsL na V), ca, msa]], .tup [.str "l", .tup [.tup (portsL nb V), cb, msb]]], .lst []]) = .ok [.int (1 + (j : Int))] (h.set p (dr row (a + 1)) ++ [.lst [.tup [.str "k", .tup [.tup (portsL na V), ca, msa]], .tup [.str "l", .tup [.tup (portsL nb V), cb, msb]]], .lst []]) := by
    simp only [dvI2, b__law_device]
    simp at e1
    simp [e1]
  have hsm : smallI (1 + (j : Int)) := by unfold smallI; omega
  rw [for_range ev hsm]
  obtain ⟨q0, a1, o8, o9, b1, b2, b3, b4, b5⟩ := dv_b2 hp hr (.int 3) x1 W wl na nb V hW hwl hna hnb [] ca msa cb msb (by simp) 0 "u" uv0 o7 none none none none m (a + 1) hm (by omega)
  obtain ⟨q1, a2, p8, p9, c1, c2, c3, c4, c5⟩ := dv_b2 hp hr (.int 3) x1 W wl na nb V hW hwl hna hnb [q0.d] ca msa cb msb (by simp) 1 "v" uv1 o7 o8 o9 none none m a1 hm (by omega)
  obtain ⟨q2, a3, r8, r9, d1, d2, d3, d4, d5⟩ := dv_b2 hp hr (.int 3) x1 W wl na nb V hW hwl hna hnb [q0.d, q1.d] ca msa cb msb (by simp) 2 "w" uv2 o7 p8 p9 none none m a2 hm (by omega)
  simp at b5 c5 d5
  have hc : j = 0 ∨ j = 1 ∨ j = 2 := by omega
  rcases hc with rfl | rfl | rfl
  · refine ⟨[q0], a1, 0, some (.int 0), o7, o8, o9, by omega, by omega, by omega, by simp [b3], fun q hq => by simp at hq; subst hq; exact b4, ?_⟩
    have : rangeL 0 (1 + ((0 : Nat) : Int)) = [.int 0] := rfl
    rw [this]
    simp [forL, b5]
  · refine ⟨[q0, q1], a2, 1, some (.int 1), o7, p8, p9, by omega, by omega, by omega, by simp [b3, c3], fun q hq => by simp at hq; rcases hq with rfl | rfl <;> assumption, ?_⟩
    have : rangeL 0 (1 + ((1 : Nat) : Int)) = [.int 0, .int 1] := rfl
    rw [this]
    simp [forL, b5, c5]
  · refine ⟨[q0, q1, q2], a3, 2, some (.int 2), o7, r8, r9, by omega, by omega, by omega, by simp [b3, c3, d3], fun q hq => by simp at hq; rcases hq with rfl | rfl | rfl <;> assumption, ?_⟩
    have : rangeL 0 (1 + ((2 : Nat) : Int)) = [.int 0, .int 1, .int 2] := rfl
    rw [this]
    simp [forL, b5, c5, d5]
end
end whatfailed_k52_whole_forms_spoilt

namespace whatfailed_k52_whole_forms_spoilt
open PySem Ev
section
variable {na nb wl : List Str} {vs : List Int} {ka kb : D} {ps : List Prt} {outs : List Str} (X : DevOk na nb wl vs ka kb ps outs)
include X
theorem DevOk.vsl : vs.length ≤ 3 ∧ 0 < vs.length := by rcases X.cvs with h | h <;> subst h <;> simp
theorem DevOk.gV : gd (.tup (vs.map .int)) = true := gd_vs (by have := X.vsl; omega)
theorem DevOk.gna : ∀ x ∈ na, gd (.str x) = true := by
  rcases X.cna with h | h <;> subst h <;> decide +kernel
theorem DevOk.gnb : ∀ x ∈ nb, gd (.str x) = true := by
  rcases X.cnb with h | h <;> subst h <;> decide +kernel
theorem DevOk.lna : 0 < na.length ∧ na.length ≤ 3 := by rcases X.cna with h | h <;> subst h <;> simp
theorem DevOk.lnb : 0 < nb.length ∧ nb.length ≤ 3 := by rcases X.cnb with h | h <;> subst h <;> simp
theorem DevOk.gka : gd ka = true := X.cka.gd X.gna (by have := X.lna; omega) X.gV
theorem DevOk.gkb : gd kb = true := X.ckb.gd X.gnb (by have := X.lnb; omega) X.gV
theorem DevOk.gwl : ∀ x ∈ wl, gd (.str x) = true := by
  obtain ⟨r, hr, rfl⟩ := X.cwl
  exact wires3_gd r
theorem DevOk.lwl : 2 ≤ wl.length ∧ wl.length ≤ 4 := by
  obtain ⟨r, hr, rfl⟩ := X.cwl
  rw [wires3_len r hr]; omega
theorem DevOk.lps : 0 < ps.length ∧ ps.length ≤ 3 := by
  obtain ⟨j, hj, e⟩ := X.pn
  have := congrArg List.length e
  simp at this
  omega
theorem DevOk.gp : ∀ q ∈ ps, gd q.d = true := fun q hq => by
  obtain ⟨ls, e, hl⟩ := X.pp q hq
  have hn : gd (.str q.n) = true := by
    obtain ⟨j, hj, e⟩ := X.pn
    have : q.n ∈ ps.map Prt.n := List.mem_map.mpr ⟨q, hq, rfl⟩
    rw [e] at this
    have h3 : ∀ x ∈ (["u", "v", "w"] : List Str), gd (.str x) = true := by decide +kernel
    exact h3 _ (List.mem_of_mem_take this)
  have hk : gd (.str q.k) = true := by
    rcases hl with ⟨h, _⟩ | ⟨h, _⟩ <;> rw [h] <;> decide +kernel
  have key : ∀ ns : List Str, (∀ x ∈ ns, gd (.str x) = true) → ns.length ≤ 3 → LnOk ns wl ls → gd (.tup ls) = true := fun ns g l L => by
    rw [gd_tup, Bool.and_eq_true, decide_eq_true_eq]
    have := congrArg List.length L.1
    simp at this
    refine ⟨by omega, gdL_all.mpr fun d hd => ?_⟩
    obtain ⟨n, w, rfl, hw⟩ := L.2 d hd
    refine gd_t2 ?_ (X.gwl w hw)
    have : D.str n ∈ ls.map fstD := List.mem_map.mpr ⟨_, hd, rfl⟩
    rw [L.1] at this
    obtain ⟨y, hy, e⟩ := List.mem_map.mp this
    injection e with e
    subst e
    exact g y hy
  have hll : gd q.l = true := by
    rw [e]
    rcases hl with ⟨_, h⟩ | ⟨_, h⟩
    · exact key na X.gna X.lna.2 h
    · exact key nb X.gnb X.lnb.2 h
  exact gd_t3 hn hk hll
theorem DevOk.gdev : gd (devD (libD ka kb) (wsD wl (.tup (vs.map .int))) ps (.tup (outs.map .str))) = true := by
  have h1 : gd (libD ka kb) = true := gd_t2 (gd_t2 (by decide +kernel) X.gka) (gd_t2 (by decide +kernel) X.gkb)
  have h2 : gd (wsD wl (.tup (vs.map .int))) = true := by
    unfold wsD
    rw [gd_tup, Bool.and_eq_true, decide_eq_true_eq]
    refine ⟨by have := X.lwl; simp; omega, gdL_all.mpr fun d hd => ?_⟩
    obtain ⟨w, hw, rfl⟩ := List.mem_map.mp hd
    exact gd_t2 (X.gwl w hw) X.gV
  have h3 : gd (.tup (ps.map Prt.d)) = true := by
    rw [gd_tup, Bool.and_eq_true, decide_eq_true_eq]
    refine ⟨by have := X.lps; simp; omega, gdL_all.mpr fun d hd => ?_⟩
    obtain ⟨q, hq, rfl⟩ := List.mem_map.mp hd
    exact X.gp q hq
  have h4 : gd (.tup (outs.map .str)) = true := by
    rw [gd_tup, Bool.and_eq_true, decide_eq_true_eq]
    refine ⟨by have := X.lwl; have := X.cout.length_le; simp; omega, gdL_all.mpr fun d hd => ?_⟩
    obtain ⟨w, hw, rfl⟩ := List.mem_map.mp hd
    exact X.gwl w (X.cout.subset hw)
  exact gd_t4 h1 h2 h3 h4
end
section
variable {h : HpE} {p : Nat} {row : List Int} (hp : p < h.length) (hr : 0 < row.length ∧ row.length < 1000)
include hp hr
theorem lawdevice (hcl : Cl h) (m a : Nat) (hm : 9 ≤ m) (ha : a + 500 ≤ TOP) :
    ∃ na nb wl vs ka kb ps outs a', a ≤ a' ∧ a' ≤ a + 400 ∧ DevOk na nb wl vs ka kb ps outs ∧
      callF GG fns m 2 [.ref p, .int 3] (h.set p (dr row a)) = .ok (devD (libD ka kb) (wsD wl (.tup (vs.map .int))) ps (.tup (outs.map .str))) (h.set p (dr row a')) := by
  obtain ⟨vs, W, r, hvs, hr3, hW, e0⟩ := dv_a0 hp hr (.int 3) (m - 1) a (by omega) (by omega)
  have hvl : vs.length ≤ 60 := by rcases hvs with h | h <;> subst h <;> simp
  obtain ⟨na, nb, ka, kb, a1, o6, o7, b1, b2, b3, b4, b5, b6, e1⟩ := dv_kinds hp hr hcl (.int 3) (.str W) vs hvl (m - 1) (a + 2) (by omega) (by omega)
  have b5' := b5
  have b6' := b6
  obtain ⟨ca, msa, kA, rfl, _⟩ := b5'
  obtain ⟨cb, msb, kB, rfl, _⟩ := b6'
  have hwl := wires3_len r hr3
  obtain ⟨ps, a2, j, f6, f7, f8, f9, c1, c2, c3, c4, c5, e2⟩ := dv_parts hp hr (.tup (vs.map .int)) W (wires3 r) na nb (.tup (vs.map .int)) hW (by omega) (by rcases b3 with h | h <;> subst h <;> simp) (by rcases b4 with h | h <;> subst h <;> simp) ca (.tup msa) cb (.tup msb) o6 o7 (m - 1) a1 (by omega) (by omega)
  obtain ⟨outs, a3, d1, d2, d3, e3⟩ := dv_outer hp hr (.int 3) (.tup (vs.map .int)) W (wires3 r) hW (by omega) [.tup [.str "k", .tup [.tup (portsL na (.tup (vs.map .int))), ca, .tup msa]], .tup [.str "l", .tup [.tup (portsL nb (.tup (vs.map .int))), cb, .tup msb]]] (ps.map Prt.d) f6 f7 f8 f9 none (m - 1) a2 (by omega) (by omega)
  have X : DevOk na nb (wires3 r) vs (.tup [.tup (portsL na (.tup (vs.map .int))), ca, .tup msa]) (.tup [.tup (portsL nb (.tup (vs.map .int))), cb, .tup msb]) ps outs := ⟨b3, b4, ⟨r, hr3, rfl⟩, hvs, b5, b6, ⟨j, c3, c4⟩, c5, d3⟩
  refine ⟨na, nb, wires3 r, vs, _, _, ps, outs, a3, by omega, by omega, X, ?_⟩
  rw [call_at (by omega) (fn := f__law_device) rfl rfl]
  simp only [f__law_device]
  rw [dv_eq, exL_consT]
  have ea : ([D.ref p, .int 3].map some ++ List.replicate (14 - 2) none : EnvE) = [some (.ref p), some (.int 3), none, none, none, none, none, none, none, none, none, none, none, none] := rfl
  rw [ea, e0, then_nx, exL_consT, e1, then_nx, exL_consT, e2, then_nx, exL_consT]
  have e4 : exS GG (callF GG fns (m - 1)) dvA3 [some (.ref p), some (.int 3), some (.tup (vs.map .int)), some (.str W), some (.ref h.length), some (.ref (h.length + 1)), f6, f7, f8, f9, none, none, none, none] (h.set p (dr row a2) ++ [.lst [.tup [.str "k", .tup [.tup (portsL na (.tup (vs.map .int))), ca, .tup msa]], .tup [.str "l", .tup [.tup (portsL nb (.tup (vs.map .int))), cb, .tup msb]]], .lst (ps.map Prt.d)]) =
      .nx [some (.ref p), some (.int 3), some (.tup (vs.map .int)), some (.str W), some (.ref h.length), some (.ref (h.length + 1)), f6, f7, f8, f9, some (.tup (outs.map .str)), none, none, none] (h.set p (dr row a3) ++ [.lst [.tup [.str "k", .tup [.tup (portsL na (.tup (vs.map .int))), ca, .tup msa]], .tup [.str "l", .tup [.tup (portsL nb (.tup (vs.map .int))), cb, .tup msb]]], .lst (ps.map Prt.d)]) := by
    rw [dvA3_eq]
    simp [e3]
  rw [e4, then_nx]
  have c1' : ∀ H : HpE, evC GG (callF GG fns (m - 1)) (.comp [11] (.name 11) .plain (.cons (.var 3) .nil) .nil (.op .mkTup (.cons (.var 11) (.cons (.var 2) .nil)))) [some (.ref p), some (.int 3), some (.tup (vs.map .int)), some (.str W), some (.ref h.length), some (.ref (h.length + 1)), f6, f7, f8, f9, some (.tup (outs.map .str)), none, none, none] H = .ok (.lst ((wires3 r).map fun w => .tup [.str w, .tup (vs.map .int)])) H := fun H => by
    have hit := hW.it
    have := comp_map (G := GG) (call := callF GG fns (m - 1)) (env := [some (.ref p), some (.int 3), some (.tup (vs.map .int)), some (.str W), some (.ref h.length), some (.ref (h.length + 1)), f6, f7, f8, f9, some (.tup (outs.map .str)), none, none, none]) (h := H) (own := [11]) (t := .name 11) (k := .plain) (it := .cons (.var 3) .nil) (e := .op .mkTup (.cons (.var 11) (.cons (.var 2) .nil)))
      (ds := [.str W]) (xs := (wires3 r).map .str) (fun d => .tup [d, .tup (vs.map .int)]) (fun d => [some (.ref p), some (.int 3), some (.tup (vs.map .int)), some (.str W), some (.ref h.length), some (.ref (h.length + 1)), f6, f7, f8, f9, some (.tup (outs.map .str)), some d, none, none]) (by simp) (by simpa using hit) (by rw [List.length_map, hwl]; exact Nat.le_trans (show 2 + r ≤ 4 by omega) (by decide)) (fun d hd => by simp) (fun d hd => by simp [sz2])
    rw [this, List.map_map]
    rfl
  have F := fin_cl (n0 := h.length) (h := h.set p (dr row a3)) (t := [.lst [.tup [.str "k", .tup [.tup (portsL na (.tup (vs.map .int))), ca, .tup msa]], .tup [.str "l", .tup [.tup (portsL nb (.tup (vs.map .int))), cb, .tup msb]]], .lst (ps.map Prt.d)]) (by simp) (hcl.set (c := dr row a3) (by simp [dr, drL, cellBelow, belowL_all])) (gd_dat X.gdev).below
  rw [List.length_set, ← F]
  have hR : dvR = .op .mkTup (.cons (.op .tupleOf (.cons (.var 4) .nil)) (.cons (.op .tupleOf (.cons (.comp [11] (.name 11) .plain (.cons (.var 3) .nil) .nil (.op .mkTup (.cons (.var 11) (.cons (.var 2) .nil)))) .nil)) (.cons (.op .tupleOf (.cons (.var 5) .nil)) (.cons (.var 10) .nil)))) := rfl
  rw [hR]
  simp [c1', lookA, lookB, sz4, devD, libD, wsD]
end
end whatfailed_k52_whole_forms_spoilt

namespace whatfailed_k52_whole_forms_spoilt
open PySem Ev
def sAt : SL → Nat → S
  | .cons s _, 0 => s
  | .cons _ r, n + 1 => sAt r n
  | .nil, _ => .pass
theorem fRows_portsL (ns : List Str) (V : D) : fRows 2 (.tup (portsL ns V)) = (ns.all nameS && rising ns) := by
  have h1 : (portsL ns V).all (tupLen 2) = true := by
    rw [List.all_eq_true]; intro d hd
    obtain ⟨n, _, rfl⟩ := List.mem_map.mp hd
    rfl
  have h2 : ((portsL ns V).all fun d => fName (fstD d)) = ns.all nameS := by
    unfold portsL; rw [List.all_map]; rfl
  have h3 : ((portsL ns V).map fun d => strV (fstD d)) = ns := by
    unfold portsL; rw [List.map_map]
    conv => rhs; rw [← List.map_id ns]
    rfl
  simp only [fRows, h1, h2, h3, Bool.true_and]
theorem namesD_portsL (ns : List Str) (V : D) : namesD (.tup (portsL ns V)) = ns := by
  unfold namesD rowsOf portsL
  rw [List.map_map]
  conv => rhs; rw [← List.map_id ns]
  rfl
theorem fRows_ms {ns : List Str} {ms : List D} {k : Nat} (b3 : ∀ d ∈ ms, MdOk ns d) (b4 : ms.map fstD = ((["bad", "odd"] : List Str).take k).map .str) : fRows 3 (.tup ms) = true := by
  have h1 : ms.all (tupLen 3) = true := by
    rw [List.all_eq_true]; intro d hd
    obtain ⟨n, i, c, rfl, _⟩ := b3 d hd
    rfl
  have h2 : (ms.all fun d => fName (fstD d)) = true := by
    rw [List.all_eq_true]; intro d hd
    have : fstD d ∈ ms.map fstD := List.mem_map.mpr ⟨d, hd, rfl⟩
    rw [b4] at this
    obtain ⟨y, hy, e⟩ := List.mem_map.mp this
    rw [← e]
    have h : ∀ y ∈ (["bad", "odd"] : List Str), nameS y = true := by decide +kernel
    exact h y (List.mem_of_mem_take hy)
  have h3 : (ms.map fun d => strV (fstD d)) = (["bad", "odd"] : List Str).take k := by
    have := congrArg (List.map strV) b4
    rw [List.map_map, List.map_map] at this
    have e : (strV ∘ D.str) = id := rfl
    rw [e, List.map_id] at this
    exact this
  have h4 : rising ((["bad", "odd"] : List Str).take k) = true := by
    match k with
    | 0 => rfl
    | 1 => decide +kernel
    | 2 => decide +kernel
    | k + 3 => rw [List.take_of_length_le (by show 2 ≤ k + 3; omega)]; decide +kernel
  simp only [fRows, h1, h2, h3, h4, Bool.and_self]
/-- ports that are ports -/
def NsG (ns : List Str) : Prop := (ns.all nameS = true ∧ rising ns = true) ∧ rising (ns.reverse ++ ns) = false ∧ 0 < ns.length ∧ ns.length ≤ 3 ∧ (∀ x ∈ ns, gd (.str x) = true)
theorem nsG1 : NsG ["r"] := ⟨by decide +kernel, by decide +kernel, by decide, by decide, by decide +kernel⟩
theorem nsG2 : NsG ["q", "r"] := ⟨by decide +kernel, by decide +kernel, by decide, by decide, by decide +kernel⟩
theorem nsG3 : NsG ["p", "q", "r"] := ⟨by decide +kernel, by decide +kernel, by decide, by decide, by decide +kernel⟩
theorem KindOk.ok {ns : List Str} {vs : List Int} {d : D} (hv : vs = [0, 1] ∨ vs = [0, 1, 2]) (N : NsG ns) (K : KindOk ns (.tup (vs.map .int)) d) : fKind d = true := by
  obtain ⟨c, ms, k, rfl, h1, h2, h3⟩ := K
  have a1 := fRows_portsL ns (.tup (vs.map .int))
  rw [N.1.1, N.1.2] at a1
  have a2 := fRows_ms h2 h3
  have fv : fVals (.tup (vs.map .int)) = true := by rcases hv with rfl | rfl <;> decide +kernel
  have a3 : ((rowsOf (.tup (portsL ns (.tup (vs.map .int))))).all fun d => fVals (sndD d)) = true := by
    rw [List.all_eq_true]; intro d hd
    obtain ⟨n, _, rfl⟩ := List.mem_map.mp hd
    exact fv
  have a5 : ((rowsOf (.tup ms)).all fun d => costOk (sndD d) && fC (PS ns) 8 (thdD d)) = true := by
    rw [List.all_eq_true]; intro d hd
    obtain ⟨n, i, c, rfl, i1, i2, hc⟩ := h2 d hd
    show (costOk (.int i) && fC (PS ns) 8 c) = true
    rw [hc]
    simp [costOk, i1, i2]
  simp only [fKind, a1, a2, a3, namesD_portsL, fC_le h1 (show 5 ≤ 8 by omega), a5, Bool.and_self]
theorem KindOk.kd {ns : List Str} {V d : D} (K : KindOk ns V d) : KdOk d ∧ (modesK d).length ≤ 2 ∧ ∀ x ∈ modesK d, x ∈ (["bad", "odd"] : List Str) := by
  obtain ⟨c, ms, k, rfl, h1, h2, h3⟩ := K
  have e : modesK (.tup [.tup (portsL ns V), c, .tup ms]) = (["bad", "odd"] : List Str).take k := by
    show (ms.map fun d => strV (fstD d)) = _
    have := congrArg (List.map strV) h3
    rw [List.map_map, List.map_map] at this
    have e : (strV ∘ D.str) = id := rfl
    rw [e, List.map_id] at this
    exact this
  have hl : ms.length ≤ 2 := by
    have := congrArg List.length h3
    simp at this
    omega
  refine ⟨⟨⟨_, _, ms, rfl, fun d hd => ?_, by rw [e]; exact h3, by omega⟩⟩, by rw [e]; simp; omega, fun x hx => by rw [e] at hx; exact List.mem_of_mem_take hx⟩
  obtain ⟨n, i, c, rfl, _⟩ := h2 d hd
  rfl
section
variable {na nb wl : List Str} {vs : List Int} {ka kb : D} {ps : List Prt} {outs : List Str} (X : DevOk na nb wl vs ka kb ps outs)
include X
theorem DevOk.nga : NsG na := by exact X.cna.elim (fun h => h ▸ nsG1) fun h => h ▸ nsG2
theorem DevOk.ngb : NsG nb := by exact X.cnb.elim (fun h => h ▸ nsG2) fun h => h ▸ nsG3
theorem DevOk.fka : fKind ka = true := X.cka.ok X.cvs X.nga
theorem DevOk.fkb : fKind kb = true := X.ckb.ok X.cvs X.ngb
theorem DevOk.flib : fLib (libD ka kb) = true := by
  have h1 : fRows 2 (libD ka kb) = true := by
    have := fRows_portsL ["k"] ka
    show (_ && _) = true
    have e1 : ([D.tup [.str "k", ka], .tup [.str "l", kb]].all (tupLen 2)) = true := rfl
    have e2 : ([D.tup [.str "k", ka], .tup [.str "l", kb]].all fun d => fName (fstD d)) = true := by
      show (nameS "k" && (nameS "l" && true)) = true
      decide +kernel
    have e3 : rising ([D.tup [.str "k", ka], .tup [.str "l", kb]].map fun d => strV (fstD d)) = true := by
      show rising ["k", "l"] = true
      decide +kernel
    simp only [e1, e2, e3, Bool.and_self]
  show (_ && _) = true
  rw [h1, Bool.true_and]
  show (fKind ka && (fKind kb && true)) = true
  rw [X.fka, X.fkb]; rfl
theorem DevOk.gdw : wl.Nodup ∧ wl.all nameS = true ∧ rising wl = true := by
  obtain ⟨r, hr, rfl⟩ := X.cwl
  have hc : r = 0 ∨ r = 1 ∨ r = 2 := by omega
  rcases hc with rfl | rfl | rfl <;> refine ⟨by decide +kernel, by decide +kernel, by decide +kernel⟩
theorem rising_pw : ∀ {xs : List Str}, rising xs = true → ∀ {ys : List Str}, ys.Sublist xs → (∀ a b c : Str, ltStr a b = true → ltStr b c = true → ltStr a c = true) → rising ys = true := by
  intro xs hx ys hs tr
  have key : ∀ zs : List Str, rising zs = true ↔ zs.Pairwise fun a b => ltStr a b = true := by
    intro zs
    induction zs with
    | nil => simp [rising]
    | cons a r ih =>
      cases r with
      | nil => simp [rising]
      | cons b r =>
        rw [rising, Bool.and_eq_true, ih]
        constructor
        · rintro ⟨h1, h2⟩
          refine List.Pairwise.cons (fun z hz => ?_) h2
          rcases List.mem_cons.mp hz with rfl | hz
          · exact h1
          · exact tr _ _ _ h1 ((List.pairwise_cons.mp h2).1 z hz)
        · intro h
          exact ⟨(List.pairwise_cons.mp h).1 b List.mem_cons_self, (List.pairwise_cons.mp h).2⟩
  rw [key] at hx ⊢
  exact hx.sublist hs
end
theorem ltStr_trans (a b c : Str) (h1 : ltStr a b = true) (h2 : ltStr b c = true) : ltStr a c = true := by
  unfold ltStr at *
  rw [decide_eq_true_eq] at *
  exact List.lt_trans h1 h2
end whatfailed_k52_whole_forms_spoilt

namespace whatfailed_k52_whole_forms_spoilt
open PySem Ev
theorem strV_map {ds : List D} {ns : List Str} (h2 : ds.map fstD = ns.map .str) : ds.map (fun d => strV (fstD d)) = ns := by
  have := congrArg (List.map strV) h2
  rw [List.map_map, List.map_map] at this
  have e : (strV ∘ D.str) = id := rfl
  rw [e, List.map_id] at this
  exact this
theorem fRows_of {k : Nat} {ds : List D} {ns : List Str} (h1 : ∀ d ∈ ds, tupLen k d = true) (h2 : ds.map fstD = ns.map .str) : fRows k (.tup ds) = (ns.all nameS && rising ns) := by
  have e1 : ds.all (tupLen k) = true := List.all_eq_true.mpr h1
  have e2 : (ds.all fun d => fName (fstD d)) = ns.all nameS := by
    have : (ds.all fun d => fName (fstD d)) = (ds.map fstD).all fName := by rw [List.all_map]; rfl
    rw [this, h2, List.all_map]; rfl
  simp only [fRows, e1, e2, strV_map h2, Bool.true_and]
theorem LnOk.rows {ns wl : List Str} {ls : List D} (L : LnOk ns wl ls) (N : NsG ns) (W : wl.all nameS = true) : fRows 2 (.tup ls) = true ∧ (ls.all fun e => fName (sndD e)) = true := by
  constructor
  · rw [fRows_of (fun d hd => by obtain ⟨n, w, rfl, _⟩ := L.2 d hd; rfl) L.1, N.1.1, N.1.2]; rfl
  · rw [List.all_eq_true]; intro d hd
    obtain ⟨n, w, rfl, hw⟩ := L.2 d hd
    exact List.all_eq_true.mp W w hw
section
variable {na nb wl : List Str} {vs : List Int} {ka kb : D} {ps : List Prt} {outs : List Str} (X : DevOk na nb wl vs ka kb ps outs)
include X
theorem DevOk.fV : fVals (.tup (vs.map .int)) = true := by rcases X.cvs with h | h <;> rw [h] <;> decide +kernel
theorem DevOk.pnames : (ps.map Prt.n).all nameS = true ∧ rising (ps.map Prt.n) = true := by
  obtain ⟨j, hj, e⟩ := X.pn
  rw [e]
  have hc : j = 0 ∨ j = 1 ∨ j = 2 := by omega
  rcases hc with rfl | rfl | rfl <;> exact ⟨by decide +kernel, by decide +kernel⟩
theorem DevOk.fps : fRows 3 (.tup (ps.map Prt.d)) = true := by
  rw [fRows_of (ns := ps.map Prt.n) (fun d hd => by obtain ⟨q, _, rfl⟩ := List.mem_map.mp hd; rfl) (by rw [List.map_map, List.map_map]; rfl), X.pnames.1, X.pnames.2]; rfl
theorem DevOk.fws : fRows 2 (wsD wl (.tup (vs.map .int))) = true := by
  have := fRows_portsL wl (.tup (vs.map .int))
  rw [X.gdw.2.1, X.gdw.2.2] at this
  exact this
theorem DevOk.fdev : fDev (devD (libD ka kb) (wsD wl (.tup (vs.map .int))) ps (.tup (outs.map .str))) = true := by
  have a3 : ((rowsOf (wsD wl (.tup (vs.map .int)))).all fun d => fVals (sndD d)) = true := by
    rw [List.all_eq_true]; intro d hd
    obtain ⟨w, _, rfl⟩ := List.mem_map.mp hd
    exact X.fV
  have a5 : (rowsOf (.tup (ps.map Prt.d))).all prtOk = true := by
    rw [List.all_eq_true]; intro d hd
    obtain ⟨q, hq, rfl⟩ := List.mem_map.mp hd
    obtain ⟨ls, e, hl⟩ := X.pp q hq
    have hk : nameS q.k = true := by rcases hl with ⟨h, _⟩ | ⟨h, _⟩ <;> rw [h] <;> decide +kernel
    show (nameS q.k && fRows 2 q.l && (rowsOf q.l).all fun e => fName (sndD e)) = true
    have L : fRows 2 (.tup ls) = true ∧ (ls.all fun e => fName (sndD e)) = true := by
      rcases hl with ⟨_, h⟩ | ⟨_, h⟩
      · exact h.rows X.nga X.gdw.2.1
      · exact h.rows X.ngb X.gdw.2.1
    rw [hk, e, L.1, Bool.true_and, Bool.true_and]
    exact L.2
  have a6 : fOut (.tup (outs.map .str)) = true := by
    have e1 : (outs.map D.str).all fName = outs.all nameS := by rw [List.all_map]; rfl
    have e2 : (outs.map D.str).map strV = outs := by
      rw [List.map_map]
      conv => rhs; rw [← List.map_id outs]
      rfl
    have h1 : outs.all nameS = true := by
      rw [List.all_eq_true]
      exact fun x hx => List.all_eq_true.mp X.gdw.2.1 x (X.cout.subset hx)
    simp only [fOut, e1, e2, h1, rising_pw X X.gdw.2.2 X.cout ltStr_trans, Bool.and_self]
  simp only [devD, fDev, X.flib, X.fws, a3, X.fps, a5, a6, Bool.and_self]
end
/-! ### what is no kind -/
def yesD : D := .tup [.str "yes"]
def bads0 (P : List D) (c M : D) : List D := [.non, .int 3, .lst [.tup P, c, M], .tup [.tup P, c], .tup [.tup P, c, M, .int 1], .tup [.tup (P.reverse ++ P), c, M], .tup [.tup P, .tup [.str "no"], M], .tup [.lst P, c, M]]
def bads1 (n : Str) : List D := ([.tup [], .tup [.int 1, .int 1], .tup [.int 2, .int 1], .tup [.int 0, .int 100], .lst [.int 0, .int 1], .tup [.int 0, .bl true], .non] : List D).map fun own => .tup [.tup [.tup [.str n, own]], yesD, .tup []]
def bads2 : List D := ([.str "port", .str "abcdefghi", .str "p2", .str "", .int 3, .non] : List D).map fun own => .tup [.tup [.tup [own, .tup [.int 0]]], yesD, .tup []]
def bads3 (P : List D) (c : D) : List D := ([(.str "bad", .int 0), (.str "bad", .int 10), (.str "bad", .bl true), (.str "bad", .non), (.str "well", .int 1), (.str "if", .int 1)] : List (D × D)).map fun own => .tup [.tup P, c, .tup [.tup [own.1, own.2, yesD]]]
def bads4 (P : List D) (c : D) : List D := [.tup [.tup P, c, .tup [.tup [.str "odd", .int 1, yesD], .tup [.str "bad", .int 1, yesD]]]]
theorem fKind_a {a c ms : D} (h : fRows 2 a = false) : fKind (.tup [a, c, ms]) = false := by simp only [fKind, h, Bool.false_and]
theorem fKind_m {a c ms : D} (h : fRows 3 ms = false) : fKind (.tup [a, c, ms]) = false := by simp only [fKind, h, Bool.false_and, Bool.and_false]
theorem fKind_v {a c ms : D} (h : ((rowsOf a).all fun d => fVals (sndD d)) = false) : fKind (.tup [a, c, ms]) = false := by simp only [fKind, h, Bool.false_and, Bool.and_false]
theorem fKind_c {a c ms : D} (h : fC (PS (namesD a)) 8 c = false) : fKind (.tup [a, c, ms]) = false := by simp only [fKind, h, Bool.false_and, Bool.and_false]
theorem fKind_o {a c ms : D} (h : ((rowsOf ms).all fun d => costOk (sndD d) && fC (PS (namesD a)) 8 (thdD d)) = false) : fKind (.tup [a, c, ms]) = false := by simp only [fKind, h, Bool.false_and, Bool.and_false]
theorem bads_all {ns : List Str} {V c M : D} {n : Str} (N : NsG ns) : ∀ d ∈ bads0 (portsL ns V) c M ++ bads1 n ++ bads2 ++ bads3 (portsL ns V) c ++ bads4 (portsL ns V) c, fKind d = false := by
  intro d hd
  simp only [List.mem_append] at hd
  rcases hd with (((hd | hd) | hd) | hd) | hd
  · simp only [bads0, List.mem_cons, List.not_mem_nil, or_false] at hd
    rcases hd with rfl | rfl | rfl | rfl | rfl | rfl | rfl | rfl
    · rfl
    · rfl
    · rfl
    · rfl
    · rfl
    · refine fKind_a ?_
      have e : (portsL ns V).reverse ++ portsL ns V = portsL (ns.reverse ++ ns) V := by simp [portsL]
      rw [e, fRows_portsL, N.2.1, Bool.and_false]
    · exact fKind_c (by
        have : (("no" : Str) == ("yes" : Str)) = false := by simp
        simp [fC])
    · exact fKind_a rfl
  · obtain ⟨o, ho, rfl⟩ := List.mem_map.mp hd
    refine fKind_v ?_
    show (fVals o && true) = false
    rw [Bool.and_true]
    have : ∀ o ∈ ([.tup [], .tup [.int 1, .int 1], .tup [.int 2, .int 1], .tup [.int 0, .int 100], .lst [.int 0, .int 1], .tup [.int 0, .bl true], .non] : List D), fVals o = false := by decide +kernel
    exact this o ho
  · obtain ⟨o, ho, rfl⟩ := List.mem_map.mp hd
    refine fKind_a ?_
    have : ∀ o ∈ ([.str "port", .str "abcdefghi", .str "p2", .str "", .int 3, .non] : List D), fName o = false := by decide +kernel
    have h := this o ho
    simp only [fRows, List.all_cons, fstD, h, Bool.false_and, Bool.and_false]
  · obtain ⟨o, ho, rfl⟩ := List.mem_map.mp hd
    have : ∀ o ∈ ([(.str "bad", .int 0), (.str "bad", .int 10), (.str "bad", .bl true), (.str "bad", .non), (.str "well", .int 1), (.str "if", .int 1)] : List (D × D)), costOk o.2 = false ∨ fName o.1 = false := by decide +kernel
    rcases this o ho with h | h
    · refine fKind_o ?_
      simp only [rowsOf, List.all_cons, sndD, h, Bool.false_and]
    · refine fKind_m ?_
      simp only [fRows, List.all_cons, fstD, h, Bool.false_and, Bool.and_false]
  · simp only [bads4, List.mem_cons, List.not_mem_nil, or_false] at hd
    subst hd
    exact fKind_m (by decide +kernel)
theorem gbad {ns : List Str} {V c M : D} {n : Str} (N : NsG ns) (gV : gd V = true) (gc : gd c = true) (gM : gd M = true) (gn : gd (.str n) = true) : ∀ d ∈ bads0 (portsL ns V) c M ++ bads1 n ++ bads2 ++ bads3 (portsL ns V) c ++ bads4 (portsL ns V) c, gd d = true := by
  have gP : gd (.tup (portsL ns V)) = true := gd_portsL N.2.2.2.2 (by have := N.2.2.2.1; omega) gV
  have gP2 : gd (.tup ((portsL ns V).reverse ++ portsL ns V)) = true := by
    have e : (portsL ns V).reverse ++ portsL ns V = portsL (ns.reverse ++ ns) V := by simp [portsL]
    rw [e]
    exact gd_portsL (fun x hx => by simp at hx; exact N.2.2.2.2 x hx) (by have := N.2.2.2.1; simp; omega) gV
  have gPl : gd (.lst (portsL ns V)) = true := by rw [gd_tup] at gP; rw [gd_lst]; exact gP
  have gy : gd yesD = true := by decide +kernel
  intro d hd
  simp only [List.mem_append] at hd
  rcases hd with (((hd | hd) | hd) | hd) | hd
  · simp only [bads0, List.mem_cons, List.not_mem_nil, or_false] at hd
    rcases hd with rfl | rfl | rfl | rfl | rfl | rfl | rfl | rfl
    · simp
    · simp
    · have := gd_t3 gP gc gM
      rw [gd_tup] at this; rw [gd_lst]; exact this
    · exact gd_t2 gP gc
    · exact gd_t4 gP gc gM (by simp)
    · exact gd_t3 gP2 gc gM
    · exact gd_t3 gP (by decide +kernel) gM
    · exact gd_t3 gPl gc gM
  · obtain ⟨o, ho, rfl⟩ := List.mem_map.mp hd
    have : ∀ o ∈ ([.tup [], .tup [.int 1, .int 1], .tup [.int 2, .int 1], .tup [.int 0, .int 100], .lst [.int 0, .int 1], .tup [.int 0, .bl true], .non] : List D), gd o = true := by decide +kernel
    exact gd_t3 (gd_t1 (gd_t2 gn (this o ho))) gy (by simp)
  · obtain ⟨o, ho, rfl⟩ := List.mem_map.mp hd
    have : ∀ o ∈ ([.str "port", .str "abcdefghi", .str "p2", .str "", .int 3, .non] : List D), gd o = true := by decide +kernel
    exact gd_t3 (gd_t1 (gd_t2 (this o ho) (by simp))) gy (by simp)
  · obtain ⟨o, ho, rfl⟩ := List.mem_map.mp hd
    have : ∀ o ∈ ([(.str "bad", .int 0), (.str "bad", .int 10), (.str "bad", .bl true), (.str "bad", .non), (.str "well", .int 1), (.str "if", .int 1)] : List (D × D)), gd o.1 = true ∧ gd o.2 = true := by decide +kernel
    exact gd_t3 gP gc (gd_t1 (gd_t3 (this o ho).1 (this o ho).2 gy))
  · simp only [bads4, List.mem_cons, List.not_mem_nil, or_false] at hd
    subst hd
    exact gd_t3 gP gc (by decide +kernel)
end whatfailed_k52_whole_forms_spoilt

namespace whatfailed_k52_whole_forms_spoilt
open PySem Ev
theorem forL_app {src h0 : List D} {f : D → EnvE → HpE → Out} {H : HpE} (E : Option D → EnvE) (g : D → D) (hs : ∀ acc, src.map (look (H ++ [.lst acc])) = h0) :
    ∀ (xs : List D) (acc : List D) (o : Option D), (∀ x ∈ xs, ∀ acc o, acc.length < sz → f x (E o) (H ++ [.lst acc]) = .nx (E (some x)) (H ++ [.lst (acc ++ [g x])])) → acc.length + xs.length ≤ sz →
      ∃ o', forL src h0 f xs (E o) (H ++ [.lst acc]) = .nx (E o') (H ++ [.lst (acc ++ xs.map g)])
  | [], acc, o, hf, hz => ⟨o, by rw [forL]; simp⟩
  | x :: xs, acc, o, hf, hz => by
    simp at hz
    have e := hf x List.mem_cons_self acc o (by omega)
    obtain ⟨o', IH⟩ := forL_app E g hs xs (acc ++ [g x]) (some x) (fun y hy => hf y (List.mem_cons_of_mem _ hy)) (by simp; omega)
    refine ⟨o', ?_⟩
    rw [forL, e]
    simp only [hs, if_true]
    rw [IH]
    simp
def badsL (L : List D) (kd : D) : List D := [.non, .lst L, .tup (L ++ L), .tup [.tup [.str "k", .non]], .tup [.tup [.int 3, kd]], .tup [.tup [.str "if", kd]]]
theorem fLib_r {v : D} (h : fRows 2 v = false) : fLib v = false := by simp only [fLib, h, Bool.false_and]
theorem badsL_no (ka kb kd : D) : ∀ d ∈ badsL [.tup [.str "k", ka], .tup [.str "l", kb]] kd, fLib d = false := by
  intro d hd
  simp only [badsL, List.mem_cons, List.not_mem_nil, or_false] at hd
  rcases hd with rfl | rfl | rfl | rfl | rfl | rfl
  · rfl
  · rfl
  · refine fLib_r ?_
    have := fRows_of (k := 2) (ds := [D.tup [.str "k", ka], .tup [.str "l", kb]] ++ [D.tup [.str "k", ka], .tup [.str "l", kb]]) (ns := ["k", "l", "k", "l"]) (by simp [tupLen]) rfl
    rw [this]; decide +kernel
  · decide +kernel
  · refine fLib_r ?_
    simp [fRows, fstD, fName]
  · refine fLib_r ?_
    have := fRows_of (k := 2) (ds := [D.tup [.str "if", kd]]) (ns := ["if"]) (by simp [tupLen]) rfl
    rw [this]; decide +kernel
def bd0 (L : List D) (ws ps outer : D) : List D := [.tup [.non, ws, ps, outer], .tup [.tup [.tup [.str "k", .non]], ws, ps, outer], .tup [.lst L, ws, ps, outer], .non, .tup [.tup L, ws, ps], .tup [.tup L, ws, ps, outer, .tup []], .lst [.tup L, ws, ps, outer]]
def bd1 (L : List D) (ws ps : D) : List D := ([.lst [.str "a"], .tup [.str "b", .str "a"], .tup [.str "a", .str "a"], .tup [.int 3]] : List D).map fun o => .tup [.tup L, ws, ps, o]
theorem bd_no (L : List D) (ws ps outer : D) : ∀ d ∈ bd0 L ws ps outer ++ bd1 L ws ps, fDev d = false := by
  intro d hd
  simp only [List.mem_append] at hd
  rcases hd with hd | hd
  · simp only [bd0, List.mem_cons, List.not_mem_nil, or_false] at hd
    have e1 : fLib .non = false := rfl
    have e2 : fLib (.tup [.tup [.str "k", .non]]) = false := by decide +kernel
    have e3 : fLib (.lst L) = false := rfl
    rcases hd with rfl | rfl | rfl | rfl | rfl | rfl | rfl
    · simp only [fDev, e1, Bool.false_and]
    · simp only [fDev, e2, Bool.false_and]
    · simp only [fDev, e3, Bool.false_and]
    · rfl
    · rfl
    · rfl
    · rfl
  · obtain ⟨o, ho, rfl⟩ := List.mem_map.mp hd
    have : ∀ o ∈ ([.lst [.str "a"], .tup [.str "b", .str "a"], .tup [.str "a", .str "a"], .tup [.int 3]] : List D), fOut o = false := by decide +kernel
    simp only [fDev, this o ho, Bool.and_false]
theorem gbadsL {L : List D} {kd : D} (hL : L.length ≤ 30) (gL : ∀ d ∈ L, gd d = true) (gk : gd kd = true) : ∀ d ∈ badsL L kd, gd d = true := by
  have g1 : gd (.lst L) = true := by rw [gd_lst, Bool.and_eq_true, decide_eq_true_eq]; exact ⟨by omega, gdL_all.mpr gL⟩
  have g2 : gd (.tup (L ++ L)) = true := by
    rw [gd_tup, Bool.and_eq_true, decide_eq_true_eq]
    exact ⟨by simp; omega, gdL_all.mpr fun d hd => by simp at hd; exact gL d hd⟩
  intro d hd
  simp only [badsL, List.mem_cons, List.not_mem_nil, or_false] at hd
  rcases hd with rfl | rfl | rfl | rfl | rfl | rfl
  · simp
  · exact g1
  · exact g2
  · decide +kernel
  · exact gd_t1 (gd_t2 (by simp) gk)
  · exact gd_t1 (gd_t2 (by decide +kernel) gk)
theorem gbd {L : List D} {ws ps outer : D} (hL : L.length ≤ 30) (gL : ∀ d ∈ L, gd d = true) (gw : gd ws = true) (gp : gd ps = true) (go : gd outer = true) : ∀ d ∈ bd0 L ws ps outer ++ bd1 L ws ps, gd d = true := by
  have g1 : gd (.lst L) = true := by rw [gd_lst, Bool.and_eq_true, decide_eq_true_eq]; exact ⟨by omega, gdL_all.mpr gL⟩
  have g2 : gd (.tup L) = true := by rw [gd_tup, Bool.and_eq_true, decide_eq_true_eq]; exact ⟨by omega, gdL_all.mpr gL⟩
  intro d hd
  simp only [List.mem_append] at hd
  rcases hd with hd | hd
  · simp only [bd0, List.mem_cons, List.not_mem_nil, or_false] at hd
    rcases hd with rfl | rfl | rfl | rfl | rfl | rfl | rfl
    · exact gd_t4 (by simp) gw gp go
    · exact gd_t4 (by decide +kernel) gw gp go
    · exact gd_t4 g1 gw gp go
    · simp
    · exact gd_t3 g2 gw gp
    · simp only [gd_tup] at g2 ⊢
      simp [g2, gw, gp, go]
    · simp only [gd_tup] at g2
      simp [g2, gw, gp, go]
  · obtain ⟨o, ho, rfl⟩ := List.mem_map.mp hd
    have : ∀ o ∈ ([.lst [.str "a"], .tup [.str "b", .str "a"], .tup [.str "a", .str "a"], .tup [.int 3]] : List D), gd o = true := by decide +kernel
    exact gd_t4 g2 gw gp (this o ho)
end whatfailed_k52_whole_forms_spoilt

namespace whatfailed_k52_whole_forms_spoilt
open PySem Ev
abbrev kt (n : Nat) : S := sAt b__law_kinds_told n
abbrev kE (d dev : D) (o2 o3 o4 o5 o6 o7 o8 o9 : Option D) : EnvE := [some d, some dev, o2, o3, o4, o5, o6, o7, o8, o9, none, none, none]
section
variable {m : Nat} {d name V c : D} {ns : List Str} {ms : List D} (dev : D)
theorem kt1 (H : HpE) (hn : ns.length ≤ 3) : exS GG (callF GG fns m) (kt 1) (kE d dev (some name) (some (.tup [.tup (portsL ns V), c, .tup ms])) none none none none none none) H = .nx (kE d dev (some name) (some (.tup [.tup (portsL ns V), c, .tup ms])) (some (.lst (ns.map .str))) none none none none none) H := by
  simp only [kt, sAt, b__law_kinds_told, kE]
  have c1 : evC GG (callF GG fns m) (.comp [10, 11] (.tup [(.name 10), (.name 11)]) .plain (.cons (.op .ix (.cons (.var 3) (.cons (.lit (.int 0)) .nil))) .nil) .nil (.var 10)) [some d, some dev, some name, some (.tup [.tup (portsL ns V), c, .tup ms]), none, none, none, none, none, none, none, none, none] H = .ok (.lst (ns.map .str)) H := by
    have := comp_map (G := GG) (call := callF GG fns m) (env := [some d, some dev, some name, some (.tup [.tup (portsL ns V), c, .tup ms]), none, none, none, none, none, none, none, none, none]) (h := H) (own := [10, 11]) (t := .tup [(.name 10), (.name 11)]) (k := .plain) (it := .cons (.op .ix (.cons (.var 3) (.cons (.lit (.int 0)) .nil))) .nil) (e := .var 10)
      (ds := [.tup (portsL ns V)]) (xs := portsL ns V) fstD (fun x => [some d, some dev, some name, some (.tup [.tup (portsL ns V), c, .tup ms]), none, none, none, none, none, none, some (fstD x), some (sndD x), none]) (by simp) (by simp) (by simp [portsL]; exact Nat.le_trans hn (by decide)) (fun d hd => by
        obtain ⟨n, _, rfl⟩ := List.mem_map.mp hd
        simp [fstD, sndD]) (fun d hd => by simp)
    rw [this]
    simp [portsL, fstD]
  simp [c1]
theorem kt3 (H : HpE) (v : D) (hc : Dat c) : exS GG (callF GG fns m) (kt 3) (kE d dev (some name) (some (.tup [.tup (portsL ns V), c, .tup ms])) (some (.lst (ns.map .str))) (some v) none none none none) H = .nx (kE d dev (some name) (some (.tup [.tup (portsL ns V), c, .tup ms])) (some (.lst (ns.map .str))) (some v) (some (.tup [.tup (portsL ns V), v, .tup ms])) none none none) H := by
  simp only [kt, sAt, b__law_kinds_told, kE]
  simp [sz3]
theorem kt4 (H : HpE) (v : D) {lib ws pp outer : D} (hlib : fLib lib = true) (glib : gd lib = true) (gk : gd (.tup [.tup (portsL ns V), c, .tup ms]) = true) (fk : fKind (.tup [.tup (portsL ns V), c, .tup ms]) = true) (hv : Dat v) (hm : 13 ≤ m) :
    exS GG (callF GG fns m) (kt 4) (kE d (.tup [lib, ws, pp, outer]) (some name) (some (.tup [.tup (portsL ns V), c, .tup ms])) (some (.lst (ns.map .str))) (some v) (some (.tup [.tup (portsL ns V), v, .tup ms])) none none none) H =
      .nx (kE d (.tup [lib, ws, pp, outer]) (some name) (some (.tup [.tup (portsL ns V), c, .tup ms])) (some (.lst (ns.map .str))) (some v) (some (.tup [.tup (portsL ns V), v, .tup ms])) none none none) H := by
  simp only [kt, sAt, b__law_kinds_told, kE]
  obtain ⟨f1, f2⟩ := kindform m H (a := .tup (portsL ns V)) (c := c) (c' := v) (ms := .tup ms) (by omega) gk fk hv
  have ga := gd_mem gk (.tup (portsL ns V)) (by simp)
  have gc := gd_mem gk c (by simp)
  have gm := gd_mem gk (.tup ms) (by simp)
  have i1 := iskindD m H (v := .tup [.tup (portsL ns V), v, .tup ms]) (by omega) (by simp [hv]; exact ⟨by simpa using gd_dat ga, by simpa using gd_dat gm⟩) (fun a c' ms' e => by
    simp at e
    obtain ⟨rfl, _, rfl⟩ := e
    exact ⟨ga, gm⟩)
  rw [f2] at i1
  have i2 := iskind m H (by omega) gk
  rw [fk] at i2
  have i3 := islib m H (by omega) glib
  rw [hlib] at i3
  have lk := likeB m H (fC (PS (namesD (.tup (portsL ns V)))) 8 v) (fC (PS (namesD (.tup (portsL ns V)))) 8 v) (by omega)
  simp at lk
  simp [f1, i1, lk, i2, i3]
theorem kt5 (H : HpE) (o5 o6 : Option D) (n0 : Str) (hn : ns.head? = some n0) : exS GG (callF GG fns m) (kt 5) (kE d dev (some name) (some (.tup [.tup (portsL ns V), c, .tup ms])) (some (.lst (ns.map .str))) o5 o6 none none none) H = .nx (kE d dev (some name) (some (.tup [.tup (portsL ns V), c, .tup ms])) (some (.lst (ns.map .str))) o5 o6 (some (.str n0)) none none) H := by
  simp only [kt, sAt, b__law_kinds_told, kE]
  cases ns with
  | nil => simp at hn
  | cons a r =>
    simp at hn
    subst hn
    simp [ixN]
end
end whatfailed_k52_whole_forms_spoilt

namespace whatfailed_k52_whole_forms_spoilt
open PySem Ev
theorem sz7 : 7 ≤ sz := by decide
theorem sz8 : 8 ≤ sz := by decide
section
variable {m : Nat} {d name V c : D} {ns : List Str} {ms : List D} (dev : D)
theorem kt6 (H : HpE) (o4 o5 o6 o7 : Option D) (hn : ns.length ≤ 3) (hc : Dat c) : exS GG (callF GG fns m) (kt 6) (kE d dev (some name) (some (.tup [.tup (portsL ns V), c, .tup ms])) o4 o5 o6 o7 none none) H =
    .nx (kE d dev (some name) (some (.tup [.tup (portsL ns V), c, .tup ms])) o4 o5 o6 o7 (some (.ref H.length)) none) (H ++ [.lst (bads0 (portsL ns V) c (.tup ms))]) := by
  simp only [kt, sAt, b__law_kinds_told, kE]
  have z : (portsL ns V).length + (portsL ns V).length ≤ sz := by simp [portsL]; exact Nat.le_trans (show ns.length + ns.length ≤ 6 by omega) (by decide)
  have z31 : 3 + 1 ≤ sz := by decide
  have s2 : oSl (.tup [.tup (portsL ns V), c, .tup ms]) none (some 2) = some (.tup [.tup (portsL ns V), c]) := rfl
  have r1 : oRev (.tup (portsL ns V)) = some (.tup (portsL ns V).reverse) := rfl
  simp [oAdd, sz1, sz3, sz8, z, z31, s2, r1, bads0]
def ktB (n : Nat) : SL := match kt n with
  | .for _ _ _ b => b
  | _ => .nil
def ktI (n : Nat) : CL := match kt n with
  | .for _ _ it _ => it
  | _ => .nil
theorem kt_for (n : Nat) (hn : n = 7 ∨ n = 8 ∨ n = 9) : kt n = .for (.name 9) .plain (ktI n) (ktB n) := by
  rcases hn with rfl | rfl | rfl <;> rfl
theorem ktL (n : Nat) (hn : n = 7 ∨ n = 8 ∨ n = 9) (H : HpE) (xs acc : List D) (g : D → D) (o3 o4 o5 o6 o7 o9 : Option D) (ev : ∀ (acc : List D) (o9 : Option D), evL GG (callF GG fns m) (ktI n) (kE d dev (some name) o3 o4 o5 o6 o7 (some (.ref H.length)) o9) (H ++ [.lst acc]) = .ok [.tup xs] (H ++ [.lst acc]))
    (hf : ∀ x ∈ xs, ∀ (acc : List D) (o9 : Option D), acc.length < sz → exL GG (callF GG fns m) (ktB n) (kE d dev (some name) o3 o4 o5 o6 o7 (some (.ref H.length)) (some x)) (H ++ [.lst acc]) = .nx (kE d dev (some name) o3 o4 o5 o6 o7 (some (.ref H.length)) (some x)) (H ++ [.lst (acc ++ [g x])])) (hz : acc.length + xs.length ≤ sz) :
    ∃ o', exS GG (callF GG fns m) (kt n) (kE d dev (some name) o3 o4 o5 o6 o7 (some (.ref H.length)) o9) (H ++ [.lst acc]) = .nx (kE d dev (some name) o3 o4 o5 o6 o7 (some (.ref H.length)) o') (H ++ [.lst (acc ++ xs.map g)]) := by
  obtain ⟨o', e⟩ := forL_app (src := [.tup xs]) (h0 := [.tup xs]) (H := H) (f := fun x env h => (ofO (asgNT (.name 9) x env) h).out fun env' h => exL GG (callF GG fns m) (ktB n) env' h) (fun o => kE d dev (some name) o3 o4 o5 o6 o7 (some (.ref H.length)) o) g (fun _ => by simp) xs acc o9 (fun x hx acc o hz => by
    have := hf x hx acc o hz
    simp [kE] at this
    simp [kE, this]) hz
  refine ⟨o', ?_⟩
  rw [kt_for n hn, exS_forS, ev]
  simp only [out_okS, List.map_cons, List.map_nil, look_tup, items_plain, asIter_tup, ofO_some]
  exact e
theorem sz255 (acc : List D) (k : Nat) (h : acc.length ≤ 100) (hk : k ≤ 100) : acc.length + k ≤ sz := Nat.le_trans (show acc.length + k ≤ 200 by omega) (by decide)
theorem kt7 (H : HpE) (acc : List D) (o3 o4 o5 o6 : Option D) (n0 : Str) (ha : acc.length ≤ 100) : ∃ o', exS GG (callF GG fns m) (kt 7) (kE d dev (some name) o3 o4 o5 o6 (some (.str n0)) (some (.ref H.length)) none) (H ++ [.lst acc]) =
    .nx (kE d dev (some name) o3 o4 o5 o6 (some (.str n0)) (some (.ref H.length)) o') (H ++ [.lst (acc ++ bads1 n0)]) := by
  refine ktL dev 7 (by simp) H _ acc _ o3 o4 o5 o6 (some (.str n0)) none (fun acc o9 => ?_) (fun x hx acc o9 hz => ?_) (sz255 _ _ ha (by simp))
  · simp only [ktI, kt, sAt, b__law_kinds_told, kE]
    simp [sz0, sz2, sz7]
  · simp only [ktB, kt, sAt, b__law_kinds_told, kE]
    simp [sz0, sz1, sz2, sz3, look_last, app_last H acc _ hz, yesD]
theorem kt8 (H : HpE) (acc : List D) (o3 o4 o5 o6 o7 o9 : Option D) (ha : acc.length ≤ 100) : ∃ o', exS GG (callF GG fns m) (kt 8) (kE d dev (some name) o3 o4 o5 o6 o7 (some (.ref H.length)) o9) (H ++ [.lst acc]) =
    .nx (kE d dev (some name) o3 o4 o5 o6 o7 (some (.ref H.length)) o') (H ++ [.lst (acc ++ bads2)]) := by
  refine ktL dev 8 (by simp) H _ acc _ o3 o4 o5 o6 o7 o9 (fun acc o9 => ?_) (fun x hx acc o9 hz => ?_) (sz255 _ _ ha (by simp))
  · simp only [ktI, kt, sAt, b__law_kinds_told, kE]
    simp [sz6]
  · simp only [ktB, kt, sAt, b__law_kinds_told, kE]
    simp [sz0, sz1, sz2, sz3, look_last, app_last H acc _ hz, yesD]
theorem kt9 (H : HpE) (acc : List D) (o4 o5 o6 o7 o9 : Option D) (hc : Dat c) (ha : acc.length ≤ 100) : ∃ o', exS GG (callF GG fns m) (kt 9) (kE d dev (some name) (some (.tup [.tup (portsL ns V), c, .tup ms])) o4 o5 o6 o7 (some (.ref H.length)) o9) (H ++ [.lst acc]) =
    .nx (kE d dev (some name) (some (.tup [.tup (portsL ns V), c, .tup ms])) o4 o5 o6 o7 (some (.ref H.length)) o') (H ++ [.lst (acc ++ bads3 (portsL ns V) c)]) := by
  have e : bads3 (portsL ns V) c = (([(.str "bad", .int 0), (.str "bad", .int 10), (.str "bad", .bl true), (.str "bad", .non), (.str "well", .int 1), (.str "if", .int 1)] : List (D × D)).map fun p => D.tup [p.1, p.2]).map fun x => .tup [.tup (portsL ns V), c, .tup [.tup [fstD x, sndD x, yesD]]] := by
    rw [List.map_map]; rfl
  rw [e]
  refine ktL dev 9 (by simp) H _ acc _ (some (.tup [.tup (portsL ns V), c, .tup ms])) o4 o5 o6 o7 o9 (fun acc o9 => ?_) (fun x hx acc o9 hz => ?_) (sz255 _ _ ha (by simp))
  · simp only [ktI, kt, sAt, b__law_kinds_told, kE]
    simp [sz2, sz6]
  · obtain ⟨q, hq, rfl⟩ := List.mem_map.mp hx
    simp only [ktB, kt, sAt, b__law_kinds_told, kE]
    simp [sz0, sz1, sz2, sz3, look_last, app_last H acc _ hz, yesD, fstD, sndD]
theorem kt10 (H : HpE) (acc : List D) (o4 o5 o6 o7 o9 : Option D) (hc : Dat c) (ha : acc.length ≤ 100) : exS GG (callF GG fns m) (kt 10) (kE d dev (some name) (some (.tup [.tup (portsL ns V), c, .tup ms])) o4 o5 o6 o7 (some (.ref H.length)) o9) (H ++ [.lst acc]) =
    .nx (kE d dev (some name) (some (.tup [.tup (portsL ns V), c, .tup ms])) o4 o5 o6 o7 (some (.ref H.length)) o9) (H ++ [.lst (acc ++ bads4 (portsL ns V) c)]) := by
  simp only [kt, sAt, b__law_kinds_told, kE]
  have hz : acc.length < sz := Nat.lt_of_le_of_lt ha (by decide)
  simp [sz0, sz1, sz2, sz3, look_last, app_last H acc _ hz, yesD, bads4]
theorem any_false {α : Type} (xs : List α) : oAny (.lst (xs.map fun _ => D.bl false)) = some (.bl false) := by
  rw [oAny_map (fun _ => false) xs]; simp
theorem kt11 (H : HpE) (B : List D) (L : List D) (ws pp outer kd : D) (o4 o5 o6 o7 o9 : Option D) (hB : ∀ d ∈ B, gd d = true ∧ fKind d = false) (hBl : B.length ≤ 100) (hL : ∀ d ∈ badsL L kd, gd d = true ∧ fLib d = false) (hLl : L.length ≤ 30) (hm : 12 ≤ m) (hk : look H kd = kd) (hk2 : ∀ H, look H kd = kd) :
    exS GG (callF GG fns m) (kt 11) (kE d (.tup [.tup L, ws, pp, outer]) (some name) (some kd) o4 o5 o6 o7 (some (.ref H.length)) o9) (H ++ [.lst B]) =
    .nx (kE d (.tup [.tup L, ws, pp, outer]) (some name) (some kd) o4 o5 o6 o7 (some (.ref H.length)) o9) (H ++ [.lst B]) := by
  simp only [kt, sAt, b__law_kinds_told, kE]
  have c1 : evC GG (callF GG fns m) (.comp [12] (.name 12) .plain (.cons (.var 8) .nil) .nil (.op (.notB false) (.cons (.call 19 (.cons (.var 12) .nil)) .nil))) [some d, some (.tup [.tup L, ws, pp, outer]), some name, some kd, o4, o5, o6, o7, some (.ref H.length), o9, none, none, none] (H ++ [.lst B]) = .ok (.lst (B.map fun _ => .bl false)) (H ++ [.lst B]) := by
    refine comp_map (ds := [.ref H.length]) (env' := fun x => [some d, some (.tup [.tup L, ws, pp, outer]), some name, some kd, o4, o5, o6, o7, some (.ref H.length), o9, none, none, some x]) _ (by simp) (by simp [look_last]) (Nat.le_trans hBl (by decide)) (fun x hx => by simp) (fun x hx => ?_)
    have := iskind m (H ++ [.lst B]) (by omega) (hB x hx).1
    rw [(hB x hx).2] at this
    simp [this]
  have zL : L.length + L.length ≤ sz := Nat.le_trans (show L.length + L.length ≤ 60 by omega) (by decide)
  have c2 : evC GG (callF GG fns m) (.comp [12] (.name 12) .plain (.cons (.op .mkTup (.cons (.lit .non) (.cons (.op .listOf (.cons (.op .ix (.cons (.var 1) (.cons (.lit (.int 0)) .nil))) .nil)) (.cons (.op .add (.cons (.op .ix (.cons (.var 1) (.cons (.lit (.int 0)) .nil))) (.cons (.op .ix (.cons (.var 1) (.cons (.lit (.int 0)) .nil))) .nil))) (.cons (.op .mkTup (.cons (.op .mkTup (.cons (.lit (.str "k")) (.cons (.lit .non) .nil))) .nil)) (.cons (.op .mkTup (.cons (.op .mkTup (.cons (.lit (.int 3)) (.cons (.var 3) .nil))) .nil)) (.cons (.op .mkTup (.cons (.op .mkTup (.cons (.lit (.str "if")) (.cons (.var 3) .nil))) .nil)) .nil))))))) .nil) .nil (.op (.notB false) (.cons (.call 21 (.cons (.var 12) .nil)) .nil)))
      [some d, some (.tup [.tup L, ws, pp, outer]), some name, some kd, o4, o5, o6, o7, some (.ref H.length), o9, none, none, none] (H ++ [.lst B]) = .ok (.lst ((badsL L kd).map fun _ => .bl false)) (H ++ [.lst B]) := by
    refine comp_map (ds := [.tup (badsL L kd)]) (env' := fun x => [some d, some (.tup [.tup L, ws, pp, outer]), some name, some kd, o4, o5, o6, o7, some (.ref H.length), o9, none, none, some x]) _ ?_ (by simp) (by simp [badsL]; decide) (fun x hx => by simp) (fun x hx => ?_)
    · simp [sz1, sz2, sz6, oAdd, zL, badsL]
    · have := islib m (H ++ [.lst B]) (by omega) (hL x hx).1
      rw [(hL x hx).2] at this
      simp [this]
  simp only [exS_iteS, evC_orS, evC_opS, evL_consS, c1, c2, bind_okS, evL_nilS, op_anyS, look_lst, any_false, rs_some, truth_bl, sel_f, exL_nilS, out_okS]
theorem kt12 (H : HpE) (L : List D) (ws pp outer : D) (o2 o3 o4 o5 o6 o7 o8 o9 : Option D) (hL : ∀ H, look H (.tup L) = .tup L) : exS GG (callF GG fns m) (kt 12) (kE d (.tup [.tup L, ws, pp, outer]) o2 o3 o4 o5 o6 o7 o8 o9) H =
    .nx (kE d (.tup [.tup L, ws, pp, outer]) o2 o3 o4 o5 o6 o7 (some (.ref H.length)) o9) (H ++ [.lst (bd0 L ws pp outer)]) := by
  simp only [kt, sAt, b__law_kinds_told, kE]
  have s1 : oSl (.tup [.tup L, ws, pp, outer]) (some 1) none = some (.tup [ws, pp, outer]) := rfl
  have s3 : oSl (.tup [.tup L, ws, pp, outer]) none (some 3) = some (.tup [.tup L, ws, pp]) := rfl
  have z : 1 + 3 ≤ sz := by decide
  have z2 : 4 + 1 ≤ sz := by decide
  simp [sz0, sz1, sz2, sz7, oAdd, s1, s3, z, z2, bd0]
theorem kt13 (H : HpE) (L : List D) (ws pp outer : D) (o2 o3 o4 o5 o6 o7 o9 : Option D) (A : List D) (hA : A.length ≤ 100) : exS GG (callF GG fns m) (kt 13) (kE d (.tup [.tup L, ws, pp, outer]) o2 o3 o4 o5 o6 o7 (some (.ref H.length)) o9) (H ++ [.lst A]) =
    .nx (kE d (.tup [.tup L, ws, pp, outer]) o2 o3 o4 o5 o6 o7 (some (.lst (A ++ bd1 L ws pp))) o9) (H ++ [.lst A]) := by
  simp only [kt, sAt, b__law_kinds_told, kE]
  have s3 : oSl (.tup [.tup L, ws, pp, outer]) none (some 3) = some (.tup [.tup L, ws, pp]) := rfl
  have z : 3 + 1 ≤ sz := by decide
  have z2 : A.length + 4 ≤ sz := sz255 A 4 hA (by omega)
  simp [sz0, sz1, sz2, sz4, oAdd, s3, z, z2, bd1, look_last]
theorem kt14 (H : HpE) (dv : D) (o2 o3 o4 o5 o6 o7 o9 : Option D) (A : List D) (hA : A.length ≤ 100) (hd : gd dv = true) (fd : fDev dv = true) (hb : ∀ d ∈ A, gd d = true ∧ fDev d = false) (hm : 13 ≤ m) : exS GG (callF GG fns m) (kt 14) (kE d dv o2 o3 o4 o5 o6 o7 (some (.lst A)) o9) H = .ret (.bl true) H := by
  simp only [kt, sAt, b__law_kinds_told, kE]
  have i1 := isdevice m H hm hd
  rw [fd] at i1
  have c1 : evC GG (callF GG fns m) (.comp [12] (.name 12) .plain (.cons (.var 8) .nil) .nil (.op (.notB false) (.cons (.call 22 (.cons (.var 12) .nil)) .nil))) [some d, some dv, o2, o3, o4, o5, o6, o7, some (.lst A), o9, none, none, none] H = .ok (.lst (A.map fun _ => .bl false)) H := by
    refine comp_map (ds := [.lst A]) (env' := fun x => [some d, some dv, o2, o3, o4, o5, o6, o7, some (.lst A), o9, none, none, some x]) _ (by simp) (by simp) (Nat.le_trans hA (by decide)) (fun x hx => by simp) (fun x hx => ?_)
    have := isdevice m H hm (hb x hx).1
    rw [(hb x hx).2] at this
    simp [this]
  simp [i1, c1, any_false]
end
end whatfailed_k52_whole_forms_spoilt

namespace whatfailed_k52_whole_forms_spoilt
open PySem Ev
theorem kt_eq : b__law_kinds_told = .cons (kt 0) (.cons (kt 1) (.cons (kt 2) (.cons (kt 3) (.cons (kt 4) (.cons (kt 5) (.cons (kt 6) (.cons (kt 7) (.cons (kt 8) (.cons (kt 9) (.cons (kt 10) (.cons (kt 11) (.cons (kt 12) (.cons (kt 13) (.cons (kt 14) .nil)))))))))))))) := rfl
section
variable {h : HpE} {p : Nat} {row : List Int} (hp : p < h.length) (hr : 0 < row.length ∧ row.length < 1000)
include hp hr
theorem kt0 (m a : Nat) (ka kb ws pp outer : D) (hm : 0 < m) (ha : a + 1 ≤ TOP) (hka : ∀ H, look H ka = ka) (hkb : ∀ H, look H kb = kb) : ∃ kn kd, ((kn = ("k" : Str) ∧ kd = ka) ∨ (kn = ("l" : Str) ∧ kd = kb)) ∧
    exS GG (callF GG fns m) (kt 0) (kE (.ref p) (.tup [.tup [.tup [.str "k", ka], .tup [.str "l", kb]], ws, pp, outer]) none none none none none none none none) (h.set p (dr row a)) =
    .nx (kE (.ref p) (.tup [.tup [.tup [.str "k", ka], .tup [.str "l", kb]], ws, pp, outer]) (some (.str kn)) (some kd) none none none none none none) (h.set p (dr row (a + 1))) := by
  obtain ⟨r, hr1, e1⟩ := pickN hp hr m (by omega) (a := a) (n := 2) (by omega) (by omega)
  have hc : r = 0 ∨ r = 1 := by omega
  rcases hc with rfl | rfl
  · refine ⟨"k", ka, .inl ⟨rfl, rfl⟩, ?_⟩
    simp only [kt, sAt, b__law_kinds_told, kE]
    simp at e1
    simp [e1]
  · refine ⟨"l", kb, .inr ⟨rfl, rfl⟩, ?_⟩
    simp only [kt, sAt, b__law_kinds_told, kE]
    simp at e1
    simp [e1]
theorem kt2 (m a : Nat) (dev : D) {ns : List Str} (o2 o3 : Option D) (hm : 13 ≤ m) (ha : a + 200 ≤ TOP) (hn : 0 < ns.length) (ok : ∀ x ∈ ns, PyData.strOk x = true) : ∃ v a', a ≤ a' ∧ a' ≤ a + 120 ∧ Dat v ∧
    exS GG (callF GG fns m) (kt 2) (kE (.ref p) dev o2 o3 (some (.lst (ns.map .str))) none none none none none) (h.set p (dr row a)) = .nx (kE (.ref p) dev o2 o3 (some (.lst (ns.map .str))) (some v) none none none none) (h.set p (dr row a')) := by
  obtain ⟨r, hr1, e1⟩ := pickN hp hr m (by omega) (a := a) (n := 9) (by omega) (by omega)
  obtain ⟨_, v, a', b1, b2, b3, b4⟩ := grown hp hr (px_lst hn ok) (1 + r) m (a + 1) (by omega) (by omega)
  refine ⟨v, a', by omega, by omega, sm_dat b3.1, ?_⟩
  simp only [kt, sAt, b__law_kinds_told, kE]
  simp at e1 b4
  simp [e1, b4]
theorem kinds_kd (hcl : Cl h) {ka kb kd ws pp outer : D} {ns : List Str} {vs : List Int} (hvs : vs = [0, 1] ∨ vs = [0, 1, 2]) (N : NsG ns) (K : KindOk ns (.tup (vs.map .int)) kd) (name : D) (m a : Nat) (hm : 13 ≤ m) (ha : a + 200 ≤ TOP)
    (gdev : gd (.tup [.tup [.tup [.str "k", ka], .tup [.str "l", kb]], ws, pp, outer]) = true) (fdev : fDev (.tup [.tup [.tup [.str "k", ka], .tup [.str "l", kb]], ws, pp, outer]) = true) (flib : fLib (libD ka kb) = true) :
    ∃ a', a ≤ a' ∧ a' ≤ a + 120 ∧ endC h.length (exL GG (callF GG fns m) (.cons (kt 1) (.cons (kt 2) (.cons (kt 3) (.cons (kt 4) (.cons (kt 5) (.cons (kt 6) (.cons (kt 7) (.cons (kt 8) (.cons (kt 9) (.cons (kt 10) (.cons (kt 11) (.cons (kt 12) (.cons (kt 13) (.cons (kt 14) .nil)))))))))))))) (kE (.ref p) (.tup [.tup [.tup [.str "k", ka], .tup [.str "l", kb]], ws, pp, outer]) (some name) (some kd) none none none none none none) (h.set p (dr row a))) = .ok (.bl true) (h.set p (dr row a')) := by
  have hvl : vs.length ≤ 60 := by rcases hvs with h | h <;> subst h <;> simp
  have gV := gd_vs hvl
  have gk : gd kd = true := K.gd N.2.2.2.2 (by have := N.2.2.2.1; omega) gV
  have fk : fKind kd = true := K.ok hvs N
  obtain ⟨c, ms, k, rfl, h1, h2, h3⟩ := K
  have gc := gd_mem gk c (by simp)
  have gM := gd_mem gk (.tup ms) (by simp)
  have glib := gd_mem gdev (.tup [.tup [.str "k", ka], .tup [.str "l", kb]]) (by simp)
  have gws := gd_mem gdev ws (by simp)
  have gpp := gd_mem gdev pp (by simp)
  have gou := gd_mem gdev outer (by simp)
  have gL := gd_mem glib
  have ok' : ∀ x ∈ ns, PyData.strOk x = true := fun x hx => by
    have := N.2.2.2.2 x hx
    rw [gd_str, Bool.and_eq_true] at this
    exact this.1
  obtain ⟨v, a', b1, b2, dv, e2⟩ := kt2 hp hr m a (.tup [.tup [.tup [.str "k", ka], .tup [.str "l", kb]], ws, pp, outer]) (ns := ns) (some name) (some (.tup [.tup (portsL ns (.tup (vs.map .int))), c, .tup ms])) hm ha N.2.2.1 ok'
  refine ⟨a', by omega, by omega, ?_⟩
  obtain ⟨n0, hn0, hn0m⟩ : ∃ n0, ns.head? = some n0 ∧ n0 ∈ ns := by
    cases hns : ns with
    | nil => rw [hns] at N; simp [NsG] at N
    | cons a r => exact ⟨a, rfl, by simp⟩
  have gn := N.2.2.2.2 n0 hn0m
  rw [exL_consT, kt1 _ _ N.2.2.2.1, then_nx, exL_consT, e2, then_nx, exL_consT, kt3 _ _ _ (gd_dat gc), then_nx, exL_consT, kt4 (lib := .tup [.tup [.str "k", ka], .tup [.str "l", kb]]) _ _ flib glib gk fk dv hm, then_nx, exL_consT, kt5 _ _ _ _ n0 hn0, then_nx, exL_consT, kt6 _ _ _ _ _ _ N.2.2.2.1 (gd_dat gc), then_nx, exL_consT]
  have lset : (h.set p (dr row a')).length = h.length := List.length_set
  obtain ⟨o7, e7⟩ := kt7 (m := m) (d := .ref p) (name := name) (.tup [.tup [.tup [.str "k", ka], .tup [.str "l", kb]], ws, pp, outer]) (h.set p (dr row a')) (bads0 (portsL ns (.tup (vs.map .int))) c (.tup ms)) (some (.tup [.tup (portsL ns (.tup (vs.map .int))), c, .tup ms])) (some (.lst (ns.map .str))) (some v) (some (.tup [.tup (portsL ns (.tup (vs.map .int))), v, .tup ms])) n0 (by simp [bads0])
  rw [e7, then_nx, exL_consT]
  obtain ⟨o8, e8⟩ := kt8 (m := m) (d := .ref p) (name := name) (.tup [.tup [.tup [.str "k", ka], .tup [.str "l", kb]], ws, pp, outer]) (h.set p (dr row a')) (bads0 (portsL ns (.tup (vs.map .int))) c (.tup ms) ++ bads1 n0) (some (.tup [.tup (portsL ns (.tup (vs.map .int))), c, .tup ms])) (some (.lst (ns.map .str))) (some v) (some (.tup [.tup (portsL ns (.tup (vs.map .int))), v, .tup ms])) (some (.str n0)) o7 (by simp [bads0, bads1])
  rw [e8, then_nx, exL_consT]
  obtain ⟨o9, e9⟩ := kt9 (m := m) (d := .ref p) (name := name) (V := .tup (vs.map .int)) (c := c) (ns := ns) (ms := ms) (.tup [.tup [.tup [.str "k", ka], .tup [.str "l", kb]], ws, pp, outer]) (h.set p (dr row a')) (bads0 (portsL ns (.tup (vs.map .int))) c (.tup ms) ++ bads1 n0 ++ bads2) (some (.lst (ns.map .str))) (some v) (some (.tup [.tup (portsL ns (.tup (vs.map .int))), v, .tup ms])) (some (.str n0)) o8 (gd_dat gc) (by simp [bads0, bads1, bads2])
  rw [e9, then_nx, exL_consT, kt10 _ _ _ _ _ _ _ _ (gd_dat gc) (by simp [bads0, bads1, bads2, bads3]), then_nx, exL_consT]
  rw [kt11 _ _ _ _ _ _ _ _ _ _ _ _ (fun d hd => ⟨gbad N gV gc gM gn d hd, bads_all N d hd⟩) (by simp [bads0, bads1, bads2, bads3, bads4]) (fun d hd => ⟨gbadsL (by simp) gL gk d hd, badsL_no ka kb _ d hd⟩) (by simp) (by omega) rfl (fun _ => rfl), then_nx, exL_consT]
  rw [kt12 _ _ _ _ _ _ _ _ _ _ _ _ _ (fun _ => rfl), then_nx, exL_consT, kt13 _ _ _ _ _ _ _ _ _ _ _ _ _ (by simp [bd0]), then_nx, exL_consT]
  rw [kt14 _ _ _ _ _ _ _ _ _ _ (by simp [bd0, bd1]) gdev fdev (fun d hd => ⟨gbd (by simp) gL gws gpp gou d hd, bd_no _ _ _ _ d hd⟩) hm, then_ret]
  show fin _ _ _ = _
  have := fin_cl (n0 := h.length) (h := h.set p (dr row a')) (d := .bl true) (t := [.lst (bads0 (portsL ns (.tup (vs.map .int))) c (.tup ms) ++ bads1 n0 ++ bads2 ++ bads3 (portsL ns (.tup (vs.map .int))) c ++ bads4 (portsL ns (.tup (vs.map .int))) c), .lst (bd0 [.tup [.str "k", ka], .tup [.str "l", kb]] ws pp outer)]) lset (hcl.set (c := dr row a') (by simp [dr, drL, cellBelow, belowL_all])) (by simp)
  rw [← this]
  simp
end
section
variable {h : HpE} {p : Nat} {row : List Int} (hp : p < h.length) (hr : 0 < row.length ∧ row.length < 1000)
variable {na nb wl : List Str} {vs : List Int} {ka kb : D} {ps : List Prt} {outs : List Str} (X : DevOk na nb wl vs ka kb ps outs)
include hp hr X
theorem kindstold (hcl : Cl h) (m a : Nat) (hm : 14 ≤ m) (ha : a + 300 ≤ TOP) : ∃ a', a ≤ a' ∧ a' ≤ a + 150 ∧ callF GG fns m 5 [.ref p, devD (libD ka kb) (wsD wl (.tup (vs.map .int))) ps (.tup (outs.map .str))] (h.set p (dr row a)) = .ok (.bl true) (h.set p (dr row a')) := by
  have gdev := X.gdev
  have fdev := X.fdev
  have lk := fun H => (gd_dat X.gka).look H
  have lk2 := fun H => (gd_dat X.gkb).look H
  obtain ⟨kn, kd, hk, e0⟩ := kt0 hp hr (m - 1) a ka kb (wsD wl (.tup (vs.map .int))) (.tup (ps.map Prt.d)) (.tup (outs.map .str)) (by omega) (by omega) lk lk2
  have key : ∃ a', a + 1 ≤ a' ∧ a' ≤ a + 1 + 120 ∧ endC h.length (exL GG (callF GG fns (m - 1)) (.cons (kt 1) (.cons (kt 2) (.cons (kt 3) (.cons (kt 4) (.cons (kt 5) (.cons (kt 6) (.cons (kt 7) (.cons (kt 8) (.cons (kt 9) (.cons (kt 10) (.cons (kt 11) (.cons (kt 12) (.cons (kt 13) (.cons (kt 14) .nil)))))))))))))) (kE (.ref p) (.tup [.tup [.tup [.str "k", ka], .tup [.str "l", kb]], wsD wl (.tup (vs.map .int)), .tup (ps.map Prt.d), .tup (outs.map .str)]) (some (.str kn)) (some kd) none none none none none none) (h.set p (dr row (a + 1)))) = .ok (.bl true) (h.set p (dr row a')) := by
    rcases hk with ⟨rfl, rfl⟩ | ⟨rfl, rfl⟩
    · exact kinds_kd hp hr hcl X.cvs X.nga X.cka (.str "k") (m - 1) (a + 1) (by omega) (by omega) gdev fdev X.flib
    · exact kinds_kd hp hr hcl X.cvs X.ngb X.ckb (.str "l") (m - 1) (a + 1) (by omega) (by omega) gdev fdev X.flib
  obtain ⟨a', b1, b2, e1⟩ := key
  refine ⟨a', by omega, by omega, ?_⟩
  rw [call_at (by omega) (fn := f__law_kinds_told) rfl rfl]
  simp only [f__law_kinds_told]
  have ea : ([D.ref p, devD (libD ka kb) (wsD wl (.tup (vs.map .int))) ps (.tup (outs.map .str))].map some ++ List.replicate (13 - 2) none : EnvE) = kE (.ref p) (.tup [.tup [.tup [.str "k", ka], .tup [.str "l", kb]], wsD wl (.tup (vs.map .int)), .tup (ps.map Prt.d), .tup (outs.map .str)]) none none none none none none none none := rfl
  rw [ea, kt_eq, exL_consT, e0, then_nx, List.length_set]
  exact e1
end
end whatfailed_k52_whole_forms_spoilt

namespace whatfailed_k52_whole_forms_spoilt
open PySem Ev
/-! ### seeings that are none -/
def seeB (w : Str) : List D := [.non, .int 3, .lst [.tup [.str w, .int 0]], .tup [.tup [.str w]], .tup [.tup [.str w, .int 0, .int 1]], .tup [.tup [.str w, .int 99]], .tup [.tup [.str w, .non]], .tup [.tup [.str w, .str "0"]],
  .tup [.tup [.str "zz", .int 0]], .tup [.tup [.str w, .int 0], .tup [.str w, .int 0]], .tup [.tup [.int 3, .int 0]], .tup [.tup [.str w, .bl true]]]
theorem wl_cases {wl : List Str} (h : ∃ r, r < 3 ∧ wl = wires3 r) : wl = (["a", "b"] : List Str) ∨ wl = (["a", "b", "c"] : List Str) ∨ wl = (["a", "b", "c", "d"] : List Str) := by
  obtain ⟨r, hr, rfl⟩ := h
  have hc : r = 0 ∨ r = 1 ∨ r = 2 := by omega
  rcases hc with rfl | rfl | rfl
  · left; rfl
  · right; left; rfl
  · right; right; rfl
theorem seeB_no {wl : List Str} {vs : List Int} (hw : ∃ r, r < 3 ∧ wl = wires3 r) (hv : vs = [0, 1] ∨ vs = [0, 1, 2]) {w : Str} (h : w ∈ wl) : ∀ d ∈ seeB w, gd d = true ∧ fSee wl vs d = false := by
  rcases wl_cases hw with rfl | rfl | rfl <;> rcases hv with rfl | rfl <;> revert w <;> decide +kernel
theorem see_yes {wl : List Str} {vs : List Int} (hw : ∃ r, r < 3 ∧ wl = wires3 r) (hv : vs = [0, 1] ∨ vs = [0, 1, 2]) {w : Str} (h : w ∈ wl) : fSee wl vs (.tup []) = true ∧ (gd (.tup [.tup [.str w, .int 0]]) = true ∧ fSee wl vs (.tup [.tup [.str w, .int 0]]) = true) := by
  rcases wl_cases hw with rfl | rfl | rfl <;> rcases hv with rfl | rfl <;> revert w <;> decide +kernel
/-! ### modes -/
def rowOk (a b : D) (ps : List Prt) : List Prt → List D → Prop
  | [], [] => True
  | q :: qs, d :: ds => (∃ mo ∈ modesP a b ps q.n, d = pairD q.n mo) ∧ rowOk a b ps qs ds
  | _, _ => False
theorem fold_row (a b : D) (ps : List Prt) : ∀ (qs : List Prt) (rows : List D) (d : D), d ∈ qs.foldl (growP a b ps) rows → ∃ r ∈ rows, ∃ ds, d = .tup (tupV r ++ ds) ∧ rowOk a b ps qs ds ∨ (qs = [] ∧ d ∈ rows)
  | [], rows, d, h => ⟨d, h, [], .inr ⟨rfl, h⟩⟩
  | q :: qs, rows, d, h => by
    rw [List.foldl_cons] at h
    obtain ⟨r, hr, ds, hc⟩ := fold_row a b ps qs _ d h
    have key : ∀ x ∈ growP a b ps rows q, ∃ r0 ∈ rows, ∃ mo ∈ modesP a b ps q.n, x = .tup (tupV r0 ++ [pairD q.n mo]) := fun x hx => by
      obtain ⟨r0, h0, h1⟩ := List.mem_flatMap.mp hx
      obtain ⟨mo, hm, e⟩ := List.mem_map.mp h1
      exact ⟨r0, h0, mo, hm, e.symm⟩
    rcases hc with ⟨rfl, ok⟩ | ⟨rfl, hd⟩
    · obtain ⟨r0, h0, mo, hm, rfl⟩ := key r hr
      exact ⟨r0, h0, pairD q.n mo :: ds, .inl ⟨by simp [tupV], ⟨mo, hm, rfl⟩, ok⟩⟩
    · obtain ⟨r0, h0, mo, hm, rfl⟩ := key d hd
      exact ⟨r0, h0, [pairD q.n mo], .inl ⟨rfl, ⟨mo, hm, rfl⟩, trivial⟩⟩
theorem modesP_ne {a b : D} {ps : List Prt} {q : Prt} (h : q ∈ ps) : modesP a b ps q.n ≠ [] := by
  unfold modesP
  cases e : ps.find? fun p => p.n == q.n with
  | some p => simp
  | none =>
    rw [List.find?_eq_none] at e
    have := e q h
    simp at this
theorem fold_ne (a b : D) (ps : List Prt) : ∀ (qs : List Prt) (rows : List D), (∀ q ∈ qs, q ∈ ps) → rows ≠ [] → qs.foldl (growP a b ps) rows ≠ []
  | [], rows, _, h => h
  | q :: qs, rows, hq, h => by
    rw [List.foldl_cons]
    refine fold_ne a b ps qs _ (fun x hx => hq x (List.mem_cons_of_mem _ hx)) ?_
    cases rows with
    | nil => exact absurd rfl h
    | cons r rs =>
      unfold growP grow1
      have := modesP_ne (a := a) (b := b) (hq q List.mem_cons_self)
      cases e : modesP a b ps q.n with
      | nil => exact absurd e this
      | cons x xs => simp
theorem rowOk_len {a b : D} {ps : List Prt} : ∀ {qs : List Prt} {ds : List D}, rowOk a b ps qs ds → ds.length = qs.length
  | [], [], _ => rfl
  | _ :: _, _ :: _, h => by have := rowOk_len h.2; simp [this]
  | [], _ :: _, h => h.elim
  | _ :: _, [], h => h.elim
theorem rowOk_all {a b : D} {ps : List Prt} : ∀ {qs : List Prt} {ds : List D}, rowOk a b ps qs ds → ((zipL ds ((qs.map Prt.n).map .str)).all fun d => okM a b ps (strV (sndD d)) (fstD d)) = true
  | [], [], _ => rfl
  | q :: qs, d :: ds, h => by
    obtain ⟨⟨mo, hm, rfl⟩, h2⟩ := h
    have IH := rowOk_all h2
    simp only [List.map_cons, zipL, List.all_cons, IH, Bool.and_true]
    simp [okM, pairD, sndD, fstD, strV, eqv, PS_mem hm]
  | [], _ :: _, h => h.elim
  | _ :: _, [], h => h.elim
theorem rowOk_fMod {a b : D} {ps : List Prt} {ds : List D} (h : rowOk a b ps ps ds) : fMod a b ps ds = true := by
  unfold fMod
  rw [rowOk_all h, rowOk_len h]
  simp
theorem rowOk_mem {a b : D} {ps : List Prt} : ∀ {qs : List Prt} {ds : List D}, rowOk a b ps qs ds → ∀ d ∈ ds, ∃ q ∈ qs, ∃ mo ∈ modesP a b ps q.n, d = pairD q.n mo
  | [], [], _, d, hd => by simp at hd
  | q :: qs, x :: ds, h, d, hd => by
    rcases List.mem_cons.mp hd with rfl | hd
    · obtain ⟨mo, hm, e⟩ := h.1
      exact ⟨q, List.mem_cons_self, mo, hm, e⟩
    · obtain ⟨q', h1, h2⟩ := rowOk_mem h.2 d hd
      exact ⟨q', List.mem_cons_of_mem _ h1, h2⟩
  | [], _ :: _, h, _, _ => h.elim
  | _ :: _, [], h, _, _ => h.elim
def mdB (ds : List D) (n0 mo0 : Str) (r : List D) : List (List D) := [r, ds ++ ds.take 1, ds.reverse ++ ds.take 1, .tup [.str n0, .str "zz"] :: r, .tup [.str n0, .non] :: r, .tup [.str mo0, .str n0] :: r, .tup [.str n0] :: r]
theorem fMod_len {a b : D} {ps : List Prt} {ds : List D} (h : ds.length ≠ ps.length) : fMod a b ps ds = false := by
  unfold fMod; rw [decide_eq_false h, Bool.false_and]
theorem fMod_hd {a b : D} {ps : List Prt} {d : D} {ds : List D} {q : Prt} {qs : List Prt} (hp : ps = q :: qs) (h : okM a b ps q.n d = false) : fMod a b ps (d :: ds) = false := by
  unfold fMod
  have : ((zipL (d :: ds) ((ps.map Prt.n).map .str)).all fun d => okM a b ps (strV (sndD d)) (fstD d)) = false := by
    rw [hp]
    simp only [List.map_cons, zipL, List.all_cons]
    rw [← hp]
    have e : okM a b ps (strV (sndD (.tup [d, .str q.n]))) (fstD (.tup [d, .str q.n])) = false := h
    rw [e, Bool.false_and]
  rw [this, Bool.and_false]
def WBO : List Str := ["well", "bad", "odd"]
theorem mdB_no {a b : D} {ps : List Prt} {q : Prt} {qs : List Prt} {mo0 : Str} {r : List D} (hp : ps = q :: qs) (h : rowOk a b ps ps (pairD q.n mo0 :: r)) (hm : ∀ n, ∀ x ∈ modesP a b ps n, x ∈ WBO) (hq : q.n = "u") :
    ∀ ds ∈ mdB (pairD q.n mo0 :: r) q.n mo0 r, fMod a b ps ds = false := by
  have hl := rowOk_len h
  simp at hl
  have hmo : mo0 ∈ WBO := by
    rw [hp] at h
    obtain ⟨mo, h1, e⟩ := h.1
    have : mo0 = mo := by simp [pairD] at e; exact e
    subst this
    rw [← hp] at h1
    exact hm _ _ h1
  intro ds hd
  simp only [mdB, List.mem_cons, List.not_mem_nil, or_false] at hd
  rcases hd with rfl | rfl | rfl | rfl | rfl | rfl | rfl
  · exact fMod_len (by omega)
  · exact fMod_len (by simp; omega)
  · exact fMod_len (by simp; omega)
  · refine fMod_hd hp ?_
    have : PS (modesP a b ps q.n) "zz" = false := by
      unfold PS
      rw [List.any_eq_false]
      intro x hx
      have := hm _ x hx
      have h3 : ∀ x ∈ WBO, ¬ (x == ("zz" : Str)) = true := by decide +kernel
      exact h3 x this
    simp [okM, this]
  · exact fMod_hd hp rfl
  · refine fMod_hd hp ?_
    have h3 : ∀ x ∈ WBO, (x == ("u" : Str)) = false := by decide +kernel
    have := h3 mo0 hmo
    simp only [okM, eqv, hq, this, Bool.false_and]
  · exact fMod_hd hp rfl
theorem ismodes_nt (m : Nat) (h : HpE) (dev : D) {v : D} (hm : 1 ≤ m) (hv : v = .non ∨ ∃ ds, v = .lst ds) : callF GG fns m 9 [v, dev] h = .ok (.bl false) h := by
  rw [call_at (by omega) (fn := f_is_modes) rfl rfl]
  simp only [f_is_modes]
  rw [imo_eq]
  rcases hv with rfl | ⟨ds, rfl⟩ <;> simp
theorem isparts_nt (m : Nat) (h : HpE) (dev : D) {v : D} (hm : 1 ≤ m) (hv : v = .non ∨ (∃ ds, v = .lst ds) ∨ (∃ s, v = .str s) ∨ v = .tup [.int 3]) : callF GG fns m 10 [v, dev] h = .ok (.bl false) h := by
  rw [call_at (by omega) (fn := f_is_parts) rfl rfl]
  simp only [f_is_parts, b_is_parts]
  rcases hv with rfl | ⟨ds, rfl⟩ | ⟨s, rfl⟩ | rfl
  · simp
  · simp
  · simp
  · simp [evC_compS, compL, sz1, oAll, bls?]
end whatfailed_k52_whole_forms_spoilt

namespace whatfailed_k52_whole_forms_spoilt
open PySem Ev
abbrev lt (n : Nat) : S := sAt b_law n
abbrev lE (s : List Int) (o1 o2 o3 o4 o5 o6 o7 o8 o9 : Option D) : EnvE := [some (.scr s), o1, o2, o3, o4, o5, o6, o7, o8, o9, none, none, none]
theorem str0 : oStrOf (.int 0) = some (.str "0") := by decide +kernel
def seeT (w : Str) : List D := (seeB w).take 11
section
variable {m : Nat} {s : List Int}
theorem lt0 (hm : 2 ≤ m) : ∃ row : List Int, row.length = 110 ∧ exS GG (callF GG fns m) (lt 0) (lE s none none none none none none none none none) [] = .nx (lE s (some (.ref 0)) none none none none none none none none) (([Cell.lst []] : HpE).set 0 (dr row 0)) := by
  obtain ⟨row, h1, h2⟩ := lawrow m [] s 110 hm (by omega) (fun c hc => by simp at hc)
  refine ⟨row, h1, ?_⟩
  simp only [lt, sAt, b_law, lE]
  simp at h2
  simp [h2, sz2, dr, drL]
theorem lt4 (H : HpE) (o1 o2 o6 o7 o8 o9 : Option D) (w : Str) (vt : List D) : exS GG (callF GG fns m) (lt 4) (lE s o1 o2 (some (.str w)) (some (.tup (.int 0 :: vt))) none o6 o7 o8 o9) H = .nx (lE s o1 o2 (some (.str w)) (some (.tup (.int 0 :: vt))) (some (.tup ((seeB w).take 8))) o6 o7 o8 o9) H := by
  simp only [lt, sAt, b_law, lE]
  simp [str0, sz1, sz2, sz3, sz8, seeB, ixN]
theorem lpB (n : Nat) (hn : n = 5 ∨ n = 11 ∨ n = 13) : ∃ it b, lt n = .for (.name 6) .plain it b := by
  rcases hn with rfl | rfl | rfl <;> exact ⟨_, _, rfl⟩
def ltI (n : Nat) : CL := match lt n with
  | .for _ _ it _ => it
  | _ => .nil
def ltB (n : Nat) : SL := match lt n with
  | .for _ _ _ b => b
  | _ => .nil
theorem lt_for (n : Nat) (hn : n = 5 ∨ n = 11 ∨ n = 13) : lt n = .for (.name 6) .plain (ltI n) (ltB n) := by
  rcases hn with rfl | rfl | rfl <;> rfl
theorem ltL (n : Nat) (hn : n = 5 ∨ n = 11 ∨ n = 13) (H : HpE) (xs : List D) (o1 o2 o3 o4 o5 o6 o7 o8 o9 : Option D) (ev : evL GG (callF GG fns m) (ltI n) (lE s o1 o2 o3 o4 o5 o6 o7 o8 o9) H = .ok [.tup xs] H)
    (hf : ∀ x ∈ xs, exL GG (callF GG fns m) (ltB n) (lE s o1 o2 o3 o4 o5 (some x) o7 o8 o9) H = .nx (lE s o1 o2 o3 o4 o5 (some x) o7 o8 o9) H) :
    ∃ o6', exS GG (callF GG fns m) (lt n) (lE s o1 o2 o3 o4 o5 o6 o7 o8 o9) H = .nx (lE s o1 o2 o3 o4 o5 o6' o7 o8 o9) H := by
  have F := forL_all (src := [.tup xs]) (h0 := [.tup xs]) (h := H) (f := fun x env h => (ofO (asgNT (.name 6) x env) h).out fun env' h => exL GG (callF GG fns m) (ltB n) env' h) (fun _ => true) (fun env => ∃ o6, env = lE s o1 o2 o3 o4 o5 o6 o7 o8 o9) (by simp) (xs := xs) (env := lE s o1 o2 o3 o4 o5 o6 o7 o8 o9)
    (fun x hx env ⟨o6, he⟩ => by
      subst he
      refine ⟨fun _ => ⟨lE s o1 o2 o3 o4 o5 (some x) o7 o8 o9, ?_, some x, rfl⟩, fun z => by cases z⟩
      have := hf x hx
      simp [lE] at this
      simp [lE, this]) ⟨o6, rfl⟩
  obtain ⟨env', e, o6', rfl⟩ := F.1 (by simp)
  refine ⟨o6', ?_⟩
  rw [lt_for n hn, exS_forS, ev]
  simp only [out_okS, List.map_cons, List.map_nil, look_tup, items_plain, asIter_tup, ofO_some]
  exact e
theorem lt6 (H : HpE) (dev : D) (o1 o5 o6 o7 o8 o9 : Option D) (w : Str) (vt : List D) (i1 : callF GG fns m 6 [.tup [], dev] H = .ok (.bl true) H) (i2 : callF GG fns m 7 [.tup [], dev] H = .ok (.bl true) H) (i3 : callF GG fns m 7 [.tup [.tup [], .tup [.tup [.str w, .int 0]]], dev] H = .ok (.bl true) H) (i4 : callF GG fns m 7 [.lst [.tup []], dev] H = .ok (.bl false) H) :
    exS GG (callF GG fns m) (lt 6) (lE s o1 (some dev) (some (.str w)) (some (.tup (.int 0 :: vt))) o5 o6 o7 o8 o9) H = .nx (lE s o1 (some dev) (some (.str w)) (some (.tup (.int 0 :: vt))) o5 o6 o7 o8 o9) H := by
  simp only [lt, sAt, b_law, lE]
  simp [i1, i2, i3, i4, sz0, sz1, sz2, ixN]
theorem lt7 (H : HpE) (dev : D) (o1 o5 o6 o7 o8 o9 : Option D) (w : Str) (vt : List D) (i1 : callF GG fns m 6 [.tup [.tup [.str w, .bl true]], dev] H = .ok (.bl false) H) :
    exS GG (callF GG fns m) (lt 7) (lE s o1 (some dev) (some (.str w)) (some (.tup (.int 0 :: vt))) o5 o6 o7 o8 o9) H = .nx (lE s o1 (some dev) (some (.str w)) (some (.tup (.int 0 :: vt))) o5 o6 o7 o8 o9) H := by
  simp only [lt, sAt, b_law, lE]
  simp [i1, sz1, sz2, ixN]
theorem lt5 (H : HpE) (dev : D) (o1 o6 o7 o8 o9 : Option D) (w : Str) (vt : List D) (i : ∀ d ∈ seeT w, callF GG fns m 6 [d, dev] H = .ok (.bl false) H ∧ callF GG fns m 7 [.tup [d], dev] H = .ok (.bl false) H) :
    ∃ o6', exS GG (callF GG fns m) (lt 5) (lE s o1 (some dev) (some (.str w)) (some (.tup (.int 0 :: vt))) (some (.tup ((seeB w).take 8))) o6 o7 o8 o9) H = .nx (lE s o1 (some dev) (some (.str w)) (some (.tup (.int 0 :: vt))) (some (.tup ((seeB w).take 8))) o6' o7 o8 o9) H := by
  refine ltL 5 (by simp) H (seeT w) _ _ _ _ _ _ _ _ _ ?_ fun d hd => ?_
  · simp only [ltI, lt, sAt, b_law, lE]
    have z : 8 + 3 ≤ sz := by decide
    simp [sz1, sz2, sz3, seeB, seeT, oAdd, z, ixN]
  · obtain ⟨i1, i2⟩ := i d hd
    simp only [ltB, lt, sAt, b_law, lE]
    simp [i1, i2, sz1]
end
end whatfailed_k52_whole_forms_spoilt

namespace whatfailed_k52_whole_forms_spoilt
open PySem Ev
theorem pqr_gd : ∀ x ∈ abc, PyData.strOk x = true := by decide +kernel
section
variable {m : Nat} {s : List Int} {h : HpE} {p : Nat} {row : List Int} (hp : p < h.length) (hr : 0 < row.length ∧ row.length < 1000)
include hp hr
theorem lt2 (a : Nat) (lib pp outer V : D) (wl : List Str) (hm : 0 < m) (ha : a + 1 ≤ TOP) (hw : 0 < wl.length) : ∃ w ∈ wl,
    exS GG (callF GG fns m) (lt 2) (lE s (some (.ref p)) (some (.tup [lib, wsD wl V, pp, outer])) none none none none none none none) (h.set p (dr row a)) =
    .nx (lE s (some (.ref p)) (some (.tup [lib, wsD wl V, pp, outer])) (some (.str w)) (some V) none none none none none) (h.set p (dr row (a + 1))) := by
  obtain ⟨r, hr1, e1⟩ := pickN hp hr m (by omega) (a := a) (n := wl.length) (by omega) hw
  have hx : (wl.map fun w => D.tup [.str w, V])[r]? = some (.tup [.str wl[r], V]) := by simp [hr1]
  refine ⟨wl[r], List.getElem_mem _, ?_⟩
  simp only [lt, sAt, b_law, lE, wsD]
  have e3 : ixN wl.length ((r : Nat) : Int) = some r := ixN_nat hr1
  simp [e1, e3, hr1]
theorem lt3 (a : Nat) (dev : D) (o3 o4 : Option D) (hm : 20 ≤ m) (hm2 : m ≤ 1000) (ha : a + 30000 ≤ TOP) (k5 : ∀ a, a + 1000 ≤ TOP → ∃ a', a ≤ a' ∧ a' ≤ a + 150 ∧ callF GG fns m 5 [.ref p, dev] (h.set p (dr row a)) = .ok (.bl true) (h.set p (dr row a'))) :
    ∃ a', a ≤ a' ∧ a' ≤ a + 20200 ∧ exS GG (callF GG fns m) (lt 3) (lE s (some (.ref p)) (some dev) o3 o4 none none none none none) (h.set p (dr row a)) = .nx (lE s (some (.ref p)) (some dev) o3 o4 none none none none none) (h.set p (dr row a')) := by
  obtain ⟨r, hr1, e1⟩ := pickN hp hr m (by omega) (a := a) (n := 3) (by omega) (by omega)
  have okt : ∀ x ∈ abc.take (1 + r), PyData.strOk x = true := fun x hx => pqr_gd x (List.mem_of_mem_take hx)
  have hne : 0 < (abc.take (1 + r)).length := by rw [List.length_take]; show 0 < min (1 + r) 3; omega
  obtain ⟨a1, b1, b2, e2⟩ := forms_told hp hr (px_tup hne okt) (prt_tup okt) m (a + 1) hm hm2 (by omega)
  obtain ⟨a2, c1, c2, e3⟩ := k5 a1 (by omega)
  have hs : oSl (.tup [.str "p", .str "q", .str "r"]) none (some (1 + (r : Int))) = some (.tup ((abc.take (1 + r)).map .str)) := by
    have hc : r = 0 ∨ r = 1 ∨ r = 2 := by omega
    rcases hc with rfl | rfl | rfl <;> rfl
  refine ⟨a2, by omega, by omega, ?_⟩
  simp only [lt, sAt, b_law, lE]
  simp only [exS_iteS, evC_orS, evC_opS, evL_consS, evL_nilS, evC_callS, evC_varS, slot_s, slot_0, ofO_some, bind_okS, evC_litS]
  simp at e1
  simp only [op_mkTup, List.length_cons, List.length_nil, Nat.zero_add, Nat.reduceAdd, sz3, if_true, e1, bind_okS, op_addS, look_intS, oAdd, rs_some, op_slHS, look_tup, intV_int, Option.bind_some, hs, e2, op_not, truth_bl, sel_t, sel_f, e3, exL_nilS, out_okS]
theorem lt9 (a : Nat) (rows : List D) (o2 o3 o4 o5 o6 : Option D) (hm : 0 < m) (ha : a + 1 ≤ TOP) (hw : 0 < rows.length) : ∃ d ∈ rows,
    exS GG (callF GG fns m) (lt 9) (lE s (some (.ref p)) o2 o3 o4 o5 o6 (some (.lst rows)) none none) (h.set p (dr row a)) =
    .nx (lE s (some (.ref p)) o2 o3 o4 o5 o6 (some (.lst rows)) (some d) none) (h.set p (dr row (a + 1))) := by
  obtain ⟨r, hr1, e1⟩ := pickN hp hr m (by omega) (a := a) (n := rows.length) (by omega) hw
  refine ⟨rows[r], List.getElem_mem _, ?_⟩
  simp only [lt, sAt, b_law, lE]
  have e3 : ixN rows.length ((r : Nat) : Int) = some r := ixN_nat hr1
  simp [e1, e3, hr1]
end
section
variable {m : Nat} {s : List Int}
def moB (n0 mo0 : Str) (r : List D) : List D := [.non, .lst (pairD n0 mo0 :: r), .tup r, .tup (pairD n0 mo0 :: r ++ [pairD n0 mo0]), .tup ((pairD n0 mo0 :: r).reverse ++ [pairD n0 mo0]), .tup (.tup [.str n0, .str "zz"] :: r)]
def moB2 (n0 mo0 : Str) (r : List D) : List D := [.tup (.tup [.str n0, .non] :: r), .tup (.tup [.str mo0, .str n0] :: r), .tup (.tup [.str n0] :: r)]
theorem sl1h (x : D) (r : List D) : oSl (.tup (x :: r)) none (some 1) = some (.tup [x]) := by
  have := oSl_hi (x :: r) 1 (by simp)
  simpa using this
theorem rev_tup (r : List D) : oRev (.tup r) = some (.tup r.reverse) := rfl
theorem lt10 (H : HpE) (o1 o2 o3 o4 o5 o6 o7 o9 : Option D) (n0 mo0 : Str) (r : List D) (hl : r.length ≤ 10) : exS GG (callF GG fns m) (lt 10) (lE s o1 o2 o3 o4 o5 o6 o7 (some (.tup (pairD n0 mo0 :: r))) o9) H = .nx (lE s o1 o2 o3 o4 (some (.tup (moB n0 mo0 r))) o6 o7 (some (.tup (pairD n0 mo0 :: r))) o9) H := by
  have z1 : r.length + 1 + 1 ≤ sz := Nat.le_trans (show _ ≤ 12 by omega) (by decide)
  have z2 : 1 + r.length ≤ sz := Nat.le_trans (show _ ≤ 12 by omega) (by decide)
  simp only [lt, sAt, b_law, lE]
  simp [pairD, sl1, sl1h, rev_tup, oAdd, z1, z2, sz1, sz2, sz6, moB, ixN]
theorem lt11 (H : HpE) (dev : D) (o1 o3 o4 o6 o7 o9 : Option D) (n0 mo0 : Str) (r : List D) (hl : r.length ≤ 10) (i : ∀ d ∈ moB n0 mo0 r ++ moB2 n0 mo0 r, callF GG fns m 9 [d, dev] H = .ok (.bl false) H) :
    ∃ o6', exS GG (callF GG fns m) (lt 11) (lE s o1 (some dev) o3 o4 (some (.tup (moB n0 mo0 r))) o6 o7 (some (.tup (pairD n0 mo0 :: r))) o9) H = .nx (lE s o1 (some dev) o3 o4 (some (.tup (moB n0 mo0 r))) o6' o7 (some (.tup (pairD n0 mo0 :: r))) o9) H := by
  refine ltL 11 (by simp) H (moB n0 mo0 r ++ moB2 n0 mo0 r) _ _ _ _ _ _ _ _ _ ?_ fun d hd => ?_
  · simp only [ltI, lt, sAt, b_law, lE]
    have z2 : 1 + r.length ≤ sz := Nat.le_trans (show _ ≤ 12 by omega) (by decide)
    have z : 6 + 3 ≤ sz := by decide
    simp [pairD, sl1, sl1h, rev_tup, oAdd, z2, z, sz1, sz2, sz3, moB, moB2, ixN]
  · have i1 := i d hd
    simp only [ltB, lt, sAt, b_law, lE]
    simp [i1]
theorem lt12 (H : HpE) (lib ws outer : D) (ps : List Prt) (o1 o3 o4 o5 o6 o7 o8 : Option D) (hz : ps.length ≤ 3) : exS GG (callF GG fns m) (lt 12) (lE s o1 (some (devD lib ws ps outer)) o3 o4 o5 o6 o7 o8 none) H = .nx (lE s o1 (some (devD lib ws ps outer)) o3 o4 o5 o6 o7 o8 (some (.tup ((ps.map Prt.n).map .str)))) H := by
  simp only [lt, sAt, b_law, lE]
  have c1 : evC GG (callF GG fns m) (.comp [10, 11, 12] (.tup [(.name 10), (.name 11), (.name 12)]) .plain (.cons (.op .ix (.cons (.var 2) (.cons (.lit (.int 2)) .nil))) .nil) .nil (.var 10)) [some (.scr s), o1, some (devD lib ws ps outer), o3, o4, o5, o6, o7, o8, none, none, none, none] H = .ok (.lst ((ps.map Prt.n).map .str)) H := by
    have := comp_map (G := GG) (call := callF GG fns m) (env := [some (.scr s), o1, some (devD lib ws ps outer), o3, o4, o5, o6, o7, o8, none, none, none, none]) (h := H) (own := [10, 11, 12]) (t := .tup [(.name 10), (.name 11), (.name 12)]) (k := .plain) (it := .cons (.op .ix (.cons (.var 2) (.cons (.lit (.int 2)) .nil))) .nil) (e := .var 10)
      (ds := [.tup (ps.map Prt.d)]) (xs := ps.map Prt.d) fstD (fun d => [some (.scr s), o1, some (devD lib ws ps outer), o3, o4, o5, o6, o7, o8, none, some (fstD d), some (sndD d), some (thdD d)]) (by simp [devD]) (by simp) (by rw [List.length_map]; exact Nat.le_trans hz (by decide)) (fun d hd => by
        obtain ⟨q, _, rfl⟩ := List.mem_map.mp hd
        simp [Prt.d, fstD, sndD, thdD]) (fun d hd => by simp)
    rw [this, List.map_map, List.map_map]
    rfl
  simp [c1]
def paB (n0 : Str) (ns : List Str) : List D := [.non, .lst (ns.map .str), .tup [.str n0, .str n0], .tup [.str "zz"], .tup [.int 3], .str "u", .tup (ns.map D.str ++ [.str "zz"])]
theorem lt13 (H : HpE) (dev : D) (o1 o3 o4 o5 o6 o7 o8 : Option D) (n0 : Str) (ns : List Str) (hz : ns.length ≤ 10) (i : ∀ d ∈ paB n0 (n0 :: ns), callF GG fns m 10 [d, dev] H = .ok (.bl false) H) :
    ∃ o6', exS GG (callF GG fns m) (lt 13) (lE s o1 (some dev) o3 o4 o5 o6 o7 o8 (some (.tup ((n0 :: ns).map .str)))) H = .nx (lE s o1 (some dev) o3 o4 o5 o6' o7 o8 (some (.tup ((n0 :: ns).map .str)))) H := by
  refine ltL 13 (by simp) H (paB n0 (n0 :: ns)) _ _ _ _ _ _ _ _ _ ?_ fun d hd => ?_
  · simp only [ltI, lt, sAt, b_law, lE]
    have z1 : ns.length + 1 + 1 ≤ sz := Nat.le_trans (show _ ≤ 12 by omega) (by decide)
    have z2 : 1 + 1 ≤ sz := by decide
    simp [sl1h, oAdd, z1, z2, sz1, sz7, paB]
  · have i1 := i d hd
    simp only [ltB, lt, sAt, b_law, lE]
    simp [i1]
theorem lt14 (H : HpE) (dev md nm : D) (o1 o3 o4 o5 o6 o7 : Option D) (i1 : callF GG fns m 10 [.tup [], dev] H = .ok (.bl true) H) (i2 : callF GG fns m 10 [nm, dev] H = .ok (.bl true) H) (i3 : callF GG fns m 9 [md, dev] H = .ok (.bl true) H) :
    exS GG (callF GG fns m) (lt 14) (lE s o1 (some dev) o3 o4 o5 o6 o7 (some md) (some nm)) H = .ret (.bl true) H := by
  simp only [lt, sAt, b_law, lE]
  simp [i1, i2, i3, sz0]
theorem lt8 (H : HpE) (dev : D) (o1 o3 o4 o5 o6 o8 o9 : Option D) (rows : List D) (i : callF GG fns m 8 [dev] H = .ok (.lst rows) H) : exS GG (callF GG fns m) (lt 8) (lE s o1 (some dev) o3 o4 o5 o6 none o8 o9) H = .nx (lE s o1 (some dev) o3 o4 o5 o6 (some (.lst rows)) o8 o9) H := by
  simp only [lt, sAt, b_law, lE]
  simp [i]
theorem lt1 (H H' : HpE) (dev d1 : D) (i : callF GG fns m 2 [d1, .int 3] H = .ok dev H') : exS GG (callF GG fns m) (lt 1) (lE s (some d1) none none none none none none none none) H = .nx (lE s (some d1) (some dev) none none none none none none none) H' := by
  simp only [lt, sAt, b_law, lE]
  simp [i]
end
end whatfailed_k52_whole_forms_spoilt

namespace whatfailed_k52_whole_forms_spoilt
open PySem Ev
theorem gd_sk {x : Str} (h : gd (.str x) = true) : PyData.strOk x = true := by
  rw [gd_str, Bool.and_eq_true] at h; exact h.1
theorem wbo_sk : ∀ x ∈ WBO, PyData.strOk x = true := by decide +kernel
theorem told2 {x : Str} {y : D} (hx : PyData.strOk x = true) (hy : Dat y) : Told (.tup [.str x, y]) := ⟨by simp [dat_str, hx, hy], fun a b e => by simp at e; obtain ⟨rfl, _⟩ := e; exact flat_str hx⟩
theorem told1 {x : Str} (hx : PyData.strOk x = true) : Told (.tup [.str x]) := ⟨by simp [dat_str, hx], fun a b e => by simp at e⟩
section
variable {na nb wl : List Str} {vs : List Int} {ka kb : D} {ps : List Prt} {outs : List Str} (X : DevOk na nb wl vs ka kb ps outs)
include X
theorem DevOk.psok : PsOk ps := by
  refine ⟨fun q hq => ?_, fun q hq => ?_, by have := X.lps; omega⟩
  · obtain ⟨ls, _, ⟨h, _⟩ | ⟨h, _⟩⟩ := X.pp q hq
    · exact .inl h
    · exact .inr h
  · have := X.gp q hq
    exact gd_sk (gd_mem this (.str q.n) (by simp))
theorem DevOk.mp (n : Str) : (modesP ka kb ps n).length ≤ 3 ∧ ∀ x ∈ modesP ka kb ps n, x ∈ WBO := by
  have key : ∀ k, (modesK (kndOf ka kb k)).length ≤ 2 ∧ ∀ x ∈ modesK (kndOf ka kb k), x ∈ (["bad", "odd"] : List Str) := fun k => by
    unfold kndOf
    split
    · exact X.cka.kd.2
    · exact X.ckb.kd.2
  unfold modesP
  cases ps.find? fun p => p.n == n with
  | none => simp
  | some q =>
    obtain ⟨h1, h2⟩ := key q.k
    refine ⟨by simp; omega, fun x hx => ?_⟩
    rcases List.mem_cons.mp hx with rfl | hx
    · exact List.mem_cons_self
    · have := h2 x hx
      exact List.mem_cons_of_mem _ this
theorem DevOk.hd : ∃ q qs, ps = q :: qs ∧ q.n = "u" := by
  obtain ⟨j, hj, e⟩ := X.pn
  cases hps : ps with
  | nil => have := X.lps; rw [hps] at this; simp at this
  | cons q qs =>
    refine ⟨q, qs, rfl, ?_⟩
    rw [hps] at e
    have hc : j = 0 ∨ j = 1 ∨ j = 2 := by omega
    rcases hc with rfl | rfl | rfl <;> (simp at e; exact e.1)
theorem DevOk.nozz : PS (ps.map Prt.n) "zz" = false := by
  obtain ⟨j, hj, e⟩ := X.pn
  rw [e]
  have hc : j = 0 ∨ j = 1 ∨ j = 2 := by omega
  rcases hc with rfl | rfl | rfl <;> decide +kernel
end
theorem modes_no (m : Nat) (H : HpE) (hm : 2 ≤ m) {na nb wl : List Str} {vs : List Int} {ka kb : D} {ps : List Prt} {outs : List Str} (X : DevOk na nb wl vs ka kb ps outs) (ws outer : D) {q : Prt} {qs : List Prt} {mo0 : Str} {r : List D} (hp : ps = q :: qs) (h : rowOk ka kb ps ps (pairD q.n mo0 :: r)) (hq : q.n = "u") :
    (∀ d ∈ moB q.n mo0 r ++ moB2 q.n mo0 r, callF GG fns m 9 [d, devD (libD ka kb) ws ps outer] H = .ok (.bl false) H) ∧ callF GG fns m 9 [.tup (pairD q.n mo0 :: r), devD (libD ka kb) ws ps outer] H = .ok (.bl true) H := by
  have P := X.psok
  have okm : ∀ part, ∀ x ∈ modesP ka kb ps part, PyData.strOk x = true := fun n x hx => wbo_sk x ((X.mp n).2 x hx)
  have mem := rowOk_mem h
  have told : ∀ d ∈ pairD q.n mo0 :: r, Told d := fun d hd => by
    obtain ⟨q', h1, mo, h2, rfl⟩ := mem d hd
    exact told2 (P.n q' h1) (dat_str.mpr (okm _ _ h2))
  have hqn : PyData.strOk q.n = true := P.n q (by rw [hp]; exact List.mem_cons_self)
  have hmo : PyData.strOk mo0 = true := by
    obtain ⟨q', h1, mo, h2, e⟩ := mem _ List.mem_cons_self
    simp [pairD] at e
    rw [e.2]
    exact okm _ _ h2
  have no := mdB_no hp h (fun n => (X.mp n).2) hq
  have run : ∀ ds ∈ mdB (pairD q.n mo0 :: r) q.n mo0 r, (∀ d ∈ ds, Told d) → callF GG fns m 9 [.tup ds, devD (libD ka kb) ws ps outer] H = .ok (.bl false) H := fun ds hds ht => by
    rw [ismodes m H ka kb ws outer ps ds hm ht P X.cka.kd.1 X.ckb.kd.1 okm, no ds hds]
  have tr : ∀ d ∈ r, Told d := fun d hd => told d (List.mem_cons_of_mem _ hd)
  have th := told (pairD q.n mo0) List.mem_cons_self
  constructor
  · intro d hd
    simp only [moB, moB2, List.mem_append, List.mem_cons, List.not_mem_nil, or_false] at hd
    rcases hd with (rfl | rfl | rfl | rfl | rfl | rfl) | (rfl | rfl | rfl)
    · exact ismodes_nt m H _ (by omega) (.inl rfl)
    · exact ismodes_nt m H _ (by omega) (.inr ⟨_, rfl⟩)
    · exact run r (by simp [mdB]) tr
    · exact run (pairD q.n mo0 :: r ++ [pairD q.n mo0]) (by simp [mdB]) fun d hd => by
        simp at hd
        rcases hd with rfl | hd | rfl
        · exact th
        · exact tr d hd
        · exact th
    · exact run ((pairD q.n mo0 :: r).reverse ++ [pairD q.n mo0]) (by simp [mdB]) fun d hd => by
        simp at hd
        rcases hd with hd | rfl
        · exact tr d hd
        · exact th
    · exact run (.tup [.str q.n, .str "zz"] :: r) (by simp [mdB]) fun d hd => by
        simp at hd
        rcases hd with rfl | hd
        · exact told2 hqn (dat_str.mpr sk_zz)
        · exact tr d hd
    · exact run (.tup [.str q.n, .non] :: r) (by simp [mdB]) fun d hd => by
        simp at hd
        rcases hd with rfl | hd
        · exact told2 hqn (by simp)
        · exact tr d hd
    · exact run (.tup [.str mo0, .str q.n] :: r) (by simp [mdB]) fun d hd => by
        simp at hd
        rcases hd with rfl | hd
        · exact told2 hmo (dat_str.mpr hqn)
        · exact tr d hd
    · exact run (.tup [.str q.n] :: r) (by simp [mdB]) fun d hd => by
        simp at hd
        rcases hd with rfl | hd
        · exact told1 hqn
        · exact tr d hd
  · rw [ismodes m H ka kb ws outer ps _ hm told P X.cka.kd.1 X.ckb.kd.1 okm, rowOk_fMod h]
theorem parts_no (m : Nat) (H : HpE) (hm : 2 ≤ m) {na nb wl : List Str} {vs : List Int} {ka kb : D} {ps : List Prt} {outs : List Str} (X : DevOk na nb wl vs ka kb ps outs) (lib ws outer : D) {q : Prt} {qs : List Prt} (hp : ps = q :: qs) (hq : q.n = "u") :
    (∀ d ∈ paB q.n (ps.map Prt.n), callF GG fns m 10 [d, devD lib ws ps outer] H = .ok (.bl false) H) ∧ callF GG fns m 10 [.tup [], devD lib ws ps outer] H = .ok (.bl true) H ∧ callF GG fns m 10 [.tup ((ps.map Prt.n).map .str), devD lib ws ps outer] H = .ok (.bl true) H := by
  have P := X.psok
  have okp : ∀ p ∈ ps, PyData.strOk p.n = true := P.n
  have okn : ∀ x ∈ ps.map Prt.n, PyData.strOk x = true := fun x hx => by
    obtain ⟨p, h1, rfl⟩ := List.mem_map.mp hx
    exact okp p h1
  have zl := X.lps
  have run : ∀ xs : List Str, xs.length ≤ 1000 → (∀ x ∈ xs, PyData.strOk x = true) → callF GG fns m 10 [.tup (xs.map .str), devD lib ws ps outer] H = .ok (.bl (rising xs && xs.all fun x => PS (ps.map Prt.n) x)) H := fun xs hx ok =>
    isparts m H lib ws outer ps xs hm P.z hx ok okp
  refine ⟨fun d hd => ?_, ?_, ?_⟩
  · simp only [paB, List.mem_cons, List.not_mem_nil, or_false] at hd
    rcases hd with rfl | rfl | rfl | rfl | rfl | rfl | rfl
    · exact isparts_nt m H _ (by omega) (.inl rfl)
    · exact isparts_nt m H _ (by omega) (.inr (.inl ⟨_, rfl⟩))
    · have := run [q.n, q.n] (by simp) (fun x hx => by simp at hx; subst hx; exact okp q (by rw [hp]; exact List.mem_cons_self))
      have e : rising [q.n, q.n] = false := by rw [hq]; decide +kernel
      rw [e] at this
      exact this
    · have := run ["zz"] (by simp) (fun x hx => by simp at hx; subst hx; exact sk_zz)
      have e : ((["zz"] : List Str).all fun x => PS (ps.map Prt.n) x) = false := by
        simp only [List.all_cons, X.nozz, Bool.false_and]
      rw [e, Bool.and_false] at this
      exact this
    · exact isparts_nt m H _ (by omega) (.inr (.inr (.inr rfl)))
    · exact isparts_nt m H _ (by omega) (.inr (.inr (.inl ⟨_, rfl⟩)))
    · have := run (ps.map Prt.n ++ (["zz"] : List Str)) (by simp; omega) (fun x hx => by
        simp only [List.mem_append, List.mem_singleton] at hx
        rcases hx with hx | rfl
        · exact okn x hx
        · exact sk_zz)
      have e : ((ps.map Prt.n ++ (["zz"] : List Str)).all fun x => PS (ps.map Prt.n) x) = false := by
        rw [List.all_append]
        simp only [List.all_cons, X.nozz, Bool.false_and, Bool.and_false]
      rw [e, Bool.and_false] at this
      rw [List.map_append] at this
      exact this
  · have := run [] (by simp) (fun x hx => by simp at hx)
    exact this
  · have := run (ps.map Prt.n) (by simp; omega) okn
    rw [X.pnames.2] at this
    have e : ((ps.map Prt.n).all fun x => PS (ps.map Prt.n) x) = true := by
      rw [List.all_eq_true]; exact fun x hx => PS_mem hx
    rw [e] at this
    exact this
theorem isseeings_l (m : Nat) (H : HpE) (dev : D) (ds : List D) (hm : 1 ≤ m) : callF GG fns m 7 [.lst ds, dev] H = .ok (.bl false) H := by
  rw [call_at (by omega) (fn := f_is_seeings) rfl rfl]
  simp only [f_is_seeings, b_is_seeings]
  simp
end whatfailed_k52_whole_forms_spoilt

namespace whatfailed_k52_whole_forms_spoilt
open PySem Ev
theorem lt_eq : b_law = .cons (lt 0) (.cons (lt 1) (.cons (lt 2) (.cons (lt 3) (.cons (lt 4) (.cons (lt 5) (.cons (lt 6) (.cons (lt 7) (.cons (lt 8) (.cons (lt 9) (.cons (lt 10) (.cons (lt 11) (.cons (lt 12) (.cons (lt 13) (.cons (lt 14) .nil)))))))))))))) := rfl
theorem law_true (ns : List Int) (h : ns.length ≤ 63) : ∃ h', Ev.callF whatfailed_k52_whole_forms_spoilt.GG whatfailed_k52_whole_forms_spoilt.fns 60 0 [.scr ns] [] = .ok (.bl true) h' := by
  have hTOP : TOP = 1000000000 := rfl
  obtain ⟨row, hrl, e0⟩ := lt0 (m := 59) (s := ns) (by omega)
  have hp : 0 < ([Cell.lst []] : HpE).length := by simp
  have hr : 0 < row.length ∧ row.length < 1000 := by omega
  have hcl : Cl ([Cell.lst []] : HpE) := fun c hc => by simp at hc; subst hc; show belowL 0 [] = true; simp
  obtain ⟨na, nb, wl, vs, ka, kb, ps, outs, a1, b1, b2, X, e1'⟩ := lawdevice hp hr hcl 59 0 (by omega) (by omega)
  have e1 := lt1 (m := 59) (s := ns) _ _ _ _ e1'
  obtain ⟨w, hw, e2⟩ := lt2 (m := 59) (s := ns) hp hr a1 (libD ka kb) (.tup (ps.map Prt.d)) (.tup (outs.map .str)) (.tup (vs.map .int)) wl (by omega) (by omega) (by have := X.lwl; omega)
  obtain ⟨a3, c1, c2, e3⟩ := lt3 (m := 59) (s := ns) hp hr (a1 + 1) (devD (libD ka kb) (wsD wl (.tup (vs.map .int))) ps (.tup (outs.map .str))) (some (.str w)) (some (.tup (vs.map .int))) (by omega) (by omega) (by omega) (fun a ha => kindstold hp hr X hcl 59 a (by omega) (by omega))
  obtain ⟨vt, hvt⟩ : ∃ vt, vs.map D.int = .int 0 :: vt := by rcases X.cvs with h | h <;> subst h <;> exact ⟨_, rfl⟩
  have hgdw := X.gdw
  have S : ∀ d ∈ seeB w, ∀ H, callF GG fns 59 6 [d, devD (libD ka kb) (wsD wl (.tup (vs.map .int))) ps (.tup (outs.map .str))] H = .ok (.bl false) H ∧ callF GG fns 59 7 [.tup [d], devD (libD ka kb) (wsD wl (.tup (vs.map .int))) ps (.tup (outs.map .str))] H = .ok (.bl false) H := fun d hd H => by
    obtain ⟨g, f⟩ := seeB_no X.cwl X.cvs hw d hd
    have i1 := isseeing 59 H (libD ka kb) (.tup (outs.map .str)) ps wl vs (by omega) g hgdw.1
    have i2 := isseeings 59 H (libD ka kb) (.tup (outs.map .str)) ps wl vs [d] (by omega) (by simp; decide) (fun x hx => by simp at hx; subst hx; exact g) hgdw.1
    rw [f] at i1
    simp only [List.all_cons, f, Bool.false_and] at i2
    exact ⟨i1, i2⟩
  obtain ⟨y1, y2, y3⟩ := see_yes X.cwl X.cvs hw
  have T1 : ∀ H, callF GG fns 59 6 [.tup [], devD (libD ka kb) (wsD wl (.tup (vs.map .int))) ps (.tup (outs.map .str))] H = .ok (.bl true) H := fun H => by
    have := isseeing 59 H (libD ka kb) (.tup (outs.map .str)) ps wl vs (v := .tup []) (by omega) (by simp) hgdw.1
    rw [y1] at this; exact this
  have T2 : ∀ H, callF GG fns 59 7 [.tup [], devD (libD ka kb) (wsD wl (.tup (vs.map .int))) ps (.tup (outs.map .str))] H = .ok (.bl true) H := fun H =>
    isseeings 59 H (libD ka kb) (.tup (outs.map .str)) ps wl vs [] (by omega) (by simp) (fun x hx => by simp at hx) hgdw.1
  have T3 : ∀ H, callF GG fns 59 7 [.tup [.tup [], .tup [.tup [.str w, .int 0]]], devD (libD ka kb) (wsD wl (.tup (vs.map .int))) ps (.tup (outs.map .str))] H = .ok (.bl true) H := fun H => by
    have := isseeings 59 H (libD ka kb) (.tup (outs.map .str)) ps wl vs [.tup [], .tup [.tup [.str w, .int 0]]] (by omega) (by simp; decide) (fun x hx => by
      simp at hx
      rcases hx with rfl | rfl
      · simp
      · exact y2) hgdw.1
    simp only [List.all_cons, y1, y3, List.all_nil, Bool.and_self] at this
    exact this
  obtain ⟨q, qs, hpq, hqu⟩ := X.hd
  have P := X.psok
  have zl := X.lps
  -- all modes
  have fold : ∀ d ∈ ps.foldl (growP ka kb ps) [.tup []], ∃ mo0 r, d = .tup (pairD q.n mo0 :: r) ∧ rowOk ka kb ps ps (pairD q.n mo0 :: r) := fun d hd => by
    obtain ⟨r0, h0, ds, ⟨e, ok⟩ | ⟨e, _⟩⟩ := fold_row ka kb ps ps _ d hd
    · simp at h0
      subst h0
      simp only [tupV, List.nil_append] at e
      cases ds with
      | nil => rw [hpq] at ok; exact ok.elim
      | cons x r =>
        have ok' := ok
        rw [show rowOk ka kb ps ps (x :: r) = rowOk ka kb ps (q :: qs) (x :: r) by rw [hpq]] at ok'
        obtain ⟨⟨mo, hm, hx⟩, _⟩ := ok'
        subst hx
        exact ⟨mo, r, e, ok⟩
    · rw [e] at zl; simp at zl
  have hbel : belowL 0 (ps.foldl (growP ka kb ps) [.tup []]) = true := belowL_all.mpr fun d hd => by
    obtain ⟨mo0, r, rfl, ok⟩ := fold d hd
    rw [below_tup]
    refine belowL_all.mpr fun d hd => ?_
    obtain ⟨_, _, _, _, rfl⟩ := rowOk_mem ok d hd
    simp [pairD]
  have hne : 0 < (ps.foldl (growP ka kb ps) [.tup []]).length := by
    have := fold_ne ka kb ps ps [.tup []] (fun _ h => h) (by simp)
    cases e : ps.foldl (growP ka kb ps) [.tup []] with
    | nil => exact absurd e this
    | cons _ _ => simp
  have AM := allmodes 59 (([Cell.lst []] : HpE).set 0 (dr row a3)) ka kb (wsD wl (.tup (vs.map .int))) (.tup (outs.map .str)) ps (by omega) P zl.2 X.cka.kd.1 X.ckb.kd.1 (fun n => (X.mp n).1) (hcl.set (c := dr row a3) (by simp [dr, drL, cellBelow, belowL_all])) hbel
  rw [call_at (by omega) (fn := f_law) rfl rfl]
  simp only [f_law]
  have ea : ([D.scr ns].map some ++ List.replicate (13 - 1) none : EnvE) = lE ns none none none none none none none none none := rfl
  rw [ea, lt_eq, exL_consT, e0, then_nx, exL_consT, e1, then_nx, exL_consT]
  rw [show devD (libD ka kb) (wsD wl (.tup (vs.map .int))) ps (.tup (outs.map .str)) = .tup [libD ka kb, wsD wl (.tup (vs.map .int)), .tup (ps.map Prt.d), .tup (outs.map .str)] from rfl] at *
  rw [e2, then_nx, exL_consT, e3, then_nx, exL_consT]
  have e4 := fun H => lt4 (m := 59) (s := ns) H (some (.ref 0)) (some (.tup [libD ka kb, wsD wl (.tup (vs.map .int)), .tup (ps.map Prt.d), .tup (outs.map .str)])) none none none none w vt
  have e5 := fun H => lt5 (m := 59) (s := ns) H (.tup [libD ka kb, wsD wl (.tup (vs.map .int)), .tup (ps.map Prt.d), .tup (outs.map .str)]) (some (.ref 0)) none none none none w vt (fun d hd => S d (List.mem_of_mem_take hd) H)
  have e6 := fun H o5 o6 => lt6 (m := 59) (s := ns) H (.tup [libD ka kb, wsD wl (.tup (vs.map .int)), .tup (ps.map Prt.d), .tup (outs.map .str)]) (some (.ref 0)) o5 o6 none none none w vt (T1 H) (T2 H) (T3 H) (isseeings_l 59 H _ _ (by omega))
  have e7 := fun H o5 o6 => lt7 (m := 59) (s := ns) H (.tup [libD ka kb, wsD wl (.tup (vs.map .int)), .tup (ps.map Prt.d), .tup (outs.map .str)]) (some (.ref 0)) o5 o6 none none none w vt (S _ (by simp [seeB]) H).1
  rw [hvt] at *
  obtain ⟨o6, e5⟩ := e5 (([Cell.lst []] : HpE).set 0 (dr row a3))
  rw [e4, then_nx, exL_consT, e5, then_nx, exL_consT, e6, then_nx, exL_consT, e7, then_nx, exL_consT]
  rw [lt8 _ _ _ _ _ _ _ _ _ _ AM, then_nx, exL_consT]
  obtain ⟨md, hmd, e9⟩ := lt9 (m := 59) (s := ns) hp hr a3 (ps.foldl (growP ka kb ps) [.tup []]) (some (.tup [libD ka kb, wsD wl (.tup (.int 0 :: vt)), .tup (ps.map Prt.d), .tup (outs.map .str)])) (some (.str w)) (some (.tup (.int 0 :: vt))) (some (.tup ((seeB w).take 8))) o6 (by omega) (by omega) hne
  obtain ⟨mo0, r, rfl, ok⟩ := fold md hmd
  have hrl2 := rowOk_len ok
  simp at hrl2
  rw [e9, then_nx, exL_consT, lt10 _ _ _ _ _ _ _ _ _ _ _ _ (by omega), then_nx, exL_consT]
  obtain ⟨mn1, mn2⟩ := modes_no 59 (([Cell.lst []] : HpE).set 0 (dr row (a3 + 1))) (by omega) X (wsD wl (.tup (.int 0 :: vt))) (.tup (outs.map .str)) hpq ok hqu
  obtain ⟨o6b, e11⟩ := lt11 (m := 59) (s := ns) (([Cell.lst []] : HpE).set 0 (dr row (a3 + 1))) (.tup [libD ka kb, wsD wl (.tup (.int 0 :: vt)), .tup (ps.map Prt.d), .tup (outs.map .str)]) (some (.ref 0)) (some (.str w)) (some (.tup (.int 0 :: vt))) o6 (some (.lst (ps.foldl (growP ka kb ps) [.tup []]))) none q.n mo0 r (by omega) mn1
  rw [e11, then_nx, exL_consT]
  have e12 := lt12 (m := 59) (s := ns) (([Cell.lst []] : HpE).set 0 (dr row (a3 + 1))) (libD ka kb) (wsD wl (.tup (.int 0 :: vt))) (.tup (outs.map .str)) ps (some (.ref 0)) (some (.str w)) (some (.tup (.int 0 :: vt))) (some (.tup (moB q.n mo0 r))) o6b (some (.lst (ps.foldl (growP ka kb ps) [.tup []]))) (some (.tup (pairD q.n mo0 :: r))) zl.2
  rw [show devD (libD ka kb) (wsD wl (.tup (.int 0 :: vt))) ps (.tup (outs.map .str)) = .tup [libD ka kb, wsD wl (.tup (.int 0 :: vt)), .tup (ps.map Prt.d), .tup (outs.map .str)] from rfl] at e12
  rw [e12, then_nx, exL_consT]
  obtain ⟨pn1, pn2, pn3⟩ := parts_no 59 (([Cell.lst []] : HpE).set 0 (dr row (a3 + 1))) (by omega) X (libD ka kb) (wsD wl (.tup (.int 0 :: vt))) (.tup (outs.map .str)) hpq hqu
  have hmap : ps.map Prt.n = q.n :: qs.map Prt.n := by rw [hpq]; rfl
  have hql : qs.length ≤ 10 := by rw [hpq] at zl; simp at zl; omega
  rw [hmap] at pn1 pn3
  obtain ⟨o6c, e13⟩ := lt13 (m := 59) (s := ns) (([Cell.lst []] : HpE).set 0 (dr row (a3 + 1))) (.tup [libD ka kb, wsD wl (.tup (.int 0 :: vt)), .tup (ps.map Prt.d), .tup (outs.map .str)]) (some (.ref 0)) (some (.str w)) (some (.tup (.int 0 :: vt))) (some (.tup (moB q.n mo0 r))) o6b (some (.lst (ps.foldl (growP ka kb ps) [.tup []]))) (some (.tup (pairD q.n mo0 :: r))) q.n (qs.map Prt.n) (by simpa using hql) pn1
  rw [hmap, e13, then_nx, exL_consT, lt14 _ (.tup [libD ka kb, wsD wl (.tup (.int 0 :: vt)), .tup (ps.map Prt.d), .tup (outs.map .str)]) _ _ _ _ _ _ _ _ pn2 pn3 mn2, then_ret]
  refine ⟨[], ?_⟩
  exact fin_cl (n0 := 0) (h := []) (d := .bl true) (t := ([Cell.lst []] : HpE).set 0 (dr row (a3 + 1))) rfl (fun c hc => by simp at hc) (by simp)
end whatfailed_k52_whole_forms_spoilt

namespace whatfailed_k52_whole_forms_spoilt
open PySem PySem.Spec PyProof.Rows L2 Ev
section
variable [KK] {K : PySem.W.Frag} {mg : Str → Option Value} {h : Heap}
theorem at_law (X : K.In h) (G : h.Ns mainGlobals mg) (d : HasDef K "law" (top 52) 0 0) : ∃ f fd, DefAt K mg e_law f_law f fd := d.at0 X G rfl rfl fun _ _ _ _ _ _ us hl => match us, hl with | [_], _ => rfl
theorem at__law_row (X : K.In h) (G : h.Ns mainGlobals mg) (d : HasDef K "_law_row" (top 24) 0 0) : ∃ f fd, DefAt K mg e__law_row f__law_row f fd := d.at0 X G rfl rfl fun _ _ _ _ _ _ us hl => match us, hl with | [_, _], _ => rfl
theorem at__law_device (X : K.In h) (G : h.Ns mainGlobals mg) (d : HasDef K "_law_device" (top 31) 0 0) : ∃ f fd, DefAt K mg e__law_device f__law_device f fd := d.at0 X G rfl rfl fun _ _ _ _ _ _ us hl => match us, hl with | [_, _], _ => rfl
theorem at__law_pick (X : K.In h) (G : h.Ns mainGlobals mg) (d : HasDef K "_law_pick" (top 27) 0 0) : ∃ f fd, DefAt K mg e__law_pick f__law_pick f fd := d.at0 X G rfl rfl fun _ _ _ _ _ _ us hl => match us, hl with | [_, _], _ => rfl
theorem at__law_forms_told (X : K.In h) (G : h.Ns mainGlobals mg) (d : HasDef K "_law_forms_told" (top 49) 0 0) : ∃ f fd, DefAt K mg e__law_forms_told f__law_forms_told f fd := d.at0 X G rfl rfl fun _ _ _ _ _ _ us hl => match us, hl with | [_, _], _ => rfl
theorem at__law_kinds_told (X : K.In h) (G : h.Ns mainGlobals mg) (d : HasDef K "_law_kinds_told" (top 51) 0 0) : ∃ f fd, DefAt K mg e__law_kinds_told f__law_kinds_told f fd := d.at0 X G rfl rfl fun _ _ _ _ _ _ us hl => match us, hl with | [_, _], _ => rfl
theorem at_is_seeing (X : K.In h) (G : h.Ns mainGlobals mg) (d : HasDef K "is_seeing" (top 18) 0 0) : ∃ f fd, DefAt K mg e_is_seeing f_is_seeing f fd := d.at0 X G rfl rfl fun _ _ _ _ _ _ us hl => match us, hl with | [_, _], _ => rfl
theorem at_is_seeings (X : K.In h) (G : h.Ns mainGlobals mg) (d : HasDef K "is_seeings" (top 19) 0 0) : ∃ f fd, DefAt K mg e_is_seeings f_is_seeings f fd := d.at0 X G rfl rfl fun _ _ _ _ _ _ us hl => match us, hl with | [_, _], _ => rfl
theorem at__law_all_modes (X : K.In h) (G : h.Ns mainGlobals mg) (d : HasDef K "_law_all_modes" (top 37) 0 0) : ∃ f fd, DefAt K mg e__law_all_modes f__law_all_modes f fd := d.at0 X G rfl rfl fun _ _ _ _ _ _ us hl => match us, hl with | [_], _ => rfl
theorem at_is_modes (X : K.In h) (G : h.Ns mainGlobals mg) (d : HasDef K "is_modes" (top 20) 0 0) : ∃ f fd, DefAt K mg e_is_modes f_is_modes f fd := d.at0 X G rfl rfl fun _ _ _ _ _ _ us hl => match us, hl with | [_, _], _ => rfl
theorem at_is_parts (X : K.In h) (G : h.Ns mainGlobals mg) (d : HasDef K "is_parts" (top 21) 0 0) : ∃ f fd, DefAt K mg e_is_parts f_is_parts f fd := d.at0 X G rfl rfl fun _ _ _ _ _ _ us hl => match us, hl with | [_, _], _ => rfl
theorem at__law_mixed (X : K.In h) (G : h.Ns mainGlobals mg) (d : HasDef K "_law_mixed" (top 23) 0 0) : ∃ f fd, DefAt K mg e__law_mixed f__law_mixed f fd := d.at0 X G rfl rfl fun _ _ _ _ _ _ us hl => match us, hl with | [_, _], _ => rfl
theorem at__law_kind (X : K.In h) (G : h.Ns mainGlobals mg) (d : HasDef K "_law_kind" (top 30) 0 0) : ∃ f fd, DefAt K mg e__law_kind f__law_kind f fd := d.at0 X G rfl rfl fun _ _ _ _ _ _ us hl => match us, hl with | [_, _], _ => rfl
theorem at__law_grown (X : K.In h) (G : h.Ns mainGlobals mg) (d : HasDef K "_law_grown" (top 47) 0 0) : ∃ f fd, DefAt K mg e__law_grown f__law_grown f fd := d.at0 X G rfl rfl fun _ _ _ _ _ _ us hl => match us, hl with | [_, _, _, _], _ => rfl
theorem at__law_spoilt (X : K.In h) (G : h.Ns mainGlobals mg) (d : HasDef K "_law_spoilt" (top 48) 0 0) : ∃ f fd, DefAt K mg e__law_spoilt f__law_spoilt f fd := d.at0 X G rfl rfl fun _ _ _ _ _ _ us hl => match us, hl with | [_, _], _ => rfl
theorem at__law_like (X : K.In h) (G : h.Ns mainGlobals mg) (d : HasDef K "_law_like" (top 26) 0 0) : ∃ f fd, DefAt K mg e__law_like f__law_like f fd := d.at0 X G rfl rfl fun _ _ _ _ _ _ us hl => match us, hl with | [_, _], _ => rfl
theorem at_is_amount (X : K.In h) (G : h.Ns mainGlobals mg) (d : HasDef K "is_amount" (top 11) 1 8) : ∃ f fd, DefAt K mg e_is_amount f_is_amount f fd := d.at1 X G rfl rfl (fun _ _ _ _ _ _ _ us its hl hi => match us, hl, its, hi with | [_, _], _, [_], _ => ⟨_, rfl, rfl⟩) (fun _ _ _ _ _ _ _ us its hl hi => match us, hl, its, hi with | [_, _, _], _, [_], _ => ⟨_, rfl, rfl⟩)
theorem at__law_form (X : K.In h) (G : h.Ns mainGlobals mg) (d : HasDef K "_law_form" (top 46) 0 0) : ∃ f fd, DefAt K mg e__law_form f__law_form f fd := d.at0 X G rfl rfl fun _ _ _ _ _ _ us hl => match us, hl with | [_, _, _, _], _ => rfl
theorem at_is_condition (X : K.In h) (G : h.Ns mainGlobals mg) (d : HasDef K "is_condition" (top 12) 1 8) : ∃ f fd, DefAt K mg e_is_condition f_is_condition f fd := d.at1 X G rfl rfl (fun _ _ _ _ _ _ _ us its hl hi => match us, hl, its, hi with | [_, _], _, [_], _ => ⟨_, rfl, rfl⟩) (fun _ _ _ _ _ _ _ us its hl hi => match us, hl, its, hi with | [_, _, _], _, [_], _ => ⟨_, rfl, rfl⟩)
theorem at_is_kind (X : K.In h) (G : h.Ns mainGlobals mg) (d : HasDef K "is_kind" (top 13) 0 0) : ∃ f fd, DefAt K mg e_is_kind f_is_kind f fd := d.at0 X G rfl rfl fun _ _ _ _ _ _ us hl => match us, hl with | [_], _ => rfl
theorem at__law_kind_form (X : K.In h) (G : h.Ns mainGlobals mg) (d : HasDef K "_law_kind_form" (top 50) 0 0) : ∃ f fd, DefAt K mg e__law_kind_form f__law_kind_form f fd := d.at0 X G rfl rfl fun _ _ _ _ _ _ us hl => match us, hl with | [_], _ => rfl
theorem at_is_library (X : K.In h) (G : h.Ns mainGlobals mg) (d : HasDef K "is_library" (top 14) 0 0) : ∃ f fd, DefAt K mg e_is_library f_is_library f fd := d.at0 X G rfl rfl fun _ _ _ _ _ _ us hl => match us, hl with | [_], _ => rfl
theorem at_is_device (X : K.In h) (G : h.Ns mainGlobals mg) (d : HasDef K "is_device" (top 15) 0 0) : ∃ f fd, DefAt K mg e_is_device f_is_device f fd := d.at0 X G rfl rfl fun _ _ _ _ _ _ us hl => match us, hl with | [_], _ => rfl
theorem at_is_rows (X : K.In h) (G : h.Ns mainGlobals mg) (d : HasDef K "is_rows" (top 9) 0 0) : ∃ f fd, DefAt K mg e_is_rows f_is_rows f fd := d.at0 X G rfl rfl fun _ _ _ _ _ _ us hl => match us, hl with | [_, _], _ => rfl
theorem at_is_int (X : K.In h) (G : h.Ns mainGlobals mg) (d : HasDef K "is_int" (top 6) 0 0) : ∃ f fd, DefAt K mg e_is_int f_is_int f fd := d.at0 X G rfl rfl fun _ _ _ _ _ _ us hl => match us, hl with | [_], _ => rfl
theorem at__law_modes (X : K.In h) (G : h.Ns mainGlobals mg) (d : HasDef K "_law_modes" (top 36) 0 0) : ∃ f fd, DefAt K mg e__law_modes f__law_modes f fd := d.at0 X G rfl rfl fun _ _ _ _ _ _ us hl => match us, hl with | [_, _], _ => rfl
theorem at_part_names (X : K.In h) (G : h.Ns mainGlobals mg) (d : HasDef K "part_names" (top 16) 0 0) : ∃ f fd, DefAt K mg e_part_names f_part_names f fd := d.at0 X G rfl rfl fun _ _ _ _ _ _ us hl => match us, hl with | [_], _ => rfl
theorem at_modes_of (X : K.In h) (G : h.Ns mainGlobals mg) (d : HasDef K "modes_of" (top 17) 0 0) : ∃ f fd, DefAt K mg e_modes_of f_modes_of f fd := d.at0 X G rfl rfl fun _ _ _ _ _ _ us hl => match us, hl with | [_, _], _ => rfl
theorem at_is_rising (X : K.In h) (G : h.Ns mainGlobals mg) (d : HasDef K "is_rising" (top 8) 0 0) : ∃ f fd, DefAt K mg e_is_rising f_is_rising f fd := d.at0 X G rfl rfl fun _ _ _ _ _ _ us hl => match us, hl with | [_], _ => rfl
theorem at__law_cond (X : K.In h) (G : h.Ns mainGlobals mg) (d : HasDef K "_law_cond" (top 29) 0 0) : ∃ f fd, DefAt K mg e__law_cond f__law_cond f fd := d.at0 X G rfl rfl fun _ _ _ _ _ _ us hl => match us, hl with | [_, _], _ => rfl
theorem at__law_is_int (X : K.In h) (G : h.Ns mainGlobals mg) (d : HasDef K "_law_is_int" (top 25) 0 0) : ∃ f fd, DefAt K mg e__law_is_int f__law_is_int f fd := d.at0 X G rfl rfl fun _ _ _ _ _ _ us hl => match us, hl with | [_], _ => rfl
theorem at_is_values (X : K.In h) (G : h.Ns mainGlobals mg) (d : HasDef K "is_values" (top 10) 0 0) : ∃ f fd, DefAt K mg e_is_values f_is_values f fd := d.at0 X G rfl rfl fun _ _ _ _ _ _ us hl => match us, hl with | [_], _ => rfl
theorem at_is_name (X : K.In h) (G : h.Ns mainGlobals mg) (d : HasDef K "is_name" (top 7) 0 0) : ∃ f fd, DefAt K mg e_is_name f_is_name f fd := d.at0 X G rfl rfl fun _ _ _ _ _ _ us hl => match us, hl with | [_], _ => rfl
theorem at__law_amount (X : K.In h) (G : h.Ns mainGlobals mg) (d : HasDef K "_law_amount" (top 28) 0 0) : ∃ f fd, DefAt K mg e__law_amount f__law_amount f fd := d.at0 X G rfl rfl fun _ _ _ _ _ _ us hl => match us, hl with | [_, _, _], _ => rfl
end
theorem wld {K : PySem.W.Frag} {mg : Str → Option Value} {h : Heap} (X : K.In h) (G : h.Ns mainGlobals mg)
    (z_len : PySem.W.nsIn K mainGlobals "len" = some none)
    (z_isinstance : PySem.W.nsIn K mainGlobals "isinstance" = some none)
    (z_all : PySem.W.nsIn K mainGlobals "all" = some none)
    (z_any : PySem.W.nsIn K mainGlobals "any" = some none)
    (z_tuple : PySem.W.nsIn K mainGlobals "tuple" = some none)
    (z_list : PySem.W.nsIn K mainGlobals "list" = some none)
    (z_dict : PySem.W.nsIn K mainGlobals "dict" = some none)
    (z_sorted : PySem.W.nsIn K mainGlobals "sorted" = some none)
    (z_set : PySem.W.nsIn K mainGlobals "set" = some none)
    (z_int : PySem.W.nsIn K mainGlobals "int" = some none)
    (z_str : PySem.W.nsIn K mainGlobals "str" = some none)
    (z_bool : PySem.W.nsIn K mainGlobals "bool" = some none)
    (z_range : PySem.W.nsIn K mainGlobals "range" = some none)
    (z_zip : PySem.W.nsIn K mainGlobals "zip" = some none)
    (z_enumerate : PySem.W.nsIn K mainGlobals "enumerate" = some none)
    (z_min : PySem.W.nsIn K mainGlobals "min" = some none)
    (z_max : PySem.W.nsIn K mainGlobals "max" = some none)
    (d_law : @Ev.HasDef K "law" (top 52) 0 0)
    (d__law_row : @Ev.HasDef K "_law_row" (top 24) 0 0)
    (d__law_device : @Ev.HasDef K "_law_device" (top 31) 0 0)
    (d__law_pick : @Ev.HasDef K "_law_pick" (top 27) 0 0)
    (d__law_forms_told : @Ev.HasDef K "_law_forms_told" (top 49) 0 0)
    (d__law_kinds_told : @Ev.HasDef K "_law_kinds_told" (top 51) 0 0)
    (d_is_seeing : @Ev.HasDef K "is_seeing" (top 18) 0 0)
    (d_is_seeings : @Ev.HasDef K "is_seeings" (top 19) 0 0)
    (d__law_all_modes : @Ev.HasDef K "_law_all_modes" (top 37) 0 0)
    (d_is_modes : @Ev.HasDef K "is_modes" (top 20) 0 0)
    (d_is_parts : @Ev.HasDef K "is_parts" (top 21) 0 0)
    (d__law_mixed : @Ev.HasDef K "_law_mixed" (top 23) 0 0)
    (d__law_kind : @Ev.HasDef K "_law_kind" (top 30) 0 0)
    (d__law_grown : @Ev.HasDef K "_law_grown" (top 47) 0 0)
    (d__law_spoilt : @Ev.HasDef K "_law_spoilt" (top 48) 0 0)
    (d__law_like : @Ev.HasDef K "_law_like" (top 26) 0 0)
    (d_is_amount : @Ev.HasDef K "is_amount" (top 11) 1 8)
    (d__law_form : @Ev.HasDef K "_law_form" (top 46) 0 0)
    (d_is_condition : @Ev.HasDef K "is_condition" (top 12) 1 8)
    (d_is_kind : @Ev.HasDef K "is_kind" (top 13) 0 0)
    (d__law_kind_form : @Ev.HasDef K "_law_kind_form" (top 50) 0 0)
    (d_is_library : @Ev.HasDef K "is_library" (top 14) 0 0)
    (d_is_device : @Ev.HasDef K "is_device" (top 15) 0 0)
    (d_is_rows : @Ev.HasDef K "is_rows" (top 9) 0 0)
    (d_is_int : @Ev.HasDef K "is_int" (top 6) 0 0)
    (d__law_modes : @Ev.HasDef K "_law_modes" (top 36) 0 0)
    (d_part_names : @Ev.HasDef K "part_names" (top 16) 0 0)
    (d_modes_of : @Ev.HasDef K "modes_of" (top 17) 0 0)
    (d_is_rising : @Ev.HasDef K "is_rising" (top 8) 0 0)
    (d__law_cond : @Ev.HasDef K "_law_cond" (top 29) 0 0)
    (d__law_is_int : @Ev.HasDef K "_law_is_int" (top 25) 0 0)
    (d_is_values : @Ev.HasDef K "is_values" (top 10) 0 0)
    (d_is_name : @Ev.HasDef K "is_name" (top 7) 0 0)
    (d__law_amount : @Ev.HasDef K "_law_amount" (top 28) 0 0)
    (g_MOST : Ev.HasVal K "MOST" (.int 99))
    (g_MOST_COST : Ev.HasVal K "MOST_COST" (.int 9))
    (g_LETTERS : Ev.HasVal K "LETTERS" (.str "abcdefghijklmnopqrstuvwxyz"))
    (t_WORDS : Ev.HasTup K "WORDS" ["well", "port", "if", "and", "or", "not", "least", "most", "yes", "kinds", "device", "wires", "parts", "outer", "ports", "modes"])
    : @Wld ⟨K⟩ K mg TB GG fns defs := by
  letI : KK := ⟨K⟩
  refine ⟨rfl, fun x hx => AllB.get (Q := fun x => mg x = none) (l := bnames) ?_ hx, fun fi fn de h1 h2 => AllP.get (Q := fun fn de => ∃ f fd, DefAt K mg de fn f fd) ?_ h1 h2, fun x g e => AllT.get (Q := fun x g => ∃ v u d, mg x = some u ∧ RelV v u ∧ GG[g]? = some d ∧ ∀ H Z ρ n, R H Z ρ n v d) ?_ e,
    fun x ds e => AllT.get (Q := fun x ds => ∃ g vs, mg x = some (.ref g) ∧ (∀ H, SqT K H g vs) ∧ ∀ H, DpAll K H vs (pyL ds)) ?_ e⟩
  · exact And.intro (PySem.W.mg_none_of X G z_len) (And.intro (PySem.W.mg_none_of X G z_isinstance) (And.intro (PySem.W.mg_none_of X G z_all) (And.intro (PySem.W.mg_none_of X G z_any) (And.intro (PySem.W.mg_none_of X G z_tuple) (And.intro (PySem.W.mg_none_of X G z_list) (And.intro (PySem.W.mg_none_of X G z_dict) (And.intro (PySem.W.mg_none_of X G z_sorted) (And.intro (PySem.W.mg_none_of X G z_set) (And.intro (PySem.W.mg_none_of X G z_int) (And.intro (PySem.W.mg_none_of X G z_str) (And.intro (PySem.W.mg_none_of X G z_bool) (And.intro (PySem.W.mg_none_of X G z_range) (And.intro (PySem.W.mg_none_of X G z_zip) (And.intro (PySem.W.mg_none_of X G z_enumerate) (And.intro (PySem.W.mg_none_of X G z_min) (And.intro (PySem.W.mg_none_of X G z_max) (True.intro)))))))))))))))))
  · exact (And.intro (at_law X G d_law) (And.intro (at__law_row X G d__law_row) (And.intro (at__law_device X G d__law_device) (And.intro (at__law_pick X G d__law_pick) (And.intro (at__law_forms_told X G d__law_forms_told) (And.intro (at__law_kinds_told X G d__law_kinds_told) (And.intro (at_is_seeing X G d_is_seeing) (And.intro (at_is_seeings X G d_is_seeings) (And.intro (at__law_all_modes X G d__law_all_modes) (And.intro (at_is_modes X G d_is_modes) (And.intro (at_is_parts X G d_is_parts) (And.intro (at__law_mixed X G d__law_mixed) (And.intro (at__law_kind X G d__law_kind) (And.intro (at__law_grown X G d__law_grown) (And.intro (at__law_spoilt X G d__law_spoilt) (And.intro (at__law_like X G d__law_like) (And.intro (at_is_amount X G d_is_amount) (And.intro (at__law_form X G d__law_form) (And.intro (at_is_condition X G d_is_condition) (And.intro (at_is_kind X G d_is_kind) (And.intro (at__law_kind_form X G d__law_kind_form) (And.intro (at_is_library X G d_is_library) (And.intro (at_is_device X G d_is_device) (And.intro (at_is_rows X G d_is_rows) (And.intro (at_is_int X G d_is_int) (And.intro (at__law_modes X G d__law_modes) (And.intro (at_part_names X G d_part_names) (And.intro (at_modes_of X G d_modes_of) (And.intro (at_is_rising X G d_is_rising) (And.intro (at__law_cond X G d__law_cond) (And.intro (at__law_is_int X G d__law_is_int) (And.intro (at_is_values X G d_is_values) (And.intro (at_is_name X G d_is_name) (And.intro (at__law_amount X G d__law_amount) True.intro))))))))))))))))))))))))))))))))))
  · exact And.intro (Ev.HasVal.get X G g_MOST rfl) (And.intro (Ev.HasVal.get X G g_MOST_COST rfl) (And.intro (Ev.HasVal.get X G g_LETTERS rfl) (True.intro)))
  · exact And.intro (Ev.HasTup.get X G t_WORDS) (True.intro)
end whatfailed_k52_whole_forms_spoilt
open PySem PySem.W PyProof.Rows
set_option maxHeartbeats 0 in
theorem PySem.Challenge.cw_whatfailed_k52_whole_forms_spoilt_holds : PySem.Challenge.rw_whatfailed_k52_whole_forms_spoilt.Holds := by
  w_on; o_law; k_head; (case hw => w_witness2)
  k_fill
  refine Ev.walk_ev (n := 60) (fi := 0) (x := "script") rfl rfl ⟨rfl, by decide, by decide⟩ (fun w h Y => PySem.W.kIn_of Y) whatfailed_k52_whole_forms_spoilt.prg rfl rfl rfl rfl rfl rfl ?F whatfailed_k52_whole_forms_spoilt.law_true
  case F =>
    intro w mg h KX G
    refine' whatfailed_k52_whole_forms_spoilt.wld KX G ?z_len ?z_isinstance ?z_all ?z_any ?z_tuple ?z_list ?z_dict ?z_sorted ?z_set ?z_int ?z_str ?z_bool ?z_range ?z_zip ?z_enumerate ?z_min ?z_max ?d_law ?d__law_row ?d__law_device ?d__law_pick ?d__law_forms_told ?d__law_kinds_told ?d_is_seeing ?d_is_seeings ?d__law_all_modes ?d_is_modes ?d_is_parts ?d__law_mixed ?d__law_kind ?d__law_grown ?d__law_spoilt ?d__law_like ?d_is_amount ?d__law_form ?d_is_condition ?d_is_kind ?d__law_kind_form ?d_is_library ?d_is_device ?d_is_rows ?d_is_int ?d__law_modes ?d_part_names ?d_modes_of ?d_is_rising ?d__law_cond ?d__law_is_int ?d_is_values ?d_is_name ?d__law_amount ?g_MOST ?g_MOST_COST ?g_LETTERS ?t_WORDS
    (case z_len => k_is)
    (case z_isinstance => k_is)
    (case z_all => k_is)
    (case z_any => k_is)
    (case z_tuple => k_is)
    (case z_list => k_is)
    (case z_dict => k_is)
    (case z_sorted => k_is)
    (case z_set => k_is)
    (case z_int => k_is)
    (case z_str => k_is)
    (case z_bool => k_is)
    (case z_range => k_is)
    (case z_zip => k_is)
    (case z_enumerate => k_is)
    (case z_min => k_is)
    (case z_max => k_is)
    (case d_law => (refine' Ev.HasDef.mk0 ?a ?l ?c ?k; (case a => k_is); (case l => k_is); (case c => k_is); (case k => k_is)))
    (case d__law_row => (refine' Ev.HasDef.mk0 ?a ?l ?c ?k; (case a => k_is); (case l => k_is); (case c => k_is); (case k => k_is)))
    (case d__law_device => (refine' Ev.HasDef.mk0 ?a ?l ?c ?k; (case a => k_is); (case l => k_is); (case c => k_is); (case k => k_is)))
    (case d__law_pick => (refine' Ev.HasDef.mk0 ?a ?l ?c ?k; (case a => k_is); (case l => k_is); (case c => k_is); (case k => k_is)))
    (case d__law_forms_told => (refine' Ev.HasDef.mk0 ?a ?l ?c ?k; (case a => k_is); (case l => k_is); (case c => k_is); (case k => k_is)))
    (case d__law_kinds_told => (refine' Ev.HasDef.mk0 ?a ?l ?c ?k; (case a => k_is); (case l => k_is); (case c => k_is); (case k => k_is)))
    (case d_is_seeing => (refine' Ev.HasDef.mk0 ?a ?l ?c ?k; (case a => k_is); (case l => k_is); (case c => k_is); (case k => k_is)))
    (case d_is_seeings => (refine' Ev.HasDef.mk0 ?a ?l ?c ?k; (case a => k_is); (case l => k_is); (case c => k_is); (case k => k_is)))
    (case d__law_all_modes => (refine' Ev.HasDef.mk0 ?a ?l ?c ?k; (case a => k_is); (case l => k_is); (case c => k_is); (case k => k_is)))
    (case d_is_modes => (refine' Ev.HasDef.mk0 ?a ?l ?c ?k; (case a => k_is); (case l => k_is); (case c => k_is); (case k => k_is)))
    (case d_is_parts => (refine' Ev.HasDef.mk0 ?a ?l ?c ?k; (case a => k_is); (case l => k_is); (case c => k_is); (case k => k_is)))
    (case d__law_mixed => (refine' Ev.HasDef.mk0 ?a ?l ?c ?k; (case a => k_is); (case l => k_is); (case c => k_is); (case k => k_is)))
    (case d__law_kind => (refine' Ev.HasDef.mk0 ?a ?l ?c ?k; (case a => k_is); (case l => k_is); (case c => k_is); (case k => k_is)))
    (case d__law_grown => (refine' Ev.HasDef.mk0 ?a ?l ?c ?k; (case a => k_is); (case l => k_is); (case c => k_is); (case k => k_is)))
    (case d__law_spoilt => (refine' Ev.HasDef.mk0 ?a ?l ?c ?k; (case a => k_is); (case l => k_is); (case c => k_is); (case k => k_is)))
    (case d__law_like => (refine' Ev.HasDef.mk0 ?a ?l ?c ?k; (case a => k_is); (case l => k_is); (case c => k_is); (case k => k_is)))
    (case d_is_amount => (refine' Ev.HasDef.mk1 ?a ?l ?c ?k ?lT; (case a => k_is); (case l => k_is); (case c => k_is); (case k => k_is); (case lT => k_is)))
    (case d__law_form => (refine' Ev.HasDef.mk0 ?a ?l ?c ?k; (case a => k_is); (case l => k_is); (case c => k_is); (case k => k_is)))
    (case d_is_condition => (refine' Ev.HasDef.mk1 ?a ?l ?c ?k ?lT; (case a => k_is); (case l => k_is); (case c => k_is); (case k => k_is); (case lT => k_is)))
    (case d_is_kind => (refine' Ev.HasDef.mk0 ?a ?l ?c ?k; (case a => k_is); (case l => k_is); (case c => k_is); (case k => k_is)))
    (case d__law_kind_form => (refine' Ev.HasDef.mk0 ?a ?l ?c ?k; (case a => k_is); (case l => k_is); (case c => k_is); (case k => k_is)))
    (case d_is_library => (refine' Ev.HasDef.mk0 ?a ?l ?c ?k; (case a => k_is); (case l => k_is); (case c => k_is); (case k => k_is)))
    (case d_is_device => (refine' Ev.HasDef.mk0 ?a ?l ?c ?k; (case a => k_is); (case l => k_is); (case c => k_is); (case k => k_is)))
    (case d_is_rows => (refine' Ev.HasDef.mk0 ?a ?l ?c ?k; (case a => k_is); (case l => k_is); (case c => k_is); (case k => k_is)))
    (case d_is_int => (refine' Ev.HasDef.mk0 ?a ?l ?c ?k; (case a => k_is); (case l => k_is); (case c => k_is); (case k => k_is)))
    (case d__law_modes => (refine' Ev.HasDef.mk0 ?a ?l ?c ?k; (case a => k_is); (case l => k_is); (case c => k_is); (case k => k_is)))
    (case d_part_names => (refine' Ev.HasDef.mk0 ?a ?l ?c ?k; (case a => k_is); (case l => k_is); (case c => k_is); (case k => k_is)))
    (case d_modes_of => (refine' Ev.HasDef.mk0 ?a ?l ?c ?k; (case a => k_is); (case l => k_is); (case c => k_is); (case k => k_is)))
    (case d_is_rising => (refine' Ev.HasDef.mk0 ?a ?l ?c ?k; (case a => k_is); (case l => k_is); (case c => k_is); (case k => k_is)))
    (case d__law_cond => (refine' Ev.HasDef.mk0 ?a ?l ?c ?k; (case a => k_is); (case l => k_is); (case c => k_is); (case k => k_is)))
    (case d__law_is_int => (refine' Ev.HasDef.mk0 ?a ?l ?c ?k; (case a => k_is); (case l => k_is); (case c => k_is); (case k => k_is)))
    (case d_is_values => (refine' Ev.HasDef.mk0 ?a ?l ?c ?k; (case a => k_is); (case l => k_is); (case c => k_is); (case k => k_is)))
    (case d_is_name => (refine' Ev.HasDef.mk0 ?a ?l ?c ?k; (case a => k_is); (case l => k_is); (case c => k_is); (case k => k_is)))
    (case d__law_amount => (refine' Ev.HasDef.mk0 ?a ?l ?c ?k; (case a => k_is); (case l => k_is); (case c => k_is); (case k => k_is)))
    (case g_MOST => (refine' Ev.HasVal.int ?a; (case a => k_is)))
    (case g_MOST_COST => (refine' Ev.HasVal.int ?a; (case a => k_is)))
    (case g_LETTERS => (refine' Ev.HasVal.str ?a; (case a => k_is)))
    (case t_WORDS => (refine' Ev.HasTup.mk ?a ?l ?z ?v; (case a => k_is); (case l => k_is); (case z => (show (_ : Nat) ≤ _; decide)); (case v => (repeat (first | exact Paired.nil | refine Paired.cons ⟨_, rfl⟩ ?_)))))
