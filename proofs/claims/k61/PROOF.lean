import PyProof.Rows.All
import Wide.All
import OpenK.AllK
import Wide.FinOn
import HandS.ForMost
import HandS.Deep
import HandS.IsInst
import HandS.Style
import HandS.Flow
import HandS.Conv
import HandS.NoneIn
import HandS.Rev
import HandS.TupAny
import KE.DataEq
import KE.DataCmp
import KE.SortData
import HandS.Zip
import HandS.Ends
import PySem.Challenge.RW_hourhouse_k61_names_and_letters
set_option Elab.async false
set_option linter.all false
set_option maxRecDepth 100000
set_option maxHeartbeats 4000000
/-! Cal, part A: data, the small language, its interpreter. -/
namespace Cal
open PySem

/-- data without addresses: a text is its signs; loc: a thing of the store -/
inductive D where
  | non | bl (b : Bool) | int (i : Int) | str (s : List Nat) | tup (ds : List D) | lst (ds : List D)
  | dct (ks vs : List D) | loc (n : Nat) | fn (f : Nat) | obj (c : Nat) (ns : List Nat) (vs : List D)

/-! data may be compared as they stand -/
mutual
def sameD : D → D → Bool
  | .non, .non => true
  | .bl a, .bl b => a == b
  | .int a, .int b => a == b
  | .str a, .str b => a == b
  | .tup a, .tup b => sameL a b
  | .lst a, .lst b => sameL a b
  | .dct a b, .dct c d => sameL a c && sameL b d
  | .loc a, .loc b => a == b
  | .fn a, .fn b => a == b
  | .obj a b c, .obj a' b' c' => a == a' && b == b' && sameL c c'
  | _, _ => false
def sameL : List D → List D → Bool
  | [], [] => true
  | a :: r, b :: q => sameD a b && sameL r q
  | _, _ => false
end
mutual
theorem sameD_eq : ∀ (a b : D), sameD a b = true → a = b
  | .non, b, h => by cases b <;> first | rfl | (simp [sameD] at h)
  | .bl _, b, h => by cases b <;> simp [sameD] at h; rw [h]
  | .int _, b, h => by cases b <;> simp [sameD] at h; rw [h]
  | .str _, b, h => by cases b <;> simp [sameD] at h; rw [h]
  | .tup x, b, h => by
    cases b <;> simp only [sameD] at h <;> first | (cases h; done) | rw [sameL_eq x _ h]
  | .lst x, b, h => by
    cases b <;> simp only [sameD] at h <;> first | (cases h; done) | rw [sameL_eq x _ h]
  | .dct x y, b, h => by
    cases b <;> simp only [sameD] at h <;> first | (cases h; done) | (rw [Bool.and_eq_true] at h; rw [sameL_eq x _ h.1, sameL_eq y _ h.2])
  | .loc _, b, h => by cases b <;> simp [sameD] at h; rw [h]
  | .fn _, b, h => by cases b <;> simp [sameD] at h; rw [h]
  | .obj x y z, b, h => by
    cases b <;> simp only [sameD] at h <;> first | (cases h; done) | (rw [Bool.and_eq_true, Bool.and_eq_true] at h; rw [eq_of_beq h.1.1, eq_of_beq h.1.2, sameL_eq z _ h.2])
theorem sameL_eq : ∀ (a b : List D), sameL a b = true → a = b
  | [], b, h => by cases b <;> first | rfl | (simp [sameL] at h)
  | x :: r, b, h => by
    cases b with
    | nil => simp [sameL] at h
    | cons y q =>
      simp only [sameL, Bool.and_eq_true] at h
      rw [sameD_eq x y h.1, sameL_eq r q h.2]
end
mutual
theorem sameD_rfl : ∀ a : D, sameD a a = true
  | .non | .bl _ | .int _ | .str _ | .loc _ | .fn _ => by simp [sameD]
  | .tup x => by simp only [sameD]; exact sameL_rfl x
  | .lst x => by simp only [sameD]; exact sameL_rfl x
  | .dct x y => by simp only [sameD]; rw [sameL_rfl x, sameL_rfl y]; rfl
  | .obj x y z => by simp only [sameD]; rw [sameL_rfl z]; simp
theorem sameL_rfl : ∀ a : List D, sameL a a = true
  | [] => by simp [sameL]
  | x :: r => by simp only [sameL]; rw [sameD_rfl x, sameL_rfl r]; rfl
end
instance : DecidableEq D := fun a b => if h : sameD a b = true then isTrue (sameD_eq a b h) else isFalse fun e => h (by rw [e]; exact sameD_rfl b)

/-- a slot: nothing, a value, a list or dict that the slot alone holds -/
inductive Sl where
  | un | va (d : D) | ow (d : D)
/-- a thing of the store: a list or dict; an instance with its fields -/
inductive Ob where
  | cell (d : D) | ins (c : Nat) (fs : List (Nat × Sl))
abbrev Env := List Sl
abbrev Sto := List Ob
/-- the longest list or text -/
abbrev SL : Nat := 16777216

inductive BO where
  | add | sub | mul | fdiv | mod | pow
deriving DecidableEq
inductive CO where
  | eq | ne | lt | le | gt | ge | isin | notin | is | isnot
deriving DecidableEq
/-- built-in functions and classes called -/
inductive BI where
  | len | all | any | sum | sorted | tuple | list | min2 | max2 | str | int | abs
deriving DecidableEq
/-- methods of built-in types -/
inductive MI where
  | index | upper
deriving DecidableEq
/-- types that isinstance asks for -/
inductive TyI where
  | int | bool | str | tuple | list
deriving DecidableEq

mutual
inductive IE where
  | v (i : Nat) | w (i : Nat) | k (d : D)
  | bin (op : BO) (a b : IE) | neg (a : IE) | notv (a : IE) | andv (a b : IE) | orv (a b : IE) | ifx (t a b : IE)
  | cmp (op : CO) (a b : IE) | chain (op op' : CO) (a b c : IE)
  | idx (a b : IE) | slc (a : IE) (lo hi : IO) | rev (a : IE)
  | call (f : Nat) (es : IEs) | blt (b : BI) (es : IEs) | isi (a : IE) (t : TyI) | mth (m : MI) (a : IE) (es : IEs)
  | comp (it : II) (tg : List Nat) (cond elt : IE) (own : List Nat)
  | tup (es : IEs) | lst (es : IEs)
deriving DecidableEq
inductive IEs where
  | nil | cons (e : IE) (es : IEs)
deriving DecidableEq
inductive IO where
  | no | so (e : IE)
deriving DecidableEq
inductive II where
  | seq (e : IE) | rng1 (a : IE) | rng2 (a b : IE) | zip (a b : IE)
deriving DecidableEq
end
/-- what is written to -/
inductive LV where
  | slot (i : Nat) | val (e : IE)
deriving DecidableEq
mutual
inductive IS where
  | ex (e : IE) | set (i : Nat) (e : IE) | setf (i : Nat) (e : IE) | setl (i : Nat) (e : IE)
  | unp (is : List Nat) (e : IE) | aug (i : Nat) (op : BO) (e : IE)
  | seti (lv : LV) (i e : IE) | app (lv : LV) (e : IE)
  | ret (e : IE) | retn | ifs (c : IE) (a b : ISs) | whl (c : IE) (body : ISs) | forr (tg : List Nat) (it : II) (body : ISs)
  | brk | cont | pass
deriving DecidableEq
inductive ISs where
  | nil | cons (s : IS) (r : ISs)
deriving DecidableEq
end

/-! ### results -/
inductive Res (α : Type) where
  | ok (a : α) (st : Sto) | bad
def Res.bind {α β : Type} (r : Res α) (f : α → Sto → Res β) : Res β :=
  match r with
  | .ok a st => f a st
  | .bad => .bad
inductive ResS where
  | nx (env : Env) (st : Sto) | rt (d : D) (st : Sto) | bk (env : Env) (st : Sto) | ct (env : Env) (st : Sto) | bad
/-- a value that is asked for, behind which all goes on -/
def lift {α β : Type} (o : Option α) (st : Sto) (f : α → Res β) : Res β :=
  match o with
  | some a => f a
  | none => .bad

/-! ### operations on data -/
def toS (s : List Nat) : Str := ⟨s.toArray⟩
/-- the contents of a loc; other data themselves -/
def deref (st : Sto) (d : D) : D :=
  match d with
  | .loc n => match st[n]? with
    | some (.cell d) => d
    | _ => .loc n
  | d => d
def truth : D → Option Bool
  | .non => some false
  | .bl b => some b
  | .int i => some (i != 0)
  | .str s => some (!s.isEmpty)
  | .tup ds => some (!ds.isEmpty)
  | .lst ds => some (!ds.isEmpty)
  | _ => none
mutual
/-- plain data, at most so deep -/
def flatD : Nat → D → Bool
  | _, .non => true
  | _, .bl _ => true
  | _, .int _ => true
  | _, .str _ => true
  | 0, _ => false
  | n + 1, .tup ds => flatL n ds
  | n + 1, .lst ds => flatL n ds
  | _, _ => false
def flatL : Nat → List D → Bool
  | _, [] => true
  | n, d :: ds => flatD n d && flatL n ds
end
mutual
/-- == -/
def eqD : D → D → Bool
  | .non, .non => true
  | .bl a, .bl b => a == b
  | .bl a, .int j => (if a then 1 else 0) == j
  | .int i, .bl b => i == (if b then 1 else 0)
  | .int i, .int j => i == j
  | .str x, .str y => x == y
  | .tup xs, .tup ys => eqL xs ys
  | .lst xs, .lst ys => eqL xs ys
  | _, _ => false
def eqL : List D → List D → Bool
  | [], [] => true
  | x :: xs, y :: ys => eqD x y && eqL xs ys
  | _, _ => false
end
mutual
/-- the two can be compared, place by place -/
def kin : D → D → Bool
  | .non, .non => true
  | .bl _, .bl _ => true
  | .int _, .int _ => true
  | .str _, .str _ => true
  | .tup xs, .tup ys => kinL xs ys
  | .lst xs, .lst ys => kinL xs ys
  | _, _ => false
def kinL : List D → List D → Bool
  | x :: xs, y :: ys => kin x y && kinL xs ys
  | [], _ => true
  | _ :: _, [] => true
end
mutual
/-- <, of such -/
def ltD : D → D → Bool
  | .bl a, .bl b => !a && b
  | .int i, .int j => decide (i < j)
  | .str x, .str y => decide (x < y)
  | .tup xs, .tup ys => ltL xs ys
  | .lst xs, .lst ys => ltL xs ys
  | _, _ => false
def ltL : List D → List D → Bool
  | [], [] => false
  | [], _ :: _ => true
  | _ :: _, [] => false
  | x :: xs, y :: ys => if eqD x y = true then ltL xs ys else ltD x y
end
/-- how deep data may be that are compared -/
abbrev DEEP : Nat := 20
def opEq (a b : D) : Option Bool := if flatD DEEP a && flatD DEEP b then some (eqD a b) else none
def opIn (a b : D) : Option Bool :=
  match b with
  | .str z => match a with
    | .str [c] => some (decide (c ∈ z))
    | _ => none
  | .lst ds => if flatD DEEP a && flatL DEEP ds then some (ds.any fun z => eqD z a) else none
  | .tup ds => if flatD DEEP a && flatL DEEP ds then some (ds.any fun z => eqD z a) else none
  | _ => none
def cmpD (op : CO) (a b : D) : Option Bool :=
  match op with
  | .eq => opEq a b
  | .ne => (opEq a b).map (!·)
  | .lt => match a, b with
    | .int i, .int j => some (decide (i < j))
    | .str x, .str y => some (decide (x < y))
    | .tup x, .tup y => if flatL DEEP x && flatL DEEP y && kinL x y then some (ltL x y) else none
    | _, _ => none
  | .le => match a, b with
    | .int i, .int j => some (decide (i ≤ j))
    | _, _ => none
  | .gt => match a, b with
    | .int i, .int j => some (decide (j < i))
    | _, _ => none
  | .ge => match a, b with
    | .int i, .int j => some (decide (j ≤ i))
    | _, _ => none
  | .isin => opIn a b
  | .notin => (opIn a b).map (!·)
  | .is => match b with
    | .non => match a with
      | .non => some true
      | .bl _ => some false
      | .int _ => some false
      | .str _ => some false
      | .tup _ => some false
      | .lst _ => some false
      | _ => none
    | .bl y => match a with
      | .bl x => some (decide (x = y))
      | _ => none
    | _ => none
  | .isnot => match b with
    | .non => match a with
      | .non => some false
      | .bl _ => some true
      | .int _ => some true
      | .str _ => some true
      | .tup _ => some true
      | .lst _ => some true
      | _ => none
    | .bl y => match a with
      | .bl x => some (!decide (x = y))
      | _ => none
    | _ => none
/-- one factor is below 2 ^ 64 -/
def mulOk (i j : Int) : Bool := (decide (-(2 ^ 64) < i) && decide (i < 2 ^ 64)) || (decide (-(2 ^ 64) < j) && decide (j < 2 ^ 64))
def binD (op : BO) (a b : D) : Option D :=
  match op with
  | .add => match a, b with
    | .int i, .int j => some (.int (i + j))
    | .str x, .str y => if x.length + y.length ≤ SL then some (.str (x ++ y)) else none
    | .tup x, .tup y => if x.length + y.length ≤ SL then some (.tup (x ++ y)) else none
    | .lst x, .lst y => if x.length + y.length ≤ SL then some (.lst (x ++ y)) else none
    | _, _ => none
  | .sub => match a, b with
    | .int i, .int j => some (.int (i - j))
    | _, _ => none
  | .mul => match a, b with
    | .int i, .int j => if mulOk i j then some (.int (i * j)) else none
    | .str x, .int j => if 0 ≤ j ∧ j ≤ 16777216 ∧ x.length * j.toNat ≤ SL then some (.str (List.replicate j.toNat x).flatten) else none
    | _, _ => none
  | .fdiv => match a, b with
    | .int i, .int j => if 0 < j ∧ j < 1073741824 then some (.int (i / j)) else none
    | _, _ => none
  | .mod => match a, b with
    | .int i, .int j => if 0 < j then some (.int (i % j)) else none
    | _, _ => none
  | .pow => match a, b with
    | .int i, .int j => if 0 ≤ j ∧ j ≤ 1000 ∧ i.natAbs < 2 ^ 64 then some (.int (i ^ j.toNat)) else none
    | _, _ => none
/-- op= at a name -/
def augD (op : BO) (a b : D) : Option D :=
  match op with
  | .add => match a, b with
    | .int i, .int j => some (.int (i + j))
    | .str x, .str y => if x.length + y.length ≤ SL then some (.str (x ++ y)) else none
    | _, _ => none
  | .sub => match a, b with
    | .int i, .int j => some (.int (i - j))
    | _, _ => none
  | _ => none
/-- the place that an index of any sign means -/
def ixD (n : Nat) (i : Int) : Option Nat := if 0 ≤ i then (if i < n then some i.toNat else none) else if -(n : Int) ≤ i then some (i + n).toNat else none
def idxD (a b : D) : Option D :=
  match b with
  | .int i => match a with
    | .lst ds => (ixD ds.length i).bind fun j => ds[j]?
    | .tup ds => (ixD ds.length i).bind fun j => ds[j]?
    | .str s => (ixD s.length i).bind fun j => (s[j]?).map fun c => .str [c]
    | _ => none
  | _ => none
/-- a slice's bound as a place among n -/
def bndD (n d : Nat) : Option Int → Nat
  | none => d
  | some v => if v < 0 then (v + (n : Int)).toNat else min v.toNat n
def cutD {α : Type} (xs : List α) (lo hi : Option Int) : List α := (xs.drop (bndD xs.length 0 lo)).take (bndD xs.length xs.length hi - bndD xs.length 0 lo)
def slcD (a : D) (lo hi : Option Int) : Option D :=
  match a with
  | .lst ds => some (.lst (cutD ds lo hi))
  | .tup ds => some (.tup (cutD ds lo hi))
  | .str s => some (.str (cutD s lo hi))
  | _ => none
def revD : D → Option D
  | .lst ds => some (.lst ds.reverse)
  | .tup ds => some (.tup ds.reverse)
  | _ => none
def intsOf : List D → Option (List Int)
  | [] => some []
  | .int i :: r => (intsOf r).map (i :: ·)
  | _ :: _ => none
def strsOf : List D → Option (List (List Nat))
  | [] => some []
  | .str s :: r => (strsOf r).map (s :: ·)
  | _ :: _ => none
def blsOf : List D → Option (List Bool)
  | [] => some []
  | .bl b :: r => (blsOf r).map (b :: ·)
  | _ :: _ => none
def leD (a b : D) : Bool := !ltD b a
def isTupC : D → Bool
  | .tup (_ :: _) => true
  | _ => false
def isOth : D → Bool
  | .bl _ => true
  | .int _ => true
  | .str _ => true
  | .lst _ => true
  | _ => false
def okSort (ds : List D) : Bool := flatL 20 ds && (ds.all fun d => ds.all fun e => kin d e) && (ds.all isTupC || ds.all isOth)
/-- sorted -/
def sortD (ds : List D) : Option (List D) := if okSort ds then some (ds.mergeSort leD) else none
def lenD : D → Option Nat
  | .lst ds => some ds.length
  | .tup ds => some ds.length
  | .str s => some s.length
  | _ => none
def codes (s : String) : List Nat := s.toList.map Char.toNat
def bltD (b : BI) (xs : List D) : Option D :=
  match b with
  | .len => match xs with
    | [x] => (lenD x).map fun n => .int n
    | _ => none
  | .all => match xs with
    | [.lst ds] => (blsOf ds).map fun bs => .bl (bs.all id)
    | _ => none
  | .any => match xs with
    | [.lst ds] => (blsOf ds).map fun bs => .bl (bs.any id)
    | _ => none
  | .sum => match xs with
    | [.lst ds] => (intsOf ds).map fun ns => .int ns.sum
    | _ => none
  | .sorted => match xs with
    | [.lst ds] => (sortD ds).map .lst
    | _ => none
  | .tuple => match xs with
    | [.lst ds] => some (.tup ds)
    | [.tup ds] => some (.tup ds)
    | _ => none
  | .list => match xs with
    | [.lst ds] => some (.lst ds)
    | [.tup ds] => some (.lst ds)
    | _ => none
  | .min2 => match xs with
    | [.int i, .int j] => some (.int (if j < i then j else i))
    | _ => none
  | .max2 => match xs with
    | [.int i, .int j] => some (.int (if j > i then j else i))
    | _ => none
  | .str => match xs with
    | [.int i] => if i.natAbs.log2 < 1920 then some (.str (codes (toString i))) else none
    | _ => none
  | .int => match xs with
    | [.int i] => some (.int i)
    | [.bl b] => some (.int (if b then 1 else 0))
    | _ => none
  | .abs => match xs with
    | [.int i] => some (.int (if i < 0 then -i else i))
    | _ => none
def isiD (a : D) (t : TyI) : Option Bool :=
  match a with
  | .non => some false
  | .bl _ => some (match t with | .int => true | .bool => true | _ => false)
  | .int _ => some (match t with | .int => true | _ => false)
  | .str _ => some (match t with | .str => true | _ => false)
  | .tup _ => some (match t with | .tuple => true | _ => false)
  | .lst _ => some (match t with | .list => true | _ => false)
  | _ => none
def mthD (m : MI) (a : D) (xs : List D) : Option D :=
  match m with
  | .index => match a, xs with
    | .lst ds, [x] => if flatD 0 x && flatL 0 ds then (ds.findIdx? fun z => eqD z x).map fun j => .int j else none
    | _, _ => none
  | .upper => match a, xs with
    | .str s, [] => if s.length ≤ 5592405 then some (.str (Txt.upper (toS s)).cps.toList) else none
    | _, _ => none
/-- range's items -/
def rngD (lo : Int) (n : Nat) : List D := (List.range n).map fun i => .int (lo + (i : Nat))
def seqD : D → Option (List D)
  | .lst ds => some ds
  | .tup ds => some ds
  | .str s => some (s.map fun c => .str [c])
  | _ => none
def zipD (a b : D) : Option (List D) :=
  match a, b with
  | .tup x, .tup y => some (List.zipWith (fun p q => .tup [p, q]) x y)
  | .lst x, .lst y => some (List.zipWith (fun p q => .tup [p, q]) x y)
  | _, _ => none
/-- a target's slots filled -/
def bindD (tg : List Nat) (d : D) (env : Env) : Option Env :=
  match tg with
  | [i] => some (env.set i (.va d))
  | [i, j] => match d with
    | .tup [x, y] => some ((env.set i (.va x)).set j (.va y))
    | _ => none
  | [i, j, l] => match d with
    | .tup [x, y, z] => some (((env.set i (.va x)).set j (.va y)).set l (.va z))
    | _ => none
  | _ => none
def wipeD (env : Env) : List Nat → Env
  | [] => env
  | i :: r => (wipeD env r).set i .un
/-- where the walked things stand, if they may change -/
inductive Src where
  | none | loc (n : Nat)
def srcOf (d : D) : Src :=
  match d with
  | .loc n => .loc n
  | _ => .none
open Classical in
/-- the walked things stand as they stood -/
noncomputable def sameAt (src : Src) (st st' : Sto) : Bool :=
  match src with
  | .none => true
  | .loc n => if st'[n]? = st[n]? then true else false

open Classical in
/-- a range's bounds (not to be computed) -/
noncomputable def rngA (j : Int) : Bool := @decide (j ≤ (SL : Int) ∧ -(2 ^ 62) ≤ j) (propDecidable _)
open Classical in
noncomputable def rngB (i j : Int) : Bool := @decide (-(2 ^ 62) ≤ i ∧ i < 2 ^ 62 ∧ -(2 ^ 62) ≤ j ∧ j < 2 ^ 62 ∧ j - i ≤ (SL : Int)) (propDecidable _)
theorem rngA_iff {j : Int} : rngA j = true ↔ j ≤ (SL : Int) ∧ -(2 ^ 62) ≤ j := @decide_eq_true_iff _ (Classical.propDecidable _)
theorem rngB_iff {i j : Int} : rngB i j = true ↔ -(2 ^ 62) ≤ i ∧ i < 2 ^ 62 ∧ -(2 ^ 62) ≤ j ∧ j < 2 ^ 62 ∧ j - i ≤ (SL : Int) := @decide_eq_true_iff _ (Classical.propDecidable _)

/-! ### the interpreter -/
/-- the defs that may be called: number, arguments, store -/
abbrev CallF := Nat → List D → Sto → Res D
/-- a comprehension's turns -/
def compGo (fc : Env → Sto → Res D) (fe : Env → Sto → Res D) (chk : Sto → Bool) (tg : List Nat) (env : Env) : List D → Sto → List D → Res (List D)
  | [], st, acc => .ok acc st
  | x :: xs, st, acc =>
    match bindD tg x env with
    | none => .bad
    | some env' => (fc env' st).bind fun b st1 => match truth (deref st1 b) with
      | some true => (fe env' st1).bind fun y st2 => if chk st2 then compGo fc fe chk tg env xs st2 (acc ++ [y]) else .bad
      | some false => if chk st1 then compGo fc fe chk tg env xs st1 acc else .bad
      | none => .bad
mutual
noncomputable def ev (C : CallF) : IE → Env → Sto → Res D
  | .v i, env, st => match env[i]? with
    | some (.va d) => .ok d st
    | _ => .bad
  | .w i, env, st => match env[i]? with
    | some (.va d) => .ok d st
    | some (.ow d) => .ok d st
    | _ => .bad
  | .k d, _, st => .ok d st
  | .bin op a b, env, st => (ev C a env st).bind fun x st1 => (ev C b env st1).bind fun y st2 => lift (binD op (deref st2 x) (deref st2 y)) st2 fun z => .ok z st2
  | .neg a, env, st => (ev C a env st).bind fun x st1 => match x with
    | .int i => .ok (.int (-i)) st1
    | _ => .bad
  | .notv a, env, st => (ev C a env st).bind fun x st1 => lift (truth (deref st1 x)) st1 fun b => .ok (.bl (!b)) st1
  | .andv a b, env, st => (ev C a env st).bind fun x st1 => lift (truth (deref st1 x)) st1 fun t => if t = true then ev C b env st1 else .ok x st1
  | .orv a b, env, st => (ev C a env st).bind fun x st1 => lift (truth (deref st1 x)) st1 fun t => if t = true then .ok x st1 else ev C b env st1
  | .ifx t a b, env, st => (ev C t env st).bind fun x st1 => lift (truth (deref st1 x)) st1 fun t => if t = true then ev C a env st1 else ev C b env st1
  | .cmp op a b, env, st => (ev C a env st).bind fun x st1 => (ev C b env st1).bind fun y st2 => lift (cmpD op (deref st2 x) (deref st2 y)) st2 fun z => .ok (.bl z) st2
  | .chain op op' a b c, env, st => (ev C a env st).bind fun x st1 => (ev C b env st1).bind fun y st2 => lift (cmpD op (deref st2 x) (deref st2 y)) st2 fun z =>
      if z = true then (ev C c env st2).bind fun u st3 => lift (cmpD op' (deref st3 y) (deref st3 u)) st3 fun z' => .ok (.bl z') st3 else .ok (.bl false) st2
  | .idx a b, env, st => (ev C a env st).bind fun x st1 => (ev C b env st1).bind fun y st2 => lift (idxD (deref st2 x) y) st2 fun z => .ok z st2
  | .slc a lo hi, env, st => (ev C a env st).bind fun x st1 => (evo C lo env st1).bind fun l st2 => (evo C hi env st2).bind fun h st3 => lift (slcD (deref st3 x) l h) st3 fun z => .ok z st3
  | .rev a, env, st => (ev C a env st).bind fun x st1 => lift (revD (deref st1 x)) st1 fun z => .ok z st1
  | .call f es, env, st => (evs C es env st).bind fun xs st1 => C f xs st1
  | .blt b es, env, st => (evs C es env st).bind fun xs st1 => lift (bltD b (xs.map (deref st1))) st1 fun z => .ok z st1
  | .isi a t, env, st => (ev C a env st).bind fun x st1 => lift (isiD (deref st1 x) t) st1 fun z => .ok (.bl z) st1
  | .mth m a es, env, st => (ev C a env st).bind fun x st1 => (evs C es env st1).bind fun xs st2 => lift (mthD m (deref st2 x) (xs.map (deref st2))) st2 fun z => .ok z st2
  | .comp it tg c e own, env, st => (evi C it env st).bind fun p st1 => (compGo (ev C c) (ev C e) (sameAt p.2 st1) tg (wipeD env own) p.1 st1 []).bind fun acc st2 => .ok (.lst acc) st2
  | .tup es, env, st => (evs C es env st).bind fun xs st1 => if xs.length ≤ SL then .ok (.tup xs) st1 else .bad
  | .lst es, env, st => (evs C es env st).bind fun xs st1 => if xs.length ≤ SL then .ok (.lst xs) st1 else .bad
noncomputable def evs (C : CallF) : IEs → Env → Sto → Res (List D)
  | .nil, _, st => .ok [] st
  | .cons e es, env, st => (ev C e env st).bind fun x st1 => (evs C es env st1).bind fun xs st2 => .ok (x :: xs) st2
noncomputable def evo (C : CallF) : IO → Env → Sto → Res (Option Int)
  | .no, _, st => .ok none st
  | .so e, env, st => (ev C e env st).bind fun x st1 => match x with
    | .int i => .ok (some i) st1
    | _ => .bad
/-- what is walked: the items, and where they stand -/
noncomputable def evi (C : CallF) : II → Env → Sto → Res (List D × Src)
  | .seq e, env, st => (ev C e env st).bind fun x st1 => lift (seqD (deref st1 x)) st1 fun ds => .ok (ds, srcOf x) st1
  | .rng1 a, env, st => (ev C a env st).bind fun x st1 => match x with
    | .int j => if rngA j = true then .ok (rngD 0 j.toNat, .none) st1 else .bad
    | _ => .bad
  | .rng2 a b, env, st => (ev C a env st).bind fun x st1 => (ev C b env st1).bind fun y st2 => match x, y with
    | .int i, .int j => if rngB i j = true then .ok (rngD i (j - i).toNat, .none) st2 else .bad
    | _, _ => .bad
  | .zip a b, env, st => (ev C a env st).bind fun x st1 => (ev C b env st1).bind fun y st2 => match x, y with
    | .tup p, .tup q => .ok (List.zipWith (fun p q => .tup [p, q]) p q, .none) st2
    | .lst p, .lst q => .ok (List.zipWith (fun p q => .tup [p, q]) p q, .none) st2
    | _, _ => .bad
end

/-- the turns of a for -/
def forGo (fb : Env → Sto → ResS) (chk : Sto → Bool) (tg : List Nat) : List D → Env → Sto → ResS
  | [], env, st => .nx env st
  | x :: xs, env, st =>
    match bindD tg x env with
    | none => .bad
    | some env' => match fb env' st with
      | .nx env1 st1 => if chk st1 then forGo fb chk tg xs env1 st1 else .bad
      | .ct env1 st1 => if chk st1 then forGo fb chk tg xs env1 st1 else .bad
      | .bk env1 st1 => .nx env1 st1
      | .rt d st1 => .rt d st1
      | .bad => .bad
def whlGo (fc : Env → Sto → Res D) (fb : Env → Sto → ResS) : Nat → Env → Sto → ResS
  | 0, _, _ => .bad
  | n + 1, env, st => match fc env st with
    | .ok x st1 => match truth x with
      | some true => match fb env st1 with
        | .nx env2 st2 => whlGo fc fb n env2 st2
        | .ct env2 st2 => whlGo fc fb n env2 st2
        | .bk env2 st2 => .nx env2 st2
        | .rt d st2 => .rt d st2
        | .bad => .bad
      | some false => .nx env st1
      | none => .bad
    | .bad => .bad
/-- the turns that a while may take -/
def WF : Nat := 100000000
def Res.go {α : Type} (r : Res α) (f : α → Sto → ResS) : ResS :=
  match r with
  | .ok a st => f a st
  | .bad => .bad
def liftS {α : Type} (o : Option α) (f : α → ResS) : ResS :=
  match o with
  | some a => f a
  | none => .bad
/-- a list's item at a place, another -/
def setAtD (d i e : D) : Option D :=
  match d, i with
  | .lst ds, .int k => (ixD ds.length k).map fun j => .lst (ds.set j e)
  | _, _ => none
def appD (d e : D) : Option D :=
  match d with
  | .lst ds => if ds.length < SL then some (.lst (ds ++ [e])) else none
  | _ => none
mutual
noncomputable def exec (C : CallF) : IS → Env → Sto → ResS
  | .ex e, env, st => (ev C e env st).go fun _ st1 => .nx env st1
  | .set i e, env, st => (ev C e env st).go fun x st1 => .nx (env.set i (.va x)) st1
  | .setf i e, env, st => (ev C e env st).go fun x st1 => match x with
    | .lst _ => .nx (env.set i (.ow x)) st1
    | _ => .bad
  | .setl i e, env, st => (ev C e env st).go fun x st1 => match x with
    | .lst _ => .nx (env.set i (.va (.loc st1.length))) (st1 ++ [.cell x])
    | _ => .bad
  | .unp is e, env, st => (ev C e env st).go fun x st1 => liftS (bindD is x env) fun env' => .nx env' st1
  | .aug i op e, env, st => match env[i]? with
    | some (.va x) => (ev C e env st).go fun y st1 => liftS (augD op x y) fun z => .nx (env.set i (.va z)) st1
    | _ => .bad
  | .seti (.slot i) ix e, env, st => (ev C e env st).go fun y st1 => match env[i]? with
    | some (.ow d) => (ev C ix env st1).go fun k st2 => liftS (setAtD d k y) fun d' => .nx (env.set i (.ow d')) st2
    | _ => .bad
  | .seti (.val l) ix e, env, st => (ev C e env st).go fun y st1 => (ev C l env st1).go fun o st2 => (ev C ix env st2).go fun k st3 => match o with
    | .loc n => match st3[n]? with
      | some (.cell d) => liftS (setAtD d k y) fun d' => .nx env (st3.set n (.cell d'))
      | _ => .bad
    | _ => .bad
  | .app (.slot i) e, env, st => (ev C e env st).go fun y st1 => match env[i]? with
    | some (.ow d) => liftS (appD d y) fun d' => .nx (env.set i (.ow d')) st1
    | _ => .bad
  | .app (.val l) e, env, st => (ev C l env st).go fun o st1 => (ev C e env st1).go fun y st2 => match o with
    | .loc n => match st2[n]? with
      | some (.cell d) => liftS (appD d y) fun d' => .nx env (st2.set n (.cell d'))
      | _ => .bad
    | _ => .bad
  | .ret e, env, st => (ev C e env st).go fun x st1 => .rt x st1
  | .retn, _, st => .rt .non st
  | .ifs c a b, env, st => (ev C c env st).go fun x st1 => liftS (truth (deref st1 x)) fun t => if t = true then execs C a env st1 else execs C b env st1
  | .whl c body, env, st => whlGo (fun env st => (ev C c env st).bind fun x st1 => .ok (deref st1 x) st1) (execs C body) WF env st
  | .forr tg it body, env, st => (evi C it env st).go fun p st1 => forGo (execs C body) (sameAt p.2 st1) tg p.1 env st1
  | .brk, env, st => .bk env st
  | .cont, env, st => .ct env st
  | .pass, env, st => .nx env st
noncomputable def execs (C : CallF) : ISs → Env → Sto → ResS
  | .nil, env, st => .nx env st
  | .cons s r, env, st => match exec C s env st with
    | .nx env1 st1 => execs C r env1 st1
    | x => x
end
end Cal
/-! Cal, part B: how data lie in the abstract heap. -/
namespace Cal
open PySem L2 PySem.Spec PyProof.Rows
/-- what of the text the data lean on -/
structure Gp where
  K : PySem.W.Frag
  fa : Nat → Addr
/-- what is frozen, and where the things of the store stand -/
structure Wd where
  F : Hp
  ρ : Nat → Nat → Option Addr
mutual
/-- the value that stands for data -/
def Rp (G : Gp) (W : Wd) : D → V → Prop
  | .non, v => v = .non
  | .bl b, v => v = .bl b
  | .int i, v => v = .int i
  | .str s, v => v = .str ⟨s.toArray⟩ ∧ s.length ≤ SL
  | .tup ds, v => ∃ a vs, v = .ref a ∧ SqT G.K W.F a vs ∧ RpL G W ds vs
  | .lst ds, v => ∃ a vs, v = .ref a ∧ Rd W.F a (.lst vs) ∧ RpL G W ds vs
  | .dct _ _, _ => False
  | .loc n, v => ∃ a, v = .ref a ∧ W.ρ n 0 = some a
  | .fn f, v => v = .ref (G.fa f)
  | .obj _ _ _, _ => False
def RpL (G : Gp) (W : Wd) : List D → List V → Prop
  | [], vs => vs = []
  | d :: ds, vs => ∃ v r, vs = v :: r ∧ Rp G W d v ∧ RpL G W ds r
end
/-- the contents of the thing at a -/
def RC (G : Gp) (W : Wd) (H : Hp) (d : D) (a : Addr) : Prop :=
  match d with
  | .lst ds => ∃ vs, H a = some (.lst vs) ∧ RpL G W ds vs
  | _ => False
structure Ext (W : Wd) (H : Hp) (W' : Wd) (H' : Hp) : Prop where
  f : ∀ a o, W.F a = some o → W'.F a = some o
  fn : ∀ a o, W'.F a = some o → W.F a = some o ∨ H a = none
  r : ∀ n i a, W.ρ n i = some a → W'.ρ n i = some a
  rn : ∀ n i a, W'.ρ n i = some a → W.ρ n i = some a ∨ H a = none
  keep : ∀ a o, H a = some o → (∀ n i, W.ρ n i ≠ some a) → H' a = some o
  dom : ∀ a o, H a = some o → ∃ o', H' a = some o'
def RO (G : Gp) (W : Wd) (H : Hp) (n : Nat) (o : Ob) : Prop :=
  match o with
  | .cell d => ∃ a, W.ρ n 0 = some a ∧ RC G W H d a
  | .ins _ _ => False
structure GRel (G : Gp) (W : Wd) (H : Hp) (st : Sto) : Prop where
  fz : ∀ a o, W.F a = some o → H a = some o
  ob : ∀ n o, st[n]? = some o → RO G W H n o
  inj : ∀ n i m j a, W.ρ n i = some a → W.ρ m j = some a → n = m ∧ i = j
  dis : ∀ n i a, W.ρ n i = some a → W.F a = none
  bd : ∀ n i a, W.ρ n i = some a → n < st.length
  tr : ∀ n i a, W.ρ n i = some a → ∃ o, H a = some o
/-- a slot's value -/
def SlotR (G : Gp) (W : Wd) (H : Hp) (sl : Sl) (x : Option (Option V)) : Prop :=
  match sl with
  | .un => True
  | .va d => ∃ v, x = some (some v) ∧ Rp G W d v
  | .ow d => ∃ a, x = some (some (.ref a)) ∧ RC G W H d a ∧ W.F a = none ∧ ∀ n i, W.ρ n i ≠ some a
structure ERel (G : Gp) (W : Wd) (H : Hp) (env : Env) (σ : L2.St) : Prop where
  len : env.length = σ.length
  sl : ∀ (i : Nat) s, env[i]? = some s → SlotR G W H s σ[i]?
  ap : ∀ (i j : Nat) d e, i ≠ j → env[i]? = some (.ow d) → env[j]? = some (.ow e) → σ[i]? ≠ σ[j]?
/-- seen: the value itself, or the contents of a thing that a slot holds -/
def Vw (G : Gp) (W : Wd) (H : Hp) (d : D) (v : V) : Prop :=
  Rp G W d v ∨ ∃ a, v = .ref a ∧ RC G W H d a ∧ W.F a = none ∧ ∀ n i, W.ρ n i ≠ some a
/-- seen, through a loc -/
def Vd (G : Gp) (W : Wd) (H : Hp) (d : D) (v : V) : Prop := Rp G W d v ∨ ∃ a, v = .ref a ∧ RC G W H d a
/-- a new thing: nobody else has it -/
def Fresh (G : Gp) (H : Hp) (W' : Wd) (H' : Hp) (d : D) (v : V) : Prop :=
  ∃ a, v = .ref a ∧ RC G W' H' d a ∧ W'.F a = none ∧ (∀ n i, W'.ρ n i ≠ some a) ∧ H a = none
/-- what an operation makes: a new list, or a value -/
def Nw (G : Gp) (H : Hp) (W' : Wd) (H' : Hp) (d : D) (v : V) : Prop :=
  match d with
  | .lst _ => Fresh G H W' H' d v
  | _ => Rp G W' d v
section
variable {G : Gp} {W W' W'' : Wd} {H H' H'' : Hp} {st st' : Sto} {env : Env} {σ : L2.St} {d e : D} {v u : V}
theorem Ext.refl : Ext W H W H := ⟨fun _ _ h => h, fun _ _ h => .inl h, fun _ _ _ h => h, fun _ _ _ h => .inl h, fun _ _ h _ => h, fun _ o h => ⟨o, h⟩⟩
theorem Ext.none_of (x : Ext W H W' H') {a : Addr} (h : H' a = none) : H a = none := by
  cases e : H a with
  | none => rfl
  | some o =>
    obtain ⟨o', h'⟩ := x.dom a o e
    rw [h] at h'
    cases h'
theorem Ext.trans (x : Ext W H W' H') (y : Ext W' H' W'' H'') : Ext W H W'' H'' where
  f := fun a o h => y.f a o (x.f a o h)
  fn := fun a o h => by
    rcases y.fn a o h with h | h
    · exact x.fn a o h
    · exact .inr (x.none_of h)
  r := fun n i a h => y.r n i a (x.r n i a h)
  rn := fun n i a h => by
    rcases y.rn n i a h with h | h
    · exact x.rn n i a h
    · exact .inr (x.none_of h)
  keep := fun a o h hn => y.keep a o (x.keep a o h hn) fun n i q => by
    rcases x.rn n i a q with q | q
    · exact hn n i q
    · rw [h] at q
      cases q
  dom := fun a o h => by
    obtain ⟨o', h'⟩ := x.dom a o h
    exact y.dom a o' h'
theorem rd_mono {F F' : Hp} (k : ∀ a o, F a = some o → F' a = some o) {a : Addr} {u : HO} (h : Rd F a u) : Rd F' a u := by
  rcases h with h | ⟨o, h⟩
  · exact .inl (k _ _ h)
  · exact .inr ⟨o, k _ _ h⟩
theorem sqL_mono {K : PySem.W.Frag} {F F' : Hp} (k : ∀ a o, F a = some o → F' a = some o) {a : Addr} {xs : List V} (h : SqL K F a xs) : SqL K F' a xs := by
  rcases h with h | h
  · exact .inl (rd_mono k h)
  · exact .inr h
theorem sqT_mono {K : PySem.W.Frag} {F F' : Hp} (k : ∀ a o, F a = some o → F' a = some o) {a : Addr} {xs : List V} (h : SqT K F a xs) : SqT K F' a xs := by
  rcases h with h | h
  · exact .inl (rd_mono k h)
  · exact .inr h
mutual
theorem Rp.mono {G : Gp} {W W' : Wd} (kf : ∀ a o, W.F a = some o → W'.F a = some o) (kr : ∀ n i a, W.ρ n i = some a → W'.ρ n i = some a) : ∀ (d : D) (v : V), Rp G W d v → Rp G W' d v
  | .non, _, h => h
  | .bl _, _, h => h
  | .int _, _, h => h
  | .str _, _, h => h
  | .tup ds, v, h => by
    obtain ⟨a, vs, e, s, r⟩ := h
    exact ⟨a, vs, e, sqT_mono kf s, RpL.mono kf kr ds vs r⟩
  | .lst ds, v, h => by
    obtain ⟨a, vs, e, s, r⟩ := h
    exact ⟨a, vs, e, rd_mono kf s, RpL.mono kf kr ds vs r⟩
  | .loc n, v, h => by
    obtain ⟨a, e, r⟩ := h
    exact ⟨a, e, kr _ _ _ r⟩
  | .fn _, _, h => h
  | .dct _ _, _, h => h.elim
  | .obj _ _ _, _, h => h.elim
theorem RpL.mono {G : Gp} {W W' : Wd} (kf : ∀ a o, W.F a = some o → W'.F a = some o) (kr : ∀ n i a, W.ρ n i = some a → W'.ρ n i = some a) : ∀ (ds : List D) (vs : List V), RpL G W ds vs → RpL G W' ds vs
  | [], _, h => h
  | d :: ds, vs, h => by
    obtain ⟨v, r, e, h1, h2⟩ := h
    exact ⟨v, r, e, Rp.mono kf kr d v h1, RpL.mono kf kr ds r h2⟩
end
theorem Rp.ext (x : Ext W H W' H') (h : Rp G W d v) : Rp G W' d v := Rp.mono x.f x.r d v h
theorem RpL.ext {ds : List D} {vs : List V} (x : Ext W H W' H') (h : RpL G W ds vs) : RpL G W' ds vs := RpL.mono x.f x.r ds vs h
theorem RC.ext {a : Addr} (x : Ext W H W' H') (h : RC G W H d a) (hn : ∀ n i, W.ρ n i ≠ some a) : RC G W' H' d a := by
  unfold RC at h ⊢
  split at h
  · obtain ⟨vs, h1, h2⟩ := h
    exact ⟨vs, x.keep _ _ h1 hn, h2.ext x⟩
  · exact h.elim
theorem RC.there {a : Addr} (h : RC G W H d a) : ∃ o, H a = some o := by
  unfold RC at h
  split at h
  · obtain ⟨vs, h1, _⟩ := h
    exact ⟨_, h1⟩
  · exact h.elim
/-- a thing that a slot alone holds stays so -/
theorem own_ext {a : Addr} (x : Ext W H W' H') (h : RC G W H d a) (hf : W.F a = none) (hn : ∀ n i, W.ρ n i ≠ some a) : RC G W' H' d a ∧ W'.F a = none ∧ ∀ n i, W'.ρ n i ≠ some a := by
  obtain ⟨o, ho⟩ := h.there
  refine ⟨h.ext x hn, ?_, fun n i q => ?_⟩
  · cases e : W'.F a with
    | none => rfl
    | some o' =>
      rcases x.fn a o' e with z | z
      · rw [hf] at z
        cases z
      · rw [ho] at z
        cases z
  · rcases x.rn n i a q with z | z
    · exact hn n i z
    · rw [ho] at z
      cases z
theorem Vw.ext (x : Ext W H W' H') (h : Vw G W H d v) : Vw G W' H' d v := by
  rcases h with h | ⟨a, e, h1, h2, h3⟩
  · exact .inl (h.ext x)
  · exact .inr ⟨a, e, own_ext x h1 h2 h3⟩
theorem SlotR.ext {sl : Sl} {y : Option (Option V)} (x : Ext W H W' H') (h : SlotR G W H sl y) : SlotR G W' H' sl y := by
  unfold SlotR at h ⊢
  split at h
  · trivial
  · obtain ⟨v, e, r⟩ := h
    exact ⟨v, e, r.ext x⟩
  · obtain ⟨a, e, h1, h2, h3⟩ := h
    exact ⟨a, e, own_ext x h1 h2 h3⟩
theorem ERel.ext (x : Ext W H W' H') (h : ERel G W H env σ) : ERel G W' H' env σ := ⟨h.len, fun i s e => (h.sl i s e).ext x, h.ap⟩
theorem Rp.vw (h : Rp G W d v) : Vw G W H d v := .inl h
theorem Vw.deref (h : Vw G W H d v) (g : GRel G W H st) : Vd G W H (deref st d) v := by
  rcases h with h | ⟨a, e, h1, h2, h3⟩
  · cases d with
    | loc n =>
      unfold Cal.deref
      simp only
      split
      · rename_i d hd
        obtain ⟨a, e, r⟩ := h
        obtain ⟨b, r', c⟩ := g.ob n _ hd
        rw [r] at r'
        cases r'
        exact .inr ⟨a, e, c⟩
      · exact .inl h
    | _ => exact .inl h
  · cases d with
    | lst ds => exact .inr ⟨a, e, h1⟩
    | _ => exact h1.elim
/-- the contents of a list that is seen -/
theorem Vd.lst {ds : List D} (h : Vd G W H (.lst ds) v) (g : GRel G W H st) : ∃ a vs, v = .ref a ∧ Rd H a (.lst vs) ∧ RpL G W ds vs := by
  rcases h with ⟨a, vs, e, s, r⟩ | ⟨a, e, vs, h1, h2⟩
  · exact ⟨a, vs, e, rd_mono g.fz s, r⟩
  · exact ⟨a, vs, e, .inl h1, h2⟩
theorem Vd.tup {ds : List D} (h : Vd G W H (.tup ds) v) (g : GRel G W H st) : ∃ a vs, v = .ref a ∧ SqT G.K H a vs ∧ RpL G W ds vs := by
  rcases h with ⟨a, vs, e, s, r⟩ | ⟨a, e, h1⟩
  · exact ⟨a, vs, e, sqT_mono g.fz s, r⟩
  · exact h1.elim
theorem Vd.rp (h : Vd G W H d v) (hd : ∀ ds, d ≠ .lst ds) : Rp G W d v := by
  rcases h with h | ⟨a, e, h1⟩
  · exact h
  · cases d with
    | lst ds => exact (hd ds rfl).elim
    | _ => exact h1.elim
theorem RpL.len : ∀ {ds : List D} {vs : List V}, RpL G W ds vs → ds.length = vs.length
  | [], _, h => by rw [show _ = [] from h]; rfl
  | d :: ds, vs, h => by
    obtain ⟨v, r, rfl, _, h2⟩ := h
    rw [List.length_cons, List.length_cons, RpL.len h2]
theorem RpL.get : ∀ {ds : List D} {vs : List V} {i : Nat} {d : D}, RpL G W ds vs → ds[i]? = some d → ∃ v, vs[i]? = some v ∧ Rp G W d v
  | [], _, i, d, h, e => by simp at e
  | x :: ds, vs, 0, d, h, e => by
    obtain ⟨v, r, rfl, h1, h2⟩ := h
    simp at e
    subst e
    exact ⟨v, rfl, h1⟩
  | x :: ds, vs, i + 1, d, h, e => by
    obtain ⟨v, r, rfl, h1, h2⟩ := h
    obtain ⟨u, h3, h4⟩ := RpL.get (i := i) h2 (by simpa using e)
    exact ⟨u, by simpa using h3, h4⟩
theorem RpL.get' {ds : List D} {vs : List V} {i : Nat} {v : V} (h : RpL G W ds vs) (e : vs[i]? = some v) : ∃ d, ds[i]? = some d ∧ Rp G W d v := by
  have hl := h.len
  have hi : i < vs.length := (List.getElem?_eq_some_iff.mp e).1
  have hi' : i < ds.length := by omega
  obtain ⟨u, h1, h2⟩ := h.get (List.getElem?_eq_getElem hi')
  rw [e] at h1
  cases h1
  exact ⟨_, List.getElem?_eq_getElem hi', h2⟩
theorem RpL.append : ∀ {ds es : List D} {vs us : List V}, RpL G W ds vs → RpL G W es us → RpL G W (ds ++ es) (vs ++ us)
  | [], es, vs, us, h, k => by rw [show vs = [] from h]; exact k
  | d :: ds, es, vs, us, h, k => by
    obtain ⟨v, r, rfl, h1, h2⟩ := h
    exact ⟨v, r ++ us, rfl, h1, RpL.append h2 k⟩
theorem RpL.drop : ∀ (n : Nat) {ds : List D} {vs : List V}, RpL G W ds vs → RpL G W (ds.drop n) (vs.drop n)
  | 0, _, _, h => h
  | n + 1, [], vs, h => by rw [show vs = [] from h]; rfl
  | n + 1, d :: ds, vs, h => by
    obtain ⟨v, r, rfl, h1, h2⟩ := h
    exact RpL.drop n h2
theorem RpL.take : ∀ (n : Nat) {ds : List D} {vs : List V}, RpL G W ds vs → RpL G W (ds.take n) (vs.take n)
  | 0, _, _, h => rfl
  | n + 1, [], vs, h => by rw [show vs = [] from h]; rfl
  | n + 1, d :: ds, vs, h => by
    obtain ⟨v, r, rfl, h1, h2⟩ := h
    exact ⟨v, r.take n, rfl, h1, RpL.take n h2⟩
theorem RpL.set {e : D} {u : V} (k : Rp G W e u) : ∀ (n : Nat) {ds : List D} {vs : List V}, RpL G W ds vs → RpL G W (ds.set n e) (vs.set n u)
  | n, [], vs, h => by rw [show vs = [] from h]; rfl
  | 0, d :: ds, vs, h => by
    obtain ⟨v, r, rfl, h1, h2⟩ := h
    exact ⟨u, r, rfl, k, h2⟩
  | n + 1, d :: ds, vs, h => by
    obtain ⟨v, r, rfl, h1, h2⟩ := h
    exact ⟨v, r.set n u, rfl, h1, RpL.set k n h2⟩
theorem RpL.reverse : ∀ {ds : List D} {vs : List V}, RpL G W ds vs → RpL G W ds.reverse vs.reverse
  | [], vs, h => by rw [show vs = [] from h]; rfl
  | d :: ds, vs, h => by
    obtain ⟨v, r, rfl, h1, h2⟩ := h
    rw [List.reverse_cons, List.reverse_cons]
    exact RpL.append (RpL.reverse h2) ⟨v, [], rfl, h1, rfl⟩
theorem rpL_ints : ∀ {ns : List Int} {vs : List V}, RpL G W (ns.map D.int) vs ↔ vs = ns.map V.int
  | [], vs => by constructor <;> intro h <;> exact h
  | n :: ns, vs => by
    constructor
    · rintro ⟨v, r, rfl, h1, h2⟩
      rw [show v = V.int n from h1, rpL_ints.mp h2]
      rfl
    · rintro rfl
      exact ⟨_, _, rfl, rfl, rpL_ints.mpr rfl⟩
theorem rpL_bls : ∀ {ns : List Bool} {vs : List V}, RpL G W (ns.map D.bl) vs ↔ vs = ns.map V.bl
  | [], vs => by constructor <;> intro h <;> exact h
  | n :: ns, vs => by
    constructor
    · rintro ⟨v, r, rfl, h1, h2⟩
      rw [show v = V.bl n from h1, rpL_bls.mp h2]
      rfl
    · rintro rfl
      exact ⟨_, _, rfl, rfl, rpL_bls.mpr rfl⟩
theorem rpL_strs : ∀ {ns : List (List Nat)} {vs : List V}, RpL G W (ns.map D.str) vs → vs = ns.map fun s => V.str (toS s)
  | [], vs, h => h
  | n :: ns, vs, ⟨v, r, e, h1, h2⟩ => by
    rw [e, show v = _ from h1.1, rpL_strs h2]
    rfl
theorem rpL_strs' : ∀ {ns : List (List Nat)}, (∀ s ∈ ns, s.length ≤ SL) → RpL G W (ns.map D.str) (ns.map fun s => V.str (toS s))
  | [], _ => rfl
  | n :: ns, h => ⟨_, _, rfl, ⟨rfl, h n (List.mem_cons_self)⟩, rpL_strs' fun s hs => h s (List.mem_cons_of_mem _ hs)⟩
theorem rpL_strs_le {ns : List (List Nat)} {vs : List V} (h : RpL G W (ns.map D.str) vs) : ∀ s ∈ ns, s.length ≤ SL := by
  intro s hs
  obtain ⟨i, hi, rfl⟩ := List.getElem_of_mem hs
  obtain ⟨v, _, r⟩ := h.get (i := i) (d := .str ns[i]) (by rw [List.getElem?_map, List.getElem?_eq_getElem hi]; rfl)
  exact r.2
/-! ### new things -/
/-- what stays of the store's things -/
theorem RO.keep {n : Nat} {o : Ob} {H' : Hp} (h : RO G W H n o) (k : ∀ a u i, W.ρ n i = some a → H a = some u → H' a = some u) : RO G W H' n o := by
  unfold RO at h ⊢
  split at h
  · obtain ⟨a, h1, h2⟩ := h
    refine ⟨a, h1, ?_⟩
    unfold RC at h2 ⊢
    split at h2
    · obtain ⟨vs, h3, h4⟩ := h2
      exact ⟨vs, k _ _ _ h1 h3, h4⟩
    · exact h2.elim
  · exact h.elim
theorem GRel.off (g : GRel G W H st) {p : Addr} (hp : H p = none) : W.F p = none ∧ ∀ n i, W.ρ n i ≠ some p := by
  refine ⟨?_, fun n i e => ?_⟩
  · cases e : W.F p with
    | none => rfl
    | some u =>
      have := g.fz p u e
      rw [hp] at this
      cases this
  · obtain ⟨o, h⟩ := g.tr n i p e
    rw [hp] at h
    cases h
/-- a new object that nothing points to yet -/
theorem GRel.alloc {p : Addr} {o : HO} (g : GRel G W H st) (hp : H p = none) : Ext W H W (upd H p o) ∧ GRel G W (upd H p o) st := by
  have k : ∀ a u, H a = some u → upd H p o a = some u := fun a u h => by
    rw [upd_ne (ne_of_none h hp)]
    exact h
  refine ⟨⟨fun _ _ h => h, fun _ _ h => .inl h, fun _ _ _ h => h, fun _ _ _ h => .inl h, fun a u h _ => k a u h, fun a u h => ⟨u, k a u h⟩⟩, ⟨fun a u h => k a u (g.fz a u h), fun n q hq => (g.ob n q hq).keep fun a u i _ h => k a u h, g.inj, g.dis, g.bd, fun n i a h => ?_⟩⟩
  obtain ⟨u, hu⟩ := g.tr n i a h
  exact ⟨u, k a u hu⟩
/-- a thing that nobody else has is frozen -/
def Wd.frz (W : Wd) (p : Addr) (o : HO) : Wd := ⟨upd W.F p o, W.ρ⟩
theorem GRel.freeze {p : Addr} {o : HO} (g : GRel G W H st) (hp : H p = some o) (hf : W.F p = none) (hr : ∀ n i, W.ρ n i ≠ some p) : GRel G (W.frz p o) H st := by
  have kf : ∀ a u, W.F a = some u → (W.frz p o).F a = some u := fun a u h => by
    show upd W.F p o a = some u
    rw [upd_ne (ne_of_none h hf)]
    exact h
  refine ⟨fun a u h => ?_, fun n q hq => ?_, g.inj, fun n i a h => ?_, g.bd, g.tr⟩
  · by_cases e : a = p
    · subst e
      have : upd W.F a o a = some u := h
      rw [upd_same] at this
      rw [hp]
      exact this
    · have : upd W.F p o a = some u := h
      rw [upd_ne e] at this
      exact g.fz a u this
  · have h := g.ob n q hq
    unfold RO at h ⊢
    split at h
    · obtain ⟨a, h1, h2⟩ := h
      refine ⟨a, h1, ?_⟩
      unfold RC at h2 ⊢
      split at h2
      · obtain ⟨vs, h3, h4⟩ := h2
        exact ⟨vs, h3, RpL.mono kf (fun _ _ _ h => h) _ _ h4⟩
      · exact h2.elim
    · exact h.elim
  · show upd W.F p o a = none
    have e : a ≠ p := fun e => hr n i (by rw [← e]; exact h)
    rw [upd_ne e]
    exact g.dis n i a h
theorem Ext.freeze {p : Addr} {o : HO} (x : Ext W H W' H') (hp : H p = none) (hf : W'.F p = none) : Ext W H (W'.frz p o) H' := by
  refine ⟨fun a u h => ?_, fun a u h => ?_, x.r, x.rn, x.keep, x.dom⟩
  · show upd W'.F p o a = some u
    have h' := x.f a u h
    rw [upd_ne (ne_of_none h' hf)]
    exact h'
  · have h' : upd W'.F p o a = some u := h
    by_cases e : a = p
    · rw [e]
      exact .inr hp
    · rw [upd_ne e] at h'
      exact x.fn a u h'
/-- a new thing, frozen: a value -/
theorem Fresh.freeze (g : GRel G W' H' st) (x : Ext W H W' H') (h : Fresh G H W' H' d v) : ∃ W'', Ext W H W'' H' ∧ GRel G W'' H' st ∧ Rp G W'' d v := by
  obtain ⟨a, e, h1, h2, h3, h4⟩ := h
  unfold RC at h1
  split at h1
  · obtain ⟨vs, h5, h6⟩ := h1
    refine ⟨W'.frz a (.lst vs), x.freeze h4 h2, g.freeze h5 h2 h3, a, vs, e, .inl upd_same, RpL.mono (W := W') (W' := W'.frz a (.lst vs)) (fun b u h => ?_) (fun _ _ _ h => h) _ _ h6⟩
    show upd W'.F a _ b = some u
    rw [upd_ne (ne_of_none h h2)]
    exact h
  · exact h1.elim
theorem Nw.freeze (g : GRel G W' H' st) (x : Ext W H W' H') (h : Nw G H W' H' d v) : ∃ W'', Ext W H W'' H' ∧ GRel G W'' H' st ∧ Rp G W'' d v := by
  unfold Nw at h
  split at h
  · exact h.freeze g x
  · exact ⟨W', x, g, h⟩
/-- a new list -/
theorem GRel.newList {p : Addr} {ds : List D} {vs : List V} (g : GRel G W H st) (hp : H p = none) (r : RpL G W ds vs) : Ext W H W (upd H p (.lst vs)) ∧ GRel G W (upd H p (.lst vs)) st ∧ Fresh G H W (upd H p (.lst vs)) (.lst ds) (.ref p) := by
  obtain ⟨x, g'⟩ := g.alloc (o := .lst vs) hp
  obtain ⟨h1, h2⟩ := g.off hp
  exact ⟨x, g', p, rfl, ⟨vs, upd_same, r⟩, h1, h2, hp⟩
/-- a new tuple, frozen at once -/
theorem GRel.newTup {p : Addr} {ds : List D} {vs : List V} (g : GRel G W H st) (hp : H p = none) (r : RpL G W ds vs) : ∃ W', Ext W H W' (upd H p (.tup vs)) ∧ GRel G W' (upd H p (.tup vs)) st ∧ Rp G W' (.tup ds) (.ref p) := by
  obtain ⟨x, g'⟩ := g.alloc (o := .tup vs) hp
  obtain ⟨h1, h2⟩ := g.off hp
  refine ⟨W.frz p (.tup vs), x.freeze hp h1, g'.freeze upd_same h1 h2, p, vs, rfl, .inl (.inl upd_same), RpL.mono (W := W) (W' := W.frz p (.tup vs)) (fun b u h => ?_) (fun _ _ _ h => h) _ _ r⟩
  show upd W.F p _ b = some u
  rw [upd_ne (ne_of_none h h1)]
  exact h
end
end Cal
/-! Cal, part C: the operations are the model's. -/
namespace Cal
open PySem L2 PySem.Spec PyProof.Rows
def bop : BO → Operator
  | .add => .Add | .sub => .Sub | .mul => .Mult | .fdiv => .FloorDiv | .mod => .Mod | .pow => .Pow
def cop : CO → CmpOp
  | .eq => .Eq | .ne => .NotEq | .lt => .Lt | .le => .LtE | .gt => .Gt | .ge => .GtE | .isin => .In | .notin => .NotIn | .is => .Is | .isnot => .IsNot
/-- what the layer asks of a two-place operation -/
def rOp (G : Gp) (f : D → D → Option D) : R2 := fun x y H Q => ∃ W st d e z, GRel G W H st ∧ Vd G W H d x ∧ Vd G W H e y ∧ f d e = some z ∧
  ∀ W' H' v, Ext W H W' H' → GRel G W' H' st → Nw G H W' H' z v → Q v H'
section
variable {G : Gp} {X : Cx} {W : Wd} {H : Hp} {st : Sto}
theorem rp_str {s : List Nat} {v : V} (h : Rp G W (.str s) v) : v = .str (toS s) ∧ s.length ≤ SL := h
theorem toS_len (s : List Nat) : (toS s).length = s.length := by
  show s.toArray.size = s.length
  exact List.size_toArray
theorem toS_list (s : List Nat) : (toS s).cps.toList = s := rfl
theorem toS_app (s t : List Nat) : toS s ++ toS t = toS (s ++ t) := by
  show Str.mk (s.toArray ++ t.toArray) = Str.mk (s ++ t).toArray
  rw [List.append_toArray]
theorem toS_inj {s t : List Nat} (h : toS s = toS t) : s = t := by
  have : (toS s).cps.toList = (toS t).cps.toList := by rw [h]
  exact this
theorem toS_eq (s t : List Nat) : decide (toS s = toS t) = (s == t) := by
  by_cases h : s = t
  · subst h
    simp
  · rw [decide_eq_false (fun e => h (toS_inj e))]
    exact (beq_eq_false_iff_ne.mpr h).symm
theorem toS_of (z : Str) : z = toS z.cps.toList := rfl
/-- one value that is no list -/
theorem nw_val {W' : Wd} {H' : Hp} {d : D} {v : V} (h : Rp G W' d v) (hd : ∀ ds, d ≠ .lst ds) : Nw G H W' H' d v := by
  unfold Nw
  split
  · rename_i ds
    exact (hd ds rfl).elim
  · exact h
theorem vd_int {i : Int} {v : V} (h : Vd G W H (.int i) v) : v = .int i := h.rp (fun _ e => nomatch e)
theorem vd_str {s : List Nat} {v : V} (h : Vd G W H (.str s) v) : v = .str (toS s) ∧ s.length ≤ SL := h.rp (fun _ e => nomatch e)
theorem vd_bl {b : Bool} {v : V} (h : Vd G W H (.bl b) v) : v = .bl b := h.rp (fun _ e => nomatch e)
theorem vd_non {v : V} (h : Vd G W H .non v) : v = .non := h.rp (fun _ e => nomatch e)
/-- a step that leaves the heap and hands on a plain value -/
theorem out_val {Q : VK} {z : D} {v : V} (g : GRel G W H st) (q : ∀ W' H' v, Ext W H W' H' → GRel G W' H' st → Nw G H W' H' z v → Q v H') (r : Rp G W z v) (hd : ∀ ds, z ≠ .lst ds) : Q v H :=
  q W H v Ext.refl g (nw_val r hd)
theorem rep_fold (n : Nat) (a : List Nat) : ∀ acc : List Nat, (List.replicate n a.toArray).foldl (· ++ ·) acc.toArray = (acc ++ (List.replicate n a).flatten).toArray := by
  induction n with
  | zero => intro acc; simp
  | succ n ih =>
    intro acc
    rw [List.replicate_succ, List.foldl_cons, List.append_toArray, ih, List.replicate_succ, List.flatten_cons, List.append_assoc]
theorem lstR {pins : List (Addr × Obj)} {s : Shared} {σ : L2.St} {l : Addr} {xs : List V} (I : Inv X pins σ H s) (h : Rd H l (.lst xs)) :
    xs.length ≤ sizeLine ∧ ∃ (its : List Value) (n : Nat), Vals xs its ∧ xs.length = its.length ∧ s.heap.get? l = some { cls := .type "list", data := .seq its.toArray n } := by
  obtain ⟨h1, its, n, r, e⟩ := h.ok I.hok
  exact ⟨h1, its, n, r, r.length, e⟩
theorem op_catR {pins : List (Addr × Obj)} {s : Shared} {σ : L2.St} {l b : Addr} {xs zs : List V} {Q : VK} (I : Inv X pins σ H s) (hH : Rd H l (.lst xs)) (hB : Rd H b (.lst zs)) (hz : xs.length + zs.length ≤ sizeLine)
    (q : ∀ p, H p = none → Q (.ref p) (upd H p (.lst (xs ++ zs)))) : wpAny (model X.prog X.w) X.A (binaryOp .Add (.ref l) (.ref b)) (EP X pins σ Q) X.xe s := by
  obtain ⟨z, its, n, r, hl, e⟩ := lstR I hH
  obtain ⟨z2, its2, n2, r2, hl2, e2⟩ := lstR I hB
  refine PySem.P.add_list e e2 ?_ (by rw [List.size_toArray, List.size_toArray]; omega)
  have ea : its.toArray ++ its2.toArray = (its ++ its2).toArray := by simp
  rw [ea]
  exact ⟨.ref _, _, I.lnew (t' := s.toks) (r.append r2) (by rw [List.length_append]; omega), rfl, q _ I.fresh⟩
theorem op_binD (op : BO) (K : X.K = G.K) : OpR X (binaryOp (bop op)) (rOp G (binD op)) := by
  intro pins s σ H x y v u Q I rx ry ⟨W, st, d, e, z, g, vd, ve, hz, q⟩
  have fin : ∀ i : Int, z = .int i → Q (.int i) H := fun i ez => by
    subst ez
    exact out_val g q rfl (fun _ h => nomatch h)
  cases op with
  | add =>
    simp only [binD] at hz
    split at hz
    · rename_i i j
      cases hz
      exact op_add pins s σ H x y v u Q I rx ry ⟨i, j, vd_int vd, vd_int ve, fin _ rfl⟩
    · rename_i a b
      split at hz
      · rename_i hl
        cases hz
        refine op_add_str pins s σ H x y v u Q I rx ry ⟨toS a, toS b, (vd_str vd).1, (vd_str ve).1, ?_, ?_⟩
        · rw [toS_len, toS_len]
          exact hl
        · rw [toS_app]
          exact out_val g q ⟨rfl, by rw [List.length_append]; exact hl⟩ (fun _ h => nomatch h)
      · cases hz
    · rename_i a b
      split at hz
      · rename_i hl
        cases hz
        obtain ⟨p, xs, rfl, h1, r1⟩ := vd.tup g
        obtain ⟨p', ys, rfl, h2, r2⟩ := ve.tup g
        refine op_catA pins s σ H _ _ v u Q I rx ry ⟨p, p', xs, ys, rfl, rfl, by rw [K]; exact h1, by rw [K]; exact h2, ?_, fun e0 => ?_, fun _ e0 => ?_, fun _ _ t ht => ?_⟩
        · rw [← r1.len, ← r2.len]
          exact hl
        · subst e0
          have : a = [] := List.length_eq_zero_iff.mp (by rw [r1.len]; rfl)
          subst this
          rw [List.nil_append] at q
          exact out_val g q (ve.rp (fun _ h => nomatch h)) (fun _ h => nomatch h)
        · subst e0
          have : b = [] := List.length_eq_zero_iff.mp (by rw [r2.len]; rfl)
          subst this
          rw [List.append_nil] at q
          exact out_val g q (vd.rp (fun _ h => nomatch h)) (fun _ h => nomatch h)
        · obtain ⟨W', x', g', r'⟩ := g.newTup ht (r1.append r2)
          exact q W' _ _ x' g' r'
      · cases hz
    · rename_i a b
      split at hz
      · rename_i hl
        cases hz
        obtain ⟨p, xs, rfl, h1, r1⟩ := vd.lst g
        obtain ⟨p', ys, rfl, h2, r2⟩ := ve.lst g
        cases rx
        cases ry
        refine op_catR I h1 h2 (by rw [← r1.len, ← r2.len]; exact hl) fun t ht => ?_
        obtain ⟨x', g', n'⟩ := g.newList ht (r1.append r2)
        exact q _ _ _ x' g' n'
      · cases hz
    · cases hz
  | sub =>
    simp only [binD] at hz
    split at hz
    · rename_i i j
      cases hz
      exact op_sub pins s σ H x y v u Q I rx ry ⟨i, j, vd_int vd, vd_int ve, fin _ rfl⟩
    · cases hz
  | mul =>
    simp only [binD] at hz
    split at hz
    · rename_i i j
      split at hz
      · rename_i hm
        cases hz
        refine op_mul pins s σ H x y v u Q I rx ry ⟨i, j, vd_int vd, vd_int ve, ?_, fin _ rfl⟩
        unfold mulOk at hm
        simp only [Bool.or_eq_true, Bool.and_eq_true, decide_eq_true_eq] at hm
        exact hm
      · cases hz
    · rename_i a j
      split at hz
      · rename_i hm
        cases hz
        obtain ⟨rfl, hl⟩ := vd_str vd
        have ej := vd_int ve
        subst ej
        obtain ⟨t, rfl⟩ := rx
        obtain ⟨t', rfl⟩ := ry
        have hlen := toS_len a
        have hres : (List.replicate j.toNat a).flatten.length = a.length * j.toNat := by
          rw [List.length_flatten, List.map_replicate, List.sum_replicate_nat, Nat.mul_comm]
        have fin2 : ∀ (t : Tok) (k : Nat), EP X pins σ Q (.str (toS (List.replicate j.toNat a).flatten) t) { s with toks := k } := fun t k =>
          ⟨.str (toS (List.replicate j.toNat a).flatten), H, I.tok k, ⟨t, rfl⟩, out_val g q ⟨rfl, by rw [hres]; exact hm.2.2⟩ (fun _ h => nomatch h)⟩
        have hfold : ∀ z, (List.replicate j.toNat (toS a).cps).foldl (· ++ ·) #[] = z → Str.mk z = toS (List.replicate j.toNat a).flatten := fun z e => by
          have := rep_fold j.toNat a []
          rw [List.nil_append] at this
          rw [← e]
          exact congrArg Str.mk this
        have hSL : (sizeLine : Nat) = 16777216 := rfl
        have hm2 : a.length * j.toNat ≤ 16777216 := hm.2.2
        have hj : ((j.toNat : Nat) : Int) = j := Int.toNat_of_nonneg hm.1
        refine PySem.P.mul_str (by
          have h1 : ¬ j < -(2 ^ 63 : Int) := by omega
          have h2 : ¬ j ≥ 2 ^ 63 := by omega
          rw [decide_eq_false h1, decide_eq_false h2]; rfl) (fun h1 h2 => ?_) (fun h1 h2 => ?_) ?_
        · have hd : ((2 : Int) ^ 63 - 1) / 16777216 ≤ (2 ^ 63 - 1) / j := by
            rw [Int.le_ediv_iff_mul_le (by omega)]
            exact Int.le_trans (Int.mul_le_mul_of_nonneg_left hm.2.1 (by decide)) (by decide)
          have : a.length ≤ 16777216 := hl
          rw [hlen]
          have e : ((2 : Int) ^ 63 - 1) / 16777216 = 549755813887 := by decide
          omega
        · rw [hlen]
          show decide (a.length * j.toNat > sizeLine) = false
          rw [decide_eq_false]
          omega
        · split
          · rename_i h1
            have e0 : j.toNat = 0 := by omega
            refine ⟨by decide, ?_⟩
            have e : (Str.empty : Str) = toS (List.replicate j.toNat a).flatten := by rw [e0]; rfl
            rw [e]
            exact fin2 _ _
          · split
            · rename_i h1 h2
              have e : toS a = toS (List.replicate j.toNat a).flatten := by
                rcases Bool.or_eq_true_iff.mp h2 with h3 | h3
                · have e1 : j = 1 := by simpa using h3
                  subst e1
                  show toS a = toS (a ++ [])
                  rw [List.append_nil]
                · have e1 : (toS a).length = 0 := by simpa using h3
                  rw [hlen] at e1
                  have ea : a = [] := List.length_eq_zero_iff.mp e1
                  subst ea
                  congr 1
                  exact (List.flatten_eq_nil_iff.mpr (fun l hl => (List.mem_replicate.mp hl).2)).symm
              rw [e]
              exact fin2 _ _
            · refine ⟨?_, ?_⟩
              · rw [hfold _ rfl, toS_len, hres]
                omega
              · rw [hfold _ rfl]
                exact fin2 _ _
      · cases hz
    · cases hz
  | fdiv =>
    simp only [binD] at hz
    split at hz
    · rename_i i j
      split at hz
      · rename_i hm
        cases hz
        exact op_fdiv pins s σ H x y v u Q I rx ry ⟨i, j, vd_int vd, vd_int ve, hm, fin _ rfl⟩
      · cases hz
    · cases hz
  | mod =>
    simp only [binD] at hz
    split at hz
    · rename_i i j
      split at hz
      · rename_i hm
        cases hz
        exact op_mod pins s σ H x y v u Q I rx ry ⟨i, j, vd_int vd, vd_int ve, hm, fin _ rfl⟩
      · cases hz
    · cases hz
  | pow =>
    simp only [binD] at hz
    split at hz
    · rename_i i j
      split at hz
      · rename_i hm
        cases hz
        exact op_pow pins s σ H x y v u Q I rx ry ⟨i, j, vd_int vd, vd_int ve, ⟨hm.1, by omega, hm.2.2⟩, fin _ rfl⟩
      · cases hz
    · cases hz
end
end Cal
/-! Cal, part D: comparisons, truth, subscripts, slices. -/
namespace Cal
open PySem L2 PySem.Spec PyProof.Rows
/-- a context that the interpreter's steps may be taken in -/
structure XO (G : Gp) (X : Cx) : Prop where
  K : X.K = G.K
  calm : X.calm = true
  un : X.A.units + 70 < cLine
mutual
def py : D → PyData
  | .non => .none
  | .bl b => .bool b
  | .int i => .int i
  | .str s => .str (toS s)
  | .tup ds => .tuple (pyL ds)
  | .lst ds => .list (pyL ds)
  | _ => .none
def pyL : List D → List PyData
  | [] => []
  | d :: ds => py d :: pyL ds
end
theorem flat_dct (n : Nat) (a b : List D) : flatD n (.dct a b) = false := by cases n <;> rfl
theorem flat_loc (n m : Nat) : flatD n (.loc m) = false := by cases n <;> rfl
theorem flat_fn (n m : Nat) : flatD n (.fn m) = false := by cases n <;> rfl
theorem flat_obj (n c : Nat) (a : List Nat) (b : List D) : flatD n (.obj c a b) = false := by cases n <;> rfl
section
variable {G : Gp} {X : Cx} {W : Wd} {H : Hp} {st : Sto}
mutual
theorem eqv_py : ∀ (n m : Nat) (d e : D), flatD n d = true → flatD m e = true → PyData.eqv (py d) (py e) = eqD d e
  | n, m, .non, e, h, k => by cases e <;> first | rfl | (rw [flat_dct] at k; cases k) | (rw [flat_loc] at k; cases k) | (rw [flat_fn] at k; cases k) | (rw [flat_obj] at k; cases k)
  | n, m, .bl b, e, h, k => by cases e <;> first | rfl | (rw [flat_dct] at k; cases k) | (rw [flat_loc] at k; cases k) | (rw [flat_fn] at k; cases k) | (rw [flat_obj] at k; cases k)
  | n, m, .int i, e, h, k => by cases e <;> first | rfl | (rw [flat_dct] at k; cases k) | (rw [flat_loc] at k; cases k) | (rw [flat_fn] at k; cases k) | (rw [flat_obj] at k; cases k)
  | n, m, .str s, e, h, k => by
    cases e with
    | str t =>
      show (toS s == toS t) = (s == t)
      rw [← toS_eq]
      rfl
    | dct a b => rw [flat_dct] at k; cases k
    | loc a => rw [flat_loc] at k; cases k
    | fn a => rw [flat_fn] at k; cases k
    | obj a b c => rw [flat_obj] at k; cases k
    | _ => rfl
  | 0, m, .tup ds, e, h, k => by simp [flatD] at h
  | n + 1, m, .tup ds, e, h, k => by
    cases e with
    | tup es =>
      cases m with
      | zero => simp [flatD] at k
      | succ m => exact eqvAll_py n m ds es h k
    | dct a b => rw [flat_dct] at k; cases k
    | loc a => rw [flat_loc] at k; cases k
    | fn a => rw [flat_fn] at k; cases k
    | obj a b c => rw [flat_obj] at k; cases k
    | _ => rfl
  | 0, m, .lst ds, e, h, k => by simp [flatD] at h
  | n + 1, m, .lst ds, e, h, k => by
    cases e with
    | lst es =>
      cases m with
      | zero => simp [flatD] at k
      | succ m => exact eqvAll_py n m ds es h k
    | dct a b => rw [flat_dct] at k; cases k
    | loc a => rw [flat_loc] at k; cases k
    | fn a => rw [flat_fn] at k; cases k
    | obj a b c => rw [flat_obj] at k; cases k
    | _ => rfl
  | n, _, .dct _ _, _, h, _ => by cases n <;> simp [flatD] at h
  | n, _, .loc _, _, h, _ => by cases n <;> simp [flatD] at h
  | n, _, .fn _, _, h, _ => by cases n <;> simp [flatD] at h
  | n, _, .obj _ _ _, _, h, _ => by cases n <;> simp [flatD] at h
theorem eqvAll_py : ∀ (n m : Nat) (ds es : List D), flatL n ds = true → flatL m es = true → PyData.eqvAll (pyL ds) (pyL es) = eqL ds es
  | n, m, [], [], h, k => rfl
  | n, m, [], _ :: _, h, k => rfl
  | n, m, _ :: _, [], h, k => rfl
  | n, m, d :: ds, e :: es, h, k => by
    simp only [flatL, Bool.and_eq_true] at h k
    show (PyData.eqv (py d) (py e) && PyData.eqvAll (pyL ds) (pyL es)) = (eqD d e && eqL ds es)
    rw [eqv_py n m d e h.1 k.1, eqvAll_py n m ds es h.2 k.2]
end
mutual
theorem lay_py : ∀ (n : Nat) (d : D), flatD n d = true → (py d).plain = true ∧ (py d).depth ≤ n
  | n, .non, h => ⟨rfl, Nat.zero_le _⟩
  | n, .bl b, h => ⟨rfl, Nat.zero_le _⟩
  | n, .int i, h => ⟨rfl, Nat.zero_le _⟩
  | n, .str s, h => ⟨rfl, Nat.zero_le _⟩
  | 0, .tup ds, h => by simp [flatD] at h
  | n + 1, .tup ds, h => by
    have := layAll_py n ds h
    refine ⟨?_, ?_⟩
    · show PyData.plain (.tuple (pyL ds)) = true
      simp only [PyData.plain]
      exact this.1
    · show PyData.depth (.tuple (pyL ds)) ≤ n + 1
      simp only [PyData.depth]
      omega
  | 0, .lst ds, h => by simp [flatD] at h
  | n + 1, .lst ds, h => by
    have := layAll_py n ds h
    refine ⟨?_, ?_⟩
    · show PyData.plain (.list (pyL ds)) = true
      simp only [PyData.plain]
      exact this.1
    · show PyData.depth (.list (pyL ds)) ≤ n + 1
      simp only [PyData.depth]
      omega
  | n, .dct _ _, h => by cases n <;> simp [flatD] at h
  | n, .loc _, h => by cases n <;> simp [flatD] at h
  | n, .fn _, h => by cases n <;> simp [flatD] at h
  | n, .obj _ _ _, h => by cases n <;> simp [flatD] at h
theorem layAll_py : ∀ (n : Nat) (ds : List D), flatL n ds = true → PyData.plainAll (pyL ds) = true ∧ PyData.depthAll (pyL ds) ≤ n
  | n, [], h => ⟨rfl, Nat.zero_le _⟩
  | n, d :: ds, h => by
    simp only [flatL, Bool.and_eq_true] at h
    have h1 := lay_py n d h.1
    have h2 := layAll_py n ds h.2
    refine ⟨?_, ?_⟩
    · show PyData.plainAll (py d :: pyL ds) = true
      simp only [PyData.plainAll, Bool.and_eq_true]
      exact ⟨h1.1, h2.1⟩
    · show PyData.depthAll (py d :: pyL ds) ≤ n
      simp only [PyData.depthAll]
      exact Nat.max_le.mpr ⟨h1.2, h2.2⟩
end
mutual
theorem dp_py (g : GRel G W H st) : ∀ (n : Nat) (d : D) (v : V), flatD n d = true → Rp G W d v → Dp G.K H v (py d)
  | n, .non, v, h, r => by rw [show v = .non from r]; exact .non
  | n, .bl b, v, h, r => by rw [show v = .bl b from r]; exact .bl b
  | n, .int i, v, h, r => by rw [show v = .int i from r]; exact .int i
  | n, .str s, v, h, r => by rw [show v = .str (toS s) from r.1]; exact .str _
  | 0, .tup ds, v, h, r => by simp [flatD] at h
  | n + 1, .tup ds, v, h, ⟨a, vs, e, s, r⟩ => by
    rw [e]
    exact .tup (sqT_mono g.fz s) (dpAll_py g n ds vs h r)
  | 0, .lst ds, v, h, r => by simp [flatD] at h
  | n + 1, .lst ds, v, h, ⟨a, vs, e, s, r⟩ => by
    rw [e]
    exact .lst (.inl (rd_mono g.fz s)) (dpAll_py g n ds vs h r)
  | n, .dct _ _, v, h, _ => by cases n <;> simp [flatD] at h
  | n, .loc _, v, h, _ => by cases n <;> simp [flatD] at h
  | n, .fn _, v, h, _ => by cases n <;> simp [flatD] at h
  | n, .obj _ _ _, v, h, _ => by cases n <;> simp [flatD] at h
theorem dpAll_py (g : GRel G W H st) : ∀ (n : Nat) (ds : List D) (vs : List V), flatL n ds = true → RpL G W ds vs → DpAll G.K H vs (pyL ds)
  | n, [], vs, h, r => by rw [show vs = [] from r]; exact .nil
  | n, d :: ds, vs, h, ⟨v, r, e, h1, h2⟩ => by
    simp only [flatL, Bool.and_eq_true] at h
    rw [e]
    exact .cons (dp_py g n d v h.1 h1) (dpAll_py g n ds r h.2 h2)
end
theorem Vd.dp {n : Nat} {d : D} {v : V} (r : Vd G W H d v) (g : GRel G W H st) (h : flatD n d = true) : Dp G.K H v (py d) := by
  rcases r with r | ⟨a, e, c⟩
  · exact dp_py g n d v h r
  · subst e
    cases d with
    | lst ds =>
      obtain ⟨vs, h1, h2⟩ := c
      cases n with
      | zero => simp [flatD] at h
      | succ n => exact .lst (.inl (.inl h1)) (dpAll_py g n ds vs h h2)
    | _ => exact c.elim
theorem any_py (n m : Nat) (d : D) (hd : flatD n d = true) : ∀ (ds : List D), flatL m ds = true → ((pyL ds).any fun z => PyData.eqv z (py d)) = ds.any fun z => eqD z d
  | [], _ => rfl
  | e :: ds, h => by
    simp only [flatL, Bool.and_eq_true] at h
    show (PyData.eqv (py e) (py d) || (pyL ds).any fun z => PyData.eqv z (py d)) = (eqD e d || ds.any fun z => eqD z d)
    rw [eqv_py m n e d h.1 hd, any_py n m d hd ds h.2]
/-- scalars as values -/
theorem flat_rp {d : D} {v : V} (r : Rp G W d v) (h : flatD 0 d = true) : flatV v = true := by
  cases d with
  | non => rw [show v = _ from r]; rfl
  | bl b => rw [show v = _ from r]; rfl
  | int i => rw [show v = _ from r]; rfl
  | str s => rw [show v = _ from r.1]; rfl
  | _ => simp [flatD] at h
theorem eq_rp {d e : D} {v u : V} (r : Rp G W d v) (k : Rp G W e u) (h : flatD 0 d = true) (h' : flatD 0 e = true) : eqV v u = eqD d e := by
  cases d with
  | non =>
    rw [show v = _ from r]
    cases e with
    | non => rw [show u = _ from k]; rfl
    | bl b => rw [show u = _ from k]; rfl
    | int i => rw [show u = _ from k]; rfl
    | str s => rw [show u = _ from k.1]; rfl
    | _ => simp [flatD] at h'
  | bl b =>
    rw [show v = _ from r]
    cases e with
    | non => rw [show u = _ from k]; rfl
    | bl b => rw [show u = _ from k]; rfl
    | int i => rw [show u = _ from k]; rfl
    | str s => rw [show u = _ from k.1]; rfl
    | _ => simp [flatD] at h'
  | int i =>
    rw [show v = _ from r]
    cases e with
    | non => rw [show u = _ from k]; rfl
    | bl b => rw [show u = _ from k]; rfl
    | int i => rw [show u = _ from k]; rfl
    | str s => rw [show u = _ from k.1]; rfl
    | _ => simp [flatD] at h'
  | str s =>
    rw [show v = _ from r.1]
    cases e with
    | non => rw [show u = _ from k]; rfl
    | bl b => rw [show u = _ from k]; rfl
    | int i => rw [show u = _ from k]; rfl
    | str t =>
      rw [show u = _ from k.1]
      show (toS s == toS t) = (s == t)
      rw [← toS_eq]
      rfl
    | _ => simp [flatD] at h'
  | _ => simp [flatD] at h
theorem flats_rp : ∀ {ds : List D} {vs : List V}, RpL G W ds vs → flatL 0 ds = true → vs.all flatV = true
  | [], vs, r, h => by rw [show vs = [] from r]; rfl
  | d :: ds, vs, ⟨v, r, e, h1, h2⟩, h => by
    simp only [flatL, Bool.and_eq_true] at h
    rw [e, List.all_cons, flat_rp h1 h.1, flats_rp h2 h.2]
    rfl
theorem in_rp {d : D} {v : V} (k : Rp G W d v) (hd : flatD 0 d = true) : ∀ {ds : List D} {vs : List V}, RpL G W ds vs → flatL 0 ds = true → inV v vs = ds.any fun z => eqD z d
  | [], vs, r, h => by rw [show vs = [] from r]; rfl
  | e :: ds, vs, ⟨u, r, q, h1, h2⟩, h => by
    simp only [flatL, Bool.and_eq_true] at h
    rw [q]
    show (eqV u v || inV v r) = (eqD e d || ds.any fun z => eqD z d)
    rw [eq_rp h1 k h.1 hd, in_rp k hd h2 h.2]
theorem op_eqG (neg : Bool) (o : XO G X) {pins : List (Addr × Obj)} {s : Shared} {σ : L2.St} {x y : V} {v u : Value} {Q : VK} {d e : D} {b : Bool} (I : Inv X pins σ H s) (rx : RelV x v) (ry : RelV y u)
    (g : GRel G W H st) (vd : Vd G W H d x) (ve : Vd G W H e y) (h : opEq d e = some b) (q : Q (.bl (if neg then !b else b)) H) :
    wpAny (model X.prog X.w) X.A (compareOp (if neg then .NotEq else .Eq) v u) (EP X pins σ Q) X.xe s := by
  have hK := o.K
  unfold opEq at h
  split at h
  · rename_i hf
    rw [Bool.and_eq_true] at hf
    cases h
    obtain ⟨as, r1⟩ := Dp.reads I _ x v (by rw [hK]; exact vd.dp g hf.1) rx
    obtain ⟨bs, r2⟩ := Dp.reads I _ y u (by rw [hK]; exact ve.dp g hf.2) ry
    have l1 := lay_py _ _ hf.1
    have l2 := lay_py _ _ hf.2
    have hu : X.A.units + min (py d).depth (py e).depth < cLine := by
      have := o.un
      have h1 : (py d).depth ≤ 20 := l1.2
      omega
    rw [← eqv_py _ _ _ _ hf.1 hf.2] at q
    cases neg with
    | false => exact SeqAt.eq_plain r1 r2 l1.1 l2.1 hu ⟨.bl _, H, I, rfl, q⟩
    | true => exact SeqAt.ne_plain r1 r2 l1.1 l2.1 hu ⟨.bl _, H, I, rfl, q⟩
  · cases h
theorem op_inG (neg : Bool) (o : XO G X) {pins : List (Addr × Obj)} {s : Shared} {σ : L2.St} {x y : V} {v u : Value} {Q : VK} {d e : D} {b : Bool} (I : Inv X pins σ H s) (rx : RelV x v) (ry : RelV y u)
    (g : GRel G W H st) (vd : Vd G W H d x) (ve : Vd G W H e y) (h : opIn d e = some b) (q : Q (.bl (if neg then !b else b)) H) :
    wpAny (model X.prog X.w) X.A (compareOp (if neg then .NotIn else .In) v u) (EP X pins σ Q) X.xe s := by
  have hK := o.K
  unfold opIn at h
  split at h
  · rename_i z
    split at h
    · rename_i c
      cases h
      cases neg with
      | false => exact op_in_sign pins s σ H x y v u Q I rx ry ⟨c, toS z, (vd_str vd).1, (vd_str ve).1, q⟩
      | true => exact op_notIn_sign pins s σ H x y v u Q I rx ry ⟨c, toS z, (vd_str vd).1, (vd_str ve).1, q⟩
    · cases h
  · rename_i ds
    split at h
    · rename_i hf
      rw [Bool.and_eq_true] at hf
      cases h
      obtain ⟨as, r1⟩ := Dp.reads I _ x v (by rw [hK]; exact vd.dp g hf.1) rx
      obtain ⟨bs, r2⟩ := Dp.reads I _ y u (by rw [hK]; exact ve.dp (n := DEEP + 1) g hf.2) ry
      have l1 := lay_py _ _ hf.1
      have l2 := layAll_py _ _ hf.2
      have hu : X.A.units + 1 + min (PyData.depthAll (pyL ds)) (py d).depth < cLine := by
        have := o.un
        have h1 : (py d).depth ≤ 20 := l1.2
        omega
      rw [← any_py _ _ d hf.1 ds hf.2] at q
      cases neg with
      | false => exact SeqAt.in_list_data r2 r1 l2.1 l1.1 hu ⟨.bl _, H, I, rfl, q⟩
      | true => exact SeqAt.notIn_list_data r2 r1 l2.1 l1.1 hu ⟨.bl _, H, I, rfl, q⟩
    · cases h
  · rename_i ds
    split at h
    · rename_i hf
      rw [Bool.and_eq_true] at hf
      cases h
      obtain ⟨as, r1⟩ := Dp.reads I _ x v (by rw [hK]; exact vd.dp g hf.1) rx
      obtain ⟨bs, r2⟩ := Dp.reads I _ y u (by rw [hK]; exact ve.dp (n := DEEP + 1) g hf.2) ry
      have l1 := lay_py _ _ hf.1
      have l2 := layAll_py _ _ hf.2
      have hu : X.A.units + 1 + min (PyData.depthAll (pyL ds)) (py d).depth < cLine := by
        have := o.un
        have h1 : (py d).depth ≤ 20 := l1.2
        omega
      rw [← any_py _ _ d hf.1 ds hf.2] at q
      cases neg with
      | false => exact SeqAt.in_tuple_data r2 r1 l2.1 l1.1 hu ⟨.bl _, H, I, rfl, q⟩
      | true => exact SeqAt.notIn_tuple_data r2 r1 l2.1 l1.1 hu ⟨.bl _, H, I, rfl, q⟩
    · cases h
  · cases h
mutual
theorem kin_py : ∀ (d e : D), kin d e = true → PySem.W.alike (py d) (py e) = true
  | .non, e, h => by cases e <;> first | rfl | cases h
  | .bl _, e, h => by cases e <;> first | rfl | cases h
  | .int _, e, h => by cases e <;> first | rfl | cases h
  | .str _, e, h => by cases e <;> first | rfl | cases h
  | .tup ds, e, h => by
    cases e with
    | tup es => exact kinAll_py ds es h
    | _ => cases h
  | .lst ds, e, h => by
    cases e with
    | lst es => exact kinAll_py ds es h
    | _ => cases h
  | .dct _ _, e, h => by cases e <;> cases h
  | .loc _, e, h => by cases e <;> cases h
  | .fn _, e, h => by cases e <;> cases h
  | .obj _ _ _, e, h => by cases e <;> cases h
theorem kinAll_py : ∀ (ds es : List D), kinL ds es = true → PySem.W.alikeAll (pyL ds) (pyL es) = true
  | [], [], h => rfl
  | [], _ :: _, h => rfl
  | _ :: _, [], h => rfl
  | d :: ds, e :: es, h => by
    replace h : (kin d e && kinL ds es) = true := h
    rw [Bool.and_eq_true] at h
    show (PySem.W.alike (py d) (py e) && PySem.W.alikeAll (pyL ds) (pyL es)) = true
    rw [kin_py d e h.1, kinAll_py ds es h.2]
    rfl
end
mutual
theorem lt_py : ∀ (n m : Nat) (d e : D), flatD n d = true → flatD m e = true → kin d e = true → PySem.W.dataLt (py d) (py e) = ltD d e
  | n, m, .non, e, f, k, h => by cases e <;> first | rfl | cases h
  | n, m, .bl a, e, f, k, h => by
    cases e with
    | bl b =>
      show PySem.W.dataLt (.bool a) (.bool b) = _
      rw [PySem.W.dataLt_bool]
      cases a <;> cases b <;> rfl
    | _ => cases h
  | n, m, .int i, e, f, k, h => by
    cases e with
    | int j => exact PySem.W.dataLt_int i j
    | _ => cases h
  | n, m, .str i, e, f, k, h => by
    cases e with
    | str j => exact PySem.W.dataLt_str (toS i) (toS j)
    | _ => cases h
  | 0, m, .tup ds, e, f, k, h => by simp [flatD] at f
  | n + 1, m, .tup ds, e, f, k, h => by
    cases e with
    | tup es =>
      cases m with
      | zero => simp [flatD] at k
      | succ m => exact (PySem.W.dataLt_tuple _ _).trans (ltAll_py n m ds es f k h)
    | _ => cases h
  | 0, m, .lst ds, e, f, k, h => by simp [flatD] at f
  | n + 1, m, .lst ds, e, f, k, h => by
    cases e with
    | lst es =>
      cases m with
      | zero => simp [flatD] at k
      | succ m => exact (PySem.W.dataLt_list _ _).trans (ltAll_py n m ds es f k h)
    | _ => cases h
  | _, _, .dct _ _, e, _, _, h => by cases e <;> cases h
  | _, _, .loc _, e, _, _, h => by cases e <;> cases h
  | _, _, .fn _, e, _, _, h => by cases e <;> cases h
  | _, _, .obj _ _ _, e, _, _, h => by cases e <;> cases h
theorem ltAll_py : ∀ (n m : Nat) (ds es : List D), flatL n ds = true → flatL m es = true → kinL ds es = true → PyProof.Rows.lexLt itemOrd (PySem.W.keyToksAll (pyL ds)) (PySem.W.keyToksAll (pyL es)) = ltL ds es
  | n, m, [], [], f, k, h => by decide
  | n, m, [], e :: es, f, k, h => by
    show PyProof.Rows.lexLt itemOrd [Sum.inl 0] (Sum.inl 1 :: (PySem.W.keyToks (py e) ++ PySem.W.keyToksAll (pyL es))) = true
    rw [PySem.W.lex_atom (by decide)]
    decide
  | n, m, d :: ds, [], f, k, h => by
    show PyProof.Rows.lexLt itemOrd (Sum.inl 1 :: (PySem.W.keyToks (py d) ++ PySem.W.keyToksAll (pyL ds))) [Sum.inl 0] = false
    rw [PySem.W.lex_atom (by decide)]
    decide
  | n, m, d :: ds, e :: es, f, k, h => by
    replace h : (kin d e && kinL ds es) = true := h
    rw [Bool.and_eq_true] at h
    simp only [flatL, Bool.and_eq_true] at f k
    have ha := kin_py d e h.1
    have he := eqv_py n m d e f.1 k.1
    show PyProof.Rows.lexLt itemOrd (PySem.W.keyToksAll (py d :: pyL ds)) (PySem.W.keyToksAll (py e :: pyL es)) = if eqD d e = true then ltL ds es else ltD d e
    cases hq : eqD d e with
    | true =>
      rw [PySem.W.dataLt_all_yes ha (he.trans hq), ltAll_py n m ds es f.2 k.2 h.2]
      rfl
    | false =>
      rw [PySem.W.dataLt_all_no ha (he.trans hq), lt_py n m d e f.1 k.1 h.1]
      rfl
end
theorem ne_non {d : D} {x : V} (vd : Vd G W H d x) (h : d ≠ .non) : decide (x = V.non) = false := by
  apply decide_eq_false
  intro e
  subst e
  rcases vd with r | ⟨a, e, _⟩
  · cases d with
    | non => exact h rfl
    | bl b => cases (show V.non = V.bl b from r)
    | int i => cases (show V.non = V.int i from r)
    | str s => cases (show V.non = V.str (toS s) from r.1)
    | tup ds => obtain ⟨a, vs, e, _⟩ := r; cases e
    | lst ds => obtain ⟨a, vs, e, _⟩ := r; cases e
    | dct _ _ => exact r.elim
    | loc n => obtain ⟨a, e, _⟩ := r; cases e
    | fn f => cases (show V.non = V.ref (G.fa f) from r)
    | obj _ _ _ => exact r.elim
  · cases e
theorem op_cmpD (op : CO) (o : XO G X) : OpR X (compareOp (cop op)) (rOp G (fun d e => (cmpD op d e).map D.bl)) := by
  intro pins s σ H x y v u Q I rx ry ⟨W, st, d, e, z, g, vd, ve, hz, q⟩
  have hK := o.K
  replace hz : (cmpD op d e).map D.bl = some z := hz
  cases hc : cmpD op d e with
  | none => rw [hc] at hz; cases hz
  | some b =>
    rw [hc] at hz
    have ez : z = .bl b := by cases hz; rfl
    subst ez
    have fin : Q (.bl b) H := out_val g q rfl (fun _ h => nomatch h)
    clear q hz
    cases op with
    | eq => exact op_eqG false o I rx ry g vd ve hc fin
    | ne =>
      have hc : (opEq d e).map (!·) = some b := hc
      cases hq : opEq d e with
      | none => rw [hq] at hc; cases hc
      | some c =>
        rw [hq] at hc
        cases hc
        exact op_eqG true o I rx ry g vd ve hq fin
    | lt =>
      simp only [cmpD] at hc
      split at hc
      · rename_i i j
        cases hc
        exact op_lt pins s σ H x y v u Q I rx ry ⟨i, j, vd_int vd, vd_int ve, fin⟩
      · rename_i a c
        cases hc
        exact op_lt_str pins s σ H x y v u Q I rx ry ⟨toS a, toS c, (vd_str vd).1, (vd_str ve).1, fin⟩
      · rename_i a c
        split at hc
        · rename_i hf
          cases hc
          simp only [Bool.and_eq_true] at hf
          obtain ⟨⟨f1, f2⟩, f3⟩ := hf
          obtain ⟨as, r1⟩ := Dp.reads I _ x v (by rw [hK]; exact vd.dp (n := DEEP + 1) g f1) rx
          obtain ⟨bs, r2⟩ := Dp.reads I _ y u (by rw [hK]; exact ve.dp (n := DEEP + 1) g f2) ry
          have l1 := lay_py (DEEP + 1) (.tup a) f1
          have hu : X.A.units + min (py (.tup a)).depth (py (.tup c)).depth < cLine := by
            have := o.un
            have h1 : (py (.tup a)).depth ≤ 21 := l1.2
            omega
          have e1 : PySem.W.dataLt (py (.tup a)) (py (.tup c)) = ltL a c := lt_py (DEEP + 1) (DEEP + 1) (.tup a) (.tup c) f1 f2 f3
          rw [← e1] at fin
          exact PySem.W.lt_data r1 r2 (kin_py (.tup a) (.tup c) f3) (fun h => nomatch h) hu ⟨.bl _, H, I, rfl, fin⟩
        · cases hc
      · cases hc
    | le =>
      simp only [cmpD] at hc
      split at hc
      · rename_i i j
        cases hc
        exact op_le pins s σ H x y v u Q I rx ry ⟨i, j, vd_int vd, vd_int ve, fin⟩
      · cases hc
    | gt =>
      simp only [cmpD] at hc
      split at hc
      · rename_i i j
        cases hc
        exact op_gt pins s σ H x y v u Q I rx ry ⟨i, j, vd_int vd, vd_int ve, fin⟩
      · cases hc
    | ge =>
      simp only [cmpD] at hc
      split at hc
      · rename_i i j
        cases hc
        exact op_ge pins s σ H x y v u Q I rx ry ⟨i, j, vd_int vd, vd_int ve, fin⟩
      · cases hc
    | isin => exact op_inG false o I rx ry g vd ve hc fin
    | notin =>
      have hc : (opIn d e).map (!·) = some b := hc
      cases hq : opIn d e with
      | none => rw [hq] at hc; cases hc
      | some c =>
        rw [hq] at hc
        cases hc
        exact op_inG true o I rx ry g vd ve hq fin
    | is =>
      simp only [cmpD] at hc
      split at hc
      · have hy := vd_non ve
        have aux : decide (x = V.non) = b := by
          split at hc
          · cases hc
            exact decide_eq_true (vd_non vd)
          all_goals first | (cases hc; exact ne_non vd (fun h => nomatch h)) | cases hc
        rw [← aux] at fin
        exact op_isN pins s σ H x y v u Q I rx ry ⟨hy, fin⟩
      · split at hc
        · rename_i y' x'
          cases hc
          exact op_isBl pins s σ H x y v u Q I rx ry ⟨_, _, vd_bl vd, vd_bl ve, fin⟩
        · cases hc
      · cases hc
    | isnot =>
      simp only [cmpD] at hc
      split at hc
      · have hy := vd_non ve
        have aux : (!decide (x = V.non)) = b := by
          split at hc
          · cases hc
            rw [decide_eq_true (vd_non vd)]
            rfl
          all_goals first | (cases hc; rw [ne_non vd (fun h => nomatch h)]; rfl) | cases hc
        rw [← aux] at fin
        exact op_notN pins s σ H x y v u Q I rx ry ⟨hy, fin⟩
      · split at hc
        · cases hc
          exact op_notBl pins s σ H x y v u Q I rx ry ⟨_, _, vd_bl vd, vd_bl ve, fin⟩
        · cases hc
      · cases hc
/-! ### truth -/
theorem tru_of {d : D} {x : V} {b : Bool} (o : XO G X) (g : GRel G W H st) (vd : Vd G W H d x) (h : truth d = some b) : TruV X.K x H b := by
  cases d with
  | non => cases h; rw [vd_non vd]; rfl
  | bl c => cases h; rw [vd_bl vd]; rfl
  | int i => cases h; rw [vd_int vd]; rfl
  | str t =>
    cases h
    obtain ⟨e, hl⟩ := vd_str vd
    rw [e]
    refine ⟨by rw [toS_len]; exact hl, ?_⟩
    rw [toS_len]
    cases t with
    | nil => rfl
    | cons c r => rfl
  | tup ds =>
    cases h
    obtain ⟨p, xs, rfl, h1, r1⟩ := vd.tup g
    refine .inr (.inl ⟨xs, by rw [o.K]; exact h1, ?_⟩)
    have := r1.len
    cases ds <;> cases xs <;> first | rfl | cases this
  | lst ds =>
    cases h
    obtain ⟨p, xs, rfl, h1, r1⟩ := vd.lst g
    refine .inl ⟨xs, .inl h1, ?_⟩
    have := r1.len
    cases ds <;> cases xs <;> first | rfl | cases this
  | _ => cases h
/-! ### subscripts -/
/-- .. whose answer is a value that stood before -/
def rOpE (G : Gp) (f : D → D → Option D) : R2 := fun x y H Q => ∃ W st d e z, GRel G W H st ∧ Vd G W H d x ∧ Vd G W H e y ∧ f d e = some z ∧
  ∀ W' H' v, Ext W H W' H' → GRel G W' H' st → Rp G W' z v → Q v H'
theorem ixD_ixN (n : Nat) (i : Int) : ixD n i = ixN n i := rfl
theorem ix_D (o : XO G X) : IxR X (rOpE G idxD) := by
  intro value slice pins s σ H x y v u Q I rx ry ⟨W, st, d, e, z, g, vd, ve, hz, q⟩ hs
  unfold idxD at hz
  split at hz
  · rename_i i
    have ey := vd_int ve
    split at hz
    · rename_i ds
      obtain ⟨p, xs, rfl, h1, r1⟩ := vd.lst g
      cases hi : ixD ds.length i with
      | none => rw [hi] at hz; cases hz
      | some j =>
        rw [hi] at hz
        obtain ⟨w, h2, r2⟩ := r1.get hz
        refine ix_list value slice pins s σ H _ y v u Q I rx ry ⟨p, xs, i, w, rfl, ey, .inl h1, ?_, q W H w Ext.refl g r2⟩ hs
        unfold atI
        rw [← r1.len, ← ixD_ixN, hi]
        exact h2
    · rename_i ds
      obtain ⟨p, xs, rfl, h1, r1⟩ := vd.tup g
      cases hi : ixD ds.length i with
      | none => rw [hi] at hz; cases hz
      | some j =>
        rw [hi] at hz
        obtain ⟨w, h2, r2⟩ := r1.get hz
        refine ix_tup value slice pins s σ H _ y v u Q I rx ry ⟨p, xs, i, w, rfl, ey, by rw [o.K]; exact h1, ?_, q W H w Ext.refl g r2⟩ hs
        unfold atI
        rw [← r1.len, ← ixD_ixN, hi]
        exact h2
    · rename_i t
      obtain ⟨rfl, hl⟩ := vd_str vd
      cases hi : ixD t.length i with
      | none => rw [hi] at hz; cases hz
      | some j =>
        rw [hi] at hz
        replace hz : (t[j]?).map (fun c => D.str [c]) = some z := hz
        cases hc : t[j]? with
        | none => rw [hc] at hz; cases hz
        | some c =>
          rw [hc] at hz
          cases hz
          refine ix_str value slice pins s σ H _ y v u Q I rx ry ⟨toS t, i, c, rfl, ey, by rw [toS_len]; exact hl, ?_, q W H _ Ext.refl g ⟨rfl, (by show 1 ≤ SL; decide)⟩⟩ hs
          unfold atI
          rw [toS_list, ← ixD_ixN, hi]
          exact hc
    · cases hz
  · cases hz
/-! ### slices -/
theorem bnd_sIx (n d : Nat) (o : Option Int) : bndD n d o = HT.sIx n d o := by cases o <;> rfl
theorem RpL.cut {ds : List D} {vs : List V} (r : RpL G W ds vs) (lo hi : Option Int) : RpL G W (cutD ds lo hi) (cutV vs lo hi) := by
  unfold cutD cutV
  rw [bnd_sIx, bnd_sIx, r.len]
  exact RpL.take _ (RpL.drop _ r)
def rSlD (G : Gp) : V → Option Int → Option Int → Hp → VK → Prop := fun x lo hi H Q => ∃ W st d z, GRel G W H st ∧ Vd G W H d x ∧ slcD d lo hi = some z ∧
  ∀ W' H' v, Ext W H W' H' → GRel G W' H' st → Nw G H W' H' z v → Q v H'
theorem sl_D (o : XO G X) : SlR X (rSlD G) := by
  intro pins s σ H x v vl vu lo hi sl Q I rx hs pl pu ⟨W, st, d, z, g, vd, hz, q⟩
  unfold slcD at hz
  split at hz
  · rename_i ds
    cases hz
    obtain ⟨p, xs, rfl, h1, r1⟩ := vd.lst g
    refine sl_list pins s σ H _ v vl vu lo hi sl Q I rx hs pl pu ⟨p, xs, rfl, .inl h1, fun t ht => ?_⟩
    obtain ⟨x', g', n'⟩ := g.newList ht (r1.cut lo hi)
    exact q _ _ _ x' g' n'
  · rename_i ds
    cases hz
    obtain ⟨p, xs, rfl, h1, r1⟩ := vd.tup g
    refine sl_tupA pins s σ H _ v vl vu lo hi sl Q I rx hs pl pu ⟨p, xs, rfl, by rw [o.K]; exact h1, fun hw => ?_, fun hw t ht => ?_⟩
    · have e : cutD ds lo hi = ds := by
        unfold cutD
        rw [bnd_sIx, bnd_sIx, r1.len, hw.1, hw.2, List.drop_zero, Nat.sub_zero, ← r1.len]
        exact List.take_length
      rw [e] at q
      exact out_val g q (vd.rp (fun _ h => nomatch h)) (fun _ h => nomatch h)
    · obtain ⟨W', x', g', r'⟩ := g.newTup ht (r1.cut lo hi)
      exact q W' _ _ x' g' r'
  · rename_i t
    cases hz
    obtain ⟨rfl, hl⟩ := vd_str vd
    have e : cutS (toS t) lo hi = toS (cutD t lo hi) := by
      unfold cutS cutD
      rw [bnd_sIx, bnd_sIx, toS_len, toS_list]
      rfl
    refine sl_str pins s σ H _ v vl vu lo hi sl Q I rx hs pl pu ⟨toS t, rfl, by rw [toS_len]; exact hl, ?_⟩
    rw [e]
    refine out_val g q ⟨rfl, ?_⟩ (fun _ h => nomatch h)
    refine Nat.le_trans ?_ hl
    unfold cutD
    rw [List.length_take, List.length_drop]
    omega
  · cases hz
end
end Cal
/-! Cal, part E: built-in calls and methods. -/
namespace Cal
open PySem L2 PySem.Spec PyProof.Rows
def biN : BI → Str
  | .len => "len" | .all => "all" | .any => "any" | .sum => "sum" | .sorted => "sorted" | .tuple => "tuple" | .list => "list" | .min2 => "min" | .max2 => "max" | .str => "str" | .int => "int" | .abs => "abs"
def biV : BI → Value
  | .len => .builtin "len" | .all => .builtin "all" | .any => .builtin "any" | .sum => .builtin "sum" | .sorted => .builtin "sorted" | .tuple => .type "tuple" | .list => .type "list" | .min2 => .builtin "min" | .max2 => .builtin "max"
  | .str => .type "str" | .int => .type "int" | .abs => .builtin "abs"
def tyN : TyI → String
  | .int => "int" | .bool => "bool" | .str => "str" | .tuple => "tuple" | .list => "list"
/-- arguments that are seen -/
def VdL (G : Gp) (W : Wd) (H : Hp) : List D → List V → Prop
  | [], vs => vs = []
  | d :: ds, vs => ∃ v r, vs = v :: r ∧ Vd G W H d v ∧ VdL G W H ds r
def VwL (G : Gp) (W : Wd) (H : Hp) : List D → List V → Prop
  | [], vs => vs = []
  | d :: ds, vs => ∃ v r, vs = v :: r ∧ Vw G W H d v ∧ VwL G W H ds r
section
variable {G : Gp} {X : Cx} {W W' : Wd} {H H' : Hp} {st : Sto}
theorem VwL.ext : ∀ {ds : List D} {vs : List V}, Ext W H W' H' → VwL G W H ds vs → VwL G W' H' ds vs
  | [], _, _, h => h
  | d :: ds, vs, x, ⟨v, r, e, h1, h2⟩ => ⟨v, r, e, h1.ext x, VwL.ext x h2⟩
theorem VwL.deref (g : GRel G W H st) : ∀ {ds : List D} {vs : List V}, VwL G W H ds vs → VdL G W H (ds.map (Cal.deref st)) vs
  | [], _, h => h
  | d :: ds, vs, ⟨v, r, e, h1, h2⟩ => ⟨v, r, e, h1.deref g, VwL.deref g h2⟩
theorem vdl1 {d : D} {vs : List V} (h : VdL G W H [d] vs) : ∃ v, vs = [v] ∧ Vd G W H d v := by
  obtain ⟨v, r, rfl, h1, h2⟩ := h
  exact ⟨v, by rw [show r = [] from h2], h1⟩
theorem vdl2 {d e : D} {vs : List V} (h : VdL G W H [d, e] vs) : ∃ v u, vs = [v, u] ∧ Vd G W H d v ∧ Vd G W H e u := by
  obtain ⟨v, r, rfl, h1, h2⟩ := h
  obtain ⟨u, rfl, h3⟩ := vdl1 h2
  exact ⟨v, u, rfl, h1, h3⟩
theorem intsOf_some : ∀ {ds : List D} {ns : List Int}, intsOf ds = some ns → ds = ns.map D.int
  | [], ns, h => by cases h; rfl
  | d :: ds, ns, h => by
    cases d with
    | int i =>
      replace h : (intsOf ds).map (i :: ·) = some ns := h
      cases e : intsOf ds with
      | none => rw [e] at h; cases h
      | some ms =>
        rw [e] at h
        cases h
        rw [intsOf_some e]
        rfl
    | _ => cases h
theorem blsOf_some : ∀ {ds : List D} {ns : List Bool}, blsOf ds = some ns → ds = ns.map D.bl
  | [], ns, h => by cases h; rfl
  | d :: ds, ns, h => by
    cases d with
    | bl i =>
      replace h : (blsOf ds).map (i :: ·) = some ns := h
      cases e : blsOf ds with
      | none => rw [e] at h; cases h
      | some ms =>
        rw [e] at h
        cases h
        rw [blsOf_some e]
        rfl
    | _ => cases h
/-! ### sorted -/
theorem eachIs_zip {R : V → Value → Prop} : ∀ {ds : List D} {vs : List V} {us : List Value}, RpL G W ds vs → Vals vs us → PySem.W.EachIs (fun (u : Value) (p : D × V) => RelV p.2 u ∧ Rp G W p.1 p.2) us (ds.zip vs)
  | [], vs, us, h, r => by
    rw [show vs = [] from h] at r
    cases r
    exact .nil
  | d :: ds, vs, us, ⟨v, t, e, h1, h2⟩, r => by
    subst e
    cases r with
    | cons r1 r2 => exact .cons ⟨r1, h1⟩ (eachIs_zip (R := R) h2 r2)
theorem eachIs_vals : ∀ {us : List Value} {ps : List (D × V)}, PySem.W.EachIs (fun (u : Value) (p : D × V) => RelV p.2 u ∧ Rp G W p.1 p.2) us ps → Vals (ps.map (·.2)) us ∧ RpL G W (ps.map (·.1)) (ps.map (·.2))
  | _, _, .nil => ⟨.nil, rfl⟩
  | _, _, .cons h t => ⟨.cons h.1 (eachIs_vals t).1, _, _, rfl, h.2, (eachIs_vals t).2⟩
theorem pyL_map : ∀ ds : List D, pyL ds = ds.map py
  | [] => rfl
  | d :: ds => by
    show py d :: pyL ds = py d :: ds.map py
    rw [pyL_map ds]
theorem flatL_mem {n : Nat} : ∀ {ds : List D}, flatL n ds = true → ∀ d ∈ ds, flatD n d = true
  | [], _, _, h => nomatch h
  | e :: ds, h, d, hd => by
    simp only [flatL, Bool.and_eq_true] at h
    rcases List.mem_cons.mp hd with rfl | hd
    · exact h.1
    · exact flatL_mem h.2 d hd
theorem zip_fst : ∀ {ds : List D} {vs : List V}, ds.length = vs.length → (ds.zip vs).map (·.1) = ds
  | [], [], _ => rfl
  | [], _ :: _, h => nomatch h
  | _ :: _, [], h => nomatch h
  | d :: ds, v :: vs, h => by
    show d :: (ds.zip vs).map (·.1) = d :: ds
    rw [zip_fst (Nat.succ.inj h)]
theorem each_reads {pins : List (Addr × Obj)} {s : Shared} {σ : L2.St} (hK : X.K = G.K) (I : Inv X pins σ H s) (g : GRel G W H st) : ∀ {ds : List D} {vs : List V} {us : List Value}, flatL 20 ds = true → RpL G W ds vs → Vals vs us →
    PySem.W.EachIs (fun (u : Value) (p : D × V) => ∃ as, Reads s.heap u (py p.1) as) us (ds.zip vs)
  | [], vs, us, _, h, r => by
    rw [show vs = [] from h] at r
    cases r
    exact .nil
  | d :: ds, vs, us, f, ⟨v, t, e, h1, h2⟩, r => by
    subst e
    simp only [flatL, Bool.and_eq_true] at f
    cases r with
    | cons r1 r2 => exact .cons (Dp.reads I _ v _ (by rw [hK]; exact dp_py g 20 d v f.1 h1) r1) (each_reads hK I g f.2 h2 r2)
theorem map_ms {α β : Type} {r : α → α → Bool} {s : β → β → Bool} (f : α → β) (l : List α) (h : ∀ a ∈ l, ∀ b ∈ l, r a b = s (f a) (f b)) : (l.mergeSort r).map f = (l.map f).mergeSort s := List.map_mergeSort h
theorem call_sorted (o : XO G X) {pins : List (Addr × Obj)} {s : Shared} {σ : L2.St} {a : Addr} {ds es : List D} {vs : List V} {Q : VK} (I : Inv X pins σ H s) (g : GRel G W H st) (hl : Rd H a (.lst vs)) (r : RpL G W ds vs) (hs : sortD ds = some es)
    (q : ∀ p xs, H p = none → RpL G W es xs → Q (.ref p) (upd H p (.lst xs))) : wpAny (model X.prog X.w) X.A (call (.builtin "sorted") [.ref a]) (EP X pins σ Q) X.xe s := by
  unfold sortD at hs
  split at hs
  · rename_i hk
    cases hs
    unfold okSort at hk
    simp only [Bool.and_eq_true, Bool.or_eq_true] at hk
    obtain ⟨⟨hf, hal⟩, hsrt⟩ := hk
    obtain ⟨its, rv, hp, hz⟩ := I.list (.inl hl)
    have len := r.len
    have e := eachIs_zip (R := RelV) r rv
    have er := each_reads o.K I g hf r rv
    have hkin : ∀ d ∈ ds, ∀ e ∈ ds, kin d e = true := fun d hd e he => List.all_eq_true.mp (List.all_eq_true.mp hal d hd) e he
    have hmem : ∀ p ∈ ds.zip vs, p.1 ∈ ds := fun p hp => (List.of_mem_zip hp).1
    refine PySem.W.sorted_data (enc := fun p : D × V => py p.1) hp.isList e er ?_ ?_ (by rw [List.length_zip]; omega) ?_ fun out hout eo => ?_
    · intro d hd d' hd'
      obtain ⟨p, hp, rfl⟩ := List.mem_map.mp hd
      obtain ⟨p', hp', rfl⟩ := List.mem_map.mp hd'
      exact kin_py _ _ (hkin _ (hmem _ hp) _ (hmem _ hp'))
    · rcases hsrt with h | h
      · refine .inl fun d hd => ?_
        obtain ⟨p, hp, rfl⟩ := List.mem_map.mp hd
        have := List.all_eq_true.mp h _ (hmem _ hp)
        unfold isTupC at this
        split at this
        · rename_i x r e
          exact ⟨py x, pyL r, by show py p.1 = _; rw [e]; rfl⟩
        · cases this
      · refine .inr fun d hd => ?_
        obtain ⟨p, hp, rfl⟩ := List.mem_map.mp hd
        have := List.all_eq_true.mp h _ (hmem _ hp)
        obtain ⟨d, v⟩ := p
        show py d ≠ .none ∧ ∀ xs, py d ≠ .tuple xs
        cases d <;> first | (cases this; done) | (refine ⟨?_, fun _ => ?_⟩ <;> simp [py])
    · intro p hp
      have h1 := (lay_py 20 p.1 (flatL_mem hf _ (hmem _ hp))).2
      have := o.un
      show X.A.units + 2 + (py p.1).depth < cLine
      omega
    · obtain ⟨h1, h2⟩ := eachIs_vals eo
      have e1 : ((ds.zip vs).mergeSort (PySem.W.dataLe false fun p : D × V => py p.1)).map (·.1) = ds.mergeSort leD := by
        rw [map_ms (s := leD) (fun p : D × V => p.1) _ ?_, zip_fst len]
        intro a ha b hb
        rw [PySem.W.dataLe_eq]
        show (!PySem.W.dataLt (py b.1) (py a.1)) = !ltD b.1 a.1
        rw [lt_py 20 20 _ _ (flatL_mem hf _ (hmem _ hb)) (flatL_mem hf _ (hmem _ ha)) (hkin _ (hmem _ hb) _ (hmem _ ha))]
      rw [e1] at h2
      obtain ⟨ep, he'⟩ := PyProof.Rows.sortedAll_at s.heap its out.toArray
      have hlen : (((ds.zip vs).mergeSort (PySem.W.dataLe false fun p : D × V => py p.1)).map (·.2)).length ≤ sizeLine := by
        rw [List.length_map, List.length_mergeSort, List.length_zip]
        omega
      exact ⟨.ref _, upd H (s.heap.objs.size + 1) (.lst _), I.laid (t' := s.toks) (fun _ _ => PyProof.Rows.sortedAll_old) (Nat.le_succ _) ⟨hlen, out, ep, h1, he'⟩, rfl, q _ _ (I.hok.fresh (Nat.le_succ _)) h2⟩
  · cases hs
/-! ### built-in calls -/
def rCall (G : Gp) (f : List D → Option D) : List V → Hp → VK → Prop := fun xs H Q => ∃ W st ds z, GRel G W H st ∧ VdL G W H ds xs ∧ f ds = some z ∧
  ∀ W' H' v, Ext W H W' H' → GRel G W' H' st → Nw G H W' H' z v → Q v H'
theorem out_int {Q : VK} {i : Int} (g : GRel G W H st) (q : ∀ W' H' v, Ext W H W' H' → GRel G W' H' st → Nw G H W' H' (.int i) v → Q v H') : Q (.int i) H := out_val g q rfl (fun _ h => nomatch h)
theorem out_bl {Q : VK} {i : Bool} (g : GRel G W H st) (q : ∀ W' H' v, Ext W H W' H' → GRel G W' H' st → Nw G H W' H' (.bl i) v → Q v H') : Q (.bl i) H := out_val g q rfl (fun _ h => nomatch h)
theorem str_len (i : Int) (h : i.natAbs.log2 < 1920) : (codes (toString i)).length ≤ SL := by
  have k : ∀ n : Nat, n.log2 < 1920 → (Nat.repr n).length ≤ 1920 := fun n hn => PySem.nat_repr_length_le (by decide) (by
    by_cases h0 : n = 0
    · subst h0; exact Nat.pow_pos (by decide)
    · exact (Nat.log2_lt h0).mp hn)
  unfold codes
  rw [List.length_map, String.length_toList]
  cases i with
  | ofNat m =>
    have := k m h
    exact Nat.le_trans (show (Nat.repr m).length ≤ 1920 from this) (by decide)
  | negSucc m =>
    have := k (m + 1) h
    have e : toString (Int.negSucc m) = "-" ++ Nat.repr (m + 1) := rfl
    rw [e, String.length_append]
    show 1 + (Nat.repr (m + 1)).length ≤ 16777216
    omega
theorem str_codes (x : String) : Str.ofString x = toS (codes x) := by
  show Str.mk _ = Str.mk _
  rw [cpsOfBytes_string]
  rfl
theorem call_bltD (b : BI) (o : XO G X) : CallR X (biV b) (rCall G (bltD b)) := by
  intro pins s σ H xs us Q I r ⟨W, st, ds, z, g, vd, hz, q⟩
  cases b with
  | len =>
    simp only [bltD] at hz
    split at hz
    · rename_i x
      obtain ⟨v, rfl, h⟩ := vdl1 vd
      cases x with
      | lst es =>
        cases hz
        obtain ⟨p, ys, rfl, h1, r1⟩ := h.lst g
        refine call_len pins s σ H _ us Q I r ⟨_, es.length, rfl, .inl ⟨ys, .inl h1, r1.len⟩, out_int g q⟩
      | tup es =>
        cases hz
        obtain ⟨p, ys, rfl, h1, r1⟩ := h.tup g
        refine call_len pins s σ H _ us Q I r ⟨_, es.length, rfl, .inr ⟨ys, by rw [o.K]; exact h1, r1.len⟩, out_int g q⟩
      | str t =>
        cases hz
        obtain ⟨rfl, hl⟩ := vd_str h
        exact call_len pins s σ H _ us Q I r ⟨_, t.length, rfl, ⟨by rw [toS_len]; exact hl, (toS_len t).symm⟩, out_int g q⟩
      | _ => cases hz
    · cases hz
  | all =>
    simp only [bltD] at hz
    split at hz
    · rename_i es
      obtain ⟨v, rfl, h⟩ := vdl1 vd
      cases e : blsOf es with
      | none => rw [e] at hz; cases hz
      | some bs =>
        rw [e] at hz
        cases hz
        obtain ⟨p, ys, rfl, h1, r1⟩ := h.lst g
        rw [blsOf_some e, rpL_bls] at r1
        subst r1
        exact cr_all o.calm pins s σ H _ us Q I r ⟨p, bs, rfl, .inl h1, out_bl g q⟩
    · cases hz
  | any =>
    simp only [bltD] at hz
    split at hz
    · rename_i es
      obtain ⟨v, rfl, h⟩ := vdl1 vd
      cases e : blsOf es with
      | none => rw [e] at hz; cases hz
      | some bs =>
        rw [e] at hz
        cases hz
        obtain ⟨p, ys, rfl, h1, r1⟩ := h.lst g
        rw [blsOf_some e, rpL_bls] at r1
        subst r1
        exact cr_any o.calm pins s σ H _ us Q I r ⟨p, bs, rfl, .inl h1, out_bl g q⟩
    · cases hz
  | sum =>
    simp only [bltD] at hz
    split at hz
    · rename_i es
      obtain ⟨v, rfl, h⟩ := vdl1 vd
      cases e : intsOf es with
      | none => rw [e] at hz; cases hz
      | some bs =>
        rw [e] at hz
        cases hz
        obtain ⟨p, ys, rfl, h1, r1⟩ := h.lst g
        rw [intsOf_some e, rpL_ints] at r1
        subst r1
        exact cr_sum o.calm pins s σ H _ us Q I r ⟨p, bs, rfl, .inl h1, out_int g q⟩
    · cases hz
  | sorted =>
    simp only [bltD] at hz
    split at hz
    · rename_i es
      obtain ⟨v, rfl, h⟩ := vdl1 vd
      cases e : sortD es with
      | none => rw [e] at hz; cases hz
      | some bs =>
        rw [e] at hz
        cases hz
        obtain ⟨p, ys, rfl, h1, r1⟩ := h.lst g
        rw [Vals.ref1 r]
        refine call_sorted o I g h1 r1 e fun t xs ht rx => ?_
        obtain ⟨x', g', n'⟩ := g.newList ht rx
        exact q _ _ _ x' g' n'
    · cases hz
  | tuple =>
    simp only [bltD] at hz
    split at hz
    · rename_i es
      cases hz
      obtain ⟨v, rfl, h⟩ := vdl1 vd
      obtain ⟨p, ys, rfl, h1, r1⟩ := h.lst g
      rw [Vals.ref1 r]
      refine rl_tuple pins s σ H (.ref p) _ Q I rfl (.inl ⟨p, ys, rfl, .inl h1, fun t ht => ?_⟩)
      obtain ⟨W', x', g', r'⟩ := g.newTup ht r1
      exact q W' _ _ x' g' r'
    · rename_i es
      cases hz
      obtain ⟨v, rfl, h⟩ := vdl1 vd
      obtain ⟨p, ys, rfl, h1, r1⟩ := h.tup g
      rw [Vals.ref1 r]
      exact rl_tuple pins s σ H (.ref p) _ Q I rfl (.inr ⟨p, ys, rfl, by rw [o.K]; exact h1, out_val g q (h.rp (fun _ h => nomatch h)) (fun _ h => nomatch h)⟩)
    · cases hz
  | list =>
    simp only [bltD] at hz
    split at hz
    · rename_i es
      cases hz
      obtain ⟨v, rfl, h⟩ := vdl1 vd
      obtain ⟨p, ys, rfl, h1, r1⟩ := h.lst g
      refine call_list_of pins s σ H _ us Q I r ⟨p, ys, rfl, .inl (.inl h1), fun t ht => ?_⟩
      obtain ⟨x', g', n'⟩ := g.newList ht r1
      exact q _ _ _ x' g' n'
    · rename_i es
      cases hz
      obtain ⟨v, rfl, h⟩ := vdl1 vd
      obtain ⟨p, ys, rfl, h1, r1⟩ := h.tup g
      refine call_list_of pins s σ H _ us Q I r ⟨p, ys, rfl, .inr (by rw [o.K]; exact h1), fun t ht => ?_⟩
      obtain ⟨x', g', n'⟩ := g.newList ht r1
      exact q _ _ _ x' g' n'
    · cases hz
  | min2 =>
    simp only [bltD] at hz
    split at hz
    · rename_i i j
      cases hz
      obtain ⟨v, u, rfl, h1, h2⟩ := vdl2 vd
      rw [vd_int h1, vd_int h2] at r
      exact call_min2 o.calm pins s σ H _ us Q I r ⟨i, j, rfl, out_int g q⟩
    · cases hz
  | max2 =>
    simp only [bltD] at hz
    split at hz
    · rename_i i j
      cases hz
      obtain ⟨v, u, rfl, h1, h2⟩ := vdl2 vd
      rw [vd_int h1, vd_int h2] at r
      exact call_max2 o.calm pins s σ H _ us Q I r ⟨i, j, rfl, out_int g q⟩
    · cases hz
  | str =>
    simp only [bltD] at hz
    split at hz
    · rename_i i
      split at hz
      · rename_i hl
        cases hz
        obtain ⟨v, rfl, h⟩ := vdl1 vd
        rw [vd_int h] at r
        refine call_str_int pins s σ H _ us Q I r ⟨i, rfl, hl, ?_⟩
        show Q (.str (Str.ofString (toString i))) H
        rw [str_codes]
        exact out_val g q ⟨rfl, str_len i hl⟩ (fun _ h => nomatch h)
      · cases hz
    · cases hz
  | int =>
    simp only [bltD] at hz
    split at hz
    · rename_i i
      cases hz
      obtain ⟨v, rfl, h⟩ := vdl1 vd
      rw [vd_int h] at r
      exact call_int1 pins s σ H _ us Q I r (.inl ⟨i, rfl, out_int g q⟩)
    · rename_i k
      cases hz
      obtain ⟨v, rfl, h⟩ := vdl1 vd
      rw [vd_bl h] at r
      exact call_int1 pins s σ H _ us Q I r (.inr ⟨k, rfl, out_int g q⟩)
    · cases hz
  | abs =>
    simp only [bltD] at hz
    split at hz
    · rename_i i
      cases hz
      obtain ⟨v, rfl, h⟩ := vdl1 vd
      rw [vd_int h] at r
      exact call_abs pins s σ H _ us Q I r ⟨i, rfl, out_int g q⟩
    · cases hz
end
end Cal
/-! Cal, part F: what the interpreter says of an expression is a reading of it. -/
namespace Cal
open PySem L2 PySem.Spec PyProof.Rows
section
variable (G : Gp) (C : CallF)
/-- a value that may be handed on -/
def tE (e : IE) : TE := fun σ H Q => ∃ W env st d st', GRel G W H st ∧ ERel G W H env σ ∧ ev C e env st = .ok d st' ∧ ∀ W' H' v, Ext W H W' H' → GRel G W' H' st' → Rp G W' d v → Q v H'
/-- a value that is looked at -/
def tV (e : IE) : TE := fun σ H Q => ∃ W env st d st', GRel G W H st ∧ ERel G W H env σ ∧ ev C e env st = .ok d st' ∧ ∀ W' H' v, Ext W H W' H' → GRel G W' H' st' → Vw G W' H' d v → Q v H'
/-- a value that may be new -/
def tN (e : IE) : TE := fun σ H Q => ∃ W env st d st', GRel G W H st ∧ ERel G W H env σ ∧ ev C e env st = .ok d st' ∧ ∀ W' H' v, Ext W H W' H' → GRel G W' H' st' → Nw G H W' H' d v → Q v H'
/-- a test -/
def tT (e : IE) : TT := fun σ H Q => ∃ W env st d st' b, GRel G W H st ∧ ERel G W H env σ ∧ ev C e env st = .ok d st' ∧ truth (deref st' d) = some b ∧ ∀ W' H', Ext W H W' H' → GRel G W' H' st' → Q b H'
/-- arguments -/
def tEs (es : IEs) : TA := fun σ H Q => ∃ W env st ds st', GRel G W H st ∧ ERel G W H env σ ∧ evs C es env st = .ok ds st' ∧ ∀ W' H' vs, Ext W H W' H' → GRel G W' H' st' → RpL G W' ds vs → Q vs H'
def tVs (es : IEs) : TA := fun σ H Q => ∃ W env st ds st', GRel G W H st ∧ ERel G W H env σ ∧ evs C es env st = .ok ds st' ∧ ∀ W' H' vs, Ext W H W' H' → GRel G W' H' st' → VwL G W' H' ds vs → Q vs H'
def tO (e : IO) : TO := fun σ H Q => ∃ W env st o st', GRel G W H st ∧ ERel G W H env σ ∧ evo C e env st = .ok o st' ∧ ∀ W' H', Ext W H W' H' → GRel G W' H' st' → Q o H'
end
theorem _root_.L2.PE.imp {X : Cx} {e : Expr} {t t' : TE} (h : PE X e t) (i : ∀ σ H Q, t' σ H Q → t σ H Q) : PE X e t' := ⟨fun pins s σ H Q I q => h.run pins s σ H Q I (i σ H Q q)⟩
theorem _root_.L2.PT.imp {X : Cx} {e : Expr} {t t' : TT} (h : PT X e t) (i : ∀ σ H Q, t' σ H Q → t σ H Q) : PT X e t' := ⟨fun pins s σ H Q I q => h.run pins s σ H Q I (i σ H Q q)⟩
theorem _root_.L2.PW.imp {X : Cx} {e : Expr} {t t' : TT} (h : PW X e t) (i : ∀ σ H Q, t' σ H Q → t σ H Q) : PW X e t' := ⟨fun w pins s σ H Q I q => h.run w pins s σ H Q I (i σ H Q q)⟩
theorem _root_.L2.PA.imp {X : Cx} {e : List Expr} {t t' : TA} (h : PA X e t) (i : ∀ σ H Q, t' σ H Q → t σ H Q) : PA X e t' := ⟨fun p pins s σ H Q I q => h.run p pins s σ H Q I (i σ H Q q)⟩
theorem _root_.L2.PO.imp {X : Cx} {e : Option Expr} {t t' : TO} (h : PO X e t) (i : ∀ σ H Q, t' σ H Q → t σ H Q) : PO X e t' := ⟨fun pins s σ H Q I q => h.run pins s σ H Q I (i σ H Q q)⟩
section
variable {G : Gp} {C : CallF} {X : Cx} {a b c e : Expr} {ia ib ic : IE} {pos : Pos}
theorem Res.bind_ok {α β : Type} {r : Res α} {f : α → Sto → Res β} {x : β} {s : Sto} (h : r.bind f = .ok x s) : ∃ y t, r = .ok y t ∧ f y t = .ok x s := by
  cases r with
  | ok y t => exact ⟨y, t, rfl, h⟩
  | bad => cases h
theorem lift_ok {α β : Type} {o : Option α} {st : Sto} {f : α → Res β} {x : β} {s : Sto} (h : lift o st f = .ok x s) : ∃ y, o = some y ∧ f y = .ok x s := by
  cases o with
  | some y => exact ⟨y, rfl, h⟩
  | none => cases h
theorem Res.ok_inj {α : Type} {x y : α} {s t : Sto} (h : Res.ok x s = Res.ok y t) : x = y ∧ s = t := by cases h; exact ⟨rfl, rfl⟩
theorem Nw.back {W W' W'' : Wd} {H H' H'' : Hp} {d : D} {v : V} (x : Ext W H W' H') (n : Nw G H' W'' H'' d v) : Nw G H W'' H'' d v := by
  cases d with
  | lst ds =>
    obtain ⟨a, e, h1, h2, h3, h4⟩ := n
    exact ⟨a, e, h1, h2, h3, x.none_of h4⟩
  | _ => exact n
/-- frozen -/
theorem tN_E (h : PE X e (tN G C ia)) : PE X e (tE G C ia) := h.imp fun σ H Q ⟨W, env, st, d, st', g, r, hv, q⟩ => ⟨W, env, st, d, st', g, r, hv, fun W' H' v x g' n => by
  obtain ⟨W'', x', g'', r'⟩ := n.freeze g' x
  exact q W'' H' v x' g'' r'⟩
theorem tE_V (h : PE X e (tE G C ia)) : PE X e (tV G C ia) := h.imp fun σ H Q ⟨W, env, st, d, st', g, r, hv, q⟩ => ⟨W, env, st, d, st', g, r, hv, fun W' H' v x g' n => q W' H' v x g' n.vw⟩
/-! ### names, constants -/
theorem e_v {i : Nat} {x : Str} (hN : X.N[i]? = some x) (hv : Vis X.env.scope x) (hd : (x == ("__debug__" : Str)) = false) (hc : (x == ("__classdict__" : Str)) = false) : PE X (.Name x pos) (tE G C (.v i)) :=
  (pe_var hN hv hd hc).imp fun σ H Q ⟨W, env, st, d, st', g, r, hv, q⟩ => by
    simp only [ev] at hv
    split at hv
    · rename_i d' he
      obtain ⟨rfl, rfl⟩ := Res.ok_inj hv
      obtain ⟨v, e, rv⟩ := r.sl i _ he
      exact ⟨v, e, q W H v Ext.refl g rv⟩
    · cases hv
theorem e_w {i : Nat} {x : Str} (hN : X.N[i]? = some x) (hv : Vis X.env.scope x) (hd : (x == ("__debug__" : Str)) = false) (hc : (x == ("__classdict__" : Str)) = false) : PE X (.Name x pos) (tV G C (.w i)) :=
  (pe_var hN hv hd hc).imp fun σ H Q ⟨W, env, st, d, st', g, r, hv, q⟩ => by
    simp only [ev] at hv
    split at hv
    · rename_i d' he
      obtain ⟨rfl, rfl⟩ := Res.ok_inj hv
      obtain ⟨v, e, rv⟩ := r.sl i _ he
      exact ⟨v, e, q W H v Ext.refl g rv.vw⟩
    · rename_i d' he
      obtain ⟨rfl, rfl⟩ := Res.ok_inj hv
      obtain ⟨a, e, h1, h2, h3⟩ := r.sl i _ he
      exact ⟨.ref a, e, q W H _ Ext.refl g (.inr ⟨a, rfl, h1, h2, h3⟩)⟩
    · cases hv
theorem e_k {d : D} {v : V} (h : PE X e (tC v)) (r : ∀ W, Rp G W d v) : PE X e (tE G C (.k d)) := h.imp fun σ H Q ⟨W, env, st, d', st', g, _, hv, q⟩ => by
  simp only [ev] at hv
  obtain ⟨rfl, rfl⟩ := Res.ok_inj hv
  exact q W H v Ext.refl g (r W)
/-! ### operators -/
theorem two {f : D → D → Option D} {mk : D → D} {r : R2} (hev : ∀ env st, ev C ic env st = (ev C ia env st).bind fun x st1 => (ev C ib env st1).bind fun y st2 => lift (f (deref st2 x) (deref st2 y)) st2 fun z => .ok z st2)
    {σ : L2.St} {H : Hp} {Q : VK} (hr : ∀ (x y : V) (H : Hp) (Q : VK), rOp G f x y H Q → r x y H Q) (h : tN G C ic σ H Q) : tOp r (tV G C ia) (tV G C ib) σ H Q := by
  obtain ⟨W, env, st, d, st', g, er, hv, q⟩ := h
  rw [hev] at hv
  obtain ⟨x, st1, h1, hv⟩ := Res.bind_ok hv
  obtain ⟨y, st2, h2, hv⟩ := Res.bind_ok hv
  obtain ⟨z, h3, hv⟩ := lift_ok hv
  obtain ⟨rfl, rfl⟩ := Res.ok_inj hv
  refine ⟨W, env, st, x, st1, g, er, h1, fun W1 H1 v x1 g1 v1 => ⟨W1, env, st1, y, st2, g1, er.ext x1, h2, fun W2 H2 u x2 g2 v2 => ?_⟩⟩
  refine hr _ _ _ _ ⟨W2, st2, _, _, z, g2, (v1.ext x2).deref g2, v2.deref g2, h3, fun W3 H3 w x3 g3 n => q W3 H3 w ((x1.trans x2).trans x3) g3 (n.back (x1.trans x2))⟩
theorem e_bin {op : BO} (o : XO G X) (ha : PE X a (tV G C ia)) (hb : PE X b (tV G C ib)) : PE X (.BinOp a (bop op) b pos) (tN G C (.bin op ia ib)) :=
  (pe_op (op_binD op o.K) ha hb).imp fun σ H Q h => two (mk := id) (fun env st => by simp only [ev]) (fun _ _ _ _ h => h) h
theorem nw_bl {H H' : Hp} {W' : Wd} {b : Bool} {v : V} (h : Rp G W' (.bl b) v) : Nw G H W' H' (.bl b) v := h
theorem lift_map {α β : Type} {o : Option α} {st : Sto} {f : α → D} {g : D → Res β} : lift o st (fun z => g (f z)) = lift (o.map f) st g := by cases o <;> rfl
theorem e_cmp {op : CO} (o : XO G X) (ha : PE X a (tV G C ia)) (hb : PE X b (tV G C ib)) (hm : behindInMarks (cop op) b = false) : PE X (.Compare a [cop op] [b] pos) (tN G C (.cmp op ia ib)) :=
  (pe_cmpR (op_cmpD op o) ha hb hm).imp fun σ H Q h => two (mk := id) (f := fun d e => (cmpD op d e).map D.bl) (fun env st => by
    simp only [ev]
    refine congrArg _ (funext fun x => funext fun st1 => congrArg _ (funext fun y => funext fun st2 => ?_))
    exact lift_map (f := D.bl) (g := fun z => Res.ok z st2)) (fun _ _ _ _ h => h) h

/-! ### one operand -/
theorem e_neg (ha : PE X a (tV G C ia)) : PE X (.UnaryOp .USub a pos) (tN G C (.neg ia)) :=
  (pe_un un_neg ha).imp fun σ H Q ⟨W, env, st, d, st', g, er, hv, q⟩ => by
    simp only [ev] at hv
    obtain ⟨x, st1, h1, hv⟩ := Res.bind_ok hv
    split at hv
    · rename_i i
      obtain ⟨rfl, rfl⟩ := Res.ok_inj hv
      exact ⟨W, env, st, _, st1, g, er, h1, fun W1 H1 v x1 g1 v1 => ⟨i, vd_int (v1.deref g1), q W1 H1 _ x1 g1 rfl⟩⟩
    · cases hv
theorem e_not (o : XO G X) (ha : PE X a (tV G C ia)) : PE X (.UnaryOp .Not a pos) (tN G C (.notv ia)) :=
  (pe_notT ha).imp fun σ H Q ⟨W, env, st, d, st', g, er, hv, q⟩ => by
    simp only [ev] at hv
    obtain ⟨x, st1, h1, hv⟩ := Res.bind_ok hv
    obtain ⟨t, h2, hv⟩ := lift_ok hv
    obtain ⟨rfl, rfl⟩ := Res.ok_inj hv
    exact ⟨W, env, st, _, st1, g, er, h1, fun W1 H1 v x1 g1 v1 => ⟨t, tru_of o g1 (v1.deref g1) h2, q W1 H1 _ x1 g1 rfl⟩⟩
/-! ### and, or, if as values -/
variable {rest : List Expr}
theorem e_and (o : XO G X) (ha : PE X a (tE G C ia)) (hb : PE X (.BoolOp .And (b :: rest) pos) (tE G C ib)) : PE X (.BoolOp .And (a :: b :: rest) pos) (tE G C (.andv ia ib)) :=
  (pe_andT ha hb).imp fun σ H Q ⟨W, env, st, d, st', g, er, hv, q⟩ => by
    simp only [ev] at hv
    obtain ⟨x, st1, h1, hv⟩ := Res.bind_ok hv
    obtain ⟨t, h2, hv⟩ := lift_ok hv
    refine ⟨W, env, st, _, st1, g, er, h1, fun W1 H1 v x1 g1 v1 => ⟨t, tru_of o g1 (v1.vw.deref g1) h2, ?_⟩⟩
    split at hv
    · rename_i ht
      rw [if_pos ht]
      exact ⟨W1, env, st1, d, st', g1, er.ext x1, hv, fun W2 H2 u x2 g2 v2 => q W2 H2 u (x1.trans x2) g2 v2⟩
    · rename_i ht
      rw [if_neg ht]
      obtain ⟨rfl, rfl⟩ := Res.ok_inj hv
      exact q W1 H1 v x1 g1 v1
theorem e_or (o : XO G X) (ha : PE X a (tE G C ia)) (hb : PE X (.BoolOp .Or (b :: rest) pos) (tE G C ib)) : PE X (.BoolOp .Or (a :: b :: rest) pos) (tE G C (.orv ia ib)) :=
  (pe_orT ha hb).imp fun σ H Q ⟨W, env, st, d, st', g, er, hv, q⟩ => by
    simp only [ev] at hv
    obtain ⟨x, st1, h1, hv⟩ := Res.bind_ok hv
    obtain ⟨t, h2, hv⟩ := lift_ok hv
    refine ⟨W, env, st, _, st1, g, er, h1, fun W1 H1 v x1 g1 v1 => ⟨t, tru_of o g1 (v1.vw.deref g1) h2, ?_⟩⟩
    split at hv
    · rename_i ht
      rw [if_pos ht]
      obtain ⟨rfl, rfl⟩ := Res.ok_inj hv
      exact q W1 H1 v x1 g1 v1
    · rename_i ht
      rw [if_neg ht]
      exact ⟨W1, env, st1, d, st', g1, er.ext x1, hv, fun W2 H2 u x2 g2 v2 => q W2 H2 u (x1.trans x2) g2 v2⟩
theorem e_ifx (hc : PT X c (tT G C ic)) (ha : PE X a (tE G C ia)) (hb : PE X b (tE G C ib)) : PE X (.IfExp c a b pos) (tE G C (.ifx ic ia ib)) :=
  (pe_ifExp hc ha hb).imp fun σ H Q ⟨W, env, st, d, st', g, er, hv, q⟩ => by
    simp only [ev] at hv
    obtain ⟨x, st1, h1, hv⟩ := Res.bind_ok hv
    obtain ⟨t, h2, hv⟩ := lift_ok hv
    refine ⟨W, env, st, _, st1, t, g, er, h1, h2, fun W1 H1 x1 g1 => ?_⟩
    split at hv
    · rename_i ht
      rw [if_pos ht]
      exact ⟨W1, env, st1, d, st', g1, er.ext x1, hv, fun W2 H2 u x2 g2 v2 => q W2 H2 u (x1.trans x2) g2 v2⟩
    · rename_i ht
      rw [if_neg ht]
      exact ⟨W1, env, st1, d, st', g1, er.ext x1, hv, fun W2 H2 u x2 g2 v2 => q W2 H2 u (x1.trans x2) g2 v2⟩
/-! ### a op b op c -/
theorem chain_of {op op' : CO} {σ : L2.St} {H : Hp} {Q : VK} (h : tN G C (.chain op op' ia ib ic) σ H Q) :
    tChain (rOp G fun d e => (cmpD op d e).map D.bl) (rOp G fun d e => (cmpD op' d e).map D.bl) (tV G C ia) (tV G C ib) (tV G C ic) σ H Q := by
  obtain ⟨W, env, st, d, st', g, er, hv, q⟩ := h
  simp only [ev] at hv
  obtain ⟨x, st1, h1, hv⟩ := Res.bind_ok hv
  obtain ⟨y, st2, h2, hv⟩ := Res.bind_ok hv
  obtain ⟨z, h3, hv⟩ := lift_ok hv
  refine ⟨W, env, st, x, st1, g, er, h1, fun W1 H1 v x1 g1 v1 => ⟨W1, env, st1, y, st2, g1, er.ext x1, h2, fun W2 H2 u x2 g2 v2 => ⟨W2, st2, _, _, .bl z, g2, (v1.ext x2).deref g2, v2.deref g2, congrArg (Option.map D.bl) h3, fun W3 H3 w x3 g3 n => ⟨z, n, ?_⟩⟩⟩⟩
  split at hv
  · rename_i hz
    rw [if_pos hz]
    obtain ⟨s, st3, h4, hv⟩ := Res.bind_ok hv
    obtain ⟨z', h5, hv⟩ := lift_ok hv
    obtain ⟨rfl, rfl⟩ := Res.ok_inj hv
    exact ⟨W3, env, st2, s, st3, g3, ((er.ext x1).ext x2).ext x3, h4, fun W4 H4 t x4 g4 v4 => ⟨W4, st3, _, _, .bl z', g4, ((v2.ext x3).ext x4).deref g4, v4.deref g4, congrArg (Option.map D.bl) h5, fun W5 H5 w5 x5 g5 n5 => q W5 H5 w5 ((((x1.trans x2).trans x3).trans x4).trans x5) g5 n5⟩⟩
  · rename_i hz
    rw [if_neg hz]
    obtain ⟨rfl, rfl⟩ := Res.ok_inj hv
    exact q W3 H3 _ ((x1.trans x2).trans x3) g3 rfl
theorem e_chain {op op' : CO} (o : XO G X) (ha : PE X a (tV G C ia)) (hb : PE X b (tV G C ib)) (hc : PE X c (tV G C ic)) (hm : lastMarks [cop op, cop op'] [b, c] = false) : PE X (.Compare a [cop op, cop op'] [b, c] pos) (tN G C (.chain op op' ia ib ic)) :=
  (pe_chain (op_cmpD op o) (op_cmpD op' o) ha hb hc hm).imp fun σ H Q h => chain_of h
/-! ### subscripts, slices -/
theorem e_idx (o : XO G X) (ha : PE X a (tV G C ia)) (hb : PE X b (tV G C ib)) (hs : PlainIx b) : PE X (.Subscript a b pos) (tE G C (.idx ia ib)) :=
  (pe_ix (ix_D o) ha hb hs).imp fun σ H Q ⟨W, env, st, d, st', g, er, hv, q⟩ => by
    simp only [ev] at hv
    obtain ⟨x, st1, h1, hv⟩ := Res.bind_ok hv
    obtain ⟨y, st2, h2, hv⟩ := Res.bind_ok hv
    obtain ⟨z, h3, hv⟩ := lift_ok hv
    obtain ⟨rfl, rfl⟩ := Res.ok_inj hv
    refine ⟨W, env, st, x, st1, g, er, h1, fun W1 H1 v x1 g1 v1 => ⟨W1, env, st1, y, st2, g1, er.ext x1, h2, fun W2 H2 u x2 g2 v2 => ⟨W2, st2, _, y, z, g2, (v1.ext x2).deref g2, ?_, h3, fun W3 H3 w x3 g3 n => q W3 H3 w ((x1.trans x2).trans x3) g3 n⟩⟩⟩
    unfold idxD at h3
    split at h3
    · rcases v2 with h | ⟨_, _, h, _⟩
      · exact .inl h
      · exact h.elim
    · cases h3
variable {lo hi : Option Expr} {il ih : IO} {p2 : Pos}
theorem o_no : PO X none (tO G C .no) := po_none.imp fun σ H Q ⟨W, env, st, o, st', g, er, hv, q⟩ => by
  simp only [evo] at hv
  obtain ⟨rfl, rfl⟩ := Res.ok_inj hv
  exact q W H Ext.refl g
theorem o_so (ha : PE X a (tV G C ia)) : PO X (some a) (tO G C (.so ia)) := (po_some ha).imp fun σ H Q ⟨W, env, st, o, st', g, er, hv, q⟩ => by
  simp only [evo] at hv
  obtain ⟨x, st1, h1, hv⟩ := Res.bind_ok hv
  split at hv
  · rename_i i
    obtain ⟨rfl, rfl⟩ := Res.ok_inj hv
    exact ⟨W, env, st, _, st1, g, er, h1, fun W1 H1 v x1 g1 v1 => ⟨i, vd_int (v1.deref g1), q W1 H1 x1 g1⟩⟩
  · cases hv
theorem e_slc (o : XO G X) (ha : PE X a (tV G C ia)) (hl : PO X lo (tO G C il)) (hh : PO X hi (tO G C ih)) : PE X (.Subscript a (.Slice lo hi none p2) pos) (tN G C (.slc ia il ih)) :=
  (pe_slice (sl_D o) ha hl hh).imp fun σ H Q ⟨W, env, st, d, st', g, er, hv, q⟩ => by
    simp only [ev] at hv
    obtain ⟨x, st1, h1, hv⟩ := Res.bind_ok hv
    obtain ⟨l, st2, h2, hv⟩ := Res.bind_ok hv
    obtain ⟨h, st3, h3, hv⟩ := Res.bind_ok hv
    obtain ⟨z, h4, hv⟩ := lift_ok hv
    obtain ⟨rfl, rfl⟩ := Res.ok_inj hv
    exact ⟨W, env, st, x, st1, g, er, h1, fun W1 H1 v x1 g1 v1 => ⟨W1, env, st1, l, st2, g1, er.ext x1, h2, fun W2 H2 x2 g2 => ⟨W2, env, st2, h, st3, g2, (er.ext x1).ext x2, h3, fun W3 H3 x3 g3 =>
      ⟨W3, st3, _, z, g3, ((v1.ext x2).ext x3).deref g3, h4, fun W4 H4 w x4 g4 n => q W4 H4 w (((x1.trans x2).trans x3).trans x4) g4 (n.back ((x1.trans x2).trans x3))⟩⟩⟩⟩
/-! ### arguments, displays, calls -/
variable {es : List Expr} {ies : IEs}
theorem a_nil : PA X [] (tEs G C .nil) := pa_nil.imp fun σ H Q ⟨W, env, st, ds, st', g, er, hv, q⟩ => by
  simp only [evs] at hv
  obtain ⟨rfl, rfl⟩ := Res.ok_inj hv
  exact q W H [] Ext.refl g rfl
theorem av_nil : PA X [] (tVs G C .nil) := pa_nil.imp fun σ H Q ⟨W, env, st, ds, st', g, er, hv, q⟩ => by
  simp only [evs] at hv
  obtain ⟨rfl, rfl⟩ := Res.ok_inj hv
  exact q W H [] Ext.refl g rfl
theorem a_cons (ha : PE X a (tE G C ia)) (hr : PA X es (tEs G C ies)) (hs : starEach (a :: es) X.env = (false, eval a X.env) :: starEach es X.env) : PA X (a :: es) (tEs G C (.cons ia ies)) :=
  (pa_cons ha hr hs).imp fun σ H Q ⟨W, env, st, ds, st', g, er, hv, q⟩ => by
    simp only [evs] at hv
    obtain ⟨x, st1, h1, hv⟩ := Res.bind_ok hv
    obtain ⟨xs, st2, h2, hv⟩ := Res.bind_ok hv
    obtain ⟨rfl, rfl⟩ := Res.ok_inj hv
    exact ⟨W, env, st, x, st1, g, er, h1, fun W1 H1 v x1 g1 v1 => ⟨W1, env, st1, xs, st2, g1, er.ext x1, h2, fun W2 H2 vs x2 g2 v2 => q W2 H2 _ (x1.trans x2) g2 ⟨v, vs, rfl, v1.ext x2, v2⟩⟩⟩
theorem av_cons (ha : PE X a (tV G C ia)) (hr : PA X es (tVs G C ies)) (hs : starEach (a :: es) X.env = (false, eval a X.env) :: starEach es X.env) : PA X (a :: es) (tVs G C (.cons ia ies)) :=
  (pa_cons ha hr hs).imp fun σ H Q ⟨W, env, st, ds, st', g, er, hv, q⟩ => by
    simp only [evs] at hv
    obtain ⟨x, st1, h1, hv⟩ := Res.bind_ok hv
    obtain ⟨xs, st2, h2, hv⟩ := Res.bind_ok hv
    obtain ⟨rfl, rfl⟩ := Res.ok_inj hv
    exact ⟨W, env, st, x, st1, g, er, h1, fun W1 H1 v x1 g1 v1 => ⟨W1, env, st1, xs, st2, g1, er.ext x1, h2, fun W2 H2 vs x2 g2 v2 => q W2 H2 _ (x1.trans x2) g2 ⟨v, vs, rfl, v1.ext x2, v2⟩⟩⟩
theorem e_tup {k : Nat} (h : PA X es (tEs G C ies)) : PE X (.Tuple es k pos) (tE G C (.tup ies)) := (pe_tup h).imp fun σ H Q ⟨W, env, st, d, st', g, er, hv, q⟩ => by
  simp only [ev] at hv
  obtain ⟨xs, st1, h1, hv⟩ := Res.bind_ok hv
  split at hv
  · rename_i hl
    obtain ⟨rfl, rfl⟩ := Res.ok_inj hv
    refine ⟨W, env, st, xs, st1, g, er, h1, fun W1 H1 vs x1 g1 v1 => ⟨by rw [← v1.len]; exact hl, fun p hp => ?_⟩⟩
    obtain ⟨W2, x2, g2, r2⟩ := g1.newTup hp v1
    exact q W2 _ _ (x1.trans x2) g2 r2
  · cases hv
theorem e_lst (h : PA X es (tEs G C ies)) : PE X (.List es pos) (tN G C (.lst ies)) := (pe_lst h).imp fun σ H Q ⟨W, env, st, d, st', g, er, hv, q⟩ => by
  simp only [ev] at hv
  obtain ⟨xs, st1, h1, hv⟩ := Res.bind_ok hv
  split at hv
  · rename_i hl
    obtain ⟨rfl, rfl⟩ := Res.ok_inj hv
    refine ⟨W, env, st, xs, st1, g, er, h1, fun W1 H1 vs x1 g1 v1 => ⟨by rw [← v1.len]; exact hl, fun p hp => ?_⟩⟩
    obtain ⟨x2, g2, n2⟩ := g1.newList hp v1
    exact q W1 _ _ (x1.trans x2) g2 (Nw.back x1 n2)
  · cases hv
variable {x : Str} {p : Pos}
theorem e_blt {bi : BI} (o : XO G X) (hg : Gl X (biN bi)) (hm : X.mg (biN bi) = none) (ha : PA X (a :: es) (tVs G C ies)) (he : starEach (a :: es) X.env = (false, eval a X.env) :: starEach es X.env) (hpl : (backTo pos (starEach es X.env)).any (·.1) = false) :
    PE X (.Call (.Name (biN bi) p) (a :: es) [] pos) (tN G C (.blt bi ies)) := by
  have key : ∀ σ H Q, tN G C (.blt bi ies) σ H Q → tCB (rCall G (bltD bi)) (tVs G C ies) σ H Q := fun σ H Q ⟨W, env, st, d, st', g, er, hv, q⟩ => by
    simp only [ev] at hv
    obtain ⟨xs, st1, h1, hv⟩ := Res.bind_ok hv
    obtain ⟨z, h2, hv⟩ := lift_ok hv
    obtain ⟨rfl, rfl⟩ := Res.ok_inj hv
    exact ⟨W, env, st, xs, st1, g, er, h1, fun W1 H1 vs x1 g1 v1 => ⟨W1, st1, _, z, g1, v1.deref g1, h2, fun W2 H2 w x2 g2 n => q W2 H2 w (x1.trans x2) g2 (n.back x1)⟩⟩
  cases bi with
  | len => exact (pe_callB (call_bltD .len o) hg hm (by decide +kernel) ha (by decide +kernel) (by decide +kernel) he hpl).imp key
  | all => exact (pe_callB (call_bltD .all o) hg hm (by decide +kernel) ha (by decide +kernel) (by decide +kernel) he hpl).imp key
  | any => exact (pe_callB (call_bltD .any o) hg hm (by decide +kernel) ha (by decide +kernel) (by decide +kernel) he hpl).imp key
  | sum => exact (pe_callB (call_bltD .sum o) hg hm (by decide +kernel) ha (by decide +kernel) (by decide +kernel) he hpl).imp key
  | sorted => exact (pe_callB (call_bltD .sorted o) hg hm (by decide +kernel) ha (by decide +kernel) (by decide +kernel) he hpl).imp key
  | min2 => exact (pe_callB (call_bltD .min2 o) hg hm (by decide +kernel) ha (by decide +kernel) (by decide +kernel) he hpl).imp key
  | max2 => exact (pe_callB (call_bltD .max2 o) hg hm (by decide +kernel) ha (by decide +kernel) (by decide +kernel) he hpl).imp key
  | abs => exact (pe_callB (call_bltD .abs o) hg hm (by decide +kernel) ha (by decide +kernel) (by decide +kernel) he hpl).imp key
  | tuple => exact (pe_callTy (call_bltD .tuple o) hg hm (by decide +kernel) ha (by decide +kernel) (by decide +kernel) he hpl).imp key
  | list => exact (pe_callTy (call_bltD .list o) hg hm (by decide +kernel) ha (by decide +kernel) (by decide +kernel) he hpl).imp key
  | str => exact (pe_callTy (call_bltD .str o) hg hm (by decide +kernel) ha (by decide +kernel) (by decide +kernel) he hpl).imp key
  | int => exact (pe_callTy (call_bltD .int o) hg hm (by decide +kernel) ha (by decide +kernel) (by decide +kernel) he hpl).imp key
/-- the promise of a def: it answers as the interpreter's call says -/
def spF (G : Gp) (C : CallF) (f ar : Nat) : Sp := fun vs H Q _ => ∃ W st ds d st', vs.length = ar ∧ GRel G W H st ∧ RpL G W ds vs ∧ C f ds st = .ok d st' ∧ ∀ W' H' v, Ext W H W' H' → GRel G W' H' st' → Rp G W' d v → Q v H'
/-- a def that may be called -/
structure FOk (G : Gp) (C : CallF) (X : Cx) (x : Str) (f ar : Nat) : Prop where
  ok : ∃ k fd ps, FnOk X.prog X.w X.K X.mg X.base CX0 k (G.fa f) fd ps (spF G C f ar) ∧ Binds X.K fd ps [] ∧ Room k X.A
  mg : X.mg x = some (.ref (G.fa f))
  kp : PySem.W.keepIn X.K (.ref (G.fa f)) = true
def IEs.len : IEs → Nat
  | .nil => 0
  | .cons _ r => r.len + 1
theorem evs_len : ∀ {ies : IEs} {env : Env} {st : Sto} {ds : List D} {st' : Sto}, evs C ies env st = .ok ds st' → ds.length = ies.len
  | .nil, env, st, ds, st', h => by
    simp only [evs] at h
    obtain ⟨rfl, rfl⟩ := Res.ok_inj h
    rfl
  | .cons e r, env, st, ds, st', h => by
    simp only [evs] at h
    obtain ⟨x, st1, h1, h⟩ := Res.bind_ok h
    obtain ⟨xs, st2, h2, h⟩ := Res.bind_ok h
    obtain ⟨rfl, rfl⟩ := Res.ok_inj h
    rw [List.length_cons, evs_len h2]
    rfl
theorem e_call {f ar : Nat} (hf : FOk G C X x f ar) (hg : Gl X x) (ha : PA X (a :: es) (tEs G C ies)) (hd : (x == ("__debug__" : Str)) = false) (hl : ies.len = ar)
    (he : starEach (a :: es) X.env = (false, eval a X.env) :: starEach es X.env) (hpl : (backTo pos (starEach es X.env)).any (·.1) = false) : PE X (.Call (.Name x p) (a :: es) [] pos) (tE G C (.call f ies)) := by
  obtain ⟨⟨k, fd, ps, F, B, R⟩, hm, hk⟩ := hf
  refine (pe_call F R hg hm hk B .nil pass0 ha hd he hpl).imp fun σ H Q ⟨W, env, st, d, st', g, er, hv, q⟩ => ?_
  simp only [ev] at hv
  obtain ⟨xs, st1, h1, hv⟩ := Res.bind_ok hv
  refine ⟨W, env, st, xs, st1, g, er, h1, fun W1 H1 vs x1 g1 v1 => ?_⟩
  show spF G C f ar (vs ++ []) H1 Q E0
  rw [List.append_nil]
  exact ⟨W1, st1, xs, d, st', by rw [← v1.len, evs_len h1, hl], g1, v1, hv, fun W2 H2 v x2 g2 r2 => q W2 H2 v (x1.trans x2) g2 r2⟩
theorem e_call0 {f : Nat} (hf : FOk G C X x f 0) (hg : Gl X x) (hd : (x == ("__debug__" : Str)) = false) : PE X (.Call (.Name x p) [] [] pos) (tE G C (.call f .nil)) := by
  obtain ⟨⟨k, fd, ps, F, B, R⟩, hm, hk⟩ := hf
  refine (pe_call0 F R hg hm hk B .nil pass0 hd).imp fun σ H Q ⟨W, env, st, d, st', g, er, hv, q⟩ => ?_
  simp only [ev, evs] at hv
  show spF G C f 0 [] H Q E0
  exact ⟨W, st, [], d, st', rfl, g, rfl, hv, q⟩
end
end Cal
/-! Cal, part G: [::-1]; isinstance; methods; tests. -/
namespace Cal
open PySem L2 PySem.Spec PyProof.Rows
section
open HT

variable {prog : Program} {w : World} {A : Around} {E : Value → Shared → Prop} {s : Shared}
theorem adjust_rev (n : Nat) : Builtin.Slice.sliceAdjust none none (-1) (n : Int) = ((n : Int) - 1, -1) := by
  unfold Builtin.Slice.sliceAdjust
  simp
theorem places_rev (n : Nat) : Builtin.Slice.slicePlaces ((n : Int) - 1) (-1) (-1) = n := by
  unfold Builtin.Slice.slicePlaces
  rw [if_neg (by decide)]
  cases n with
  | zero => rfl
  | succ m =>
    rw [if_pos (by omega)]
    have : -(-1 : Int) = 1 := rfl
    rw [this, Int.ediv_one]
    omega
theorem pick_rev (xs : Array Value) : ((List.range xs.size).filterMap fun (k : Nat) => xs[(((xs.size : Int) - 1) + (k : Int) * (-1)).toNat]?).toArray = xs.toList.reverse.toArray := by
  congr 1
  have e : ∀ n, n ≤ xs.size → ((List.range n).filterMap fun (k : Nat) => xs[(((xs.size : Int) - 1) + (k : Int) * (-1)).toNat]?) = xs.toList.reverse.take n := by
    intro n
    induction n with
    | zero => intro _; rfl
    | succ n ih =>
      intro h
      rw [List.range_succ, List.filterMap_append, ih (by omega)]
      have h1 : (((xs.size : Int) - 1) + (n : Int) * (-1)).toNat = xs.size - 1 - n := by omega
      have h2 : xs.size - 1 - n < xs.size := by omega
      rw [List.filterMap_cons, h1, Array.getElem?_eq_getElem h2, List.filterMap_nil, List.take_succ_eq_append_getElem (by rw [List.length_reverse, Array.length_toList]; omega)]
      congr 2
      rw [List.getElem_reverse, Array.getElem_toList]
      congr 1
  have := e xs.size (Nat.le_refl _)
  rw [this, List.take_of_length_le (by rw [List.length_reverse, Array.length_toList]; omega)]
theorem sliceApplied_rev {sl : Addr} {vl vu vs : Value} {n : Nat} {Q : Int × Int × Nat → Shared → Prop} (hs : s.heap.IsSliceOf sl vl vu vs) (pl : IsPart vl none) (pu : IsPart vu none) (ps : IsPart vs (some (-1)))
    (h : Q ((n : Int) - 1, -1, n) s) : wpAny (model prog w) A (Builtin.Slice.sliceApplied (.ref sl) (pure (n : Int))) Q E s := by
  obtain ⟨os, hos, hcs, hds⟩ := id hs
  unfold Builtin.Slice.sliceApplied Builtin.Slice.sliceFields
  refine wpAny_bind (wpAny_bind (wpAny_field hos hds (x := vl) rfl (wpAny_bind (wpAny_field hos hds (x := vu) rfl (wpAny_bind (wpAny_field hos hds (x := vs) rfl (wpAny_pure ?_)))))))
  refine wpAny_bind (slicePart_ ps ?_)
  show wpAny _ _ (if ((-1 : Int) == 0) = true then _ else _) _ _ s
  rw [if_neg (by decide)]
  refine wpAny_bind (slicePart_ pl (wpAny_bind (slicePart_ pu (wpAny_bind (wpAny_pure ?_)))))
  show wpAny _ _ (match Builtin.Slice.sliceAdjust none none (-1) (n : Int) with | (lo, hi) => pure (lo, (-1 : Int), Builtin.Slice.slicePlaces lo hi (-1))) _ _ s
  rw [adjust_rev n]
  show wpAny _ _ (pure ((n : Int) - 1, (-1 : Int), Builtin.Slice.slicePlaces ((n : Int) - 1) (-1) (-1))) _ _ s
  rw [places_rev]
  exact wpAny_pure h
theorem getItem_tuple_rev {t sl : Addr} {items : Array Value} {vl vu vs : Value} {Q : Value → Shared → Prop} (ht : IsTup s.heap t items) (hs : s.heap.IsSliceOf sl vl vu vs) (pl : IsPart vl none) (pu : IsPart vu none) (ps : IsPart vs (some (-1)))
    (h : Q (.ref s.heap.objs.size) { s with heap := s.heap.push { cls := .type "tuple", data := .seq items.toList.reverse.toArray } })
    (hsz : items.size ≤ sizeLine) : wpAny (model prog w) A (getItem (.ref t) (.ref sl)) Q E s := by
  have htake : sizeOk (.seq items.toList.reverse.toArray) := by
    show items.toList.reverse.toArray.size ≤ sizeLine
    rw [List.size_toArray, List.length_reverse, Array.length_toList]
    omega
  obtain ⟨os, hos, hcs, hds⟩ := id hs
  have hTs : s.TypeIs (.ref sl) "slice" := ⟨os, hos, hcs⟩
  unfold getItem
  try with_reducible refine wpAny_holding ?_
  first | refine wpAny_bind (wpAny_pure ?_) | skip
  refine wpAny_bind (wpAny_sequenceKey ht.typeIs (by decide) ?_)
  refine wpAny_bind (wpAny_callSpecial?_slot (name := Str.ofString "__getitem__") ht.typeIs PyProof.Rows.slot_tuple_getitem
    (wpAny_call_entry PyProof.Rows.slot_tuple_getitem ht.typeIs PySem.F.entry_tuple_getitem ?_ (PySem.F.args_tuple_getitem_2 _ _)))
  show wpAny _ _ (Builtin.Tuple.tupleItemsOf (.ref t) >>= _) _ _ s
  refine wpAny_bind (tupleItemsOf_ ht ?_)
  refine wpAny_bind (wpAny_typeOf hTs ?_)
  rw [if_pos (by decide)]
  refine wpAny_bind (sliceApplied_rev hs pl pu ps ?_)
  have hno : ¬ ((((items.size : Int) - 1) == 0 && (-1 : Int) == 1 && items.size == items.size) = true) := by
    intro q
    rw [Bool.and_eq_true, Bool.and_eq_true] at q
    exact absurd q.1.2 (by decide)
  show wpAny _ _ (if (((items.size : Int) - 1) == 0 && (-1 : Int) == 1 && items.size == items.size) = true then _ else _) _ _ s
  rw [if_neg hno, pick_rev]
  first
    | exact wpAny_bind (m := Builtin.Tuple.tupleExact _) (wpAny_newObj_type (wpAny_pure ⟨_, rfl, wpAny_pure h⟩) htake)
    | exact wpAny_bind (m := Builtin.Tuple.tupleExact _) (wpAny_newObj_type (wpAny_bind (wpAny_pure (wpAny_pure ⟨_, rfl, wpAny_pure h⟩))) htake)
end
section
variable {G : Gp} {C : CallF} {X : Cx} {a b c e : Expr} {ia ib ic : IE} {pos : Pos}
theorem e_rev {k : Nat} {p1 p2 p3 : Pos} (o : XO G X) (he : PE X e (tV G C ia)) : PE X (.Subscript e (.Slice none none (some (.UnaryOp .USub (.Constant (.int 1) k p1) p2)) p3) pos) (tN G C (.rev ia)) := by
  refine ⟨fun pins s σ H Q I ⟨W, env, st, d, st', g, er, hv, q⟩ => ?_⟩
  simp only [ev] at hv
  obtain ⟨x, st1, h1, hv⟩ := Res.bind_ok hv
  obtain ⟨z, h2, hv⟩ := lift_ok hv
  obtain ⟨rfl, rfl⟩ := Res.ok_inj hv
  refine Subscript_ (thn (he.run pins s σ H (fun v H1 => ∃ W1, Ext W H W1 H1 ∧ GRel G W1 H1 st1 ∧ Vw G W1 H1 x v) I ⟨W, env, st, x, st1, g, er, h1, fun W1 H1 v x1 g1 v1 => ⟨W1, x1, g1, v1⟩⟩) fun v s1 ⟨y, H1, I1, r1, W1, x1, g1, v1⟩ => ?_)
  have hst : PO X (some (.UnaryOp .USub (.Constant (.int 1) k p1) p2)) (tPart (tUn (rU fun i => .int (-i)) (tC (.int 1)))) := po_some (pe_un un_neg pe_int)
  refine wpAny_Slice (thn (po_none.run pins s1 σ H1 (fun o H2 => o = none ∧ H2 = H1) I1 ⟨rfl, rfl⟩) fun vl s2 ⟨l, H2, I2, pl, el, e2⟩ => ?_)
  subst el e2
  refine thn (po_none.run pins s2 σ H2 (fun o H3 => o = none ∧ H3 = H2) I2 ⟨rfl, rfl⟩) fun vu s3 ⟨u, H3, I3, pu, eu, e3⟩ => ?_
  subst eu e3
  refine thn (hst.run pins s3 σ H3 (fun o H4 => o = some (-1) ∧ H4 = H3) I3 ⟨1, rfl, -1, rfl, rfl, rfl⟩) fun vs s4 ⟨o', H4, I4, ps, eo, e4⟩ => ?_
  subst eo e4
  have I5 : Inv X pins σ H4 { s4 with heap := s4.heap.push { cls := .type "slice", data := .fields #[vl, vu, vs] } } := I4.kept (t' := s4.toks) fun b ob q => Heap.get?_push_of_some _ q
  have vd := v1.deref g1
  revert h2 vd
  generalize deref st1 x = dd
  intro h2 vd
  cases dd with
  | lst ds =>
    cases h2
    obtain ⟨a, xs, rfl, hx, rx⟩ := vd.lst g1
    cases r1
    obtain ⟨its, r, ht, hz⟩ := I5.list (.inl hx)
    show wpAny (model X.prog X.w) X.A (subscriptTail e (.Slice none none (some (.UnaryOp .USub (.Constant (.int 1) k p1) p2)) p3) (.ref a) (.ref s4.heap.objs.size)) (EP X pins σ Q) X.xe { s4 with heap := s4.heap.push { cls := .type "slice", data := .fields #[vl, vu, vs] } }
    refine tail_any (ops := [.ref a, .ref s4.heap.objs.size]) ht.isList.typeIs (PySem.slot_list_getitem.lookup) ?_ (by with_unfolding_all rfl)
    have hlen := r.length
    refine wpAny_getItem_list_slice ht.isList (Heap.IsSliceOf.new _ vl vu vs) pl pu ps (by decide) ?_ (by rw [List.size_toArray]; omega)
    rw [PySem.W.krv_pick]
    obtain ⟨x2, g2, n2⟩ := g1.newList (I5.hok.fresh (Nat.le_refl _)) rx.reverse
    refine ⟨.ref _, _, I5.laid (t' := s4.toks) (o := .lst xs.reverse) (fun b ob q => Heap.get?_push_of_some _ q) (Nat.le_refl _) ?_, rfl, q _ _ _ (x1.trans x2) g2 (Nw.back x1 n2)⟩
    exact ⟨by rw [List.length_reverse]; exact hz, _, 0, r.reverse, Heap.get?_push_size _ rfl⟩
  | tup ds =>
    cases h2
    obtain ⟨a, xs, rfl, hx, rx⟩ := vd.tup g1
    cases r1
    obtain ⟨its, r, ht, hz⟩ := I5.tuple (by rw [o.K]; exact hx)
    show wpAny (model X.prog X.w) X.A (subscriptTail e (.Slice none none (some (.UnaryOp .USub (.Constant (.int 1) k p1) p2)) p3) (.ref a) (.ref s4.heap.objs.size)) (EP X pins σ Q) X.xe { s4 with heap := s4.heap.push { cls := .type "slice", data := .fields #[vl, vu, vs] } }
    refine tail_any (ops := [.ref a, .ref s4.heap.objs.size]) ht.typeIs (PyProof.Rows.slot_tuple_getitem.lookup) ?_ (by with_unfolding_all rfl)
    have hlen := r.length
    refine getItem_tuple_rev ht (Heap.IsSliceOf.new _ vl vu vs) pl pu ps ?_ (by rw [List.size_toArray]; omega)
    obtain ⟨W2, x2, g2, r2⟩ := g1.newTup (I5.hok.fresh (Nat.le_refl _)) rx.reverse
    refine ⟨.ref _, _, I5.laid (t' := s4.toks) (o := .tup xs.reverse) (fun b ob q => Heap.get?_push_of_some _ q) (Nat.le_refl _) ?_, rfl, q _ _ _ (x1.trans x2) g2 r2⟩
    exact ⟨by rw [List.length_reverse]; exact hz, _, r.reverse, IsTup.new _ _⟩
  | _ => cases h2
end
end Cal
/-! Cal, part H: isinstance; methods; tests. -/
namespace Cal
open PySem L2 PySem.Spec PyProof.Rows
section
variable {G : Gp} {C : CallF} {X : Cx} {W : Wd} {H : Hp} {st : Sto} {a b c e : Expr} {ia ib ic : IE} {pos : Pos}
/-! ### isinstance -/
def tyD : D → Option String
  | .non => some "NoneType" | .bl _ => some "bool" | .int _ => some "int" | .str _ => some "str" | .tup _ => some "tuple" | .lst _ => some "list" | _ => none
theorem tyx {d : D} {x : V} {t : String} (o : XO G X) (g : GRel G W H st) (vd : Vd G W H d x) (h : tyD d = some t) : TyX X.K H x (.type t) := by
  cases d with
  | non => cases h; rw [vd_non vd]; exact .base .non
  | bl b => cases h; rw [vd_bl vd]; exact .base (.bl b)
  | int i => cases h; rw [vd_int vd]; exact .base (.int i)
  | str s => cases h; rw [(vd_str vd).1]; exact .base (.str _)
  | tup ds =>
    cases h
    obtain ⟨a, vs, rfl, h1, _⟩ := vd.tup g
    rcases h1 with (h1 | ⟨ob, h1⟩) | ⟨ob, its, n, h1, h2, _⟩
    · exact .base (.tup h1)
    · exact .fTuple h1
    · exact .kTuple (by rw [o.K]; exact h1) h2
  | lst ds =>
    cases h
    obtain ⟨a, vs, rfl, h1, _⟩ := vd.lst g
    rcases h1 with h1 | ⟨ob, h1⟩
    · exact .base (.lst h1)
    · exact .base (.frz h1)
  | _ => cases h
theorem isi_kit {K : PySem.W.Frag} {d : D} {t : TyI} {r : Bool} (h : isiD d t = some r) : ∃ y, tyD d = some y ∧ PySem.W.kitOne K (.type y) (.type (tyN t)) = some r := by
  cases d with
  | non => refine ⟨_, rfl, ?_⟩; cases h; cases t <;> exact kit_ty (by decide +kernel)
  | bl b => refine ⟨_, rfl, ?_⟩; cases t <;> cases h <;> exact kit_ty (by decide +kernel)
  | int i => refine ⟨_, rfl, ?_⟩; cases t <;> cases h <;> exact kit_ty (by decide +kernel)
  | str s => refine ⟨_, rfl, ?_⟩; cases t <;> cases h <;> exact kit_ty (by decide +kernel)
  | tup ds => refine ⟨_, rfl, ?_⟩; cases t <;> cases h <;> exact kit_ty (by decide +kernel)
  | lst ds => refine ⟨_, rfl, ?_⟩; cases t <;> cases h <;> exact kit_ty (by decide +kernel)
  | _ => cases h
theorem e_isi {t : TyI} {p q : Pos} (o : XO G X) (hg : Gl X "isinstance") (hm : X.mg "isinstance" = none) (ha : PE X a (tV G C ia)) (hT : PE X b (tC (.ty (tyN t))))
    (he : starEach (a :: [b]) X.env = (false, eval a X.env) :: starEach [b] X.env) (he2 : starEach (b :: []) X.env = (false, eval b X.env) :: starEach [] X.env) (hpl : (backTo pos (starEach [b] X.env)).any (·.1) = false) :
    PE X (.Call (.Name "isinstance" p) [a, b] [] pos) (tN G C (.isi ia t)) :=
  (pe_callB call_isi hg hm (by decide +kernel) (pa_cons ha (pa_cons hT pa_nil he2) he) (by decide +kernel) (by decide +kernel) he hpl).imp fun σ H Q ⟨W, env, st, d, st', g, er, hv, q⟩ => by
    simp only [ev] at hv
    obtain ⟨x, st1, h1, hv⟩ := Res.bind_ok hv
    obtain ⟨z, h2, hv⟩ := lift_ok hv
    obtain ⟨rfl, rfl⟩ := Res.ok_inj hv
    refine ⟨W, env, st, x, st1, g, er, h1, fun W1 H1 v x1 g1 v1 => ?_⟩
    obtain ⟨y, hy, hk⟩ := isi_kit (K := X.K) h2
    exact ⟨v, .ty (tyN t), .type y, .type (tyN t), z, rfl, .ty _, tyx o g1 (v1.deref g1) hy, hk, q W1 H1 _ x1 g1 rfl⟩
/-! ### methods -/
theorem findIdx_at {ds : List D} {p : D → Bool} {j : Nat} (h : ds.findIdx? p = some j) : ∃ z, ds[j]? = some z ∧ p z = true ∧ ∀ m z', m < j → ds[m]? = some z' → p z' = false := by
  rw [List.findIdx?_eq_some_iff_getElem] at h
  obtain ⟨hj, h1, h2⟩ := h
  refine ⟨ds[j], List.getElem?_eq_getElem hj, h1, fun m z' hm e => ?_⟩
  have := h2 m hm
  obtain ⟨hm', rfl⟩ := List.getElem?_eq_some_iff.mp e
  simpa using this
theorem flatL_get {n : Nat} {ds : List D} {i : Nat} {d : D} (h : flatL n ds = true) (e : ds[i]? = some d) : flatD n d = true := flatL_mem h d (List.mem_of_getElem? e)
/-- what is a list later is one now -/
theorem lst_ahead {st' : Sto} {x : D} {v : V} {ds : List D} (h : Vw G W H x v) (g : GRel G W H st) (e : deref st' x = .lst ds) : ∃ p vs, v = .ref p ∧ Rd H p (.lst vs) := by
  cases x with
  | lst es =>
    obtain ⟨p, vs, e, h1, _⟩ := (h.deref g).lst g
    exact ⟨p, vs, e, h1⟩
  | loc n =>
    rcases h with ⟨a, e, h⟩ | ⟨_, _, h, _⟩
    · have hn := g.bd n 0 a h
      have z := g.ob n _ (List.getElem?_eq_getElem hn)
      unfold RO at z
      split at z
      · obtain ⟨b, r, c⟩ := z
        rw [h] at r
        cases r
        unfold RC at c
        split at c
        · obtain ⟨vs, h1, _⟩ := c
          exact ⟨a, vs, e, .inl h1⟩
        · exact c.elim
      · exact z.elim
    · exact h.elim
  | _ => cases e
theorem e_index {apos : Pos} (o : XO G X) (ha : PE X a (tV G C ia)) (hb : PE X b (tV G C ib)) (hbase : attributeBase a "index" X.env (eval a X.env) = eval a X.env)
    (hfew : ((backTo pos (starEach [b] X.env)).all (fun x => !x.1) && (backToKw pos (keywordEach [] X.env)).all (fun x => x.1.isSome)
      && decide (([b] : List Expr).length + ([] : List Keyword).length + (if ([] : List Keyword).isEmpty then 0 else 1) < 30)) = true)
    (hline : (apos.endLine == pos.line) = true) (hs : starEach [b] X.env = (false, eval b X.env) :: starEach [] X.env) :
    PE X (.Call (.Attribute a "index" apos) [b] [] pos) (tN G C (.mth .index ia (.cons ib .nil))) :=
  (pe_bm PySem.F.plainAttrs_list PySem.F.slot_list_index PySem.F.type_list_index mt_index ha (pa_cons hb pa_nil hs) hbase hfew hline hs rfl).imp fun σ H Q ⟨W, env, st, d, st', g, er, hv, q⟩ => by
    simp only [ev, evs] at hv
    obtain ⟨x, st1, h1, hv⟩ := Res.bind_ok hv
    obtain ⟨xs, st2, h2, hv⟩ := Res.bind_ok hv
    obtain ⟨y, st3, h3, h2⟩ := Res.bind_ok h2
    obtain ⟨rfl, rfl⟩ := Res.ok_inj h2
    obtain ⟨z, h4, hv⟩ := lift_ok hv
    obtain ⟨rfl, rfl⟩ := Res.ok_inj hv
    have h4' : mthD .index (deref st3 x) [deref st3 y] = some z := h4
    unfold mthD at h4'
    simp only at h4'
    split at h4'
    · rename_i ds u hd hu
      obtain ⟨rfl, _⟩ := List.cons.inj hu
      split at h4'
      · rename_i hf
        rw [Bool.and_eq_true] at hf
        cases hj : ds.findIdx? fun z => eqD z (deref st3 y) with
        | none => rw [hj] at h4'; cases h4'
        | some j =>
          rw [hj] at h4'
          cases h4'
          obtain ⟨w, hw, hw2, hw3⟩ := findIdx_at hj
          refine ⟨W, env, st, x, st1, g, er, h1, fun W1 H1 v x1 g1 v1 => ⟨?_, W1, env, st1, y, st3, g1, er.ext x1, h3, fun W2 H2 u x2 g2 v2 => ?_⟩⟩
          · obtain ⟨p, vs, rfl, hp⟩ := lst_ahead v1 g1 hd
            exact .inl ⟨rfl, vs, .inl hp⟩
          · have vl := (v1.ext x2).deref g2
            rw [hd] at vl
            obtain ⟨p, vs, rfl, hp, r⟩ := vl.lst g2
            have ru : Rp G W2 (deref st3 y) u := (v2.deref g2).rp fun ds e => by rw [e] at hf; simp [flatD] at hf
            obtain ⟨w', e1, r1⟩ := r.get hw
            refine ⟨p, vs, u, j, w', rfl, rfl, .inl hp, flat_rp ru hf.1, flats_rp r hf.2, e1, ?_, fun m z' hm e2 => ?_, q W2 H2 _ (x1.trans x2) g2 rfl⟩
            · rw [eq_rp r1 ru (flatL_get hf.2 hw) hf.1]
              exact hw2
            · obtain ⟨d', e3, r3⟩ := r.get' e2
              rw [eq_rp r3 ru (flatL_get hf.2 e3) hf.1]
              exact hw3 m d' hm e3
      · cases h4'
    · cases h4'
theorem e_upper {apos : Pos} (ha : PE X a (tV G C ia)) (hbase : attributeBase a "upper" X.env (eval a X.env) = eval a X.env) (hline : (apos.endLine == pos.line) = true) :
    PE X (.Call (.Attribute a "upper" apos) [] [] pos) (tN G C (.mth .upper ia .nil)) :=
  (pe_upper ha hbase hline).imp fun σ H Q ⟨W, env, st, d, st', g, er, hv, q⟩ => by
    simp only [ev, evs] at hv
    obtain ⟨x, st1, h1, hv⟩ := Res.bind_ok hv
    obtain ⟨xs, st2, h2, hv⟩ := Res.bind_ok hv
    obtain ⟨rfl, rfl⟩ := Res.ok_inj h2
    obtain ⟨z, h4, hv⟩ := lift_ok hv
    obtain ⟨rfl, rfl⟩ := Res.ok_inj hv
    have h4' : mthD .upper (deref st1 x) [] = some z := h4
    unfold mthD at h4'
    simp only at h4'
    split at h4'
    · rename_i t hd _
      split at h4'
      · rename_i hl
        cases h4'
        refine ⟨W, env, st, x, st1, g, er, h1, fun W1 H1 v x1 g1 v1 => ?_⟩
        have vl := v1.deref g1
        rw [hd] at vl
        obtain ⟨rfl, _⟩ := vd_str vl
        refine ⟨⟨toS t, rfl⟩, toS t, rfl, rfl, by rw [toS_len]; exact hl, q W1 H1 _ x1 g1 ⟨rfl, ?_⟩⟩
        have := PyProof.Rows.len_upper (toS t)
        rw [toS_len] at this
        show (Txt.upper (toS t)).cps.size ≤ SL
        have h3 : (Txt.upper (toS t)).length ≤ 3 * t.length := this
        show (Txt.upper (toS t)).length ≤ 16777216
        omega
      · cases h4'
    · cases h4'
/-! ### tests -/
theorem t_plain (o : XO G X) (ha : PE X a (tV G C ia)) (he : ∀ whole, isTrue a X.env whole = (do let v ← whole; standAt a.pos; holding [v] (truthy v))) : PT X a (tT G C ia) :=
  (pt_truth ha he).imp fun σ H Q ⟨W, env, st, d, st', b, g, er, hv, ht, q⟩ => ⟨W, env, st, d, st', g, er, hv, fun W1 H1 v x1 g1 v1 => ⟨b, tru_of o g1 (v1.deref g1) ht, q W1 H1 x1 g1⟩⟩
theorem tT_N {σ : L2.St} {H : Hp} {Q : Bool → Hp → Prop} (hb : ∀ env st d st', ev C ia env st = .ok d st' → ∃ k, d = .bl k) (h : tT G C ia σ H Q) : tN G C ia σ H fun x H' => ∃ k, x = .bl k ∧ Q k H' := by
  obtain ⟨W, env, st, d, st', b, g, er, hv, ht, q⟩ := h
  obtain ⟨k, rfl⟩ := hb _ _ _ _ hv
  have ek : k = b := by cases ht; rfl
  subst ek
  exact ⟨W, env, st, _, st', g, er, hv, fun W1 H1 v x1 g1 v1 => ⟨k, v1, q W1 H1 x1 g1⟩⟩
theorem t_cmp {op : CO} (o : XO G X) (ha : PE X a (tV G C ia)) (hb : PE X b (tV G C ib)) (hm : behindInMarks (cop op) b = false) : PT X (.Compare a [cop op] [b] pos) (tT G C (.cmp op ia ib)) :=
  (pt_cmpR (op_cmpD op o) ha hb hm).imp fun σ H Q h => two (mk := id) (f := fun d e => (cmpD op d e).map D.bl) (fun env st => by
    simp only [ev]
    refine congrArg _ (funext fun x => funext fun st1 => congrArg _ (funext fun y => funext fun st2 => ?_))
    exact lift_map (f := D.bl) (g := fun z => Res.ok z st2)) (fun _ _ _ _ h => h) (tT_N (fun env st d st' h => by
      simp only [ev] at h
      obtain ⟨x, st1, h1, h⟩ := Res.bind_ok h
      obtain ⟨y, st2, h2, h⟩ := Res.bind_ok h
      obtain ⟨z, h4, h⟩ := lift_ok h
      obtain ⟨rfl, rfl⟩ := Res.ok_inj h
      exact ⟨z, rfl⟩) h)
theorem t_chain {op op' : CO} (o : XO G X) (ha : PE X a (tV G C ia)) (hb : PE X b (tV G C ib)) (hc : PE X c (tV G C ic)) (hm : lastMarks [cop op, cop op'] [b, c] = false) : PT X (.Compare a [cop op, cop op'] [b, c] pos) (tT G C (.chain op op' ia ib ic)) :=
  (pt_chain (op_cmpD op o) (op_cmpD op' o) ha hb hc hm).imp fun σ H Q h => chain_of (tT_N (fun env st d st' h => by
      simp only [ev] at h
      obtain ⟨x, st1, h1, h⟩ := Res.bind_ok h
      obtain ⟨y, st2, h2, h⟩ := Res.bind_ok h
      obtain ⟨z, h4, h⟩ := lift_ok h
      split at h
      · obtain ⟨u, st3, h5, h⟩ := Res.bind_ok h
        obtain ⟨z', h6, h⟩ := lift_ok h
        obtain ⟨rfl, rfl⟩ := Res.ok_inj h
        exact ⟨z', rfl⟩
      · obtain ⟨rfl, rfl⟩ := Res.ok_inj h
        exact ⟨false, rfl⟩) h)
theorem t_not (ha : PT X a (tT G C ia)) : PT X (.UnaryOp .Not a pos) (tT G C (.notv ia)) :=
  (pt_not ha).imp fun σ H Q ⟨W, env, st, d, st', b, g, er, hv, ht, q⟩ => by
    simp only [ev] at hv
    obtain ⟨x, st1, h1, hv⟩ := Res.bind_ok hv
    obtain ⟨t, h2, hv⟩ := lift_ok hv
    obtain ⟨rfl, rfl⟩ := Res.ok_inj hv
    have : (!t) = b := by cases ht; rfl
    exact ⟨W, env, st, x, st1, t, g, er, h1, h2, fun W1 H1 x1 g1 => by show Q (!t) H1; rw [this]; exact q W1 H1 x1 g1⟩
variable {rest : List Expr}
theorem w_and1 (ha : PT X a (tT G C ia)) : PW X (.BoolOp .And [a] pos) (tT G C ia) := pw_and1 ha
theorem w_or1 (ha : PT X a (tT G C ia)) : PW X (.BoolOp .Or [a] pos) (tT G C ia) := pw_or1 ha
theorem w_and (ha : PT X a (tT G C ia)) (hb : PW X (.BoolOp .And (b :: rest) pos) (tT G C ib)) : PW X (.BoolOp .And (a :: b :: rest) pos) (tT G C (.andv ia ib)) :=
  (pw_and ha hb).imp fun σ H Q ⟨W, env, st, d, st', r, g, er, hv, ht, q⟩ => by
    simp only [ev] at hv
    obtain ⟨x, st1, h1, hv⟩ := Res.bind_ok hv
    obtain ⟨t, h2, hv⟩ := lift_ok hv
    refine ⟨W, env, st, x, st1, t, g, er, h1, h2, fun W1 H1 x1 g1 => ?_⟩
    split at hv
    · rename_i e
      rw [if_pos e]
      exact ⟨W1, env, st1, d, st', r, g1, er.ext x1, hv, ht, fun W2 H2 x2 g2 => q W2 H2 (x1.trans x2) g2⟩
    · rename_i e
      rw [if_neg e]
      obtain ⟨rfl, rfl⟩ := Res.ok_inj hv
      rw [h2] at ht
      cases ht
      have : r = false := by
        cases r with
        | false => rfl
        | true => exact (e rfl).elim
      subst this
      exact q W1 H1 x1 g1
theorem w_or (ha : PT X a (tT G C ia)) (hb : PW X (.BoolOp .Or (b :: rest) pos) (tT G C ib)) : PW X (.BoolOp .Or (a :: b :: rest) pos) (tT G C (.orv ia ib)) :=
  (pw_or ha hb).imp fun σ H Q ⟨W, env, st, d, st', r, g, er, hv, ht, q⟩ => by
    simp only [ev] at hv
    obtain ⟨x, st1, h1, hv⟩ := Res.bind_ok hv
    obtain ⟨t, h2, hv⟩ := lift_ok hv
    refine ⟨W, env, st, x, st1, t, g, er, h1, h2, fun W1 H1 x1 g1 => ?_⟩
    split at hv
    · rename_i e
      rw [if_pos e]
      obtain ⟨rfl, rfl⟩ := Res.ok_inj hv
      rw [h2] at ht
      cases ht
      subst e
      exact q W1 H1 x1 g1
    · rename_i e
      rw [if_neg e]
      exact ⟨W1, env, st1, d, st', r, g1, er.ext x1, hv, ht, fun W2 H2 x2 g2 => q W2 H2 (x1.trans x2) g2⟩
end
end Cal
/-! Cal, part I: what is walked; comprehensions. -/
namespace Cal
open PySem L2 PySem.Spec PyProof.Rows
/-- an iterator that walks these items, while P holds -/
structure ItS (G : Gp) (J : It) (items : List D) (P : Wd → Hp → Prop) : Prop where
  go : ∀ i W H st, i < items.length → P W H → GRel G W H st → J.go i H
  yl : ∀ i W H st x H', i < items.length → P W H → GRel G W H st → J.yld i H x H' → ∃ d W', items[i]? = some d ∧ Ext W H W' H' ∧ GRel G W' H' st ∧ Rp G W' d x
  stop : ∀ i W H st, items.length ≤ i → P W H → GRel G W H st → J.stop i H
/-- P goes on while the source is as it was -/
def PerS (G : Gp) (P : Wd → Hp → Prop) (src : Src) (st : Sto) : Prop := ∀ W H W' H' st', P W H → Ext W H W' H' → GRel G W' H' st' → sameAt src st st' = true → P W' H'
/-- .. whatever else is written -/
def PerF (G : Gp) (P : Wd → Hp → Prop) (src : Src) (st : Sto) : Prop := ∀ W H W' H' st', P W H → (∀ a o, W.F a = some o → W'.F a = some o) → (∀ n i a, W.ρ n i = some a → W'.ρ n i = some a) → GRel G W' H' st' → sameAt src st st' = true → P W' H'
theorem PerF.s {G : Gp} {P : Wd → Hp → Prop} {src : Src} {st : Sto} (h : PerF G P src st) : PerS G P src st := fun W H W' H' st' p x g s => h W H W' H' st' p x.f x.r g s
theorem per_true {G : Gp} {src : Src} {st : Sto} : PerF G (fun _ _ => True) src st := fun _ _ _ _ _ _ _ _ _ _ => trivial
section
variable {G : Gp} {C : CallF} {X : Cx} {W : Wd} {H : Hp} {st : Sto} {a b c e : Expr} {ia ib ic : IE} {pos : Pos}
/-- what is walked, and how -/
def tI (G : Gp) (C : CallF) (fl : Bool) (it : II) : TI := fun σ H R => ∃ W env st items src st', GRel G W H st ∧ ERel G W H env σ ∧ evi C it env st = .ok (items, src) st' ∧
  ∀ W' H' J P, Ext W H W' H' → GRel G W' H' st' → ItS G J items P → P W' H' → PerS G P src st' → (fl = true → PerF G P src st') → items.length ≤ SL → R J H'
theorem its_list {p : Addr} {ds : List D} {P : Wd → Hp → Prop} (hP : ∀ W H st, P W H → GRel G W H st → ∃ vs, SqL G.K H p vs ∧ RpL G W ds vs) : ItS G (Itl G.K p) ds P where
  go := fun i W H st hi h g => by
    obtain ⟨vs, h1, h2⟩ := hP W H st h g
    have := h2.len
    exact ⟨vs, vs[i], h1, List.getElem?_eq_getElem (by omega)⟩
  yl := fun i W H st x H' _ h g ⟨e, h3⟩ => by
    subst e
    obtain ⟨vs, h1, h2⟩ := hP W H' st h g
    obtain ⟨d, h4, h5⟩ := h2.get' (h3 _ h1)
    exact ⟨d, W, h4, Ext.refl, g, h5⟩
  stop := fun i W H st hi h g => by
    obtain ⟨vs, h1, h2⟩ := hP W H st h g
    exact ⟨vs, h1, by rw [← h2.len]; exact hi⟩
theorem its_tup {p : Addr} {ds : List D} {P : Wd → Hp → Prop} (hP : ∀ W H st, P W H → GRel G W H st → ∃ vs, SqT G.K H p vs ∧ RpL G W ds vs) : ItS G (Itt G.K p) ds P where
  go := fun i W H st hi h g => by
    obtain ⟨vs, h1, h2⟩ := hP W H st h g
    have := h2.len
    exact ⟨vs, vs[i], h1, List.getElem?_eq_getElem (by omega)⟩
  yl := fun i W H st x H' _ h g ⟨e, h3⟩ => by
    subst e
    obtain ⟨vs, h1, h2⟩ := hP W H' st h g
    obtain ⟨d, h4, h5⟩ := h2.get' (h3 _ h1)
    exact ⟨d, W, h4, Ext.refl, g, h5⟩
  stop := fun i W H st hi h g => by
    obtain ⟨vs, h1, h2⟩ := hP W H st h g
    exact ⟨vs, h1, by rw [← h2.len]; exact hi⟩
theorem its_str {t : List Nat} : ItS G (Its (toS t)) (t.map fun c => .str [c]) fun _ _ => True where
  go := fun i W H st hi _ _ => by
    rw [List.length_map] at hi
    show i < t.toArray.size
    rw [List.size_toArray]
    exact hi
  yl := fun i W H st x H' _ _ g ⟨e, c, h1, h2⟩ => by
    subst e
    subst h2
    have h3 : t[i]? = some c := by
      have : t.toArray[i]? = some c := h1
      simpa using this
    refine ⟨.str [c], W, ?_, Ext.refl, g, rfl, (by show 1 ≤ SL; decide)⟩
    rw [List.getElem?_map, h3]
    rfl
  stop := fun i W H st hi _ _ => by
    rw [List.length_map] at hi
    show t.toArray.size ≤ i
    rw [List.size_toArray]
    exact hi
theorem its_rng {lo : Int} {n : Nat} : ItS G (Itr lo n) (rngD lo n) fun _ _ => True where
  go := fun i W H st hi _ _ => by
    unfold rngD at hi
    rw [List.length_map, List.length_range] at hi
    exact hi
  yl := fun i W H st x H' hi _ g ⟨e, h2⟩ => by
    subst e
    subst h2
    unfold rngD at hi ⊢
    rw [List.length_map, List.length_range] at hi
    refine ⟨.int (lo + (i : Nat)), W, ?_, Ext.refl, g, rfl⟩
    rw [List.getElem?_map, List.getElem?_range hi]
    rfl
  stop := fun i W H st hi _ _ => by
    unfold rngD at hi
    rw [List.length_map, List.length_range] at hi
    exact hi
theorem zw_get {xs ys : List D} {vs us : List V} {i : Nat} {x y : V} (rx : RpL G W xs vs) (ry : RpL G W ys us) (hx : vs[i]? = some x) (hy : us[i]? = some y) :
    ∃ d e, (List.zipWith (fun p q => D.tup [p, q]) xs ys)[i]? = some (.tup [d, e]) ∧ Rp G W d x ∧ Rp G W e y := by
  obtain ⟨d, h1, r1⟩ := rx.get' hx
  obtain ⟨e, h2, r2⟩ := ry.get' hy
  refine ⟨d, e, ?_, r1, r2⟩
  rw [List.getElem?_zipWith, h1, h2]
theorem its_zipL {p q : Addr} {xs ys : List D} {P : Wd → Hp → Prop} (hP : ∀ W H st, P W H → GRel G W H st → (∃ vs, SqL G.K H p vs ∧ RpL G W xs vs) ∧ ∃ vs, SqL G.K H q vs ∧ RpL G W ys vs) :
    ItS G (Itz G.K p q) (List.zipWith (fun p q => D.tup [p, q]) xs ys) P where
  go := fun i W H st hi h g => by
    obtain ⟨⟨vs, h1, h2⟩, us, h3, h4⟩ := hP W H st h g
    rw [List.length_zipWith] at hi
    have := h2.len
    have := h4.len
    exact ⟨vs, us, vs[i], us[i], h1, h3, List.getElem?_eq_getElem (by omega), List.getElem?_eq_getElem (by omega)⟩
  yl := fun i W H st x H' _ h g ⟨T, y, z, e1, hT, e2, h5, h6⟩ => by
    obtain ⟨⟨vs, h1, h2⟩, us, h3, h4⟩ := hP W H st h g
    obtain ⟨d, e, h7, r1, r2⟩ := zw_get h2 h4 (h5 _ h1) (h6 _ h3)
    obtain ⟨W', x', g', r'⟩ := g.newTup (ds := [d, e]) hT ⟨y, [z], rfl, r1, z, [], rfl, r2, rfl⟩
    subst e1 e2
    exact ⟨_, W', h7, x', g', r'⟩
  stop := fun i W H st hi h g => by
    obtain ⟨⟨vs, h1, h2⟩, us, h3, h4⟩ := hP W H st h g
    rw [List.length_zipWith] at hi
    have := h2.len
    have := h4.len
    exact ⟨vs, us, h1, h3, by omega⟩
theorem its_zipT {p q : Addr} {xs ys : List D} {P : Wd → Hp → Prop} (hP : ∀ W H st, P W H → GRel G W H st → (∃ vs, SqT G.K H p vs ∧ RpL G W xs vs) ∧ ∃ vs, SqT G.K H q vs ∧ RpL G W ys vs) :
    ItS G (RZ.ItzT G.K p q) (List.zipWith (fun p q => D.tup [p, q]) xs ys) P where
  go := fun i W H st hi h g => by
    obtain ⟨⟨vs, h1, h2⟩, us, h3, h4⟩ := hP W H st h g
    rw [List.length_zipWith] at hi
    have := h2.len
    have := h4.len
    exact ⟨vs, us, vs[i], us[i], h1, h3, List.getElem?_eq_getElem (by omega), List.getElem?_eq_getElem (by omega)⟩
  yl := fun i W H st x H' _ h g ⟨T, y, z, e1, hT, e2, h5, h6⟩ => by
    obtain ⟨⟨vs, h1, h2⟩, us, h3, h4⟩ := hP W H st h g
    obtain ⟨d, e, h7, r1, r2⟩ := zw_get h2 h4 (h5 _ h1) (h6 _ h3)
    obtain ⟨W', x', g', r'⟩ := g.newTup (ds := [d, e]) hT ⟨y, [z], rfl, r1, z, [], rfl, r2, rfl⟩
    subst e1 e2
    exact ⟨_, W', h7, x', g', r'⟩
  stop := fun i W H st hi h g => by
    obtain ⟨⟨vs, h1, h2⟩, us, h3, h4⟩ := hP W H st h g
    rw [List.length_zipWith] at hi
    have := h2.len
    have := h4.len
    exact ⟨vs, us, h1, h3, by omega⟩
theorem _root_.L2.PI.imp {X : Cx} {tg e : Expr} {t t' : L2.TI} (h : PI X tg e t) (i : ∀ σ H Q, t' σ H Q → t σ H Q) : PI X tg e t' := ⟨fun pins s σ H Q I q => h.run pins s σ H Q I (i σ H Q q)⟩
variable {tg : Expr} {σ : L2.St}
/-- the list at p, as long as it is the same -/
theorem lst_per {ds : List D} {x : D} {v : V} (h : Vw G W H x v) (g : GRel G W H st) (e : deref st x = .lst ds) :
    ∃ p P, v = .ref p ∧ (∀ W H st, P W H → GRel G W H st → ∃ vs, SqL G.K H p vs ∧ RpL G W ds vs) ∧ P W H ∧ PerS G P (srcOf x) st := by
  cases x with
  | lst es =>
    cases e
    rcases h with ⟨p, vs, e, h1, h2⟩ | ⟨p, e, h1, h2, h3⟩
    · refine ⟨p, fun W _ => ∃ vs, Rd W.F p (.lst vs) ∧ RpL G W ds vs, e, fun W H st ⟨vs, h1, h2⟩ g => ⟨vs, .inl (rd_mono g.fz h1), h2⟩, ⟨vs, h1, h2⟩, fun W H W' H' st' ⟨vs, h1, h2⟩ x _ _ => ⟨vs, rd_mono x.f h1, h2.ext x⟩⟩
    · exact ⟨p, fun W H => RC G W H (.lst ds) p ∧ W.F p = none ∧ ∀ n i, W.ρ n i ≠ some p, e, fun W H st ⟨⟨vs, h1, h2⟩, _⟩ g => ⟨vs, .inl (.inl h1), h2⟩, ⟨h1, h2, h3⟩, fun W H W' H' st' ⟨h1, h2, h3⟩ x _ _ => own_ext x h1 h2 h3⟩
  | loc n =>
    have hcell : st[n]? = some (.cell (.lst ds)) := by
      unfold Cal.deref at e
      simp only at e
      split at e
      · rename_i d hd
        rw [hd, e]
      · cases e
    rcases h with ⟨p, e, h⟩ | ⟨_, _, h, _⟩
    · have cont : ∀ W H st', W.ρ n 0 = some p → GRel G W H st' → st'[n]? = some (.cell (.lst ds)) → RC G W H (.lst ds) p := fun W H st' h g q => by
        obtain ⟨b, r, c⟩ := g.ob n _ q
        rw [h] at r
        cases r
        exact c
      refine ⟨p, fun W H => W.ρ n 0 = some p ∧ RC G W H (.lst ds) p, e, fun W H st ⟨_, vs, h1, h2⟩ g => ⟨vs, .inl (.inl h1), h2⟩, ⟨h, cont W H st h g hcell⟩, fun W H W' H' st' ⟨h1, _⟩ x g' hs => ?_⟩
      refine ⟨x.r _ _ _ h1, cont W' H' st' (x.r _ _ _ h1) g' ?_⟩
      unfold sameAt srcOf at hs
      simp only at hs
      split at hs
      · rename_i q
        rw [q]
        exact hcell
      · cases hs
    · exact h.elim
  | _ => cases e
theorem tup_per {ds : List D} {x : D} {v : V} (h : Vw G W H x v) (g : GRel G W H st) (e : deref st x = .tup ds) :
    ∃ p P, v = .ref p ∧ (∀ W H st, P W H → GRel G W H st → ∃ vs, SqT G.K H p vs ∧ RpL G W ds vs) ∧ P W H ∧ PerS G P (srcOf x) st := by
  cases x with
  | tup es =>
    cases e
    rcases h with ⟨p, vs, e, h1, h2⟩ | ⟨_, _, h, _⟩
    · exact ⟨p, fun W _ => ∃ vs, SqT G.K W.F p vs ∧ RpL G W ds vs, e, fun W H st ⟨vs, h1, h2⟩ g => ⟨vs, sqT_mono g.fz h1, h2⟩, ⟨vs, h1, h2⟩, fun W H W' H' st' ⟨vs, h1, h2⟩ x _ _ => ⟨vs, sqT_mono x.f h1, h2.ext x⟩⟩
    · exact h.elim
  | loc n =>
    have hcell : st[n]? = some (.cell (.tup ds)) := by
      unfold Cal.deref at e
      simp only at e
      split at e
      · rename_i d hd
        rw [hd, e]
      · cases e
    obtain ⟨b, r, c⟩ := g.ob n _ hcell
    exact c.elim
  | _ => cases e
theorem str_per {t : List Nat} {x : D} {v : V} (h : Vw G W H x v) (g : GRel G W H st) (e : deref st x = .str t) : v = .str (toS t) ∧ t.length ≤ SL := by
  have := h.deref g
  rw [e] at this
  exact vd_str this
theorem lst_perF {ds : List D} {x : D} {v : V} (h : Rp G W x v) (g : GRel G W H st) (e : deref st x = .lst ds) :
    ∃ p P, v = .ref p ∧ (∀ W H st, P W H → GRel G W H st → ∃ vs, SqL G.K H p vs ∧ RpL G W ds vs) ∧ P W H ∧ PerF G P (srcOf x) st := by
  cases x with
  | lst es =>
    cases e
    obtain ⟨p, vs, e, h1, h2⟩ := h
    exact ⟨p, fun W _ => ∃ vs, Rd W.F p (.lst vs) ∧ RpL G W ds vs, e, fun W H st ⟨vs, h1, h2⟩ g => ⟨vs, .inl (rd_mono g.fz h1), h2⟩, ⟨vs, h1, h2⟩, fun W H W' H' st' ⟨vs, h1, h2⟩ xf xr _ _ => ⟨vs, rd_mono xf h1, RpL.mono (W := W) (W' := W') xf xr _ _ h2⟩⟩
  | loc n =>
    have hcell : st[n]? = some (.cell (.lst ds)) := by
      unfold Cal.deref at e
      simp only at e
      split at e
      · rename_i d hd
        rw [hd, e]
      · cases e
    obtain ⟨p, e, h⟩ := h
    have cont : ∀ W H st', W.ρ n 0 = some p → GRel G W H st' → st'[n]? = some (.cell (.lst ds)) → RC G W H (.lst ds) p := fun W H st' h g q => by
      obtain ⟨b, r, c⟩ := g.ob n _ q
      rw [h] at r
      cases r
      exact c
    refine ⟨p, fun W H => W.ρ n 0 = some p ∧ RC G W H (.lst ds) p, e, fun W H st ⟨_, vs, h1, h2⟩ g => ⟨vs, .inl (.inl h1), h2⟩, ⟨h, cont W H st h g hcell⟩, fun W H W' H' st' ⟨h1, _⟩ xf xr g' hs => ?_⟩
    refine ⟨xr _ _ _ h1, cont W' H' st' (xr _ _ _ h1) g' ?_⟩
    unfold sameAt srcOf at hs
    simp only at hs
    split at hs
    · rename_i q
      rw [q]
      exact hcell
    · cases hs
  | _ => cases e
theorem tup_perF {ds : List D} {x : D} {v : V} (h : Rp G W x v) (g : GRel G W H st) (e : deref st x = .tup ds) :
    ∃ p P, v = .ref p ∧ (∀ W H st, P W H → GRel G W H st → ∃ vs, SqT G.K H p vs ∧ RpL G W ds vs) ∧ P W H ∧ PerF G P (srcOf x) st := by
  cases x with
  | tup es =>
    cases e
    obtain ⟨p, vs, e, h1, h2⟩ := h
    exact ⟨p, fun W _ => ∃ vs, SqT G.K W.F p vs ∧ RpL G W ds vs, e, fun W H st ⟨vs, h1, h2⟩ g => ⟨vs, sqT_mono g.fz h1, h2⟩, ⟨vs, h1, h2⟩, fun W H W' H' st' ⟨vs, h1, h2⟩ xf xr _ _ => ⟨vs, sqT_mono xf h1, RpL.mono (W := W) (W' := W') xf xr _ _ h2⟩⟩
  | loc n =>
    have hcell : st[n]? = some (.cell (.tup ds)) := by
      unfold Cal.deref at e
      simp only at e
      split at e
      · rename_i d hd
        rw [hd, e]
      · cases e
    obtain ⟨b, r, c⟩ := g.ob n _ hcell
    exact c.elim
  | _ => cases e
/-- what stands in the heap is no longer than the line -/
def Bnd (K : PySem.W.Frag) (v : V) (H : Hp) : Prop := ∀ p vs, v = .ref p → (SqL K H p vs → vs.length ≤ sizeLine) ∧ (SqT K H p vs → vs.length ≤ sizeLine)
theorem _root_.L2.PE.bnd {X : Cx} {e : Expr} {t : TE} (h : PE X e t) : PE X e (fun σ H Q => t σ H fun v H' => Bnd X.K v H' → Q v H') :=
  ⟨fun pins s σ H Q I q => thn (h.run pins s σ H _ I q) fun u s' ⟨v, H', I', r, q'⟩ => ⟨v, H', I', r, q' fun p vs _ => ⟨fun h => (let ⟨_, _, _, z⟩ := I'.list h; z), fun h => (let ⟨_, _, _, z⟩ := I'.tuple h; z)⟩⟩⟩
theorem i_seq (o : XO G X) (ha : PE X a (tV G C ia)) : PI X tg a (tI G C false (.seq ia)) := by
  refine ⟨fun pins s σ H R I ⟨W, env, st, items, src, st', g, er, hv, q⟩ => ?_⟩
  simp only [evi] at hv
  obtain ⟨x, st1, h1, hv⟩ := Res.bind_ok hv
  obtain ⟨z, h2, hv⟩ := lift_ok hv
  obtain ⟨e1, rfl⟩ := Res.ok_inj hv
  obtain ⟨rfl, rfl⟩ := Prod.mk.inj e1
  cases hd : deref st1 x with
  | lst ds =>
    rw [hd] at h2
    cases h2
    refine (pi_list (tg := tg) ha.bnd).run pins s σ H R I ⟨W, env, st, x, st1, g, er, h1, fun W1 H1 v x1 g1 v1 hb => ?_⟩
    obtain ⟨p, P, rfl, hP, h0, hper⟩ := lst_per v1 g1 hd
    obtain ⟨vs, hs, hr⟩ := hP W1 H1 st1 h0 g1
    refine ⟨p, rfl, ⟨vs, by rw [o.K]; exact hs⟩, ?_⟩
    rw [o.K] at hb ⊢
    exact q W1 H1 (Itl G.K p) P x1 g1 (its_list hP) h0 hper (fun h => nomatch h) (by rw [hr.len]; exact (hb p vs rfl).1 hs)
  | tup ds =>
    rw [hd] at h2
    cases h2
    refine (pi_tup (tg := tg) ha.bnd).run pins s σ H R I ⟨W, env, st, x, st1, g, er, h1, fun W1 H1 v x1 g1 v1 hb => ?_⟩
    obtain ⟨p, P, rfl, hP, h0, hper⟩ := tup_per v1 g1 hd
    obtain ⟨vs, hs, hr⟩ := hP W1 H1 st1 h0 g1
    refine ⟨p, rfl, ⟨vs, by rw [o.K]; exact hs⟩, ?_⟩
    rw [o.K] at hb ⊢
    exact q W1 H1 (Itt G.K p) P x1 g1 (its_tup hP) h0 hper (fun h => nomatch h) (by rw [hr.len]; exact (hb p vs rfl).2 hs)
  | str t =>
    rw [hd] at h2
    cases h2
    refine (pi_str (tg := tg) ha).run pins s σ H R I ⟨W, env, st, x, st1, g, er, h1, fun W1 H1 v x1 g1 v1 => ?_⟩
    obtain ⟨rfl, hl⟩ := str_per v1 g1 hd
    exact ⟨toS t, rfl, q W1 H1 (Its (toS t)) (fun _ _ => True) x1 g1 its_str trivial per_true.s (fun _ => per_true) (by rw [List.length_map]; exact hl)⟩
  | _ => rw [hd] at h2; cases h2
theorem i_seqF (o : XO G X) (ha : PE X a (tE G C ia)) : PI X tg a (tI G C true (.seq ia)) := by
  refine ⟨fun pins s σ H R I ⟨W, env, st, items, src, st', g, er, hv, q⟩ => ?_⟩
  simp only [evi] at hv
  obtain ⟨x, st1, h1, hv⟩ := Res.bind_ok hv
  obtain ⟨z, h2, hv⟩ := lift_ok hv
  obtain ⟨e1, rfl⟩ := Res.ok_inj hv
  obtain ⟨rfl, rfl⟩ := Prod.mk.inj e1
  cases hd : deref st1 x with
  | lst ds =>
    rw [hd] at h2
    cases h2
    refine (pi_list (tg := tg) ha.bnd).run pins s σ H R I ⟨W, env, st, x, st1, g, er, h1, fun W1 H1 v x1 g1 v1 hb => ?_⟩
    obtain ⟨p, P, rfl, hP, h0, hper⟩ := lst_perF v1 g1 hd
    obtain ⟨vs, hs, hr⟩ := hP W1 H1 st1 h0 g1
    refine ⟨p, rfl, ⟨vs, by rw [o.K]; exact hs⟩, ?_⟩
    rw [o.K] at hb ⊢
    exact q W1 H1 (Itl G.K p) P x1 g1 (its_list hP) h0 hper.s (fun _ => hper) (by rw [hr.len]; exact (hb p vs rfl).1 hs)
  | tup ds =>
    rw [hd] at h2
    cases h2
    refine (pi_tup (tg := tg) ha.bnd).run pins s σ H R I ⟨W, env, st, x, st1, g, er, h1, fun W1 H1 v x1 g1 v1 hb => ?_⟩
    obtain ⟨p, P, rfl, hP, h0, hper⟩ := tup_perF v1 g1 hd
    obtain ⟨vs, hs, hr⟩ := hP W1 H1 st1 h0 g1
    refine ⟨p, rfl, ⟨vs, by rw [o.K]; exact hs⟩, ?_⟩
    rw [o.K] at hb ⊢
    exact q W1 H1 (Itt G.K p) P x1 g1 (its_tup hP) h0 hper.s (fun _ => hper) (by rw [hr.len]; exact (hb p vs rfl).2 hs)
  | str t =>
    rw [hd] at h2
    cases h2
    refine (pi_str (tg := tg) ha).run pins s σ H R I ⟨W, env, st, x, st1, g, er, h1, fun W1 H1 v x1 g1 v1 => ?_⟩
    obtain ⟨rfl, hl⟩ := str_per v1.vw g1 hd
    exact ⟨toS t, rfl, q W1 H1 (Its (toS t)) (fun _ _ => True) x1 g1 its_str trivial per_true.s (fun _ => per_true) (by rw [List.length_map]; exact hl)⟩
  | _ => rw [hd] at h2; cases h2
variable {p : Pos} {fl : Bool}
theorem i_rng1 (hg : Gl X "range") (hm : X.mg "range" = none) (ha : PE X a (tV G C ia)) (hs : starEach [a] X.env = [(false, eval a X.env)]) : PI X tg (.Call (.Name "range" p) [a] [] pos) (tI G C fl (.rng1 ia)) :=
  (pi_range1 hg hm (av_cons ha av_nil hs) hs).imp fun σ H R ⟨W, env, st, items, src, st', g, er, hv, q⟩ => by
    simp only [evi] at hv
    obtain ⟨x, st1, h1, hv⟩ := Res.bind_ok hv
    split at hv
    · rename_i j
      split at hv
      · rename_i hj
        obtain ⟨e1, rfl⟩ := Res.ok_inj hv
        obtain ⟨rfl, rfl⟩ := Prod.mk.inj e1
        refine ⟨W, env, st, [.int j], st1, g, er, by simp only [evs, h1]; rfl, fun W1 H1 vs x1 g1 v1 => ?_⟩
        obtain ⟨v, r, rfl, h3, h4⟩ := v1
        rw [show r = [] from h4]
        have hSL : ((SL : Nat) : Int) = 16777216 := rfl
        have hj := rngA_iff.mp hj
        rw [hSL] at hj
        refine ⟨j, by rw [vd_int (h3.deref g1)], by omega, by omega, q W1 H1 _ _ x1 g1 its_rng trivial per_true.s (fun _ => per_true) ?_⟩
        unfold rngD
        rw [List.length_map, List.length_range]
        show j.toNat ≤ 16777216
        omega
      · cases hv
    · cases hv
theorem i_rng2 (hg : Gl X "range") (hm : X.mg "range" = none) (ha : PE X a (tV G C ia)) (hb : PE X b (tV G C ib)) (hs : starEach [a, b] X.env = [(false, eval a X.env), (false, eval b X.env)]) (hs2 : starEach [b] X.env = [(false, eval b X.env)]) :
    PI X tg (.Call (.Name "range" p) [a, b] [] pos) (tI G C fl (.rng2 ia ib)) :=
  (pi_range2 hg hm (av_cons ha (av_cons hb av_nil hs2) (by rw [hs, hs2])) hs hs2).imp fun σ H R ⟨W, env, st, items, src, st', g, er, hv, q⟩ => by
    simp only [evi] at hv
    obtain ⟨x, st1, h1, hv⟩ := Res.bind_ok hv
    obtain ⟨y, st2, h2, hv⟩ := Res.bind_ok hv
    split at hv
    · rename_i i j _
      split at hv
      · rename_i hj
        obtain ⟨e1, rfl⟩ := Res.ok_inj hv
        obtain ⟨rfl, rfl⟩ := Prod.mk.inj e1
        refine ⟨W, env, st, [.int i, .int j], st2, g, er, by simp only [evs, h1, Res.bind, h2], fun W1 H1 vs x1 g1 v1 => ?_⟩
        obtain ⟨v, r, rfl, h3, u, r', rfl, h4, h5⟩ := v1
        rw [show r' = [] from h5]
        have hSL : ((SL : Nat) : Int) = 16777216 := rfl
        have hj := rngB_iff.mp hj
        rw [hSL] at hj
        refine ⟨i, j, by rw [vd_int (h3.deref g1), vd_int (h4.deref g1)], ⟨hj.1, hj.2.1, hj.2.2.1, hj.2.2.2.1⟩, q W1 H1 _ _ x1 g1 its_rng trivial per_true.s (fun _ => per_true) ?_⟩
        unfold rngD
        rw [List.length_map, List.length_range]
        show (j - i).toNat ≤ 16777216
        omega
      · cases hv
    · cases hv
theorem rp_tup_per {ds : List D} {v : V} (h : Rp G W (.tup ds) v) : ∃ p, v = .ref p ∧ ∃ vs, SqT G.K W.F p vs ∧ RpL G W ds vs := by
  obtain ⟨p, vs, e, h1, h2⟩ := h
  exact ⟨p, e, vs, h1, h2⟩
theorem i_zip {elts : List Expr} {kk : Nat} {tpos : Pos} (o : XO G X) (hg : Gl X "zip") (hm : X.mg "zip" = none) (ha : PE X a (tE G C ia)) (hb : PE X b (tE G C ib)) (hs : starEach [a, b] X.env = (false, eval a X.env) :: starEach [b] X.env) (hs2 : starEach [b] X.env = (false, eval b X.env) :: starEach [] X.env)
    (hpl : (backTo pos (starEach [b] X.env)).any (·.1) = false) : PI X (.Tuple elts kk tpos) (.Call (.Name "zip" p) [a, b] [] pos) (tI G C fl (.zip ia ib)) := by
  have hA : PA X [a, b] (fun σ H Q => tEs G C (.cons ia (.cons ib .nil)) σ H fun vs H' => (∀ v ∈ vs, Bnd X.K v H') → Q vs H') :=
    ⟨fun pos pins s σ H Q I q => thn ((a_cons ha (a_cons hb a_nil hs2) hs).run pos pins s σ H _ I q) fun us s' ⟨vs, H', I', r, q'⟩ => ⟨vs, H', I', r, q' fun v _ p vs _ => ⟨fun h => (let ⟨_, _, _, z⟩ := I'.list h; z), fun h => (let ⟨_, _, _, z⟩ := I'.tuple h; z)⟩⟩⟩
  refine (RZ.pi_zipA hg hm hA hs hpl).imp fun σ H R ⟨W, env, st, items, src, st', g, er, hv, q⟩ => ?_
  simp only [evi] at hv
  obtain ⟨x, st1, h1, hv⟩ := Res.bind_ok hv
  obtain ⟨y, st2, h2, hv⟩ := Res.bind_ok hv
  split at hv
  · rename_i xs ys _
    obtain ⟨e1, rfl⟩ := Res.ok_inj hv
    obtain ⟨rfl, rfl⟩ := Prod.mk.inj e1
    refine ⟨W, env, st, [.tup xs, .tup ys], st2, g, er, by simp only [evs, h1, Res.bind, h2], fun W1 H1 vs x1 g1 v1 hbd => ?_⟩
    obtain ⟨v, r, rfl, h3, u, r', rfl, h4, h5⟩ := v1
    rw [show r' = [] from h5] at hbd ⊢
    obtain ⟨pa, vs, rfl, s1, r1⟩ := h3
    obtain ⟨pb, us, rfl, s2, r2⟩ := h4
    refine ⟨pa, pb, vs, us, rfl, .inr ⟨by rw [o.K]; exact sqT_mono g1.fz s1, by rw [o.K]; exact sqT_mono g1.fz s2, ?_⟩⟩
    rw [o.K] at hbd ⊢
    have hpf : PerF G (fun W _ => (∃ vs, SqT G.K W.F pa vs ∧ RpL G W xs vs) ∧ ∃ vs, SqT G.K W.F pb vs ∧ RpL G W ys vs) .none st2 :=
      fun W H W' H' st' ⟨⟨vs, a1, a2⟩, us, a3, a4⟩ xf xr _ _ => ⟨⟨vs, sqT_mono xf a1, RpL.mono (W := W) (W' := W') xf xr _ _ a2⟩, us, sqT_mono xf a3, RpL.mono (W := W) (W' := W') xf xr _ _ a4⟩
    refine q W1 H1 _ (fun W _ => (∃ vs, SqT G.K W.F pa vs ∧ RpL G W xs vs) ∧ ∃ vs, SqT G.K W.F pb vs ∧ RpL G W ys vs) x1 g1 (its_zipT fun W H st ⟨⟨vs, a1, a2⟩, us, a3, a4⟩ g => ⟨⟨vs, sqT_mono g.fz a1, a2⟩, us, sqT_mono g.fz a3, a4⟩) ⟨⟨vs, s1, r1⟩, us, s2, r2⟩
      (PerF.s hpf) (fun _ => hpf) ?_
    rw [List.length_zipWith, r1.len]
    exact Nat.le_trans (Nat.min_le_left _ _) ((hbd _ (List.mem_cons_self) pa vs rfl).2 (sqT_mono g1.fz s1))
  · rename_i xs ys _
    obtain ⟨e1, rfl⟩ := Res.ok_inj hv
    obtain ⟨rfl, rfl⟩ := Prod.mk.inj e1
    refine ⟨W, env, st, [.lst xs, .lst ys], st2, g, er, by simp only [evs, h1, Res.bind, h2], fun W1 H1 vs x1 g1 v1 hbd => ?_⟩
    obtain ⟨v, r, rfl, h3, u, r', rfl, h4, h5⟩ := v1
    rw [show r' = [] from h5] at hbd ⊢
    obtain ⟨pa, vs, rfl, s1, r1⟩ := h3
    obtain ⟨pb, us, rfl, s2, r2⟩ := h4
    refine ⟨pa, pb, vs, us, rfl, .inl ⟨.inl (rd_mono g1.fz s1), .inl (rd_mono g1.fz s2), ?_⟩⟩
    rw [o.K] at hbd ⊢
    have hpf : PerF G (fun W _ => (∃ vs, Rd W.F pa (.lst vs) ∧ RpL G W xs vs) ∧ ∃ vs, Rd W.F pb (.lst vs) ∧ RpL G W ys vs) .none st2 :=
      fun W H W' H' st' ⟨⟨vs, a1, a2⟩, us, a3, a4⟩ xf xr _ _ => ⟨⟨vs, rd_mono xf a1, RpL.mono (W := W) (W' := W') xf xr _ _ a2⟩, us, rd_mono xf a3, RpL.mono (W := W) (W' := W') xf xr _ _ a4⟩
    refine q W1 H1 _ (fun W _ => (∃ vs, Rd W.F pa (.lst vs) ∧ RpL G W xs vs) ∧ ∃ vs, Rd W.F pb (.lst vs) ∧ RpL G W ys vs) x1 g1 (its_zipL fun W H st ⟨⟨vs, a1, a2⟩, us, a3, a4⟩ g => ⟨⟨vs, .inl (rd_mono g.fz a1), a2⟩, us, .inl (rd_mono g.fz a3), a4⟩) ⟨⟨vs, s1, r1⟩, us, s2, r2⟩
      (PerF.s hpf) (fun _ => hpf) ?_
    rw [List.length_zipWith, r1.len]
    exact Nat.le_trans (Nat.min_le_left _ _) ((hbd _ (List.mem_cons_self) pa vs rfl).1 (.inl (rd_mono g1.fz s1)))
  · cases hv
theorem tI_weak {it : II} {σ : L2.St} {H : Hp} {R : It → Hp → Prop} (h : tI G C false it σ H R) : tI G C true it σ H R := by
  obtain ⟨W, env, st, items, src, st', g, er, hv, q⟩ := h
  exact ⟨W, env, st, items, src, st', g, er, hv, fun W' H' J P x g' hJ hP hs _ hl => q W' H' J P x g' hJ hP hs (fun h => nomatch h) hl⟩
end
end Cal
/-! Cal, part J: targets; comprehensions. -/
namespace Cal
open PySem L2 PySem.Spec PyProof.Rows
/-- a target's reading -/
def gT (K : PySem.W.Frag) : List Nat → TG
  | [i] => gName i
  | [i, j] => gTup K 2 (gCons (gName i) (gCons (gName j) gNil))
  | [i, j, l] => gTup K 3 (gCons (gName i) (gCons (gName j) (gCons (gName l) gNil)))
  | _ => fun _ _ _ _ => False
section
variable {G : Gp} {C : CallF} {X : Cx} {W W' : Wd} {H H' : Hp} {st : Sto} {env env' : Env} {σ σ' : L2.St} {a b c e : Expr} {ia ib ic : IE} {pos : Pos}
theorem get_set {α : Type} (l : List α) (i j : Nat) (x : α) : (l.set i x)[j]? = if i = j then (if j < l.length then some x else none) else l[j]? := by
  rw [List.getElem?_set]
  split
  · rename_i e
    subst e
    split <;> rfl
  · rfl
theorem ERel.set {i : Nat} {d : D} {v : V} (er : ERel G W H env σ) (r : Rp G W d v) : ERel G W H (env.set i (.va d)) (σ.set i (some v)) where
  len := by rw [List.length_set, List.length_set]; exact er.len
  sl := fun j s h => by
    rw [get_set] at h ⊢
    split at h
    · rename_i e
      rw [if_pos e]
      split at h
      · rename_i hl
        cases h
        rw [if_pos (by rw [← er.len]; exact hl)]
        exact ⟨v, rfl, r⟩
      · cases h
    · rename_i e
      rw [if_neg e]
      exact er.sl j s h
  ap := fun j l d' e' n h1 h2 => by
    rw [get_set] at h1 h2 ⊢
    rw [get_set]
    split at h1
    · split at h1 <;> cases h1
    · split at h2
      · split at h2 <;> cases h2
      · rename_i n1 n2
        rw [if_neg n1, if_neg n2]
        exact er.ap j l d' e' n h1 h2
/-- the slots outside are as they were -/
def SameBut (tg : List Nat) (σ σ' : L2.St) : Prop := σ'.length = σ.length ∧ ∀ j, j ∉ tg → σ'[j]? = σ[j]?
theorem bind_tg {tg : List Nat} {d : D} {v : V} {Q : L2.St → Hp → Prop} (g : GRel G W H st) (er : ERel G W H env σ) (r : Rp G W d v) (h : bindD tg d env = some env')
    (q : ∀ σ', ERel G W H env' σ' → SameBut tg σ σ' → Q σ' H) : gT G.K tg v σ H Q := by
  match tg, h with
  | [i], h =>
    cases h
    refine q _ (er.set r) ⟨List.length_set, fun j hj => ?_⟩
    rw [get_set, if_neg (fun e => hj (by rw [e]; exact List.mem_cons_self))]
  | [i, j], h =>
    cases d with
    | tup ds =>
      match ds, h with
      | [x, y], h =>
        cases h
        obtain ⟨p, vs, rfl, h1, v1, r1, rfl, h2, v2, r2, rfl, h3, h4⟩ := r
        cases (show r2 = [] from h4)
        refine ⟨p, [v1, v2], rfl, sqT_mono g.fz h1, rfl, v1, [v2], rfl, v2, [], rfl, rfl, q _ ((er.set h2).set h3) ⟨by rw [List.length_set, List.length_set], fun l hl => ?_⟩⟩
        rw [get_set, if_neg (fun e => hl (by rw [e]; exact List.mem_cons_of_mem _ List.mem_cons_self)), get_set, if_neg (fun e => hl (by rw [e]; exact List.mem_cons_self))]
    | _ => cases h
  | [i, j, l], h =>
    cases d with
    | tup ds =>
      match ds, h with
      | [x, y, z], h =>
        cases h
        obtain ⟨p, vs, rfl, h1, v1, r1, rfl, h2, v2, r2, rfl, h3, v3, r3, rfl, h4, h5⟩ := r
        cases (show r3 = [] from h5)
        refine ⟨p, [v1, v2, v3], rfl, sqT_mono g.fz h1, rfl, v1, [v2, v3], rfl, v2, [v3], rfl, v3, [], rfl, rfl, q _ (((er.set h2).set h3).set h4) ⟨by rw [List.length_set, List.length_set, List.length_set], fun m hl => ?_⟩⟩
        rw [get_set, if_neg (fun e => hl (by rw [e]; exact List.mem_cons_of_mem _ (List.mem_cons_of_mem _ List.mem_cons_self))), get_set, if_neg (fun e => hl (by rw [e]; exact List.mem_cons_of_mem _ List.mem_cons_self)), get_set,
          if_neg (fun e => hl (by rw [e]; exact List.mem_cons_self))]
    | _ => cases h
  | [], h => cases h
  | _ :: _ :: _ :: _ :: _, h => cases h
/-! ### the block's own names -/
theorem wipe_get : ∀ (vs : List Nat) (σ : L2.St) (j : Nat), (wipe σ vs)[j]? = if j ∈ vs then (if j < σ.length then some none else none) else σ[j]?
  | [], σ, j => by rw [if_neg (by simp)]; rfl
  | v :: vs, σ, j => by
    show ((wipe σ vs).set v none)[j]? = _
    rw [get_set, wipe_get vs σ j, wipe_length]
    by_cases e : v = j
    · subst e
      rw [if_pos rfl, if_pos List.mem_cons_self]
    · rw [if_neg e]
      by_cases h : j ∈ vs
      · rw [if_pos h, if_pos (List.mem_cons_of_mem _ h)]
      · rw [if_neg h, if_neg (fun z => by rcases List.mem_cons.mp z with z | z; exact e z.symm; exact h z)]
theorem wipeD_len : ∀ (vs : List Nat) (env : Env), (wipeD env vs).length = env.length
  | [], _ => rfl
  | v :: vs, env => by
    show ((wipeD env vs).set v .un).length = _
    rw [List.length_set, wipeD_len vs env]
theorem wipeD_get : ∀ (vs : List Nat) (env : Env) (j : Nat), (wipeD env vs)[j]? = if j ∈ vs then (if j < env.length then some .un else none) else env[j]?
  | [], env, j => by rw [if_neg (by simp)]; rfl
  | v :: vs, env, j => by
    show ((wipeD env vs).set v .un)[j]? = _
    rw [get_set, wipeD_get vs env j, wipeD_len]
    by_cases e : v = j
    · subst e
      rw [if_pos rfl, if_pos List.mem_cons_self]
    · rw [if_neg e]
      by_cases h : j ∈ vs
      · rw [if_pos h, if_pos (List.mem_cons_of_mem _ h)]
      · rw [if_neg h, if_neg (fun z => by rcases List.mem_cons.mp z with z | z; exact e z.symm; exact h z)]
theorem ERel.wipe (vs : List Nat) (er : ERel G W H env σ) : ERel G W H (wipeD env vs) (L2.wipe σ vs) where
  len := by rw [wipeD_len, L2.wipe_length]; exact er.len
  sl := fun j s h => by
    rw [wipeD_get] at h
    rw [wipe_get]
    split at h
    · rename_i hj
      rw [if_pos hj]
      split at h
      · cases h
        trivial
      · cases h
    · rename_i hj
      rw [if_neg hj]
      exact er.sl j s h
  ap := fun j l d' e' n h1 h2 => by
    rw [wipeD_get] at h1 h2
    rw [wipe_get, wipe_get]
    split at h1
    · split at h1 <;> cases h1
    · split at h2
      · split at h2 <;> cases h2
      · rename_i n1 n2
        rw [if_neg n1, if_neg n2]
        exact er.ap j l d' e' n h1 h2
theorem wipe_same {tg vs : List Nat} (s : SameBut tg (wipe σ vs) σ') (hs : ∀ i ∈ tg, i ∈ vs) : wipe σ' vs = wipe σ vs := by
  apply List.ext_getElem?
  intro j
  rw [wipe_get]
  have hl : σ'.length = σ.length := by rw [s.1, L2.wipe_length]
  by_cases h : j ∈ vs
  · rw [if_pos h, wipe_get, if_pos h, hl]
  · rw [if_neg h]
    exact s.2 j fun z => h (hs j z)
/-! ### the comprehension -/
theorem same_refl {src : Src} : sameAt src st st = true := by
  cases src with
  | none => rfl
  | loc n =>
    unfold sameAt
    exact if_pos rfl
theorem Ext.updNew {p : Addr} {o : HO} (x : Ext W H W' H') (hp : H p = none) : Ext W H W' (upd H' p o) where
  f := x.f
  fn := x.fn
  r := x.r
  rn := x.rn
  keep := fun a u h hn => by
    rw [upd_ne (ne_of_none h hp)]
    exact x.keep a u h hn
  dom := fun a u h => by
    rw [upd_ne (ne_of_none h hp)]
    exact x.dom a u h
/-- a thing that no data of ours lean on is written -/
theorem GRel.upd {p : Addr} {o : HO} (g : GRel G W H st) (hf : W.F p = none) (hr : ∀ n i, W.ρ n i ≠ some p) : GRel G W (upd H p o) st where
  fz := fun a u h => by
    rw [upd_ne (ne_of_none h hf)]
    exact g.fz a u h
  ob := fun n q hq => (g.ob n q hq).keep fun a u i h e => by
    rw [upd_ne (fun z => hr n i (by rw [← z]; exact h))]
    exact e
  inj := g.inj
  dis := g.dis
  bd := g.bd
  tr := fun n i a h => by
    obtain ⟨u, e⟩ := g.tr n i a h
    exact ⟨u, by rw [upd_ne (fun z => hr n i (by rw [← z]; exact h))]; exact e⟩
theorem rd_lst {ds : List D} {p : Addr} (h : RC G W H (.lst ds) p) : ∃ vs, H p = some (.lst vs) ∧ RpL G W ds vs := h
theorem comp_ok {tg own : List Nat} {it : II} {wi : L2.TI} (hs : ∀ i ∈ tg, i ∈ own) {σ : L2.St} {H : Hp} {Q : VK} (hwi : ∀ σ H R, tI G C false it σ H R → wi σ H R) (h : tN G C (.comp it tg ic ia own) σ H Q) :
    tLc wi (gT G.K tg) (tT G C ic) (tE G C ia) own σ H Q := by
  obtain ⟨W, env, st, d, st', g, er, hv, q⟩ := h
  simp only [ev] at hv
  obtain ⟨⟨items, src⟩, st1, h1, hv⟩ := Res.bind_ok hv
  obtain ⟨acc, st2, h2, hv⟩ := Res.bind_ok hv
  obtain ⟨rfl, rfl⟩ := Res.ok_inj hv
  refine hwi _ _ _ ⟨W, env, st, items, src, st1, g, er, h1, fun W1 H1 J P x1 g1 hJ hP hper _ hlen D hD => ?_⟩
  have er1 := er.ext x1
  obtain ⟨fD, rD⟩ := g1.off hD
  refine ⟨fun i m H' => m = items.length - i ∧ i ≤ items.length ∧ ∃ W' stc a, Ext W1 H1 W' H' ∧ GRel G W' H' stc ∧ sameAt src st1 stc = true ∧ RC G W' H' (.lst a) D ∧ a.length ≤ i ∧ W'.F D = none ∧ (∀ n j, W'.ρ n j ≠ some D) ∧
    compGo (ev C ic) (ev C ia) (sameAt src st1) tg (wipeD env own) (items.drop i) stc a = .ok acc st2, ⟨items.length, ?_⟩, ?_⟩
  · obtain ⟨x2, g2⟩ := g1.alloc (o := .lst []) hD
    exact ⟨by omega, Nat.zero_le _, W1, st1, [], x2, g2, same_refl, ⟨[], upd_same, rfl⟩, Nat.le_refl _, fD, rD, h2⟩
  · rintro i m H' ⟨rfl, hi, W', stc, av, x2, g2, hsm, hr, hal, fD', rD', hgo⟩
    have hP2 : P W' H' := hper W1 H1 W' H' stc hP x2 g2 hsm
    by_cases hlt : i < items.length
    · refine .inr ⟨hJ.go i W' H' stc hlt hP2 g2, fun H' => i + 1 ≤ items.length ∧ ∃ W' stc a, Ext W1 H1 W' H' ∧ GRel G W' H' stc ∧ sameAt src st1 stc = true ∧ RC G W' H' (.lst a) D ∧ a.length ≤ i + 1 ∧ W'.F D = none ∧ (∀ n j, W'.ρ n j ≠ some D) ∧
        compGo (ev C ic) (ev C ia) (sameAt src st1) tg (wipeD env own) (items.drop (i + 1)) stc a = .ok acc st2, fun H' hN => ⟨items.length - (i + 1), by omega, rfl, hN⟩, fun x H'' hy => ?_⟩
      obtain ⟨dx, W3, hx, x3, g3, r3⟩ := hJ.yl i W' H' stc x H'' hlt hP2 g2 hy
      have hdrop : items.drop i = dx :: items.drop (i + 1) := by
        rw [List.drop_eq_getElem_cons hlt]
        congr 1
        exact Option.some.inj ((List.getElem?_eq_getElem hlt).symm.trans hx)
      rw [hdrop] at hgo
      unfold compGo at hgo
      split at hgo
      · cases hgo
      · rename_i env' he
        obtain ⟨cb, st3, hc, hgo⟩ := Res.bind_ok hgo
        have x13 := x2.trans x3
        obtain ⟨hr3, fD3, rD3⟩ := own_ext x3 hr fD' rD'
        refine bind_tg g3 ((er1.ext x13).wipe own) r3 he fun σ2 er2 sb => ⟨wipe_same sb hs, ?_⟩
        split at hgo
        · rename_i ht
          obtain ⟨y, st4, hy', hgo⟩ := Res.bind_ok hgo
          split at hgo
          · rename_i hck
            refine ⟨W3, env', stc, cb, st3, true, g3, er2, hc, ht, fun W4 H4 x4 g4 => ?_⟩
            refine iteT ?_
            refine ⟨W4, env', st3, y, st4, g4, er2.ext x4, hy', fun W5 H5 v x5 g5 r5 => ?_⟩
            obtain ⟨hr5, fD5, rD5⟩ := own_ext (x4.trans x5) hr3 fD3 rD3
            obtain ⟨vs, hH5, hrl⟩ := rd_lst hr5
            have hl := hrl.len
            refine ⟨vs, hH5, by show vs.length < 16777216; have : items.length ≤ 16777216 := hlen; omega, by omega, W5, st4, av ++ [y], ((x13.trans x4).trans x5).updNew hD, g5.upd fD5 rD5, hck, ⟨vs ++ [v], upd_same, hrl.append ⟨v, [], rfl, r5, rfl⟩⟩, ?_, fD5, rD5, hgo⟩
            rw [List.length_append]
            show av.length + 1 ≤ i + 1
            omega
          · cases hgo
        · rename_i ht
          split at hgo
          · rename_i hck
            refine ⟨W3, env', stc, cb, st3, false, g3, er2, hc, ht, fun W4 H4 x4 g4 => ?_⟩
            refine iteF ?_
            obtain ⟨hr5, fD5, rD5⟩ := own_ext x4 hr3 fD3 rD3
            exact ⟨by omega, W4, st3, av, x13.trans x4, g4, hck, hr5, by omega, fD5, rD5, hgo⟩
          · cases hgo
        · cases hgo
    · refine .inl ⟨hJ.stop i W' H' stc (by omega) hP2 g2, ?_⟩
      have e0 : items.drop i = [] := List.drop_eq_nil_of_le (by omega)
      rw [e0] at hgo
      unfold compGo at hgo
      obtain ⟨rfl, rfl⟩ := Res.ok_inj hgo
      exact q W' H' (.ref D) (x1.trans x2) g2 ⟨D, rfl, hr, fD', rD', x1.none_of hD⟩
end
end Cal
/-! Cal, part K: statements. -/
namespace Cal
open PySem L2 PySem.Spec PyProof.Rows
/-- the lists of slots alone are younger than the entry -/
def OwnF (H0 : Hp) (env : Env) (σ : L2.St) : Prop := ∀ (i : Nat) d, env[i]? = some (.ow d) → ∃ a, σ[i]? = some (some (.ref a)) ∧ H0 a = none
structure SRel (G : Gp) (W0 : Wd) (H0 : Hp) (W : Wd) (H : Hp) (st : Sto) (env : Env) (σ : L2.St) : Prop where
  x : Ext W0 H0 W H
  g : GRel G W H st
  e : ERel G W H env σ
  o : OwnF H0 env σ
def PostS (G : Gp) (W0 : Wd) (H0 : Hp) (Z : Ends) (r : ResS) : Prop :=
  match r with
  | .nx env st => ∀ W H σ, SRel G W0 H0 W H st env σ → Z.nx σ H
  | .rt d st => ∀ W H v, Ext W0 H0 W H → GRel G W H st → Rp G W d v → Z.rt v H
  | .bk env st => ∀ W H σ, SRel G W0 H0 W H st env σ → Z.bk σ H
  | .ct env st => ∀ W H σ, SRel G W0 H0 W H st env σ → Z.ct σ H
  | .bad => False
section
variable (G : Gp) (C : CallF)
def tS (s : IS) : TS := fun Z σ H => ∃ W0 H0 W env st, SRel G W0 H0 W H st env σ ∧ PostS G W0 H0 Z (exec C s env st)
def tSs (s : ISs) : TS := fun Z σ H => ∃ W0 H0 W env st, SRel G W0 H0 W H st env σ ∧ PostS G W0 H0 Z (execs C s env st)
end
theorem _root_.L2.PS.imp {X : Cx} {e : Stmt} {t t' : TS} (h : PS X e t) (i : ∀ D σ H, t' D σ H → t D σ H) : PS X e t' := ⟨fun pins s σ H D I q => h.run pins s σ H D I (i D σ H q)⟩
theorem _root_.L2.PSs.imp {X : Cx} {e : List Stmt} {t t' : TS} (h : PSs X e t) (i : ∀ D σ H, t' D σ H → t D σ H) : PSs X e t' := ⟨fun pins s σ H D I q => h.run pins s σ H D I (i D σ H q)⟩
section
variable {G : Gp} {C : CallF} {W0 : Wd} {H0 : Hp} {X : Cx} {W W' : Wd} {H H' : Hp} {st st' : Sto} {env env' : Env} {σ σ' : L2.St} {a b c e : Expr} {ia ib ic : IE} {pos : Pos} {s : Stmt} {rest : List Stmt} {is : IS} {irest : ISs} {Z : Ends}
theorem go_post {α : Type} {r : Res α} {f : α → Sto → ResS} (h : PostS G W0 H0 Z (r.go f)) : ∃ x t, r = .ok x t ∧ PostS G W0 H0 Z (f x t) := by
  cases r with
  | ok x t => exact ⟨x, t, rfl, h⟩
  | bad => exact h.elim
theorem liftS_post {α : Type} {o : Option α} {f : α → ResS} (h : PostS G W0 H0 Z (liftS o f)) : ∃ x, o = some x ∧ PostS G W0 H0 Z (f x) := by
  cases o with
  | some x => exact ⟨x, rfl, h⟩
  | none => exact h.elim
theorem SRel.ext (r : SRel G W0 H0 W H st env σ) (x : Ext W H W' H') (g : GRel G W' H' st') : SRel G W0 H0 W' H' st' env σ := ⟨r.x.trans x, g, r.e.ext x, r.o⟩
theorem OwnF.set {i : Nat} {d : D} {v : V} (o : OwnF H0 env σ) : OwnF H0 (env.set i (.va d)) (σ.set i (some v)) := fun j d' h => by
  rw [get_set] at h ⊢
  split at h
  · split at h <;> cases h
  · rename_i n
    rw [if_neg n]
    exact o j d' h
theorem SRel.set {i : Nat} {d : D} {v : V} (r : SRel G W0 H0 W H st env σ) (h : Rp G W d v) : SRel G W0 H0 W H st (env.set i (.va d)) (σ.set i (some v)) := ⟨r.x, r.g, r.e.set h, r.o.set⟩
/-! ### blocks -/
theorem ss_nil : PSs X [] (tSs G C .nil) := pss_nil.imp fun Z σ H ⟨W0, H0, W, env, st, r, h⟩ => by
  simp only [execs] at h
  exact h W H σ r
theorem ss_cons (h1 : PS X s (tS G C is)) (h2 : PSs X rest (tSs G C irest)) : PSs X (s :: rest) (tSs G C (.cons is irest)) := (pss_cons h1 h2).imp fun Z σ H ⟨W0, H0, W, env, st, r, h⟩ => by
  refine ⟨W0, H0, W, env, st, r, ?_⟩
  simp only [execs] at h
  split at h
  · rename_i env1 st1 he
    rw [he]
    exact fun W' H' σ' r' => ⟨W0, H0, W', env1, st1, r', h⟩
  · rename_i n
    generalize exec C is env st = z at h n ⊢
    cases z with
    | nx env1 st1 => exact (n _ _ rfl).elim
    | rt d st1 => exact h
    | bk env1 st1 => exact h
    | ct env1 st1 => exact h
    | bad => exact h
theorem s_pass : PS X (.Pass pos) (tS G C .pass) := ps_pass.imp fun Z σ H ⟨W0, H0, W, env, st, r, h⟩ => by
  simp only [exec] at h
  exact h W H σ r
theorem s_brk : PS X (.Break pos) (tS G C .brk) := ps_break.imp fun Z σ H ⟨W0, H0, W, env, st, r, h⟩ => by
  simp only [exec] at h
  exact h W H σ r
theorem s_cont : PS X (.Continue pos) (tS G C .cont) := ps_continue.imp fun Z σ H ⟨W0, H0, W, env, st, r, h⟩ => by
  simp only [exec] at h
  exact h W H σ r
theorem s_ex (he : PE X e (tV G C ia)) (hs : swapsWith e none pos.line X.env = pure false) : PS X (.Expr e pos) (tS G C (.ex ia)) := (ps_expr he hs).imp fun Z σ H ⟨W0, H0, W, env, st, r, h⟩ => by
  simp only [exec] at h
  obtain ⟨x, st1, h1, h⟩ := go_post h
  exact ⟨W, env, st, x, st1, r.g, r.e, h1, fun W1 H1 v x1 g1 _ => h W1 H1 σ (r.ext x1 g1)⟩
theorem s_ret (he : PE X e (tE G C ia)) : PS X (.Return (some e) pos) (tS G C (.ret ia)) := (ps_ret he).imp fun Z σ H ⟨W0, H0, W, env, st, r, h⟩ => by
  simp only [exec] at h
  obtain ⟨x, st1, h1, h⟩ := go_post h
  exact ⟨W, env, st, x, st1, r.g, r.e, h1, fun W1 H1 v x1 g1 v1 => h W1 H1 v (r.x.trans x1) g1 v1⟩
theorem s_retN : PS X (.Return none pos) (tS G C .retn) := ps_retN.imp fun Z σ H ⟨W0, H0, W, env, st, r, h⟩ => by
  simp only [exec] at h
  exact h W H .non r.x r.g rfl
/-- a list of a slot's own is handed back -/
theorem s_retw {i : Nat} {x : Str} {p : Pos} (hN : X.N[i]? = some x) (hv : Vis X.env.scope x) (hd : (x == ("__debug__" : Str)) = false) (hc : (x == ("__classdict__" : Str)) = false) : PS X (.Return (some (.Name x p)) pos) (tS G C (.ret (.w i))) :=
  (ps_ret (pe_var hN hv hd hc)).imp fun Z σ H ⟨W0, H0, W, env, st, r, h⟩ => by
    simp only [exec, ev] at h
    split at h
    · rename_i d he
      obtain ⟨v, e1, r1⟩ := r.e.sl i _ he
      exact ⟨v, e1, h W H v r.x r.g r1⟩
    · rename_i d he
      obtain ⟨a, e1, r1, r2, r3⟩ := r.e.sl i _ he
      obtain ⟨a', e2, ha⟩ := r.o i d he
      rw [e1] at e2
      cases e2
      have h : PostS G W0 H0 Z (.rt d st) := h
      unfold RC at r1
      split at r1
      · rename_i ds
        obtain ⟨vs, h3, h4⟩ := r1
        refine ⟨.ref a, e1, h (W.frz a (.lst vs)) H _ (r.x.freeze ha r2) (r.g.freeze h3 r2 r3) ⟨a, vs, rfl, .inl upd_same, RpL.mono (W := W) (W' := W.frz a (.lst vs)) (fun b u q => ?_) (fun _ _ _ h => h) _ _ h4⟩⟩
        show upd W.F a _ b = some u
        rw [upd_ne (ne_of_none q r2)]
        exact q
      · exact r1.elim
    · exact h.elim
/-! ### assignments -/
theorem tE_tN {Q : VK} (h : tE G C ia σ H Q) : tN G C ia σ H Q := by
  obtain ⟨W, env, st, d, st', g, r, hv, q⟩ := h
  exact ⟨W, env, st, d, st', g, r, hv, fun W' H' v x g' n => by
    obtain ⟨W'', x', g'', r'⟩ := n.freeze g' x
    exact q W'' H' v x' g'' r'⟩
theorem s_set {i : Nat} {te : TE} (h : PS X s (tAsg te (gName i))) (hi : ∀ σ H Q, tE G C ia σ H Q → te σ H Q) : PS X s (tS G C (.set i ia)) := h.imp fun Z σ H ⟨W0, H0, W, env, st, r, h⟩ => by
  simp only [exec] at h
  obtain ⟨x, st1, h1, h⟩ := go_post h
  exact hi _ _ _ ⟨W, env, st, x, st1, r.g, r.e, h1, fun W1 H1 v x1 g1 v1 => h W1 H1 _ ((r.ext x1 g1).set v1)⟩
theorem SRel.setOwn {i : Nat} {d : D} {v : V} (r : SRel G W0 H0 W H st env σ) (x : Ext W H W' H') (g : GRel G W' H' st') (n : Fresh G H W' H' d v) : SRel G W0 H0 W' H' st' (env.set i (.ow d)) (σ.set i (some v)) := by
  have r' := r.ext x g
  obtain ⟨p, rfl, h1, h2, h3, h4⟩ := n
  have apart : ∀ (j : Nat) e, env[j]? = some (.ow e) → σ[j]? ≠ some (some (.ref p)) := fun j e he hq => by
    obtain ⟨q, e1, c, _⟩ := r.e.sl j _ he
    rw [hq] at e1
    cases e1
    obtain ⟨o, ho⟩ := c.there
    rw [h4] at ho
    cases ho
  refine ⟨r'.x, g, ⟨by rw [List.length_set, List.length_set]; exact r.e.len, fun j s h => ?_, fun j l d' e' hn a1 a2 => ?_⟩, fun j d' h => ?_⟩
  · rw [get_set] at h ⊢
    split at h
    · rename_i e
      rw [if_pos e]
      split at h
      · rename_i hl
        cases h
        rw [if_pos (by rw [← r.e.len]; exact hl)]
        exact ⟨p, rfl, h1, h2, h3⟩
      · cases h
    · rename_i e
      rw [if_neg e]
      exact r'.e.sl j s h
  · rw [get_set] at a1 a2
    rw [get_set, get_set]
    by_cases ej : i = j
    · by_cases el : i = l
      · exact (hn (ej.symm.trans el)).elim
      · rw [if_neg el] at a2 ⊢
        rw [if_pos ej] at a1 ⊢
        split at a1
        · rename_i hl
          rw [if_pos (by rw [← r.e.len]; exact hl)]
          exact fun q => apart l e' a2 q.symm
        · cases a1
    · rw [if_neg ej] at a1 ⊢
      by_cases el : i = l
      · rw [if_pos el] at a2 ⊢
        split at a2
        · rename_i hl
          rw [if_pos (by rw [← r.e.len]; exact hl)]
          exact fun q => apart j d' a1 q
        · cases a2
      · rw [if_neg el] at a2 ⊢
        exact r.e.ap j l d' e' hn a1 a2
  · rw [get_set] at h ⊢
    split at h
    · rename_i e
      rw [if_pos e]
      split at h
      · rename_i hl
        rw [if_pos (by rw [← r.e.len]; exact hl)]
        exact ⟨p, rfl, r.x.none_of h4⟩
      · cases h
    · rename_i e
      rw [if_neg e]
      exact r.o j d' h
theorem s_setf {i : Nat} {te : TE} (h : PS X s (tAsg te (gName i))) (hi : ∀ σ H Q, tN G C ia σ H Q → te σ H Q) : PS X s (tS G C (.setf i ia)) := h.imp fun Z σ H ⟨W0, H0, W, env, st, r, h⟩ => by
  simp only [exec] at h
  obtain ⟨x, st1, h1, h⟩ := go_post h
  split at h
  · rename_i ds
    exact hi _ _ _ ⟨W, env, st, _, st1, r.g, r.e, h1, fun W1 H1 v x1 g1 v1 => h W1 H1 _ (r.setOwn x1 g1 v1)⟩
  · exact h.elim
/-- a new thing of the store -/
theorem SRel.newLoc {d : D} {v : V} (r : SRel G W0 H0 W H st env σ) (x : Ext W H W' H') (g : GRel G W' H' st') (n : Fresh G H W' H' d v) : ∃ W'', SRel G W0 H0 W'' H' (st' ++ [.cell d]) env σ ∧ Rp G W'' (.loc st'.length) v := by
  obtain ⟨p, rfl, h1, h2, h3, h4⟩ := n
  let W2 : Wd := ⟨W'.F, fun m j => if m = st'.length ∧ j = 0 then some p else W'.ρ m j⟩
  have hr : ∀ m j q, W'.ρ m j = some q → W2.ρ m j = some q := fun m j q h => by
    show (if m = st'.length ∧ j = 0 then some p else W'.ρ m j) = some q
    rw [if_neg (fun z => by have := g.bd m j q h; omega)]
    exact h
  have hr2 : ∀ m j q, W2.ρ m j = some q → W'.ρ m j = some q ∨ (m = st'.length ∧ j = 0 ∧ q = p) := fun m j q h => by
    have h : (if m = st'.length ∧ j = 0 then some p else W'.ρ m j) = some q := h
    split at h
    · rename_i z
      cases h
      exact .inr ⟨z.1, z.2, rfl⟩
    · exact .inl h
  have mono : ∀ {d : D} {v : V}, Rp G W' d v → Rp G W2 d v := fun h => Rp.mono (W := W') (W' := W2) (fun _ _ h => h) hr _ _ h
  have monoL : ∀ {d : List D} {v : List V}, RpL G W' d v → RpL G W2 d v := fun h => RpL.mono (W := W') (W' := W2) (fun _ _ h => h) hr _ _ h
  have monoC : ∀ {d : D} {q : Addr}, RC G W' H' d q → RC G W2 H' d q := fun h => by
    unfold RC at h ⊢
    split at h
    · obtain ⟨vs, a1, a2⟩ := h
      exact ⟨vs, a1, monoL a2⟩
    · exact h.elim
  have x2 : Ext W H W2 H' := ⟨x.f, x.fn, fun m j q h => hr m j q (x.r m j q h), fun m j q h => by
    rcases hr2 m j q h with h | ⟨_, _, rfl⟩
    · exact x.rn m j q h
    · exact .inr h4, x.keep, x.dom⟩
  have g2 : GRel G W2 H' (st' ++ [.cell d]) := by
    refine ⟨g.fz, fun m o h => ?_, fun m j m' j' q h h' => ?_, fun m j q h => ?_, fun m j q h => ?_, fun m j q h => ?_⟩
    · rw [List.getElem?_append] at h
      split at h
      · have z := g.ob m o h
        unfold RO at z ⊢
        split at z
        · obtain ⟨q, a1, a2⟩ := z
          exact ⟨q, hr _ _ _ a1, monoC a2⟩
        · exact z.elim
      · rename_i hm
        cases hk : m - st'.length with
        | zero =>
          rw [hk] at h
          cases h
          refine ⟨p, ?_, monoC h1⟩
          show (if m = st'.length ∧ 0 = 0 then some p else W'.ρ m 0) = some p
          rw [if_pos ⟨by omega, rfl⟩]
        | succ k => rw [hk] at h; cases h
    · rcases hr2 m j q h with k | ⟨k1, k2, k3⟩
      · rcases hr2 m' j' q h' with k' | ⟨_, _, k3'⟩
        · exact g.inj m j m' j' q k k'
        · exact (h3 m j (by rw [← k3']; exact k)).elim
      · rcases hr2 m' j' q h' with k' | ⟨k1', k2', _⟩
        · exact (h3 m' j' (by rw [← k3]; exact k')).elim
        · exact ⟨k1.trans k1'.symm, k2.trans k2'.symm⟩
    · rcases hr2 m j q h with h | ⟨rfl, rfl, rfl⟩
      · exact g.dis m j q h
      · exact h2
    · rw [List.length_append]
      rcases hr2 m j q h with h | ⟨rfl, rfl, rfl⟩
      · have := g.bd m j q h
        omega
      · show st'.length < st'.length + 1
        omega
    · rcases hr2 m j q h with h | ⟨rfl, rfl, rfl⟩
      · exact g.tr m j q h
      · exact h1.there
  refine ⟨W2, r.ext x2 g2, p, rfl, ?_⟩
  show (if st'.length = st'.length ∧ 0 = 0 then some p else W'.ρ _ 0) = some p
  rw [if_pos ⟨rfl, rfl⟩]
theorem s_setl {i : Nat} {te : TE} (h : PS X s (tAsg te (gName i))) (hi : ∀ σ H Q, tN G C ia σ H Q → te σ H Q) : PS X s (tS G C (.setl i ia)) := h.imp fun Z σ H ⟨W0, H0, W, env, st, r, h⟩ => by
  simp only [exec] at h
  obtain ⟨x, st1, h1, h⟩ := go_post h
  split at h
  · rename_i ds
    refine hi _ _ _ ⟨W, env, st, _, st1, r.g, r.e, h1, fun W1 H1 v x1 g1 v1 => ?_⟩
    obtain ⟨W2, r2, v2⟩ := r.newLoc x1 g1 v1
    exact h W2 H1 _ (r2.set v2)
  · exact h.elim
/-! ### if -/
theorem s_ifs {p q : List Stmt} {ip iq : ISs} (hc : PT X c (tT G C ic)) (hp : PSs X p (tSs G C ip)) (hq : PSs X q (tSs G C iq)) : PS X (.If c p q pos) (tS G C (.ifs ic ip iq)) := (ps_if hc hp hq).imp fun Z σ H ⟨W0, H0, W, env, st, r, h⟩ => by
  simp only [exec] at h
  obtain ⟨x, st1, h1, h⟩ := go_post h
  obtain ⟨t, h2, h⟩ := liftS_post h
  refine ⟨W, env, st, x, st1, t, r.g, r.e, h1, h2, fun W1 H1 x1 g1 => ?_⟩
  cases t with
  | true =>
    refine iteT ?_
    exact ⟨W0, H0, W1, env, st1, r.ext x1 g1, h⟩
  | false =>
    refine iteF ?_
    exact ⟨W0, H0, W1, env, st1, r.ext x1 g1, h⟩
end
end Cal
/-! Cal, part L: more statements: unpacking, op=, stores, append, while, for. -/
namespace Cal
open PySem L2 PySem.Spec PyProof.Rows
section
variable {G : Gp} {C : CallF} {W0 : Wd} {H0 : Hp} {X : Cx} {W W' : Wd} {H H' : Hp} {st st' : Sto} {env env' : Env} {σ σ' : L2.St} {a b c e : Expr} {ia ib ic : IE} {pos : Pos} {s : Stmt} {rest : List Stmt} {is : IS} {irest : ISs} {Z : Ends}
theorem bind_env {tg : List Nat} {d : D} (h : bindD tg d env = some env') : ∀ (j : Nat) e, env'[j]? = some (.ow e) → j ∉ tg ∧ env[j]? = some (.ow e) := by
  have one : ∀ (env : Env) (i : Nat) (x : D) (j : Nat) (e : D), (env.set i (.va x))[j]? = some (.ow e) → j ≠ i ∧ env[j]? = some (.ow e) := fun env i x j e h => by
    rw [get_set] at h
    split at h
    · split at h <;> cases h
    · rename_i n
      exact ⟨fun z => n z.symm, h⟩
  intro j e hj
  match tg, h with
  | [i], h =>
    cases h
    obtain ⟨h1, h2⟩ := one _ _ _ _ _ hj
    exact ⟨by simpa using h1, h2⟩
  | [i, k], h =>
    cases d with
    | tup ds =>
      match ds, h with
      | [x, y], h =>
        cases h
        obtain ⟨h1, h2⟩ := one _ _ _ _ _ hj
        obtain ⟨h3, h4⟩ := one _ _ _ _ _ h2
        exact ⟨by simp [h1, h3], h4⟩
    | _ => cases h
  | [i, k, l], h =>
    cases d with
    | tup ds =>
      match ds, h with
      | [x, y, z], h =>
        cases h
        obtain ⟨h1, h2⟩ := one _ _ _ _ _ hj
        obtain ⟨h3, h4⟩ := one _ _ _ _ _ h2
        obtain ⟨h5, h6⟩ := one _ _ _ _ _ h4
        exact ⟨by simp [h1, h3, h5], h6⟩
    | _ => cases h
  | [], h => cases h
  | _ :: _ :: _ :: _ :: _, h => cases h
theorem SRel.bind {tg : List Nat} {d : D} (r : SRel G W0 H0 W H st env σ) (h : bindD tg d env = some env') (e : ERel G W H env' σ') (sb : SameBut tg σ σ') : SRel G W0 H0 W H st env' σ' :=
  ⟨r.x, r.g, e, fun j d' hj => by
    obtain ⟨h1, h2⟩ := bind_env h j d' hj
    rw [sb.2 j h1]
    exact r.o j d' h2⟩
/-- a, b = e -/
theorem s_unp {tg : List Nat} {te : TE} (h : PS X s (tAsg te (gT G.K tg))) (hi : ∀ σ H Q, tE G C ia σ H Q → te σ H Q) : PS X s (tS G C (.unp tg ia)) := h.imp fun Z σ H ⟨W0, H0, W, env, st, r, h⟩ => by
  simp only [exec] at h
  obtain ⟨x, st1, h1, h⟩ := go_post h
  obtain ⟨env', h2, h⟩ := liftS_post h
  refine hi _ _ _ ⟨W, env, st, x, st1, r.g, r.e, h1, fun W1 H1 v x1 g1 v1 => ?_⟩
  exact bind_tg g1 (r.e.ext x1) v1 h2 fun σ' e' sb => h W1 H1 σ' ((r.ext x1 g1).bind h2 e' sb)
/-! ### op= -/
def rAug (G : Gp) (op : BO) : TIp := fun x y H Q => ∃ W st d e z, GRel G W H st ∧ Rp G W d x ∧ Vd G W H e y ∧ augD op d e = some z ∧ ∀ v, Rp G W z v → Q v H
theorem ip_aug (op : BO) : PIp X (bop op) (rAug G op) := by
  intro pins s σ H x y v u Q I rx ry ⟨W, st, d, e, z, g, rd, ve, hz, q⟩
  cases op with
  | add =>
    simp only [augD] at hz
    split at hz
    · rename_i i j
      cases hz
      exact iop_add pins s σ H x y v u Q I rx ry ⟨i, j, rd, vd_int ve, q _ rfl⟩
    · rename_i a b
      split at hz
      · rename_i hl
        cases hz
        refine iop_add_str pins s σ H x y v u Q I rx ry ⟨toS a, toS b, rd.1, (vd_str ve).1, ?_, ?_⟩
        · rw [toS_len, toS_len]
          exact hl
        · rw [toS_app]
          exact q _ ⟨rfl, by rw [List.length_append]; exact hl⟩
      · cases hz
    · cases hz
  | sub =>
    simp only [augD] at hz
    split at hz
    · rename_i i j
      cases hz
      exact iop_sub pins s σ H x y v u Q I rx ry ⟨i, j, rd, vd_int ve, q _ rfl⟩
    · cases hz
  | _ => cases hz
theorem vw_vd_flat {op : BO} {d e z : D} {v : V} (h : Rp G W e v) : Vd G W H e v := .inl h
theorem s_aug {i : Nat} {x : Str} {op : BO} {p : Pos} (hN : X.N.Nodup) (hi : X.N[i]? = some x) (hx : Loc X.env.scope x) (hf : X.fn x = true ∨ X.env.scope.names.lookup x = some .local) (he : PE X e (tE G C ia)) : PS X (.AugAssign (.Name x p) (bop op) e pos) (tS G C (.aug i op ia)) :=
  (ps_aug hN hi hx he (ip_aug op) hf).imp fun Z σ H ⟨W0, H0, W, env, st, r, h⟩ => by
    simp only [exec] at h
    split at h
    · rename_i d hd
      obtain ⟨y, st1, h1, h⟩ := go_post h
      obtain ⟨z, h2, h⟩ := liftS_post h
      obtain ⟨v, e1, r1⟩ := r.e.sl i _ hd
      refine ⟨v, e1, W, env, st, y, st1, r.g, r.e, h1, fun W1 H1 u x1 g1 v1 => ⟨W1, st1, d, y, z, g1, r1.ext x1, .inl v1, h2, fun w rw' => h W1 H1 _ ((r.ext x1 g1).set rw')⟩⟩
    · exact h.elim
/-! ### stores into lists -/
theorem SRel.write {i : Nat} {p : Addr} {d d' : D} {vs : List V} {ds : List D} (r : SRel G W0 H0 W H st env σ) (hi : env[i]? = some (.ow d)) (hp : σ[i]? = some (some (.ref p))) (rl : RpL G W ds vs) :
    SRel G W0 H0 W (upd H p (.lst vs)) st (env.set i (.ow (.lst ds))) σ := by
  obtain ⟨q, e1, c, f1, f2⟩ := r.e.sl i _ hi
  rw [hp] at e1
  cases e1
  obtain ⟨q, e2, h0⟩ := r.o i d hi
  rw [hp] at e2
  cases e2
  refine ⟨r.x.updNew h0, r.g.upd f1 f2, ⟨by rw [List.length_set]; exact r.e.len, fun j s h => ?_, fun j l d1 d2 n a1 a2 => ?_⟩, fun j d1 h => ?_⟩
  · rw [get_set] at h
    split at h
    · rename_i e
      subst e
      split at h
      · cases h
        exact ⟨p, hp, ⟨vs, upd_same, rl⟩, f1, f2⟩
      · cases h
    · rename_i n
      have z := r.e.sl j s h
      cases s with
      | un => trivial
      | va d1 => exact z
      | ow d1 =>
        obtain ⟨q, e1, c1, f3, f4⟩ := z
        have ne : q ≠ p := fun e => by
          subst e
          exact r.e.ap i j _ _ n hi h (by rw [hp, e1])
        refine ⟨q, e1, ?_, f3, f4⟩
        unfold RC at c1 ⊢
        split at c1
        · obtain ⟨us, k1, k2⟩ := c1
          exact ⟨us, by rw [upd_ne ne]; exact k1, k2⟩
        · exact c1.elim
  · rw [get_set] at a1 a2
    by_cases ej : i = j
    · by_cases el : i = l
      · exact (n (ej.symm.trans el)).elim
      · rw [if_neg el] at a2
        subst ej
        exact r.e.ap i l _ _ n hi a2
    · rw [if_neg ej] at a1
      by_cases el : i = l
      · subst el
        exact r.e.ap j i _ _ n a1 hi
      · rw [if_neg el] at a2
        exact r.e.ap j l d1 d2 n a1 a2
  · rw [get_set] at h
    split at h
    · rename_i e
      subst e
      exact ⟨p, hp, h0⟩
    · exact r.o j d1 h
/-- a list of the store is written -/
theorem SRel.writeLoc {n : Nat} {p : Addr} {d : D} {vs : List V} {ds : List D} (r : SRel G W0 H0 W H st env σ) (hi : st[n]? = some (.cell d)) (hp : W.ρ n 0 = some p) (rl : RpL G W ds vs) :
    SRel G W0 H0 W (upd H p (.lst vs)) (st.set n (.cell (.lst ds))) env σ := by
  have fp := r.g.dis n 0 p hp
  have apart : ∀ q, (∀ m i, W.ρ m i ≠ some q) → q ≠ p := fun q h e => h n 0 (by rw [e]; exact hp)
  have hnb : H0 p = none ∨ W0.ρ n 0 = some p := by
    rcases r.x.rn n 0 p hp with h | h
    · exact .inr h
    · exact .inl h
  refine ⟨⟨r.x.f, r.x.fn, r.x.r, r.x.rn, fun q u h hn => ?_, fun q u h => ?_⟩, ⟨fun q u h => ?_, fun m o h => ?_, r.g.inj, r.g.dis, fun m i q h => by rw [List.length_set]; exact r.g.bd m i q h, fun m i q h => ?_⟩, ⟨r.e.len, fun j s h => ?_, r.e.ap⟩, r.o⟩
  · have ne : q ≠ p := fun e => by
      subst e
      rcases hnb with z | z
      · rw [h] at z
        cases z
      · exact hn _ _ z
    rw [upd_ne ne]
    exact r.x.keep q u h hn
  · by_cases e : q = p
    · subst e
      exact ⟨_, upd_same⟩
    · rw [upd_ne e]
      exact r.x.dom q u h
  · have ne : q ≠ p := fun e => by
      subst e
      rw [fp] at h
      cases h
    rw [upd_ne ne]
    exact r.g.fz q u h
  · rw [get_set] at h
    split at h
    · rename_i e
      subst e
      split at h
      · cases h
        exact ⟨p, hp, vs, upd_same, rl⟩
      · cases h
    · rename_i hm
      refine (r.g.ob m o h).keep fun q u i h1 h2 => ?_
      rw [upd_ne (fun e => hm (by
        subst e
        exact (r.g.inj m i n 0 q h1 hp).1.symm))]
      exact h2
  · by_cases e : q = p
    · subst e
      exact ⟨_, upd_same⟩
    · obtain ⟨u, hu⟩ := r.g.tr m i q h
      exact ⟨u, by rw [upd_ne e]; exact hu⟩
  · have z := r.e.sl j s h
    cases s with
    | un => trivial
    | va d1 => exact z
    | ow d1 =>
      obtain ⟨q, e1, c1, f3, f4⟩ := z
      refine ⟨q, e1, ?_, f3, f4⟩
      unfold RC at c1 ⊢
      split at c1
      · obtain ⟨us, k1, k2⟩ := c1
        exact ⟨us, by rw [upd_ne (apart q f4)]; exact k1, k2⟩
      · exact c1.elim
theorem own_at {i : Nat} {d : D} (r : SRel G W0 H0 W H st env σ) (hi : env[i]? = some (.ow d)) : ∃ p ds vs, d = .lst ds ∧ σ[i]? = some (some (.ref p)) ∧ H p = some (.lst vs) ∧ RpL G W ds vs := by
  obtain ⟨p, e1, c, _⟩ := r.e.sl i _ hi
  unfold RC at c
  split at c
  · obtain ⟨vs, h1, h2⟩ := c
    exact ⟨p, _, vs, rfl, e1, h1, h2⟩
  · exact c.elim
theorem loc_at {n : Nat} {d : D} {v : V} (g : GRel G W H st) (hi : st[n]? = some (.cell d)) (hv : Rp G W (.loc n) v) : ∃ p ds vs, d = .lst ds ∧ v = .ref p ∧ W.ρ n 0 = some p ∧ H p = some (.lst vs) ∧ RpL G W ds vs := by
  obtain ⟨q, r, c⟩ := g.ob n _ hi
  obtain ⟨p, e, r'⟩ := hv
  rw [r] at r'
  cases r'
  unfold RC at c
  split at c
  · obtain ⟨vs, h1, h2⟩ := c
    exact ⟨_, _, vs, rfl, e, r, h1, h2⟩
  · exact c.elim
/-- xs[i] = e, xs a slot's own -/
theorem s_seti {i : Nat} {x : Str} {p q : Pos} (hN : X.N[i]? = some x) (hv : Vis X.env.scope x) (hd : (x == ("__debug__" : Str)) = false) (hc : (x == ("__classdict__" : Str)) = false) (he : PE X e (tE G C ia)) (hb : PE X b (tE G C ib))
    (ha : ∀ v, assign (.Subscript (.Name x p) b q) X.env v = (do
      let ov ← holding [v] (eval (.Name x p) X.env)
      let iv ← holding [v, ov] (eval b X.env)
      standAt q
      holding [v, ov, iv] (setItem ov iv v)
      release [v, ov, iv] []))
    (hs : swapsWithSole [.Subscript (.Name x p) b q] e pos.line X.env = pure false) (hw : swappedStores [.Subscript (.Name x p) b q] e X.env = pure none) :
    PS X (.Assign [.Subscript (.Name x p) b q] e pos) (tS G C (.seti (.slot i) ib ia)) :=
  (ps_asg he (pg_sub (pe_var hN hv hd hc) hb set_list ha) hs hw rfl).imp fun Z σ H ⟨W0, H0, W, env, st, r, h⟩ => by
    simp only [exec] at h
    obtain ⟨y, st1, h1, h⟩ := go_post h
    split at h
    · rename_i d hi
      obtain ⟨k, st2, h2, h⟩ := go_post h
      obtain ⟨d', h3, h⟩ := liftS_post h
      refine ⟨W, env, st, y, st1, r.g, r.e, h1, fun W1 H1 u x1 g1 v1 => ?_⟩
      have r1 := r.ext x1 g1
      obtain ⟨pa, ds, vs, rfl, hp, hH, hr⟩ := own_at r1 hi
      refine ⟨.ref pa, hp, W1, env, st1, k, st2, g1, r1.e, h2, fun W2 H2 kv x2 g2 v2 => ?_⟩
      have r2 := r1.ext x2 g2
      obtain ⟨pa', ds', vs', e1, hp', hH', hr'⟩ := own_at r2 hi
      cases e1
      rw [hp] at hp'
      cases hp'
      unfold setAtD at h3
      split at h3
      · rename_i es kk e2
        cases e2
        cases hj : ixD ds.length kk with
        | none => rw [hj] at h3; cases h3
        | some j =>
          rw [hj] at h3
          cases h3
          refine ⟨pa, vs', kk, j, rfl, v2, hH', by rw [← hr'.len, ← ixD_ixN]; exact hj, h W2 _ σ ?_⟩
          exact r2.write (d' := .lst ds) hi hp (hr'.set (v1.ext x2) j)
      · cases h3
    · exact h.elim

/-- xs[i] = e, xs a thing of the store -/
theorem s_setiL {p q : Pos} (ho : PE X a (tE G C ic)) (he : PE X e (tE G C ia)) (hb : PE X b (tE G C ib))
    (ha : ∀ v, assign (.Subscript a b q) X.env v = (do
      let ov ← holding [v] (eval a X.env)
      let iv ← holding [v, ov] (eval b X.env)
      standAt q
      holding [v, ov, iv] (setItem ov iv v)
      release [v, ov, iv] []))
    (hs : swapsWithSole [.Subscript a b q] e pos.line X.env = pure false) (hw : swappedStores [.Subscript a b q] e X.env = pure none) :
    PS X (.Assign [.Subscript a b q] e pos) (tS G C (.seti (.val ic) ib ia)) :=
  (ps_asg he (pg_sub ho hb set_list ha) hs hw rfl).imp fun Z σ H ⟨W0, H0, W, env, st, r, h⟩ => by
    simp only [exec] at h
    obtain ⟨y, st1, h1, h⟩ := go_post h
    obtain ⟨o, st2, h2, h⟩ := go_post h
    obtain ⟨k, st3, h3, h⟩ := go_post h
    split at h
    · rename_i n
      split at h
      · rename_i d hd
        obtain ⟨d', h4, h⟩ := liftS_post h
        refine ⟨W, env, st, y, st1, r.g, r.e, h1, fun W1 H1 u x1 g1 v1 => ?_⟩
        have r1 := r.ext x1 g1
        refine ⟨W1, env, st1, _, st2, g1, r1.e, h2, fun W2 H2 ov x2 g2 v2 => ?_⟩
        have r2 := r1.ext x2 g2
        refine ⟨W2, env, st2, k, st3, g2, r2.e, h3, fun W3 H3 kv x3 g3 v3 => ?_⟩
        have r3 := r2.ext x3 g3
        obtain ⟨pa, ds, vs, rfl, ev, hp, hH, hr⟩ := loc_at g3 hd (v2.ext x3)
        unfold setAtD at h4
        split at h4
        · rename_i es kk e2
          cases e2
          cases hj : ixD ds.length kk with
          | none => rw [hj] at h4; cases h4
          | some j =>
            rw [hj] at h4
            cases h4
            refine ⟨pa, vs, kk, j, ev, v3, hH, by rw [← hr.len, ← ixD_ixN]; exact hj, h W3 _ σ ?_⟩
            exact r3.writeLoc hd hp (hr.set ((v1.ext x2).ext x3) j)
        · cases h4
      · exact h.elim
    · exact h.elim
/-- xs.append(e), xs a slot's own -/
theorem s_app {i : Nat} {x : Str} {p apos cpos : Pos} (hN : X.N[i]? = some x) (hv : Vis X.env.scope x) (hd : (x == ("__debug__" : Str)) = false) (hc : (x == ("__classdict__" : Str)) = false) (he : PE X e (tE G C ia))
    (hbase : attributeBase (.Name x p) "append" X.env (eval (.Name x p) X.env) = eval (.Name x p) X.env)
    (hfew : ((backTo cpos (starEach [e] X.env)).all (fun x => !x.1) && (backToKw cpos (keywordEach [] X.env)).all (fun x => x.1.isSome)
      && decide (([e] : List Expr).length + ([] : List Keyword).length + (if ([] : List Keyword).isEmpty then 0 else 1) < 30)) = true)
    (hline : (apos.endLine == cpos.line) = true) (hs : starEach [e] X.env = (false, eval e X.env) :: starEach [] X.env) :
    PS X (.Expr (.Call (.Attribute (.Name x p) "append" apos) [e] [] cpos) pos) (tS G C (.app (.slot i) ia)) :=
  (ps_expr (pe_bm PySem.F.plainAttrs_list PySem.F.slot_list_append PySem.F.type_list_append mt_append (pe_var hN hv hd hc) (pa_cons he pa_nil hs) hbase hfew hline hs rfl) rfl).imp fun Z σ H ⟨W0, H0, W, env, st, r, h⟩ => by
    simp only [exec] at h
    obtain ⟨y, st1, h1, h⟩ := go_post h
    split at h
    · rename_i d hi
      obtain ⟨d', h3, h⟩ := liftS_post h
      obtain ⟨pa, ds, vs, rfl, hp, hH, hr⟩ := own_at r hi
      refine ⟨.ref pa, hp, .inl ⟨rfl, vs, .inl (.inl hH)⟩, W, env, st, y, st1, r.g, r.e, h1, fun W1 H1 u x1 g1 v1 => ?_⟩
      have r1 := r.ext x1 g1
      obtain ⟨pa', ds', vs', e1, hp', hH', hr'⟩ := own_at r1 hi
      cases e1
      rw [hp] at hp'
      cases hp'
      unfold appD at h3
      simp only at h3
      split at h3
      · rename_i hl
        cases h3
        refine ⟨pa, vs', u, rfl, rfl, hH', by rw [← hr'.len]; exact hl, h W1 _ σ ?_⟩
        exact r1.write (d' := .lst ds) hi hp (hr'.append ⟨u, [], rfl, v1, rfl⟩)
      · cases h3
    · exact h.elim
/-- .. of the store -/
theorem s_appL {apos cpos : Pos} (ha : PE X a (tE G C ic)) (he : PE X e (tE G C ia)) (hbase : attributeBase a "append" X.env (eval a X.env) = eval a X.env)
    (hfew : ((backTo cpos (starEach [e] X.env)).all (fun x => !x.1) && (backToKw cpos (keywordEach [] X.env)).all (fun x => x.1.isSome)
      && decide (([e] : List Expr).length + ([] : List Keyword).length + (if ([] : List Keyword).isEmpty then 0 else 1) < 30)) = true)
    (hline : (apos.endLine == cpos.line) = true) (hs : starEach [e] X.env = (false, eval e X.env) :: starEach [] X.env) :
    PS X (.Expr (.Call (.Attribute a "append" apos) [e] [] cpos) pos) (tS G C (.app (.val ic) ia)) :=
  (ps_expr (pe_bm PySem.F.plainAttrs_list PySem.F.slot_list_append PySem.F.type_list_append mt_append ha (pa_cons he pa_nil hs) hbase hfew hline hs rfl) rfl).imp fun Z σ H ⟨W0, H0, W, env, st, r, h⟩ => by
    simp only [exec] at h
    obtain ⟨o, st1, h1, h⟩ := go_post h
    obtain ⟨y, st2, h2, h⟩ := go_post h
    split at h
    · rename_i n _
      split at h
      · rename_i d hd
        obtain ⟨d', h4, h⟩ := liftS_post h
        refine ⟨W, env, st, _, st1, r.g, r.e, h1, fun W1 H1 ov x1 g1 v1 => ?_⟩
        have r1 := r.ext x1 g1
        refine ⟨?_, W1, env, st1, y, st2, g1, r1.e, h2, fun W2 H2 u x2 g2 v2 => ?_⟩
        · obtain ⟨pa, e1, hp⟩ := v1
          have hn := g1.bd n 0 pa hp
          obtain ⟨pa', ds, vs, _, e2, _, hH, _⟩ : ∃ p ds vs, True ∧ ov = .ref p ∧ W1.ρ n 0 = some p ∧ H1 p = some (.lst vs) ∧ RpL G W1 ds vs := by
            have z := g1.ob n _ (List.getElem?_eq_getElem hn)
            unfold RO at z
            split at z
            · obtain ⟨q, a1, a2⟩ := z
              rw [hp] at a1
              cases a1
              unfold RC at a2
              split at a2
              · obtain ⟨vs, b1, b2⟩ := a2
                exact ⟨pa, _, vs, trivial, e1, hp, b1, b2⟩
              · exact a2.elim
            · exact z.elim
          subst e2
          exact .inl ⟨rfl, vs, .inl (.inl hH)⟩
        · have r2 := r1.ext x2 g2
          obtain ⟨pa, ds, vs, rfl, ev, hp, hH, hr⟩ := loc_at g2 hd (v1.ext x2)
          unfold appD at h4
          simp only at h4
          split at h4
          · rename_i hl
            cases h4
            refine ⟨pa, vs, u, ev, rfl, hH, by rw [← hr.len]; exact hl, h W2 _ σ ?_⟩
            exact r2.writeLoc hd hp (hr.append ⟨u, [], rfl, v2, rfl⟩)
          · cases h4
      · exact h.elim
    · exact h.elim
/-! ### while -/
theorem s_whl {body : List Stmt} {ibody : ISs} (hp : PassesOwn (model X.prog X.w) X.A X.env X.xe) (hc : PT X c (tT G C ic)) (hb : PSs X body (tSs G C ibody)) : PS X (.While c body [] pos) (tS G C (.whl ic ibody)) :=
  (ps_while hp hc hb).imp fun Z σ H ⟨W0, H0, W, env, st, r, h⟩ => by
    simp only [exec] at h
    refine ⟨fun m σ H => ∃ W env st, SRel G W0 H0 W H st env σ ∧ PostS G W0 H0 Z (whlGo (fun env st => (ev C ic env st).bind fun x st1 => .ok (deref st1 x) st1) (execs C ibody) m env st), ⟨WF, W, env, st, r, h⟩, fun m σ H ⟨W, env, st, r, h⟩ => ?_⟩
    cases m with
    | zero => exact h.elim
    | succ m =>
      unfold whlGo at h
      split at h
      · rename_i x st1 hx
        obtain ⟨y, st2, h1, hx⟩ := Res.bind_ok hx
        obtain ⟨rfl, rfl⟩ := Res.ok_inj hx
        split at h
        · rename_i ht
          refine ⟨W, env, st, y, st2, true, r.g, r.e, h1, ht, fun W1 H1 x1 g1 => ?_⟩
          refine iteT ?_
          refine ⟨fun σ H => ∃ W env st, SRel G W0 H0 W H st env σ ∧ PostS G W0 H0 Z (whlGo (fun env st => (ev C ic env st).bind fun x st1 => .ok (deref st1 x) st1) (execs C ibody) m env st), fun σ' H' hN => ⟨m, Nat.lt_succ_self m, hN⟩, W0, H0, W1, env, st2, r.ext x1 g1, ?_⟩
          generalize execs C ibody env st2 = z at h
          cases z with
          | nx env2 st3 => exact fun W' H' σ' r' => ⟨W', env2, st3, r', h⟩
          | ct env2 st3 => exact fun W' H' σ' r' => ⟨W', env2, st3, r', h⟩
          | bk env2 st3 => exact h
          | rt d st3 => exact h
          | bad => exact h
        · rename_i ht
          refine ⟨W, env, st, y, st2, false, r.g, r.e, h1, ht, fun W1 H1 x1 g1 => ?_⟩
          refine iteF ?_
          exact h W1 H1 σ (r.ext x1 g1)
        · exact h.elim
      · exact h.elim
/-! ### for -/
open Classical in
/-- the heap without the lists of slots alone -/
noncomputable def bare (H : Hp) (env : Env) (σ : L2.St) : Hp := fun p => if ∃ (i : Nat) (d : D), env[i]? = some (.ow d) ∧ σ[i]? = some (some (.ref p)) then none else H p
/-- the same state over a base of its own -/
theorem SRel.rebase (r : SRel G W0 H0 W H st env σ) : SRel G W (bare H env σ) W H st env σ ∧ Ext W0 H0 W (bare H env σ) := by
  have sub : ∀ p u, bare H env σ p = some u → H p = some u := fun p u h => by
    unfold bare at h
    split at h
    · cases h
    · exact h
  have own0 : ∀ p, (∃ (i : Nat) (d : D), env[i]? = some (.ow d) ∧ σ[i]? = some (some (.ref p))) → H0 p = none := fun p ⟨i, d, h1, h2⟩ => by
    obtain ⟨q, h3, h4⟩ := r.o i d h1
    rw [h2] at h3
    cases h3
    exact h4
  have same : ∀ p u, H0 p = some u → bare H env σ p = H p := fun p u h => by
    unfold bare
    rw [if_neg (fun z => by rw [own0 p z] at h; cases h)]
  refine ⟨⟨⟨fun _ _ h => h, fun _ _ h => .inl h, fun _ _ _ h => h, fun _ _ _ h => .inl h, fun p u h _ => sub p u h, fun p u h => ⟨u, sub p u h⟩⟩, r.g, r.e, fun i d h => ?_⟩, ⟨r.x.f, r.x.fn, r.x.r, r.x.rn, fun p u h hn => ?_, fun p u h => ?_⟩⟩
  · obtain ⟨p, e, _⟩ := r.o i d h
    refine ⟨p, e, ?_⟩
    unfold bare
    rw [if_pos ⟨i, d, h, e⟩]
  · rw [same p u h]
    exact r.x.keep p u h hn
  · rw [same p u h]
    exact r.x.dom p u h
theorem SRel.back {W1 : Wd} {H1 : Hp} (r : SRel G W1 H1 W H st env σ) (x : Ext W0 H0 W1 H1) : SRel G W0 H0 W H st env σ := ⟨x.trans r.x, r.g, r.e, fun i d h => by
  obtain ⟨p, e, h0⟩ := r.o i d h
  exact ⟨p, e, x.none_of h0⟩⟩
theorem s_for {tg : Expr} {itg : List Nat} {iter : Expr} {it : II} {body : List Stmt} {ibody : ISs} (hp : PassesOwn (model X.prog X.w) X.A X.env X.xe) (hcalm : X.calm = true) (hi : PI X tg iter (tI G C true it)) (hg : PG X tg (gT G.K itg)) (hb : PSs X body (tSs G C ibody))
    (hs : ∀ x, foldedSetIterable iter X.env x = pure x) : PS X (.For tg iter body [] pos) (tS G C (.forr itg it ibody)) :=
  (ps_for hp hcalm hi hg hb hs).imp fun Z σ H ⟨W0, H0, W, env, st, r, h⟩ => by
    simp only [exec] at h
    obtain ⟨⟨items, src⟩, st1, h1, h⟩ := go_post h
    refine ⟨W, env, st, items, src, st1, r.g, r.e, h1, fun W1 H1 J P x1 g1 hJ hP _ hper hlen => ?_⟩
    have r1 := r.ext x1 g1
    obtain ⟨rb, xb⟩ := r1.rebase
    have hper := hper rfl
    generalize hbb : bare H1 env σ = Hb at rb xb
    refine ⟨fun i m σ H => m = items.length - i ∧ i ≤ items.length ∧ ∃ W env st, SRel G W1 Hb W H st env σ ∧ sameAt src st1 st = true ∧ PostS G W0 H0 Z (forGo (execs C ibody) (sameAt src st1) itg (items.drop i) env st),
      ⟨items.length, by omega, Nat.zero_le _, W1, env, st1, rb, same_refl, h⟩, ?_⟩
    rintro i m σ' H' ⟨rfl, hi, W', env', st', r', hsm, hgo⟩
    have hP' : P W' H' := hper W1 H1 W' H' st' hP r'.x.f r'.x.r r'.g hsm
    by_cases hlt : i < items.length
    · refine .inr ⟨hJ.go i W' H' st' hlt hP' r'.g, fun σ H => i + 1 ≤ items.length ∧ ∃ W env st, SRel G W1 Hb W H st env σ ∧ sameAt src st1 st = true ∧ PostS G W0 H0 Z (forGo (execs C ibody) (sameAt src st1) itg (items.drop (i + 1)) env st),
        fun σ'' H'' hN => ⟨items.length - (i + 1), by omega, rfl, hN⟩, fun x H'' hy => ?_⟩
      obtain ⟨dx, W3, hx, x3, g3, r3⟩ := hJ.yl i W' H' st' x H'' hlt hP' r'.g hy
      have hdrop : items.drop i = dx :: items.drop (i + 1) := by
        rw [List.drop_eq_getElem_cons hlt]
        congr 1
        exact Option.some.inj ((List.getElem?_eq_getElem hlt).symm.trans hx)
      rw [hdrop] at hgo
      unfold forGo at hgo
      split at hgo
      · exact hgo.elim
      · rename_i env2 he
        refine bind_tg g3 (r'.e.ext x3) r3 he fun σ2 er2 sb => ⟨W1, Hb, W3, env2, st', (r'.ext x3 g3).bind he er2 sb, ?_⟩
        generalize execs C ibody env2 st' = z at hgo
        cases z with
        | nx env4 st4 =>
          simp only at hgo
          split at hgo
          · rename_i hck
            exact fun W4 H4 σ4 r4 => ⟨by omega, W4, env4, st4, r4, hck, hgo⟩
          · exact hgo.elim
        | ct env4 st4 =>
          simp only at hgo
          split at hgo
          · rename_i hck
            exact fun W4 H4 σ4 r4 => ⟨by omega, W4, env4, st4, r4, hck, hgo⟩
          · exact hgo.elim
        | bk env4 st4 => exact fun W4 H4 σ4 r4 => hgo W4 H4 σ4 (r4.back xb)
        | rt d st4 => exact fun W4 H4 v x4 g4 v4 => hgo W4 H4 v (xb.trans x4) g4 v4
        | bad => exact hgo.elim
    · refine .inl ⟨hJ.stop i W' H' st' (by omega) hP' r'.g, ?_⟩
      have e0 : items.drop i = [] := List.drop_eq_nil_of_le (by omega)
      rw [e0] at hgo
      unfold forGo at hgo
      exact hgo W' H' σ' (r'.back xb)
end
end Cal
/-! Cal, part M: from the text's expressions to the small language. -/
namespace Cal
open PySem L2 PySem.Spec PyProof.Rows
/-- what a text's names stand for: the defs with their numbers of parameters, the constants -/
structure Tb where
  fns : List (Str × Nat)
  cs : List (Str × D)
/-- where one stands: the scope, the names that may be stored here -/
structure Cs where
  sc : Scope
  sto : Str → Bool
def visB (sc : Scope) (x : Str) : Bool :=
  match sc.names.lookup x with
  | some .local => true
  | some .cell => true
  | some .free => true
  | _ => false
def glB (sc : Scope) (x : Str) : Bool := sc.names.lookup x == some .globalImplicit
def plainName (x : Str) : Bool := !(x == ("__debug__" : Str)) && !(x == ("__classdict__" : Str))
def slotOf (N : List Str) (x : Str) : Option Nat := N.findIdx? (· == x)
def bltNames : List Str := ["len", "all", "any", "sum", "sorted", "tuple", "list", "min", "max", "str", "int", "abs", "isinstance", "range", "zip", "bool"]
def biOf (x : Str) (n : Nat) : Option BI := [BI.len, .all, .any, .sum, .sorted, .tuple, .list, .min2, .max2, .str, .int, .abs].find? fun b => biN b == x && (n == match b with | .min2 => 2 | .max2 => 2 | _ => 1)
def tyOf (x : Str) : Option TyI := [TyI.int, .bool, .str, .tuple, .list].find? fun t => Str.ofString (tyN t) == x
def boOf : Operator → Option BO
  | .Add => some .add | .Sub => some .sub | .Mult => some .mul | .FloorDiv => some .fdiv | .Mod => some .mod | .Pow => some .pow | _ => none
def coOf : CmpOp → Option CO
  | .Eq => some .eq | .NotEq => some .ne | .Lt => some .lt | .LtE => some .le | .Gt => some .gt | .GtE => some .ge | .In => some .isin | .NotIn => some .notin | .Is => some .is | .IsNot => some .isnot
def isStar : Expr → Bool
  | .Starred _ _ => true
  | _ => false
def isC0 : Expr → Bool
  | .Call (.Name _ _) [] [] _ => true
  | _ => false
def isSet : Expr → Bool
  | .Set _ _ _ => true
  | _ => false
def isSl : Expr → Bool
  | .Slice _ _ _ _ => true
  | _ => false
/-- whose truth as a test is not its value's -/
def isTst : Expr → Bool
  | .UnaryOp .Not _ _ => true
  | .BoolOp _ _ _ => true
  | .IfExp _ _ _ _ => true
  | .Compare _ _ _ _ => true
  | _ => false
section
variable (T : Tb) (N : List Str)
abbrev Rec := Cs → Expr → Option (Bool × IE)
abbrev RecT := Cs → Expr → Option IE
def escR (r : Rec) : RecT := fun sc e => (r sc e).map (·.2)
/-- to be looked at: a name as it stands -/
def vwR (r : Rec) : RecT := fun sc e =>
  match e with
  | .Name x _ => if visB sc.sc x && plainName x then (slotOf N x).map .w else escR r sc e
  | _ => escR r sc e
def argsR (r : RecT) (sc : Cs) : List Expr → Option IEs
  | [] => some .nil
  | e :: es => if isStar e then none else (r sc e).bind fun i => (argsR r sc es).map fun is => .cons i is
def optR (r : RecT) (sc : Cs) : Option Expr → Option IO
  | none => some .no
  | some e => (r sc e).map .so
/-- a comprehension's own names, by their slots -/
def ownOf : List (Str × NameKind) → List (Str × Nat)
  | [] => []
  | (x, k) :: r => match k, slotOf N x with
    | .local, some i => (x, i) :: ownOf r
    | .cell, some i => (x, i) :: ownOf r
    | _, _ => ownOf r
def locB (sc : Scope) (x : Str) : Bool := (sc.names.lookup x == some .local) || (sc.names.lookup x == some .cell)
def tgName (sc : Cs) : Expr → Option Nat
  | .Name x _ => if locB sc.sc x && sc.sto x then slotOf N x else none
  | _ => none
/-- a target's slots -/
def tgOf (sc : Cs) : Expr → Option (List Nat)
  | .Name x p => (tgName N sc (.Name x p)).map fun i => [i]
  | .Tuple [a, b] _ _ => (tgName N sc a).bind fun i => (tgName N sc b).map fun j => [i, j]
  | .Tuple [a, b, c] _ _ => (tgName N sc a).bind fun i => (tgName N sc b).bind fun j => (tgName N sc c).map fun l => [i, j, l]
  | _ => none
def isTup : Expr → Bool
  | .Tuple _ _ _ => true
  | _ => false
/-- what is walked; the last: what a sequence is read by -/
def iterR (e1 v1 : RecT) (sq : RecT) (sc : Cs) (tg : Expr) (it : Expr) : Option II :=
  match it with
  | .Call (.Name x _) es [] _ =>
    if x == ("range" : Str) && glB sc.sc x then
      match es with
      | [a] => if isStar a then none else (v1 sc a).map .rng1
      | [a, b] => if isStar a || isStar b then none else (v1 sc a).bind fun i => (v1 sc b).map fun j => .rng2 i j
      | _ => none
    else if x == ("zip" : Str) && glB sc.sc x then
      match es with
      | [a, b] => if isStar a || isStar b || !isTup tg then none else (e1 sc a).bind fun i => (e1 sc b).map fun j => .zip i j
      | _ => none
    else (sq sc it).map .seq
  | _ => if isSet it then none else (sq sc it).map .seq
def subC (sc : Cs) (scope : Scope) : Cs := ⟨relS scope sc.sc, locB scope⟩
def condR (t : RecT) (sc : Cs) : List Expr → Option IE
  | [] => some (.k (.bl true))
  | [c] => t sc c
  | _ => none
def core (r : Rec) (t : RecT) : Rec := fun sc e =>
  match e with
  | .Name x _ =>
    if !plainName x then none else
    if visB sc.sc x then (slotOf N x).map fun i => (false, .v i)
    else if glB sc.sc x then
      match T.cs.lookup x with
      | some d => some (false, .k d)
      | none => (T.fns.findIdx? (·.1 == x)).map fun i => (false, .k (.fn i))
    else none
  | .Constant c _ _ =>
    match c with
    | .int i => some (false, .k (.int i))
    | .bool b => some (false, .k (.bl b))
    | .none => some (false, .k .non)
    | .str x => if x.length ≤ SL then some (false, .k (.str x.cps.toList)) else none
    | _ => none
  | .BinOp a op b _ => (boOf op).bind fun o => (vwR N r sc a).bind fun i => (vwR N r sc b).map fun j => (true, .bin o i j)
  | .UnaryOp .USub a _ => (vwR N r sc a).map fun i => (true, .neg i)
  | .UnaryOp .Not a _ => (vwR N r sc a).map fun i => (true, .notv i)
  | .BoolOp .And (a :: b :: rest) p => (escR r sc a).bind fun i => (escR r sc (.BoolOp .And (b :: rest) p)).map fun j => (false, .andv i j)
  | .BoolOp .Or (a :: b :: rest) p => (escR r sc a).bind fun i => (escR r sc (.BoolOp .Or (b :: rest) p)).map fun j => (false, .orv i j)
  | .BoolOp _ [a] _ => (escR r sc a).map fun i => (false, i)
  | .IfExp c a b _ => (t sc c).bind fun k => (escR r sc a).bind fun i => (escR r sc b).map fun j => (false, .ifx k i j)
  | .Compare a [op] [b] _ => if isSet b then none else (coOf op).bind fun o => (vwR N r sc a).bind fun i => (vwR N r sc b).map fun j => (true, .cmp o i j)
  | .Compare a [op, op'] [b, c] _ => if isSet c then none else (coOf op).bind fun o => (coOf op').bind fun o' => (vwR N r sc a).bind fun i => (vwR N r sc b).bind fun j => (vwR N r sc c).map fun k => (true, .chain o o' i j k)
  | .Subscript a (.Slice none none (some (.UnaryOp .USub (.Constant (.int 1) _ _) _)) _) _ => (vwR N r sc a).map fun i => (true, .rev i)
  | .Subscript a (.Slice lo hi none _) _ => (vwR N r sc a).bind fun i => (optR (vwR N r) sc lo).bind fun l => (optR (vwR N r) sc hi).map fun h => (true, .slc i l h)
  | .Subscript a b _ => if isSl b then none else (vwR N r sc a).bind fun i => (vwR N r sc b).map fun j => (false, .idx i j)
  | .List es _ => (argsR (escR r) sc es).map fun is => (true, .lst is)
  | .Tuple es _ _ => (argsR (escR r) sc es).map fun is => (false, .tup is)
  | .Call (.Name x _) es [] _ =>
    if visB sc.sc x || !glB sc.sc x || !plainName x then none else
    match T.fns.findIdx? (·.1 == x) with
    | some f => (argsR (escR r) sc es).bind fun is => if (T.fns[f]?).map (·.2) = some is.len then some (false, .call f is) else none
    | none =>
      match es with
      | [] => none
      | a :: rest =>
        if x == ("isinstance" : Str) then
          match rest with
          | [.Name y _] => if glB sc.sc y && !isStar a then (tyOf y).bind fun ty => (vwR N r sc a).map fun i => (true, .isi i ty) else none
          | _ => none
        else (biOf x (rest.length + 1)).bind fun bi => (argsR (vwR N r) sc es).map fun is => (true, .blt bi is)
  | .Call (.Attribute o m ap) es [] p =>
    if isC0 o || !(ap.endLine == p.line) then none else
    match es with
    | [] => if m == ("upper" : Str) then (vwR N r sc o).map fun i => (true, .mth .upper i .nil) else none
    | [a] => if m == ("index" : Str) && !isStar a then (vwR N r sc o).bind fun i => (vwR N r sc a).map fun j => (true, .mth .index i (.cons j .nil)) else none
    | _ => none
  | .ListComp elt [⟨tg, iter, ifs, 0⟩] scope _ =>
    if !blkC N sc.sc scope (ownOf N scope.names) then none else
    (iterR (escR r) (vwR N r) (vwR N r) sc tg iter).bind fun it => (tgOf N (subC sc scope) tg).bind fun g => if !(g.all fun i => ((ownOf N scope.names).map (·.2)).contains i) then none else
    (condR t (subC sc scope) ifs).bind fun c => (escR r (subC sc scope) elt).map fun e => (true, .comp it g c e ((ownOf N scope.names).map (·.2)))
  | _ => none
def tstep (r : Rec) (t : RecT) : RecT := fun sc e =>
  match e with
  | .UnaryOp .Not a _ => (t sc a).map .notv
  | .BoolOp .And (a :: b :: rest) p => (t sc a).bind fun i => (t sc (.BoolOp .And (b :: rest) p)).map fun j => .andv i j
  | .BoolOp .Or (a :: b :: rest) p => (t sc a).bind fun i => (t sc (.BoolOp .Or (b :: rest) p)).map fun j => .orv i j
  | .BoolOp _ [a] _ => t sc a
  | .Compare a [op] [b] _ => if isSet b then none else (coOf op).bind fun o => (vwR N r sc a).bind fun i => (vwR N r sc b).map fun j => .cmp o i j
  | .Compare a [op, op'] [b, c] _ => if isSet c then none else (coOf op).bind fun o => (coOf op').bind fun o' => (vwR N r sc a).bind fun i => (vwR N r sc b).bind fun j => (vwR N r sc c).map fun k => .chain o o' i j k
  | e => if isTst e then none else vwR N r sc e
/-- expressions, tests; the number: how deep -/
def cmpl : Nat → Rec × RecT
  | 0 => (fun _ _ => none, fun _ _ => none)
  | n + 1 => (core T N (cmpl n).1 (cmpl n).2, tstep N (cmpl n).1 (cmpl n).2)
end
end Cal
/-! Cal, part N: what is compiled is sound. -/
namespace Cal
open PySem L2 PySem.Spec PyProof.Rows
/-- a context of the text, in a scope -/
structure CtxOk (G : Gp) (C : CallF) (T : Tb) (N : List Str) (X : Cx) (sc : Cs) : Prop where
  xo : XO G X
  n : X.N = N
  nd : N.Nodup
  scope : X.env.scope = sc.sc
  sto : ∀ x, sc.sto x = true → Loc X.env.scope x → X.fn x = true ∨ X.env.scope.names.lookup x = some .local
  fn : ∀ (i : Nat) p, T.fns[i]? = some p → FOk G C X p.1 i p.2
  cs : ∀ x d, T.cs.lookup x = some d → ∃ u v, X.mg x = some u ∧ RelV v u ∧ ∀ W, Rp G W d v
  bl : ∀ x, bltNames.contains x = true → X.mg x = none
section
variable {G : Gp} {C : CallF} {T : Tb} {N : List Str} {X : Cx} {sc : Cs} {a b c e : Expr} {ia ib ic : IE} {pos : Pos} {r : Rec} {t : RecT}
def RecOk (G : Gp) (C : CallF) (T : Tb) (N : List Str) (r : Rec) : Prop := ∀ sc e b ie, r sc e = some (b, ie) → ∀ X, CtxOk G C T N X sc → (b = true → PE X e (tN G C ie)) ∧ (b = false → PE X e (tE G C ie))
def RecTOk (G : Gp) (C : CallF) (T : Tb) (N : List Str) (t : RecT) : Prop := ∀ sc e ie, t sc e = some ie → ∀ X, CtxOk G C T N X sc → PT X e (tT G C ie) ∧ ∀ op es p, e = .BoolOp op es p → PW X e (tT G C ie)
theorem esc_ok (h : RecOk G C T N r) {ie : IE} (e1 : escR r sc e = some ie) (k : CtxOk G C T N X sc) : PE X e (tE G C ie) := by
  unfold escR at e1
  cases hr : r sc e with
  | none => rw [hr] at e1; cases e1
  | some p =>
    obtain ⟨b, i⟩ := p
    rw [hr] at e1
    cases e1
    obtain ⟨h1, h2⟩ := h sc e b i hr X k
    cases b with
    | true => exact tN_E (h1 rfl)
    | false => exact h2 rfl
theorem vis_ok (k : CtxOk G C T N X sc) {x : Str} (h : visB sc.sc x = true) : Vis X.env.scope x := by
  rw [k.scope]
  unfold visB at h
  unfold Vis
  split at h
  · rename_i e; exact .inl e
  · rename_i e; exact .inr (.inl e)
  · rename_i e; exact .inr (.inr e)
  · cases h
theorem gl_ok (k : CtxOk G C T N X sc) {x : Str} (h : glB sc.sc x = true) : Gl X x := by
  show X.env.scope.names.lookup x = some .globalImplicit
  rw [k.scope]
  unfold glB at h
  exact eq_of_beq h
theorem plain_ok {x : Str} (h : plainName x = true) : (x == ("__debug__" : Str)) = false ∧ (x == ("__classdict__" : Str)) = false := by
  unfold plainName at h
  rw [Bool.and_eq_true] at h
  exact ⟨by simpa using h.1, by simpa using h.2⟩
theorem slot_ok {x : Str} {i : Nat} (h : slotOf N x = some i) : N[i]? = some x := by
  unfold slotOf at h
  rw [List.findIdx?_eq_some_iff_getElem] at h
  obtain ⟨hi, h1, _⟩ := h
  rw [List.getElem?_eq_getElem hi, eq_of_beq h1]
theorem vw_ok (h : RecOk G C T N r) {ie : IE} (e1 : vwR N r sc e = some ie) (k : CtxOk G C T N X sc) : PE X e (tV G C ie) := by
  unfold vwR at e1
  split at e1
  · rename_i x p
    split at e1
    · rename_i hv
      rw [Bool.and_eq_true] at hv
      cases hs : slotOf N x with
      | none => rw [hs] at e1; cases e1
      | some i =>
        rw [hs] at e1
        cases e1
        obtain ⟨p1, p2⟩ := plain_ok hv.2
        exact e_w (by rw [k.n]; exact slot_ok hs) (vis_ok k hv.1) p1 p2
    · exact tE_V (esc_ok h e1 k)
  · exact tE_V (esc_ok h e1 k)
theorem star_ok {env : PySem.Env} {es : List Expr} (h : isStar e = false) : starEach (e :: es) env = (false, eval e env) :: starEach es env := by
  cases e <;> first | rfl | cases h
theorem no_star {env : PySem.Env} {p : Pos} : ∀ {es : List Expr}, es.all (fun e => !isStar e) = true → (backTo p (starEach es env)).any (·.1) = false
  | [], _ => rfl
  | e :: es, h => by
    rw [List.all_cons, Bool.and_eq_true] at h
    rw [star_ok (by simpa using h.1)]
    show (false || (backTo p (starEach es env)).any (·.1)) = false
    rw [no_star h.2]
    rfl
theorem args_star {r : RecT} : ∀ {es : List Expr} {is : IEs}, argsR r sc es = some is → es.all (fun e => !isStar e) = true ∧ is.len = es.length
  | [], is, h => by cases h; exact ⟨rfl, rfl⟩
  | e :: es, is, h => by
    unfold argsR at h
    split at h
    · cases h
    · rename_i hs
      cases h1 : r sc e with
      | none => rw [h1] at h; cases h
      | some i =>
        rw [h1] at h
        cases h2 : argsR r sc es with
        | none => rw [h2] at h; cases h
        | some js =>
          rw [h2] at h
          cases h
          obtain ⟨a1, a2⟩ := args_star h2
          refine ⟨?_, ?_⟩
          · rw [List.all_cons, a1]
            simp [hs]
          · show js.len + 1 = _
            rw [a2]
            rfl
theorem argsE_ok (h : RecOk G C T N r) : ∀ {es : List Expr} {is : IEs}, argsR (escR r) sc es = some is → CtxOk G C T N X sc → PA X es (tEs G C is)
  | [], is, e, k => by cases e; exact a_nil
  | x :: es, is, e, k => by
    unfold argsR at e
    split at e
    · cases e
    · rename_i hs
      cases h1 : escR r sc x with
      | none => rw [h1] at e; cases e
      | some i =>
        rw [h1] at e
        cases h2 : argsR (escR r) sc es with
        | none => rw [h2] at e; cases e
        | some js =>
          rw [h2] at e
          cases e
          exact a_cons (esc_ok h h1 k) (argsE_ok h h2 k) (star_ok (by simpa using hs))
theorem argsV_ok (h : RecOk G C T N r) : ∀ {es : List Expr} {is : IEs}, argsR (vwR N r) sc es = some is → CtxOk G C T N X sc → PA X es (tVs G C is)
  | [], is, e, k => by cases e; exact av_nil
  | x :: es, is, e, k => by
    unfold argsR at e
    split at e
    · cases e
    · rename_i hs
      cases h1 : vwR N r sc x with
      | none => rw [h1] at e; cases e
      | some i =>
        rw [h1] at e
        cases h2 : argsR (vwR N r) sc es with
        | none => rw [h2] at e; cases e
        | some js =>
          rw [h2] at e
          cases e
          exact av_cons (vw_ok h h1 k) (argsV_ok h h2 k) (star_ok (by simpa using hs))
theorem opt_ok (h : RecOk G C T N r) {o : Option Expr} {io : IO} (e : optR (vwR N r) sc o = some io) (k : CtxOk G C T N X sc) : PO X o (tO G C io) := by
  cases o with
  | none => cases e; exact o_no
  | some x =>
    replace e : (vwR N r sc x).map IO.so = some io := e
    cases h1 : vwR N r sc x with
    | none => rw [h1] at e; cases e
    | some i =>
      rw [h1] at e
      cases e
      exact o_so (vw_ok h h1 k)
theorem bo_ok {op : Operator} {o : BO} (h : boOf op = some o) : op = bop o := by cases op <;> first | (cases h; rfl) | cases h
theorem co_ok {op : CmpOp} {o : CO} (h : coOf op = some o) : op = cop o := by cases op <;> first | (cases h; rfl) | cases h
theorem set_ok {op : CmpOp} (h : isSet b = false) : behindInMarks op b = false := by
  cases b <;> first | rfl | cases h
theorem set_ok2 {op op' : CmpOp} (h : isSet c = false) : lastMarks [op, op'] [b, c] = false := by
  show behindInMarks op' c = false
  exact set_ok h
theorem sl_ok (h : isSl b = false) : PlainIx b := by
  intro o i
  cases b <;> first | rfl | cases h
theorem ab_ok {m : Str} {env : PySem.Env} {w : Sem Value} (h : isC0 a = false) : attributeBase a m env w = w := by
  unfold attributeBase
  split
  · cases h
  · rfl
theorem fold_ok {x : Value} (h : isSet e = false) : foldedSetIterable e X.env x = pure x := by
  unfold foldedSetIterable
  cases e <;> first | rfl | cases h
theorem tst_ok (h : isTst e = false) : ∀ whole, isTrue e X.env whole = (do let v ← whole; standAt e.pos; holding [v] (truthy v)) := by
  intro whole
  cases e with
  | UnaryOp op x p => cases op <;> first | rfl | cases h
  | BoolOp => cases h
  | IfExp => cases h
  | Compare => cases h
  | _ => rfl
theorem bi_ok {x : Str} {n : Nat} {bi : BI} (h : biOf x n = some bi) : x = biN bi ∧ bltNames.contains x = true := by
  have h1 := List.find?_some h
  simp only [Bool.and_eq_true] at h1
  have h2 : biN bi = x := eq_of_beq h1.1
  rw [← h2]
  exact ⟨rfl, by cases bi <;> decide +kernel⟩
theorem ty_ok {x : Str} {t : TyI} (h : tyOf x = some t) : x = Str.ofString (tyN t) ∧ bltNames.contains x = true ∧ bootBuiltins x = some (.type (tyN t)) ∧ x ≠ "__name__" ∧ (x == ("__debug__" : Str)) = false := by
  have h1 : (Str.ofString (tyN t) == x) = true := List.find?_some (p := fun t => Str.ofString (tyN t) == x) h
  have h2 : Str.ofString (tyN t) = x := eq_of_beq h1
  rw [← h2]
  cases t <;> exact ⟨rfl, by decide +kernel, by decide +kernel, by decide +kernel, by decide +kernel⟩
/-! ### targets, iterators -/
theorem loc_okB {s : Scope} {x : Str} (h : locB s x = true) : s.names.lookup x = some .local ∨ s.names.lookup x = some .cell := by
  unfold locB at h
  rw [Bool.or_eq_true] at h
  exact h.imp eq_of_beq eq_of_beq
theorem tgName_ok {i : Nat} (h : tgName N sc a = some i) (k : CtxOk G C T N X sc) : PG X a (gName i) := by
  unfold tgName at h
  split at h
  · rename_i x p
    split at h
    · rename_i hl
      rw [Bool.and_eq_true] at hl
      have hL : Loc X.env.scope x := by
        rw [k.scope]
        exact loc_okB hl.1
      exact pg_name (by rw [k.n]; exact k.nd) (by rw [k.n]; exact slot_ok h) hL (k.sto x hl.2 hL)
    · cases h
  · cases h
theorem tgName_star {i : Nat} (h : tgName N sc a = some i) : ∃ x p, a = .Name x p := by
  unfold tgName at h
  split at h
  · exact ⟨_, _, rfl⟩
  · cases h
theorem tg_ok {g : List Nat} (h : tgOf N sc a = some g) (k : CtxOk G C T N X sc) : PG X a (gT G.K g) := by
  unfold tgOf at h
  split at h
  · rename_i x p
    cases hi : tgName N sc (.Name x p) with
    | none => rw [hi] at h; cases h
    | some i =>
      rw [hi] at h
      cases h
      exact tgName_ok hi k
  · rename_i x y p q
    cases hi : tgName N sc x with
    | none => rw [hi] at h; cases h
    | some i =>
      rw [hi] at h
      replace h : (tgName N sc y).map (fun j => [i, j]) = some g := h
      cases hj : tgName N sc y with
      | none => rw [hj] at h; cases h
      | some j =>
        rw [hj] at h
        cases h
        obtain ⟨x1, p1, rfl⟩ := tgName_star hi
        obtain ⟨x2, p2, rfl⟩ := tgName_star hj
        have e := k.xo.K
        rw [show gT G.K [i, j] = gTup X.K 2 (gCons (gName i) (gCons (gName j) gNil)) by rw [e]; rfl]
        exact pg_tup k.xo.calm (pgs_cons (tgName_ok hi k) (pgs_cons (tgName_ok hj k) pgs_nil rfl) rfl) rfl rfl
  · rename_i x y z p q
    cases hi : tgName N sc x with
    | none => rw [hi] at h; cases h
    | some i =>
      rw [hi] at h
      replace h : (tgName N sc y).bind (fun j => (tgName N sc z).map (fun l => [i, j, l])) = some g := h
      cases hj : tgName N sc y with
      | none => rw [hj] at h; cases h
      | some j =>
        rw [hj] at h
        replace h : (tgName N sc z).map (fun l => [i, j, l]) = some g := h
        cases hl : tgName N sc z with
        | none => rw [hl] at h; cases h
        | some l =>
          rw [hl] at h
          cases h
          obtain ⟨x1, p1, rfl⟩ := tgName_star hi
          obtain ⟨x2, p2, rfl⟩ := tgName_star hj
          obtain ⟨x3, p3, rfl⟩ := tgName_star hl
          have e := k.xo.K
          rw [show gT G.K [i, j, l] = gTup X.K 3 (gCons (gName i) (gCons (gName j) (gCons (gName l) gNil))) by rw [e]; rfl]
          exact pg_tup k.xo.calm (pgs_cons (tgName_ok hi k) (pgs_cons (tgName_ok hj k) (pgs_cons (tgName_ok hl k) pgs_nil rfl) rfl) rfl) rfl rfl
  · cases h
/-- what is walked; fl: whatever else is written meanwhile -/
theorem iter_ok {tg : Expr} {it : Expr} {ii : II} {sq : RecT} {fl : Bool} (h : RecOk G C T N r) (hsq : ∀ e ie, sq sc e = some ie → PI X tg e (tI G C fl (.seq ie))) (e1 : iterR (escR r) (vwR N r) sq sc tg it = some ii) (k : CtxOk G C T N X sc) : PI X tg it (tI G C fl ii) ∧ isSet it = false := by
  unfold iterR at e1
  split at e1
  · rename_i x p es q
    refine ⟨?_, rfl⟩
    split at e1
    · rename_i hx
      rw [Bool.and_eq_true] at hx
      have ex : x = ("range" : Str) := eq_of_beq hx.1
      subst ex
      have hg := gl_ok k hx.2
      have hm := k.bl "range" (by decide +kernel)
      split at e1
      · rename_i a
        split at e1
        · cases e1
        · rename_i hs
          cases h1 : vwR N r sc a with
          | none => rw [h1] at e1; cases e1
          | some i =>
            rw [h1] at e1
            cases e1
            exact i_rng1 hg hm (vw_ok h h1 k) (star_ok (by simpa using hs))
      · rename_i a b
        split at e1
        · cases e1
        · rename_i hs
          rw [Bool.not_eq_true, Bool.or_eq_false_iff] at hs
          cases h1 : vwR N r sc a with
          | none => rw [h1] at e1; cases e1
          | some i =>
            rw [h1] at e1
            replace e1 : (vwR N r sc b).map (fun j => II.rng2 i j) = some ii := e1
            cases h2 : vwR N r sc b with
            | none => rw [h2] at e1; cases e1
            | some j =>
              rw [h2] at e1
              cases e1
              exact i_rng2 hg hm (vw_ok h h1 k) (vw_ok h h2 k) (by rw [star_ok hs.1, star_ok hs.2]; rfl) (star_ok hs.2)
      · cases e1
    · split at e1
      · rename_i hx
        rw [Bool.and_eq_true] at hx
        have ex : x = ("zip" : Str) := eq_of_beq hx.1
        subst ex
        have hg := gl_ok k hx.2
        have hm := k.bl "zip" (by decide +kernel)
        split at e1
        · rename_i a b
          split at e1
          · cases e1
          · rename_i hs
            rw [Bool.not_eq_true, Bool.or_eq_false_iff, Bool.or_eq_false_iff] at hs
            cases h1 : escR r sc a with
            | none => rw [h1] at e1; cases e1
            | some i =>
              rw [h1] at e1
              replace e1 : (escR r sc b).map (fun j => II.zip i j) = some ii := e1
              cases h2 : escR r sc b with
              | none => rw [h2] at e1; cases e1
              | some j =>
                rw [h2] at e1
                cases e1
                have ht : isTup tg = true := by simpa using hs.2
                cases tg with
                | Tuple elts kk tp => exact i_zip k.xo hg hm (esc_ok h h1 k) (esc_ok h h2 k) (star_ok hs.1.1) (star_ok hs.1.2) (no_star (by simp [hs.1.2]))
                | _ => cases ht
        · cases e1
      · cases h1 : sq sc (.Call (.Name x p) es [] q) with
        | none => rw [h1] at e1; cases e1
        | some i =>
          rw [h1] at e1
          cases e1
          exact hsq _ _ h1
  · split at e1
    · cases e1
    · rename_i hs
      cases h1 : sq sc it with
      | none => rw [h1] at e1; cases e1
      | some i =>
        rw [h1] at e1
        cases e1
        exact ⟨hsq _ _ h1, by simpa using hs⟩
end
end Cal
/-! Cal, part O: every compiled expression is sound. -/
namespace Cal
open PySem L2 PySem.Spec PyProof.Rows
section
variable {G : Gp} {C : CallF} {T : Tb} {N : List Str} {X : Cx} {sc : Cs} {a b c e : Expr} {ia ib ic : IE} {pos : Pos} {r : Rec} {t : RecT}
theorem bnd {α β : Type} {o : Option α} {f : α → Option β} {y : β} (h : o.bind f = some y) : ∃ x, o = some x ∧ f x = some y := Option.bind_eq_some_iff.mp h
theorem mpd {α β : Type} {o : Option α} {f : α → β} {y : β} (h : o.map f = some y) : ∃ x, o = some x ∧ f x = y := Option.map_eq_some_iff.mp h
theorem relS_find {sc0 : Scope} {scope : Scope} {x : Str} {k : NameKind} (hk : k ≠ .free) (h : scope.names.lookup x = some k) : (relS scope sc0).names.lookup x = some k := lookup_relS_keep hk h
/-- a comprehension's block -/
theorem blk_ok (k : CtxOk G C T N X sc) (scope : Scope) (s : Shared) (H : Hp) (D : Addr) (cl : List (Str × Addr)) (fp : List Addr) : CtxOk G C T N (X.blk s H scope (compEnvC scope cl D X.env) fp) (subC sc scope) where
  xo := ⟨k.xo.K, k.xo.calm, k.xo.un⟩
  n := k.n
  nd := k.nd
  scope := by
    show relabel scope X.env = relS scope sc.sc
    rw [← k.scope]
    rfl
  sto := fun x hx _ => by
    rcases loc_okB (show locB scope x = true from hx) with h | h
    · refine .inr ?_
      show (relabel scope X.env).names.lookup x = some .local
      exact relS_find (sc0 := X.env.scope) (by decide) h
    · refine .inl ?_
      show (scope.names.lookup x == some .cell) = true
      rw [h]
      rfl
  fn := fun i p h => ⟨(k.fn i p h).ok, (k.fn i p h).mg, (k.fn i p h).kp⟩
  cs := k.cs
  bl := k.bl
theorem cond_ok {ifs : List Expr} {ic : IE} (ht : RecTOk G C T N t) (h : condR t sc ifs = some ic) (k : CtxOk G C T N X sc) : PTs X ifs (tT G C ic) := by
  unfold condR at h
  split at h
  · cases h
    refine ⟨fun pins s σ H Q I q => pts_nil.run pins s σ H Q I ?_⟩
    obtain ⟨W, env, st, d, st', b, g, er, hv, ht, q⟩ := q
    simp only [ev] at hv
    obtain ⟨rfl, rfl⟩ := Res.ok_inj hv
    have : true = b := by cases ht; rfl
    subst this
    exact q W H Ext.refl g
  · exact pts_one (ht _ _ _ h X k).1
  · cases h
theorem comp_sound {elt tg iter : Expr} {ifs : List Expr} {scope : Scope} {it : II} {g : List Nat} {ie : IE} (k : CtxOk G C T N X sc) (hr : RecOk G C T N r) (ht : RecTOk G C T N t) (hb : blkC N sc.sc scope (ownOf N scope.names) = true)
    (hi : iterR (escR r) (vwR N r) (vwR N r) sc tg iter = some it) (hg : tgOf N (subC sc scope) tg = some g) (hall : (g.all fun i => ((ownOf N scope.names).map (·.2)).contains i) = true)
    (hc : condR t (subC sc scope) ifs = some ic) (he : escR r (subC sc scope) elt = some ie) :
    (PE X (.ListComp elt [⟨tg, iter, ifs, 0⟩] scope pos) (tN G C (.comp it g ic ie ((ownOf N scope.names).map (·.2))))) ∧
      ∀ {i : Nat} {y : Str} {py spos : Pos}, N[i]? = some y → X.env.scope.names.lookup y = some .local → swapsWith (.ListComp elt [⟨tg, iter, ifs, 0⟩] scope pos) (some (.Name y py)) spos.line X.env = pure true →
        ∃ te, PS X (.Assign [.Name y py] (.ListComp elt [⟨tg, iter, ifs, 0⟩] scope pos) spos) (tAsg te (gName i)) ∧ ∀ σ H Q, tN G C (.comp it g ic ie ((ownOf N scope.names).map (·.2))) σ H Q → te σ H Q := by
  obtain ⟨pi, ns⟩ := iter_ok (fl := false) hr (fun e ie h => i_seq k.xo (vw_ok hr h k)) hi k
  have hbk : BlkOk X.N X.env.scope scope (ownOf N scope.names) := by
    rw [k.n, k.scope]
    exact blkOk_by hb
  have hN : X.N.Nodup := by rw [k.n]; exact k.nd
  have key : ∀ σ H Q, tN G C (.comp it g ic ie ((ownOf N scope.names).map (·.2))) σ H Q → tLc (tI G C false it) (gT G.K g) (tT G C ic) (tE G C ie) ((ownOf N scope.names).map (·.2)) σ H Q :=
    fun σ H Q h => comp_ok (fun i hi => by
      have := List.all_eq_true.mp hall i hi
      exact List.contains_iff_mem.mp this) (fun σ H R h => h) h
  refine ⟨(pe_lc k.xo.calm hN pi hbk (fun s H D cl fp => tg_ok hg (blk_ok k scope s H D cl fp)) (fun s H D cl fp => cond_ok ht hc (blk_ok k scope s H D cl fp)) (fun s H D cl fp => esc_ok hr he (blk_ok k scope s H D cl fp)) (fun x => fold_ok ns)).imp key, fun hi' hl hsw => ⟨_, ps_setLc k.xo.calm hN (by rw [k.n]; exact hi') hl hsw pi hbk (fun s H D cl fp => tg_ok hg (blk_ok k scope s H D cl fp)) (fun s H D cl fp => cond_ok ht hc (blk_ok k scope s H D cl fp)) (fun s H D cl fp => esc_ok hr he (blk_ok k scope s H D cl fp)) (fun x => fold_ok ns), key⟩⟩

theorem idx_name {l : List (Str × Nat)} {x : Str} {f : Nat} (h : l.findIdx? (·.1 == x) = some f) : ∃ p, l[f]? = some p ∧ p.1 = x := by
  rw [List.findIdx?_eq_some_iff_getElem] at h
  obtain ⟨hi, h1, _⟩ := h
  exact ⟨l[f], List.getElem?_eq_getElem hi, eq_of_beq h1⟩
theorem core_ok (hr : RecOk G C T N r) (ht : RecTOk G C T N t) : RecOk G C T N (core T N r t) := by
  intro sc e b ie h X k
  have N1 : ∀ {e : Expr} {i : IE}, PE X e (tN G C i) → (true, i) = (b, ie) → (b = true → PE X e (tN G C ie)) ∧ (b = false → PE X e (tE G C ie)) := fun p q => by
    cases q
    exact ⟨(fun _ => p), (fun h => nomatch h)⟩
  have E1 : ∀ {e : Expr} {i : IE}, PE X e (tE G C i) → (false, i) = (b, ie) → (b = true → PE X e (tN G C ie)) ∧ (b = false → PE X e (tE G C ie)) := fun p q => by
    cases q
    exact ⟨(fun h => nomatch h), (fun _ => p)⟩
  unfold core at h
  split at h
  · -- a name
    rename_i x p
    split at h
    · cases h
    · rename_i hp
      obtain ⟨p1, p2⟩ := plain_ok (x := x) (by simpa using hp)
      split at h
      · rename_i hv
        obtain ⟨i, h1, h2⟩ := mpd h
        exact E1 (e_v (by rw [k.n]; exact slot_ok h1) (vis_ok k hv) p1 p2) h2
      · split at h
        · rename_i hg
          have hg := gl_ok k hg
          split at h
          · rename_i d hd
            obtain ⟨u, v, hm, rv, rp⟩ := k.cs x d hd
            exact E1 (e_k (pe_glob hg hm rv p1) rp) (Option.some.inj h)
          · obtain ⟨i, h1, h2⟩ := mpd h
            obtain ⟨q, h3, h4⟩ := idx_name h1
            have f := k.fn i q h3
            rw [h4] at f
            exact E1 (e_k (d := .fn i) (v := .ref (G.fa i)) (pe_glob hg f.mg rfl p1) (fun _ => rfl)) h2
        · cases h
  · -- a constant
    split at h
    · rename_i i
      exact E1 (e_k (d := .int i) pe_int (fun _ => rfl)) (Option.some.inj h)
    · rename_i i
      exact E1 (e_k (d := .bl i) pe_bl (fun _ => rfl)) (Option.some.inj h)
    · exact E1 (e_k (d := .non) pe_non (fun _ => rfl)) (Option.some.inj h)
    · rename_i x
      split at h
      · rename_i hl
        exact E1 (e_k (d := .str x.cps.toList) (v := .str x) pe_str (fun _ => ⟨rfl, by rw [Array.length_toList]; exact hl⟩)) (Option.some.inj h)
      · cases h
    · cases h
  · obtain ⟨o, h1, h⟩ := bnd h
    obtain ⟨i, h2, h⟩ := bnd h
    obtain ⟨j, h3, h⟩ := mpd h
    rw [bo_ok h1]
    exact N1 (e_bin k.xo (vw_ok hr h2 k) (vw_ok hr h3 k)) h
  · obtain ⟨i, h2, h⟩ := mpd h
    exact N1 (e_neg (vw_ok hr h2 k)) h
  · obtain ⟨i, h2, h⟩ := mpd h
    exact N1 (e_not k.xo (vw_ok hr h2 k)) h
  · obtain ⟨i, h2, h⟩ := bnd h
    obtain ⟨j, h3, h⟩ := mpd h
    exact E1 (e_and k.xo (esc_ok hr h2 k) (esc_ok hr h3 k)) h
  · obtain ⟨i, h2, h⟩ := bnd h
    obtain ⟨j, h3, h⟩ := mpd h
    exact E1 (e_or k.xo (esc_ok hr h2 k) (esc_ok hr h3 k)) h
  · obtain ⟨i, h2, h⟩ := mpd h
    exact E1 (pe_one (esc_ok hr h2 k)) h
  · obtain ⟨q, h1, h⟩ := bnd h
    obtain ⟨i, h2, h⟩ := bnd h
    obtain ⟨j, h3, h⟩ := mpd h
    exact E1 (e_ifx (ht _ _ _ h1 X k).1 (esc_ok hr h2 k) (esc_ok hr h3 k)) h
  · split at h
    · cases h
    · rename_i hs
      obtain ⟨o, h1, h⟩ := bnd h
      obtain ⟨i, h2, h⟩ := bnd h
      obtain ⟨j, h3, h⟩ := mpd h
      rw [co_ok h1]
      exact N1 (e_cmp k.xo (vw_ok hr h2 k) (vw_ok hr h3 k) (set_ok (by simpa using hs))) h
  · split at h
    · cases h
    · rename_i hs
      obtain ⟨o, h1, h⟩ := bnd h
      obtain ⟨o', h1', h⟩ := bnd h
      obtain ⟨i, h2, h⟩ := bnd h
      obtain ⟨j, h3, h⟩ := bnd h
      obtain ⟨l, h4, h⟩ := mpd h
      rw [co_ok h1, co_ok h1']
      exact N1 (e_chain k.xo (vw_ok hr h2 k) (vw_ok hr h3 k) (vw_ok hr h4 k) (set_ok2 (by simpa using hs))) h
  · obtain ⟨i, h2, h⟩ := mpd h
    exact N1 (e_rev k.xo (vw_ok hr h2 k)) h
  · obtain ⟨i, h2, h⟩ := bnd h
    obtain ⟨l, h3, h⟩ := bnd h
    obtain ⟨j, h4, h⟩ := mpd h
    exact N1 (e_slc k.xo (vw_ok hr h2 k) (opt_ok hr h3 k) (opt_ok hr h4 k)) h
  · split at h
    · cases h
    · rename_i hs
      obtain ⟨i, h2, h⟩ := bnd h
      obtain ⟨j, h3, h⟩ := mpd h
      exact E1 (e_idx k.xo (vw_ok hr h2 k) (vw_ok hr h3 k) (sl_ok (by simpa using hs))) h
  · obtain ⟨is, h2, h⟩ := mpd h
    exact N1 (e_lst (argsE_ok hr h2 k)) h
  · obtain ⟨is, h2, h⟩ := mpd h
    exact E1 (e_tup (argsE_ok hr h2 k)) h
  · -- a call
    rename_i x p es q
    split at h
    · cases h
    · rename_i hx
      simp only [Bool.not_eq_true, Bool.or_eq_false_iff, Bool.not_eq_false'] at hx
      obtain ⟨⟨_, hg⟩, hp⟩ := hx
      have hg := gl_ok k hg
      obtain ⟨p1, p2⟩ := plain_ok hp
      split at h
      · rename_i f hf
        obtain ⟨is, h1, h⟩ := bnd h
        split at h
        · rename_i har
          obtain ⟨q, h3, h4⟩ := idx_name hf
          have fk := k.fn f q h3
          rw [h3] at har
          have har : q.2 = is.len := Option.some.inj har
          have hh := Option.some.inj h
          rw [h4, har] at fk
          obtain ⟨s1, s2⟩ := args_star h1
          cases es with
          | nil =>
            cases h1
            exact E1 (e_call0 fk hg p1) hh
          | cons a rest =>
            rw [List.all_cons, Bool.and_eq_true] at s1
            exact E1 (e_call fk hg (argsE_ok hr h1 k) p1 rfl (star_ok (by simpa using s1.1)) (no_star s1.2)) hh
        · cases h
      · split at h
        · cases h
        · rename_i a rest
          split at h
          · rename_i hi
            have ex : x = ("isinstance" : Str) := eq_of_beq hi
            subst ex
            split at h
            · rename_i y py
              split at h
              · rename_i hy
                rw [Bool.and_eq_true] at hy
                obtain ⟨ty, h1, h⟩ := bnd h
                obtain ⟨i, h2, h⟩ := mpd h
                obtain ⟨e1, e2, e3, e4, e5⟩ := ty_ok h1
                have hs : isStar a = false := by simpa using hy.2
                exact N1 (e_isi (q := py) k.xo hg (k.bl _ (by decide +kernel)) (vw_ok hr h2 k) (pe_bltn (gl_ok k hy.1) (k.bl _ e2) e3 rfl e4 e5) (star_ok hs) (star_ok rfl) (no_star rfl)) h
              · cases h
            · cases h
          · obtain ⟨bi, h1, h⟩ := bnd h
            obtain ⟨is, h2, h⟩ := mpd h
            obtain ⟨e1, e2⟩ := bi_ok h1
            have hh := h
            clear h
            subst e1
            obtain ⟨s1, s2⟩ := args_star h2
            rw [List.all_cons, Bool.and_eq_true] at s1
            exact N1 (e_blt k.xo hg (k.bl _ e2) (argsV_ok hr h2 k) (star_ok (by simpa using s1.1)) (no_star s1.2)) hh
  · -- a method
    rename_i o m ap es q
    split at h
    · cases h
    · rename_i hx
      simp only [Bool.not_eq_true, Bool.or_eq_false_iff, Bool.not_eq_false'] at hx
      split at h
      · split at h
        · rename_i hm
          have em : m = ("upper" : Str) := eq_of_beq hm
          subst em
          obtain ⟨i, h2, h⟩ := mpd h
          exact N1 (e_upper (vw_ok hr h2 k) (ab_ok hx.1) hx.2) h
        · cases h
      · rename_i a
        split at h
        · rename_i hm
          rw [Bool.and_eq_true] at hm
          have em : m = ("index" : Str) := eq_of_beq hm.1
          subst em
          obtain ⟨i, h2, h⟩ := bnd h
          obtain ⟨j, h3, h⟩ := mpd h
          have hs : isStar a = false := by simpa using hm.2
          exact N1 (e_index k.xo (vw_ok hr h2 k) (vw_ok hr h3 k) (ab_ok hx.1) (by rw [star_ok hs]; rfl) hx.2 (star_ok hs)) h
        · cases h
      · cases h
  · -- a comprehension
    split at h
    · cases h
    · rename_i hb
      obtain ⟨it, h1, h⟩ := bnd h
      obtain ⟨g, h2, h⟩ := bnd h
      split at h
      · cases h
      · rename_i hall
        obtain ⟨c, h3, h⟩ := bnd h
        obtain ⟨i, h4, h⟩ := mpd h
        exact N1 (comp_sound k hr ht (by simpa using hb) h1 h2 (by simpa using hall) h3 h4).1 h
  · cases h
theorem tstep_ok (hr : RecOk G C T N r) (ht : RecTOk G C T N t) : RecTOk G C T N (tstep N r t) := by
  intro sc e ie h X k
  unfold tstep at h
  split at h
  · obtain ⟨i, h1, h⟩ := mpd h
    subst h
    exact ⟨t_not (ht _ _ _ h1 X k).1, fun _ _ _ h => nomatch h⟩
  · obtain ⟨i, h1, h⟩ := bnd h
    obtain ⟨j, h2, h⟩ := mpd h
    subst h
    have pw := w_and (ht _ _ _ h1 X k).1 ((ht _ _ _ h2 X k).2 _ _ _ rfl)
    exact ⟨pw.pt, fun _ _ _ h => by cases h; exact pw⟩
  · obtain ⟨i, h1, h⟩ := bnd h
    obtain ⟨j, h2, h⟩ := mpd h
    subst h
    have pw := w_or (ht _ _ _ h1 X k).1 ((ht _ _ _ h2 X k).2 _ _ _ rfl)
    exact ⟨pw.pt, fun _ _ _ h => by cases h; exact pw⟩
  · rename_i op a p
    have h1 := (ht _ _ _ h X k).1
    cases op with
    | And => exact ⟨(pw_and1 h1).pt, fun _ _ _ h => by cases h; exact pw_and1 h1⟩
    | Or => exact ⟨(pw_or1 h1).pt, fun _ _ _ h => by cases h; exact pw_or1 h1⟩
  · split at h
    · cases h
    · rename_i hs
      obtain ⟨o, h1, h⟩ := bnd h
      obtain ⟨i, h2, h⟩ := bnd h
      obtain ⟨j, h3, h⟩ := mpd h
      subst h
      rw [co_ok h1]
      exact ⟨t_cmp k.xo (vw_ok hr h2 k) (vw_ok hr h3 k) (set_ok (by simpa using hs)), fun _ _ _ h => nomatch h⟩
  · split at h
    · cases h
    · rename_i hs
      obtain ⟨o, h1, h⟩ := bnd h
      obtain ⟨o', h1', h⟩ := bnd h
      obtain ⟨i, h2, h⟩ := bnd h
      obtain ⟨j, h3, h⟩ := bnd h
      obtain ⟨l, h4, h⟩ := mpd h
      subst h
      rw [co_ok h1, co_ok h1']
      exact ⟨t_chain k.xo (vw_ok hr h2 k) (vw_ok hr h3 k) (vw_ok hr h4 k) (set_ok2 (by simpa using hs)), fun _ _ _ h => nomatch h⟩
  · split at h
    · cases h
    · rename_i hs
      have hs : isTst e = false := by simpa using hs
      refine ⟨t_plain k.xo (vw_ok hr h k) (tst_ok hs), fun op es p h => ?_⟩
      subst h
      cases hs
theorem cmpl_ok : ∀ n, RecOk G C T N (cmpl T N n).1 ∧ RecTOk G C T N (cmpl T N n).2
  | 0 => ⟨(fun _ _ _ _ h => nomatch h), (fun _ _ _ h => nomatch h)⟩
  | n + 1 => ⟨core_ok (cmpl_ok n).1 (cmpl_ok n).2, tstep_ok (cmpl_ok n).1 (cmpl_ok n).2⟩
end
end Cal
/-! Cal, part P: statements compiled; defs; the whole text. -/
namespace Cal
open PySem L2 PySem.Spec PyProof.Rows
def isComp : Expr → Bool
  | .ListComp _ _ _ _ => true
  | .SetComp _ _ _ _ => true
  | .DictComp _ _ _ _ _ => true
  | _ => false
/-- a list comprehension at a name: is it stored in the comprehension's frame -/
def swapT (sc : Scope) (y : Str) (py : Pos) (e : Expr) : Bool :=
  match e with
  | .ListComp _ _ scope pos => (py.line == pos.line) && !(scope.names.any fun (n, k) => n == y && (k == .local || k == .cell))
  | _ => false
section
variable (T : Tb) (N : List Str) (own loc : List Nat) (d : Nat)
/-- the deepest expression -/
abbrev rE : Rec := (cmpl T N d).1
abbrev rT : RecT := (cmpl T N d).2
def setOf (i : Nat) (sc : Cs) (e : Expr) : Option IS :=
  if own.contains i then (rE T N d sc e).bind fun p => if p.1 then some (.setf i p.2) else none
  else if loc.contains i then (rE T N d sc e).bind fun p => if p.1 then some (.setl i p.2) else none
  else (escR (rE T N d) sc e).map fun i' => .set i i'
def ownSlot (sc : Cs) : Expr → Option Nat
  | .Name x _ => if visB sc.sc x && plainName x then (slotOf N x).bind fun i => if own.contains i then some i else none else none
  | _ => none
def stR (rec : List Stmt → Option ISs) (sc : Cs) : Stmt → Option IS
  | .Expr e _ =>
    match e with
    | .Call (.Attribute o m ap) [a] [] p =>
      if m == ("append" : Str) then
        if isC0 o || !(ap.endLine == p.line) || isStar a then none else
        match ownSlot N own sc o with
        | some i => (escR (rE T N d) sc a).map fun j => .app (.slot i) j
        | none => (escR (rE T N d) sc o).bind fun l => (escR (rE T N d) sc a).map fun j => .app (.val l) j
      else (vwR N (rE T N d) sc e).map .ex
    | _ => if isComp e then none else (vwR N (rE T N d) sc e).map .ex
  | .Return (some e) _ =>
    match ownSlot N own sc e with
    | some i => some (.ret (.w i))
    | none => (escR (rE T N d) sc e).map .ret
  | .Return none _ => some .retn
  | .Assign [.Name x py] e _ =>
    if !(locB sc.sc x && sc.sto x) then none else
    (slotOf N x).bind fun i =>
      match e with
      | .ListComp _ _ _ _ => if sc.sc.names.lookup x == some .local && !swapT sc.sc x py e then none else setOf T N own loc d i sc e
      | _ => if isComp e then none else setOf T N own loc d i sc e
  | .Assign [.Tuple ts k q] e _ => if isTup e || isComp e then none else (tgOf N sc (.Tuple ts k q)).bind fun g => (escR (rE T N d) sc e).map fun i => .unp g i
  | .Assign [.Subscript o ix _] e _ =>
    if isSl ix then none else
    (escR (rE T N d) sc ix).bind fun k =>
      (escR (rE T N d) sc e).bind fun j =>
        match ownSlot N own sc o with
        | some i => some (.seti (.slot i) k j)
        | none => (escR (rE T N d) sc o).map fun l => .seti (.val l) k j
  | .AugAssign (.Name x _) op e _ =>
    if !(locB sc.sc x && sc.sto x) then none else
    (slotOf N x).bind fun i => (boOf op).bind fun o => (escR (rE T N d) sc e).map fun j => .aug i o j
  | .If c p q _ => (rT T N d sc c).bind fun k => (rec p).bind fun i => (rec q).map fun j => .ifs k i j
  | .While c body [] _ => (rT T N d sc c).bind fun k => (rec body).map fun i => .whl k i
  | .For tg it body [] _ => (iterR (escR (rE T N d)) (vwR N (rE T N d)) (escR (rE T N d)) sc tg it).bind fun ii => (tgOf N sc tg).bind fun g => (rec body).map fun b => .forr g ii b
  | .Break _ => some .brk
  | .Continue _ => some .cont
  | .Pass _ => some .pass
  | _ => none
def stsR (f : Stmt → Option IS) : List Stmt → Option ISs
  | [] => some .nil
  | s :: r => (f s).bind fun i => (stsR f r).map fun j => .cons i j
/-- a block; the number: how deep -/
def cmps (sc : Cs) : Nat → List Stmt → Option ISs
  | 0 => fun _ => none
  | n + 1 => stsR (stR T N own loc d (cmps sc n) sc)
end
section
variable {G : Gp} {C : CallF} {T : Tb} {N : List Str} {own loc : List Nat} {d : Nat} {X : Cx} {sc : Cs} {a b c e : Expr} {ia ib ic : IE} {pos : Pos} {s : Stmt}
theorem swapN_ok (h : isComp e = false) {tg : Option Expr} {l : Nat} : swapsWith e tg l X.env = pure false := by
  unfold swapsWith
  cases e <;> first | rfl | cases h
theorem swapNone_ok {e : Expr} (h : isComp e = false) : swapsWith e none pos.line X.env = pure false := swapN_ok h
theorem own_ok {i : Nat} (h : ownSlot N own sc e = some i) (k : CtxOk G C T N X sc) : ∃ x p, e = .Name x p ∧ X.N[i]? = some x ∧ Vis X.env.scope x ∧ (x == ("__debug__" : Str)) = false ∧ (x == ("__classdict__" : Str)) = false := by
  unfold ownSlot at h
  split at h
  · rename_i x p
    split at h
    · rename_i hv
      rw [Bool.and_eq_true] at hv
      obtain ⟨j, h1, h⟩ := bnd h
      split at h
      · cases h
        obtain ⟨p1, p2⟩ := plain_ok hv.2
        exact ⟨x, p, rfl, by rw [k.n]; exact slot_ok h1, vis_ok k hv.1, p1, p2⟩
      · cases h
    · cases h
  · cases h
theorem setOf_ok {i : Nat} {is : IS} {te : TE} (k : CtxOk G C T N X sc) (h : setOf T N own loc d i sc e = some is) (hps : ∀ b ie, rE T N d sc e = some (b, ie) → ∃ te, PS X s (tAsg te (gName i)) ∧ (b = true → ∀ σ H Q, tN G C ie σ H Q → te σ H Q) ∧ (b = false → ∀ σ H Q, tE G C ie σ H Q → te σ H Q)) : PS X s (tS G C is) := by
  unfold setOf at h
  split at h
  · obtain ⟨⟨b, ie⟩, h1, h⟩ := bnd h
    obtain ⟨te, p, q1, q2⟩ := hps b ie h1
    cases b with
    | true => cases h; exact s_setf p (q1 rfl)
    | false => cases h
  · split at h
    · obtain ⟨⟨b, ie⟩, h1, h⟩ := bnd h
      obtain ⟨te, p, q1, q2⟩ := hps b ie h1
      cases b with
      | true => cases h; exact s_setl p (q1 rfl)
      | false => cases h
    · obtain ⟨ie, h1, h⟩ := mpd h
      subst h
      unfold escR at h1
      obtain ⟨⟨b, ie'⟩, h2, h3⟩ := mpd h1
      obtain ⟨te, p, q1, q2⟩ := hps b ie' h2
      cases h3
      cases b with
      | true => exact s_set p fun σ H Q h => q1 rfl σ H Q (tE_tN h)
      | false => exact s_set p (q2 rfl)
/-- the context of statements -/
structure CtxS (G : Gp) (C : CallF) (T : Tb) (N : List Str) (X : Cx) (sc : Cs) : Prop where
  k : CtxOk G C T N X sc
  po : PassesOwn (model X.prog X.w) X.A X.env X.xe
  fk : X.env.scope.kind = .function
theorem lc_inv {r : Rec} {t : RecT} {elt : Expr} {gens : List Comprehension} {scope : Scope} {pc : Pos} {b : Bool} {ie : IE} (h : core T N r t sc (.ListComp elt gens scope pc) = some (b, ie)) :
    ∃ tg iter ifs it g ic ie', gens = [⟨tg, iter, ifs, 0⟩] ∧ blkC N sc.sc scope (ownOf N scope.names) = true ∧ iterR (escR r) (vwR N r) (vwR N r) sc tg iter = some it ∧ tgOf N (subC sc scope) tg = some g ∧ (g.all fun i => ((ownOf N scope.names).map (·.2)).contains i) = true ∧
      condR t (subC sc scope) ifs = some ic ∧ escR r (subC sc scope) elt = some ie' ∧ b = true ∧ ie = .comp it g ic ie' ((ownOf N scope.names).map (·.2)) := by
  unfold core at h
  split at h
  all_goals first | (rename_i hh; cases hh; done) | skip
  · rename_i hh
    cases hh
    split at h
    · cases h
    · rename_i hb
      obtain ⟨it, h1, h⟩ := bnd h
      obtain ⟨g, h2, h⟩ := bnd h
      split at h
      · cases h
      · rename_i hall
        obtain ⟨c, h3, h⟩ := bnd h
        obtain ⟨i, h4, h⟩ := mpd h
        cases h
        exact ⟨_, _, _, it, g, c, i, rfl, by simpa using hb, h1, h2, by simpa using hall, h3, h4, rfl, rfl⟩
  · cases h
theorem sw_cell {elt : Expr} {gs : List Comprehension} {scope : Scope} {pc py : Pos} {y : Str} {l : Nat} {env : PySem.Env} (hy : ¬ env.scope.names.lookup y = some .local) : swapsWith (.ListComp elt gs scope pc) (some (.Name y py)) l env = pure false := by
  have ky : (env.kindOf y == some .local) = false := by
    show (env.scope.names.lookup y == some .local) = false
    exact beq_eq_false_iff_ne.mpr hy
  unfold swapsWith
  simp only [ky, Bool.and_false, Bool.false_and]
theorem stores_ok {ts : List Expr} {kt : Nat} {q : Pos} {env : PySem.Env} (h : isTup e = false) : swappedStores [.Tuple ts kt q] e env = pure none := by
  cases e <;> first | rfl | cases h
theorem stores_sub {o ix : Expr} {q : Pos} {env : PySem.Env} : swappedStores [.Subscript o ix q] e env = pure none := by
  cases e <;> rfl
theorem sw_sub {o ix : Expr} {q : Pos} {l : Nat} {env : PySem.Env} : swapsWith e (some (.Subscript o ix q)) l env = pure false := by
  cases e <;> rfl
theorem asg_sub {o b : Expr} {q : Pos} {env : PySem.Env} (h : isSl b = false) (v : Value) : assign (.Subscript o b q) env v = (do
      let ov ← holding [v] (eval o env)
      let iv ← holding [v, ov] (eval b env)
      standAt q
      holding [v, ov, iv] (setItem ov iv v)
      release [v, ov, iv] []) := by
  cases b <;> first | rfl | cases h
theorem stR_ok {rec : List Stmt → Option ISs} (kk : CtxS G C T N X sc) (hrec : ∀ l is, rec l = some is → PSs X l (tSs G C is)) {is : IS} (h : stR T N own loc d rec sc s = some is) : PS X s (tS G C is) := by
  have k := kk.k
  obtain ⟨hr, ht⟩ := cmpl_ok (G := G) (C := C) (T := T) (N := N) d
  unfold stR at h
  split at h
  · -- an expression
    rename_i e p
    split at h
    · rename_i o m ap a q
      split at h
      · rename_i hm
        have em : m = ("append" : Str) := eq_of_beq hm
        subst em
        split at h
        · cases h
        · rename_i hx
          rw [Bool.not_eq_true, Bool.or_eq_false_iff, Bool.or_eq_false_iff] at hx
          obtain ⟨⟨h1, h2⟩, h3⟩ := hx
          have h2 : (ap.endLine == q.line) = true := by simpa using h2
          split at h
          · rename_i i hi
            obtain ⟨j, h4, h⟩ := mpd h
            subst h
            obtain ⟨x, px, rfl, n1, n2, n3, n4⟩ := own_ok hi k
            exact s_app n1 n2 n3 n4 (esc_ok hr h4 k) (ab_ok h1) (by rw [star_ok h3]; rfl) h2 (star_ok h3)
          · obtain ⟨l, h5, h⟩ := bnd h
            obtain ⟨j, h4, h⟩ := mpd h
            subst h
            exact s_appL (esc_ok hr h5 k) (esc_ok hr h4 k) (ab_ok h1) (by rw [star_ok h3]; rfl) h2 (star_ok h3)
      · obtain ⟨i, h1, h⟩ := mpd h
        subst h
        exact s_ex (vw_ok hr h1 k) (swapN_ok rfl)
    · split at h
      · cases h
      · rename_i hc
        obtain ⟨i, h1, h⟩ := mpd h
        subst h
        exact s_ex (vw_ok hr h1 k) (swapN_ok (by simpa using hc))
  · -- return e
    split at h
    · rename_i i hi
      cases h
      obtain ⟨x, px, rfl, n1, n2, n3, n4⟩ := own_ok hi k
      exact s_retw n1 n2 n3 n4
    · obtain ⟨i, h1, h⟩ := mpd h
      subst h
      exact s_ret (esc_ok hr h1 k)
  · cases h
    exact s_retN
  · -- a name
    rename_i x py e p
    split at h
    · cases h
    · rename_i hl
      have hl : (locB sc.sc x && sc.sto x) = true := by simpa using hl
      rw [Bool.and_eq_true] at hl
      obtain ⟨i, hi, h⟩ := bnd h
      have hN : X.N.Nodup := by rw [k.n]; exact k.nd
      have hi' : X.N[i]? = some x := by rw [k.n]; exact slot_ok hi
      have hL : Loc X.env.scope x := by rw [k.scope]; exact loc_okB hl.1
      have plainly : swapsWith e (some (.Name x py)) p.line X.env = pure false → ∀ b ie, rE T N d sc e = some (b, ie) → ∃ te, PS X (.Assign [.Name x py] e p) (tAsg te (gName i)) ∧ (b = true → ∀ σ H Q, tN G C ie σ H Q → te σ H Q) ∧ (b = false → ∀ σ H Q, tE G C ie σ H Q → te σ H Q) := fun hsw b ie he => by
        obtain ⟨h1, h2⟩ := hr sc e b ie he X k
        cases b with
        | true => exact ⟨_, ps_set hN hi' hL (h1 rfl) hsw (k.sto x hl.2 hL), (fun _ σ H Q h => h), (fun h => nomatch h)⟩
        | false => exact ⟨_, ps_set hN hi' hL (h2 rfl) hsw (k.sto x hl.2 hL), (fun h => nomatch h), (fun _ σ H Q h => h)⟩
      split at h
      · rename_i elt gens scope pc _
        split at h
        · cases h
        · rename_i hsw
          refine setOf_ok (te := tC .non) k h fun b ie he => ?_
          by_cases hloc : sc.sc.names.lookup x = some .local
          · -- stored in the comprehension's own frame
            have hT : swapT sc.sc x py (.ListComp elt gens scope pc) = true := by
              rw [hloc] at hsw
              simpa using hsw
            unfold swapT at hT
            simp only [Bool.and_eq_true] at hT
            have hsw' : swapsWith (.ListComp elt gens scope pc) (some (.Name x py)) p.line X.env = pure true := sw_true kk.fk (by rw [k.scope]; exact hloc) hT.1 (by simpa using hT.2)
            have he' := he
            unfold rE at he'
            cases d with
            | zero => cases he'
            | succ d =>
              obtain ⟨hr', ht'⟩ := cmpl_ok (G := G) (C := C) (T := T) (N := N) d
              replace he' : core T N (cmpl T N d).1 (cmpl T N d).2 sc (.ListComp elt gens scope pc) = some (b, ie) := he'
              obtain ⟨tg, iter, ifs, it, g, ic, ie', rfl, c1, c2, c3, c4, c5, c6, rfl, rfl⟩ := lc_inv he'
              obtain ⟨te, q1, q2⟩ := (comp_sound k hr' ht' c1 c2 c3 c4 c5 c6).2 (slot_ok hi) (by rw [k.scope]; exact hloc) hsw'
              exact ⟨te, q1, fun _ => q2, fun h => nomatch h⟩
          · exact plainly (sw_cell (by rw [k.scope]; exact hloc)) b ie he
      · split at h
        · cases h
        · rename_i hc
          exact setOf_ok (te := tC .non) k h (plainly (swapN_ok (by simpa using hc)))
  · -- a, b = e
    rename_i ts kt q e p
    split at h
    · cases h
    · rename_i hx
      rw [Bool.not_eq_true, Bool.or_eq_false_iff] at hx
      obtain ⟨g, h1, h⟩ := bnd h
      obtain ⟨i, h2, h⟩ := mpd h
      subst h
      exact s_unp (ps_asg (esc_ok hr h2 k) (tg_ok h1 k) (by unfold swapsWithSole; exact swapN_ok hx.2) (stores_ok hx.1)) fun _ _ _ h => h
  · -- xs[i] = e
    rename_i o ix q e p
    split at h
    · cases h
    · rename_i hx
      obtain ⟨ik, h1, h⟩ := bnd h
      obtain ⟨j, h2, h⟩ := bnd h
      split at h
      · rename_i i hi
        cases h
        obtain ⟨x, px, rfl, n1, n2, n3, n4⟩ := own_ok hi k
        exact s_seti n1 n2 n3 n4 (esc_ok hr h2 k) (esc_ok hr h1 k) (asg_sub (by simpa using hx)) (by unfold swapsWithSole; exact sw_sub) (stores_sub)
      · obtain ⟨l, h3, h⟩ := mpd h
        subst h
        exact s_setiL (p := q) (esc_ok hr h3 k) (esc_ok hr h2 k) (esc_ok hr h1 k) (asg_sub (by simpa using hx)) (by unfold swapsWithSole; exact sw_sub) (stores_sub)
  · -- x op= e
    rename_i x px op e p
    split at h
    · cases h
    · rename_i hl
      have hl : (locB sc.sc x && sc.sto x) = true := by simpa using hl
      rw [Bool.and_eq_true] at hl
      obtain ⟨i, hi, h⟩ := bnd h
      obtain ⟨o, ho, h⟩ := bnd h
      obtain ⟨j, hj, h⟩ := mpd h
      subst h
      cases bo_ok ho
      have hL : Loc X.env.scope x := by rw [k.scope]; exact loc_okB hl.1
      exact s_aug (by rw [k.n]; exact k.nd) (by rw [k.n]; exact slot_ok hi) hL (k.sto x hl.2 hL) (esc_ok hr hj k)
  · obtain ⟨i, h1, h⟩ := bnd h
    obtain ⟨p, h2, h⟩ := bnd h
    obtain ⟨q, h3, h⟩ := mpd h
    subst h
    exact s_ifs (ht _ _ _ h1 X k).1 (hrec _ _ h2) (hrec _ _ h3)
  · obtain ⟨i, h1, h⟩ := bnd h
    obtain ⟨p, h2, h⟩ := mpd h
    subst h
    exact s_whl kk.po (ht _ _ _ h1 X k).1 (hrec _ _ h2)
  · obtain ⟨ii, h1, h⟩ := bnd h
    obtain ⟨g, h2, h⟩ := bnd h
    obtain ⟨p, h3, h⟩ := mpd h
    subst h
    obtain ⟨pi, ns⟩ := iter_ok (fl := true) hr (fun e ie h => i_seqF k.xo (esc_ok hr h k)) h1 k
    exact s_for kk.po k.xo.calm pi (tg_ok h2 k) (hrec _ _ h3) (fun x => fold_ok ns)
  · cases h; exact s_brk
  · cases h; exact s_cont
  · cases h; exact s_pass
  · cases h
theorem stsR_ok {f : Stmt → Option IS} (h : ∀ s is, f s = some is → PS X s (tS G C is)) : ∀ (l : List Stmt) (is : ISs), stsR f l = some is → PSs X l (tSs G C is)
  | [], is, e => by
    cases e
    exact ss_nil
  | s :: r, is, e => by
    unfold stsR at e
    obtain ⟨i, h1, e⟩ := bnd e
    obtain ⟨j, h2, e⟩ := mpd e
    subst e
    exact ss_cons (h _ _ h1) (stsR_ok h r j h2)
theorem cmps_ok (kk : CtxS G C T N X sc) : ∀ (n : Nat) (l : List Stmt) (is : ISs), cmps T N own loc d sc n l = some is → PSs X l (tSs G C is)
  | 0, _, _, h => nomatch h
  | n + 1, l, is, h => stsR_ok (fun _ _ h => stR_ok kk (cmps_ok kk n) h) l is h
end
end Cal
/-! Cal, part Q: the defs of a text, and calls between them. -/
namespace Cal
open PySem L2 PySem.Spec PyProof.Rows
/-- a def: its parameters' number, its slots, its body -/
structure FD where
  ar : Nat
  n : Nat
  body : ISs
noncomputable def runF (C : CallF) (fd : FD) (ds : List D) (st : Sto) : Res D :=
  if ds.length = fd.ar then
    match execs C fd.body (ds.map .va ++ List.replicate (fd.n - ds.length) .un) st with
    | .nx _ st1 => .ok .non st1
    | .rt d st1 => .ok d st1
    | _ => .bad
  else .bad
/-- a call, at most so many within one another -/
noncomputable def callK (fds : List FD) : Nat → CallF
  | 0 => fun _ _ _ => .bad
  | k + 1 => fun f ds st => match fds[f]? with
    | some fd => runF (callK fds k) fd ds st
    | none => .bad
section
variable {G : Gp} {C : CallF} {W : Wd} {H : Hp} {st : Sto} {N ps : List Str}
theorem entry_sl : ∀ {ds : List D} {vs : List V} {a b : Nat}, RpL G W ds vs → ∀ (i : Nat) s, (ds.map Sl.va ++ List.replicate a Sl.un)[i]? = some s → SlotR G W H s (vs.map some ++ List.replicate b none)[i]?
  | [], vs, a, b, h, i, s, e => by
    rw [List.map_nil, List.nil_append, List.getElem?_replicate] at e
    split at e
    · cases e
      exact trivial
    · cases e
  | d :: ds, vs, a, b, h, i, s, e => by
    obtain ⟨v, r, rfl, h1, h2⟩ := h
    cases i with
    | zero =>
      cases e
      exact ⟨v, rfl, h1⟩
    | succ i => exact entry_sl h2 i s e
theorem entry_ow {ds : List D} {a : Nat} {i : Nat} {d : D} (e : (ds.map Sl.va ++ List.replicate a Sl.un)[i]? = some (.ow d)) : False := by
  have := List.mem_of_getElem? e
  rw [List.mem_append] at this
  rcases this with h | h
  · obtain ⟨x, _, h⟩ := List.mem_map.mp h
    cases h
  · obtain ⟨_, h⟩ := List.mem_replicate.mp h
    cases h
theorem entry {ds : List D} {vs : List V} {n : Nat} (g : GRel G W H st) (r : RpL G W ds vs) (hn : N.length = n) : SRel G W H W H st (ds.map .va ++ List.replicate (n - ds.length) .un) (L2.start N vs) := by
  refine ⟨Ext.refl, g, ⟨?_, fun i s e => entry_sl r i s e, fun i j d e _ h => (entry_ow h).elim⟩, fun i d h => (entry_ow h).elim⟩
  unfold L2.start
  rw [List.length_append, List.length_append, List.length_map, List.length_map, List.length_replicate, List.length_replicate, r.len, hn]
variable {P : Program} {w : World} {K : PySem.W.Frag} {mg : Str → Option Value} {base : Heap}
/-- the context of a def's body -/
abbrev bodyX (P : Program) (w : World) (K : PySem.W.Frag) (mg : Str → Option Value) (base : Heap) (N : List Str) (qual : Str) (scope : Scope) (f : Addr) (cdv : Value) (A : Around) (outer : List PySem.Env) (s : Shared) (H : Hp) (E : XK) : Cx := (cxOf CX0 P w K mg base N qual scope f cdv A outer s H E).nox
theorem ok_body {x qual : Str} {stm : Stmt} {i ar n k : Nat} {fd : FuncData} {body : ISs} (F : Fun K x qual stm (G.fa i) fd) (S : FnScope N ps (defScope stm)) (har : ps.length = ar) (hn : N.length = n)
    (hb : ∀ (cdv : Value) (A : Around) (outer : List PySem.Env) (s : Shared) (H : Hp) (E : XK), Room k (A.deeper (envOfC qual (defScope stm) s.heap.objs.size (G.fa i) cdv)) → PSs (bodyX P w K mg base N qual (defScope stm) (G.fa i) cdv A outer s H E) (defBody stm) (tSs G C body))
    {C' : CallF} (hC : C' i = runF C ⟨ar, n, body⟩) : FnOk P w K mg base CX0 (k + 1) (G.fa i) fd ps (spF G C' i ar) := by
  refine F.ok S (fun vs H Q E h => ?_) (fun cdv A outer s H vs Q E hr h => ?_)
  · obtain ⟨_, _, _, _, _, hl, _⟩ := h
    rw [hl, har]
  · obtain ⟨W, st, ds, d, st', hl, g, r, hc, q⟩ := h
    refine ⟨_, hb cdv A outer s H E hr, ?_⟩
    rw [hC] at hc
    unfold runF at hc
    split at hc
    · refine ⟨W, H, W, _, st, entry (N := N) g r hn, ?_⟩
      unfold PostS
      split at hc
      · rename_i e1 st1 e
        rw [e]
        cases hc
        exact fun W' H' σ r' => q W' H' .non r'.x r'.g rfl
      · rename_i d1 st1 e
        rw [e]
        cases hc
        exact fun W' H' v x' g' r' => q W' H' v x' g' r'
      · cases hc
    · cases hc
theorem ok_zero {i ar : Nat} {fd : FuncData} {fds : List FD} : FnOk P w K mg base CX0 0 (G.fa i) fd ps (spF G (callK fds 0) i ar) := by
  have no : ∀ vs H Q E, spF G (callK fds 0) i ar vs H Q E → False := fun vs H Q E h => by
    obtain ⟨_, _, _, _, _, _, _, _, h, _⟩ := h
    cases h
  exact ⟨fun vs H Q E h => (no _ _ _ _ h).elim, fun _ _ _ _ _ _ _ _ _ _ _ _ _ h => (no _ _ _ _ h).elim⟩
/-- a def of the text, with what it is compiled to -/
structure DefOk (G : Gp) (T : Tb) (K : PySem.W.Frag) (mg : Str → Option Value) (i : Nat) (x : Str) (fd0 : FD) : Prop where
  ex : ∃ (qual : Str) (stm : Stmt) (fd : FuncData) (N ps : List Str) (own loc : List Nat) (d n : Nat), Fun K x qual stm (G.fa i) fd ∧ FnScope N ps (defScope stm) ∧ ps.length = fd0.ar ∧ N.length = fd0.n ∧ Binds K fd ps [] ∧ cmps T N own loc d ⟨defScope stm, fun _ => true⟩ n (defBody stm) = some fd0.body
  mg : mg x = some (.ref (G.fa i))
/-- what the top has written, for all defs -/
structure TopOk (G : Gp) (T : Tb) (K : PySem.W.Frag) (mg : Str → Option Value) (fds : List FD) : Prop where
  kk : K = G.K
  td : ∀ (i : Nat) p, T.fns[i]? = some p → ∃ fd, fds[i]? = some fd ∧ fd.ar = p.2 ∧ DefOk G T K mg i p.1 fd
  cs : ∀ x d, T.cs.lookup x = some d → ∃ u v, mg x = some u ∧ RelV v u ∧ ∀ W, Rp G W d v
  bl : ∀ x, bltNames.contains x = true → mg x = none
theorem one_ok {T : Tb} {fds : List FD} (t : TopOk G T K mg fds) {k : Nat} (ih : ∀ (i : Nat) p, T.fns[i]? = some p → ∃ fd ps, FnOk P w K mg base CX0 k (G.fa i) fd ps (spF G (callK fds k) i p.2) ∧ Binds K fd ps [])
    {i : Nat} {qual : Str} {stm : Stmt} {fd : FuncData} {N ps : List Str} {own loc : List Nat} {d n : Nat} {fd0 : FD} (e0 : fds[i]? = some fd0) (F : Fun K x qual stm (G.fa i) fd) (S : FnScope N ps (defScope stm)) (h1 : ps.length = fd0.ar) (h2 : N.length = fd0.n) (hc : cmps T N own loc d ⟨defScope stm, fun _ => true⟩ n (defBody stm) = some fd0.body) :
    FnOk P w K mg base CX0 (k + 1) (G.fa i) fd ps (spF G (callK fds (k + 1)) i fd0.ar) := by
  refine ok_body (C := callK fds k) (body := fd0.body) F S h1 h2 (fun cdv A outer s H E hr => ?_) ?_
  · refine cmps_ok (own := own) (loc := loc) (d := d) (sc := ⟨defScope stm, fun _ => true⟩) (T := T) (N := N) ⟨⟨⟨t.kk, rfl, ?_⟩, rfl, S.nd, rfl, fun x _ _ => .inl rfl, fun j p' hj => ?_, t.cs, t.bl⟩, PassesOwn.never, S.kind⟩ n _ _ hc
    · have := hr.un
      show (A.deeper _).units + 70 < cLine
      omega
    · obtain ⟨fd', ps', F', B'⟩ := ih j p' hj
      obtain ⟨_, _, _, D⟩ := t.td j p' hj
      exact ⟨⟨k, fd', ps', F', B', hr⟩, D.mg, by
        obtain ⟨_, _, _, _, _, _, _, _, _, F2, _⟩ := D.ex
        exact F2.kp⟩
  · funext ds st
    show (match fds[i]? with | some fd => runF (callK fds k) fd ds st | none => .bad) = _
    rw [e0]
theorem all_ok {T : Tb} {fds : List FD} (t : TopOk G T K mg fds) :
    ∀ (k i : Nat) p, T.fns[i]? = some p → ∃ fd ps, FnOk P w K mg base CX0 k (G.fa i) fd ps (spF G (callK fds k) i p.2) ∧ Binds K fd ps []
  | 0, i, p, h => by
    obtain ⟨fd0, _, _, ⟨qual, stm, fd, N, ps, own, loc, d, n, F, S, _, _, B, _⟩, _⟩ := t.td i p h
    exact ⟨fd, ps, ok_zero, B⟩
  | k + 1, i, p, h => by
    obtain ⟨fd0, e0, ea, ⟨qual, stm, fd, N, ps, own, loc, d, n, F, S, h1, h2, B, hc⟩, _⟩ := t.td i p h
    refine ⟨fd, ps, ?_, B⟩
    rw [← ea]
    exact one_ok t (all_ok t k) e0 F S h1 h2 hc
/-! by lists -/
def AllD (G : Gp) (T : Tb) (K : PySem.W.Frag) (mg : Str → Option Value) : Nat → List (Str × Nat) → List FD → Prop
  | _, [], _ => True
  | i, p :: r, fd :: q => (fd.ar = p.2 ∧ DefOk G T K mg i p.1 fd) ∧ AllD G T K mg (i + 1) r q
  | _, _ :: _, [] => False
theorem allD {G : Gp} {T : Tb} {K : PySem.W.Frag} {mg : Str → Option Value} : ∀ {r : List (Str × Nat)} {q : List FD} {j : Nat}, AllD G T K mg j r q → ∀ (i : Nat) p, r[i]? = some p → ∃ fd, q[i]? = some fd ∧ fd.ar = p.2 ∧ DefOk G T K mg (j + i) p.1 fd
  | [], _, _, _, i, p, h => by simp at h
  | p :: r, [], _, a, _, _, _ => a.elim
  | p :: r, fd :: q, j, a, 0, p', h => by
    cases h
    exact ⟨fd, rfl, a.1.1, a.1.2⟩
  | p :: r, fd :: q, j, a, i + 1, p', h => by
    obtain ⟨fd', h1, h2, h3⟩ := allD a.2 i p' h
    refine ⟨fd', h1, h2, ?_⟩
    rw [show j + (i + 1) = j + 1 + i by omega]
    exact h3
def CstOk (G : Gp) (mg : Str → Option Value) (x : Str) (d : D) : Prop := ∃ u v, mg x = some u ∧ RelV v u ∧ ∀ W, Rp G W d v
def AllC (G : Gp) (mg : Str → Option Value) : List (Str × D) → Prop
  | [] => True
  | p :: r => CstOk G mg p.1 p.2 ∧ AllC G mg r
theorem allC {G : Gp} {mg : Str → Option Value} : ∀ {r : List (Str × D)}, AllC G mg r → ∀ x d, r.lookup x = some d → CstOk G mg x d
  | [], _, _, _, h => nomatch h
  | (y, e) :: r, a, x, d, h => by
    rw [List.lookup_cons] at h
    split at h
    · rename_i hx
      cases h
      rw [eq_of_beq hx]
      exact a.1
    · exact allC a.2 x d h
theorem cst_int {mg : Str → Option Value} {x : Str} {i : Int} {t : Tok} (h : mg x = some (.int i t)) : CstOk G mg x (.int i) := ⟨_, .int i, h, ⟨t, rfl⟩, fun _ => rfl⟩
theorem cst_bl {mg : Str → Option Value} {x : Str} {b : Bool} (h : mg x = some (.bool b)) : CstOk G mg x (.bl b) := ⟨_, .bl b, h, rfl, fun _ => rfl⟩
theorem cst_str {mg : Str → Option Value} {x s : Str} {t : Tok} {cs : List Nat} (h : mg x = some (.str s t)) (e : s = ⟨cs.toArray⟩) (hl : cs.length ≤ SL) : CstOk G mg x (.str cs) := ⟨_, .str s, h, ⟨t, rfl⟩, fun _ => ⟨by rw [e], hl⟩⟩
def AllB (mg : Str → Option Value) : List Str → Prop
  | [] => True
  | x :: r => mg x = none ∧ AllB mg r
theorem allB {mg : Str → Option Value} : ∀ {r : List Str}, AllB mg r → ∀ x, r.contains x = true → mg x = none
  | [], _, _, h => by simp at h
  | y :: r, a, x, h => by
    rw [List.contains_cons, Bool.or_eq_true] at h
    rcases h with h | h
    · rw [eq_of_beq h]
      exact a.1
    · exact allB a.2 x h
theorem top_mk {T : Tb} {fds : List FD} (hK : K = G.K) (hD : AllD G T K mg 0 T.fns fds) (hC : AllC G mg T.cs) (hB : AllB mg bltNames) : TopOk G T K mg fds :=
  ⟨hK, fun i p h => by
    obtain ⟨fd, h1, h2, h3⟩ := allD hD i p h
    rw [Nat.zero_add] at h3
    exact ⟨fd, h1, h2, h3⟩, allC hC, allB hB⟩
/-- no list among the objects of the text -/
def noLst : PySem.W.Frag → Bool
  | [] => true
  | (_, o) :: r => !(o.cls == .type "list") && noLst r
theorem noLst_ok : ∀ {K : PySem.W.Frag} {a : Addr} {o : Obj}, noLst K = true → K.lookup a = some o → o.cls = .type "list" → False
  | [], _, _, _, h, _ => nomatch h
  | (b, o') :: r, a, o, hn, h, hc => by
    unfold noLst at hn
    rw [Bool.and_eq_true] at hn
    rw [List.lookup_cons] at h
    split at h
    · cases h
      rw [hc] at hn
      exact absurd hn.1 (by decide)
    · exact noLst_ok hn.2 h hc
/-- the law's promise -/
def spLaw (K : PySem.W.Frag) (n : Nat) : Sp := fun vs H Q _ => ∃ (a : Addr) (ns : List Int), vs = [.ref a] ∧ ns.length ≤ n ∧ Only H ∧ SqL K H a (ns.map V.int) ∧ ∀ H', Q (.bl true) H'
theorem rpl_ints : ∀ ns : List Int, RpL G W (ns.map D.int) (ns.map V.int)
  | [] => rfl
  | i :: r => ⟨.int i, _, rfl, rfl, rpl_ints r⟩
theorem ok_law {fds : List FD} {k i n : Nat} {fd : FuncData} (hG : K = G.K) (hK : noLst K = true) (F : FnOk P w K mg base CX0 k (G.fa i) fd ps (spF G (callK fds k) i 1)) (h : ∀ ns : List Int, ns.length ≤ n → ∃ st, callK fds k i [.lst (ns.map D.int)] [] = .ok (.bl true) st) :
    FnOk P w K mg base CX0 k (G.fa i) fd ps (spLaw K n) := F.imp fun vs H Q E ⟨a, ns, e, hl, ho, hs, q⟩ => by
  obtain ⟨st, h⟩ := h ns hl
  have hr : Rd H a (.lst (ns.map V.int)) := by
    rcases hs with hs | ⟨o, _, _, h1, h2, _⟩
    · exact hs
    · exact (noLst_ok hK h1 h2).elim
  refine ⟨⟨H, fun _ _ => none⟩, [], [.lst (ns.map D.int)], .bl true, st, by rw [e]; rfl, ⟨fun _ _ h => h, fun _ _ h => (by simp at h), fun _ _ _ _ _ h => (by cases h), fun _ _ _ h => (by cases h), fun _ _ _ h => (by cases h), fun _ _ _ h => (by cases h)⟩, ?_, h, fun W' H' v x' g' r' => ?_⟩
  · exact ⟨_, _, e, ⟨a, _, rfl, hr, rpl_ints ns⟩, rfl⟩
  · rw [show v = .bl true from r']
    exact q H'
end
end Cal
/-! Cal, part R: the small language's texts may be compared. -/
namespace Cal
/-- of two defs' lists: the same numbers -/
def tabOk (fns : List (PySem.Str × Nat)) (fds : List FD) : Bool := decide (fns.map (·.2) = fds.map (·.ar))
end Cal
/-! Cal, part S: the interpreter's equations, to be rewritten by. -/
namespace Cal
section
variable {C : CallF}
theorem qev1 : type_of% @ev.eq_1 := by intros; rw [ev.eq_1]
theorem qev2 : type_of% @ev.eq_2 := by intros; rw [ev.eq_2]
theorem qev3 : type_of% @ev.eq_3 := by intros; rw [ev.eq_3]
theorem qev4 : type_of% @ev.eq_4 := by intros; rw [ev.eq_4]
theorem qev5 : type_of% @ev.eq_5 := by intros; rw [ev.eq_5]
theorem qev6 : type_of% @ev.eq_6 := by intros; rw [ev.eq_6]
theorem qev7 : type_of% @ev.eq_7 := by intros; rw [ev.eq_7]
theorem qev8 : type_of% @ev.eq_8 := by intros; rw [ev.eq_8]
theorem qev9 : type_of% @ev.eq_9 := by intros; rw [ev.eq_9]
theorem qev10 : type_of% @ev.eq_10 := by intros; rw [ev.eq_10]
theorem qev11 : type_of% @ev.eq_11 := by intros; rw [ev.eq_11]
theorem qev12 : type_of% @ev.eq_12 := by intros; rw [ev.eq_12]
theorem qev13 : type_of% @ev.eq_13 := by intros; rw [ev.eq_13]
theorem qev14 : type_of% @ev.eq_14 := by intros; rw [ev.eq_14]
theorem qev15 : type_of% @ev.eq_15 := by intros; rw [ev.eq_15]
theorem qev16 : type_of% @ev.eq_16 := by intros; rw [ev.eq_16]
theorem qev17 : type_of% @ev.eq_17 := by intros; rw [ev.eq_17]
theorem qev18 : type_of% @ev.eq_18 := by intros; rw [ev.eq_18]
theorem qev19 : type_of% @ev.eq_19 := by intros; rw [ev.eq_19]
theorem qev20 : type_of% @ev.eq_20 := by intros; rw [ev.eq_20]
theorem qev21 : type_of% @ev.eq_21 := by intros; rw [ev.eq_21]
theorem qevs1 : type_of% @evs.eq_1 := by intros; rw [evs.eq_1]
theorem qevs2 : type_of% @evs.eq_2 := by intros; rw [evs.eq_2]
theorem qevo1 : type_of% @evo.eq_1 := by intros; rw [evo.eq_1]
theorem qevo2 : type_of% @evo.eq_2 := by intros; rw [evo.eq_2]
theorem qevi1 : type_of% @evi.eq_1 := by intros; rw [evi.eq_1]
theorem qevi2 : type_of% @evi.eq_2 := by intros; rw [evi.eq_2]
theorem qevi3 : type_of% @evi.eq_3 := by intros; rw [evi.eq_3]
theorem qevi4 : type_of% @evi.eq_4 := by intros; rw [evi.eq_4]
theorem qexec1 : type_of% @exec.eq_1 := by intros; rw [exec.eq_1]
theorem qexec2 : type_of% @exec.eq_2 := by intros; rw [exec.eq_2]
theorem qexec3 : type_of% @exec.eq_3 := by intros; rw [exec.eq_3]
theorem qexec4 : type_of% @exec.eq_4 := by intros; rw [exec.eq_4]
theorem qexec5 : type_of% @exec.eq_5 := by intros; rw [exec.eq_5]
theorem qexec6 : type_of% @exec.eq_6 := by intros; rw [exec.eq_6]
theorem qexec7 : type_of% @exec.eq_7 := by intros; rw [exec.eq_7]
theorem qexec8 : type_of% @exec.eq_8 := by intros; rw [exec.eq_8]
theorem qexec9 : type_of% @exec.eq_9 := by intros; rw [exec.eq_9]
theorem qexec10 : type_of% @exec.eq_10 := by intros; rw [exec.eq_10]
theorem qexec11 : type_of% @exec.eq_11 := by intros; rw [exec.eq_11]
theorem qexec12 : type_of% @exec.eq_12 := by intros; rw [exec.eq_12]
theorem qexec13 : type_of% @exec.eq_13 := by intros; rw [exec.eq_13]
theorem qexec14 : type_of% @exec.eq_14 := by intros; rw [exec.eq_14]
theorem qexec15 : type_of% @exec.eq_15 := by intros; rw [exec.eq_15]
theorem qexec16 : type_of% @exec.eq_16 := by intros; rw [exec.eq_16]
theorem qexec17 : type_of% @exec.eq_17 := by intros; rw [exec.eq_17]
theorem qexec18 : type_of% @exec.eq_18 := by intros; rw [exec.eq_18]
theorem qexecs1 : type_of% @execs.eq_1 := by intros; rw [execs.eq_1]
theorem qexecs2 : type_of% @execs.eq_2 := by intros; rw [execs.eq_2]
end
end Cal
/-! plain lemmas -/
namespace Cal
section
variable {C : CallF} {st : Sto}
theorem dr_non : deref st .non = .non := rfl
theorem dr_bl {b : Bool} : deref st (.bl b) = .bl b := rfl
theorem dr_int {i : Int} : deref st (.int i) = .int i := rfl
theorem dr_str {s : List Nat} : deref st (.str s) = .str s := rfl
theorem dr_tup {ds : List D} : deref st (.tup ds) = .tup ds := rfl
theorem dr_lst {ds : List D} : deref st (.lst ds) = .lst ds := rfl
theorem dr_fn {n : Nat} : deref st (.fn n) = .fn n := rfl
theorem eq_int {i j : Int} : opEq (.int i) (.int j) = some (i == j) := by simp [opEq, flatD, eqD]
theorem eq_str {i j : List Nat} : opEq (.str i) (.str j) = some (i == j) := by simp [opEq, flatD, eqD]
theorem eq_bl {i j : Bool} : opEq (.bl i) (.bl j) = some (i == j) := by simp [opEq, flatD, eqD]
theorem truth_bl {b : Bool} : truth (.bl b) = some b := rfl
theorem truth_int {i : Int} : truth (.int i) = some (i != 0) := rfl
theorem truth_str {s : List Nat} : truth (.str s) = some (!s.isEmpty) := rfl
theorem ix_in {n : Nat} {i : Int} (h0 : 0 ≤ i) (h1 : i < n) : ixD n i = some i.toNat := by
  unfold ixD
  rw [if_pos h0, if_pos h1]
theorem ix_out {n : Nat} {i : Int} (h0 : 0 ≤ i) (h1 : (n : Int) ≤ i) : ixD n i = none := by
  unfold ixD
  rw [if_pos h0, if_neg (by omega)]
theorem get_some {α : Type} {l : List α} {i : Nat} {d : α} (h : i < l.length) : l[i]? = some (l.getD i d) := by
  rw [List.getD_eq_getElem?_getD, List.getElem?_eq_getElem h]
  rfl
/-- a list's or text's item at a place that it has -/
theorem idx_lst {ds : List D} {i : Int} (h0 : 0 ≤ i) (h1 : i < ds.length) : idxD (.lst ds) (.int i) = some (ds.getD i.toNat .non) := by
  show (ixD ds.length i).bind (fun j => ds[j]?) = _
  rw [ix_in h0 h1]
  exact get_some (by omega)
theorem idx_tup {ds : List D} {i : Int} (h0 : 0 ≤ i) (h1 : i < ds.length) : idxD (.tup ds) (.int i) = some (ds.getD i.toNat .non) := by
  show (ixD ds.length i).bind (fun j => ds[j]?) = _
  rw [ix_in h0 h1]
  exact get_some (by omega)
theorem idx_str {s : List Nat} {i : Int} (h0 : 0 ≤ i) (h1 : i < s.length) : idxD (.str s) (.int i) = some (.str [s.getD i.toNat 0]) := by
  show (ixD s.length i).bind (fun j => (s[j]?).map fun c => D.str [c]) = _
  rw [ix_in h0 h1]
  show (s[i.toNat]?).map _ = _
  rw [get_some (d := 0) (by omega)]
  rfl
/-! ### turns of comprehensions and loops -/
theorem comp_fm {α : Type} {fc fe : Env → Sto → Res D} {chk : Sto → Bool} {tg : List Nat} {env : Env} (g : α → D) (p : α → Bool) (f : α → D) (hk : chk st = true) : ∀ (ys : List α) (acc : List D),
    (∀ y ∈ ys, ∃ env', bindD tg (g y) env = some env' ∧ (∃ b, fc env' st = .ok b st ∧ truth (deref st b) = some (p y)) ∧ (p y = true → fe env' st = .ok (f y) st)) → compGo fc fe chk tg env (ys.map g) st acc = .ok (acc ++ (ys.filter p).map f) st
  | [], acc, _ => by simp [compGo]
  | y :: ys, acc, h => by
    obtain ⟨env', h1, ⟨b, h2, h3⟩, h4⟩ := h y (by simp)
    have ih := fun acc => comp_fm g p f hk ys acc fun z hz => h z (by simp [hz])
    rw [List.map_cons]
    unfold compGo
    simp only [h1, h2, Res.bind, h3]
    cases hp : p y with
    | true => simp only [h4 hp, hk, if_true, ih, List.filter_cons, hp, List.map_cons, List.append_assoc, List.singleton_append]
    | false => simp [hk, ih, List.filter_cons, hp]
theorem comp_map {α : Type} {fc fe : Env → Sto → Res D} {chk : Sto → Bool} {tg : List Nat} {env : Env} (g : α → D) (f : α → D) (hk : chk st = true) (ys : List α) (acc : List D)
    (h : ∀ y ∈ ys, ∃ env', bindD tg (g y) env = some env' ∧ fc env' st = .ok (.bl true) st ∧ fe env' st = .ok (f y) st) : compGo fc fe chk tg env (ys.map g) st acc = .ok (acc ++ ys.map f) st := by
  have := comp_fm (fc := fc) (fe := fe) (tg := tg) (env := env) g (fun _ => true) f hk ys acc fun y hy => by
    obtain ⟨env', h1, h2, h3⟩ := h y hy
    exact ⟨env', h1, ⟨_, h2, rfl⟩, fun _ => h3⟩
  rw [this, List.filter_eq_self.mpr fun _ _ => rfl]
theorem comp_mapI {fc fe : Env → Sto → Res D} {chk : Sto → Bool} {tg : List Nat} {env : Env} (f : D → D) (hk : chk st = true) (ys acc : List D)
    (h : ∀ y ∈ ys, ∃ env', bindD tg y env = some env' ∧ fc env' st = .ok (.bl true) st ∧ fe env' st = .ok (f y) st) : compGo fc fe chk tg env ys st acc = .ok (acc ++ ys.map f) st := by
  have := comp_map (fc := fc) (fe := fe) (chk := chk) (tg := tg) (env := env) (fun d : D => d) f hk ys acc h
  rw [List.map_id'] at this
  exact this
/-- a loop that gives up at the first bad one -/
theorem for_find {α : Type} {fb : Env → Sto → ResS} {chk : Sto → Bool} {tg : List Nat} (E : Env → Prop) (g : α → D) (bad : α → Bool) (r : D) (hk : chk st = true) : ∀ (ys : List α),
    (∀ y ∈ ys, ∀ env, E env → ∃ env', bindD tg (g y) env = some env' ∧ (bad y = true → fb env' st = .rt r st) ∧ (bad y = false → ∃ env1, fb env' st = .nx env1 st ∧ E env1)) → ∀ env, E env →
      (ys.any bad = true → forGo fb chk tg (ys.map g) env st = .rt r st) ∧ (ys.any bad = false → ∃ env1, E env1 ∧ forGo fb chk tg (ys.map g) env st = .nx env1 st)
  | [], _, env, he => by
    refine ⟨fun h => ?_, fun _ => ⟨env, he, rfl⟩⟩
    simp at h
  | y :: ys, h, env, he => by
    obtain ⟨env', h1, h2, h3⟩ := h y (by simp) env he
    have ih := for_find E g bad r hk ys fun z hz => h z (by simp [hz])
    rw [List.map_cons, List.any_cons]
    unfold forGo
    simp only [h1]
    cases hb : bad y with
    | true =>
      rw [h2 hb]
      simp
    | false =>
      obtain ⟨env1, h4, h5⟩ := h3 hb
      rw [h4]
      simp only [hk, if_true, Bool.false_or]
      exact ih env1 h5
theorem for_findR {α : Type} {fb : Env → Sto → ResS} {chk : Sto → Bool} {tg : List Nat} (E : Env → Prop) (g : α → D) (bad : α → Bool) (r : D) (nxt : Env → α → Env) (hk : chk st = true) : ∀ (ys : List α) (env : Env),
    (∀ y ∈ ys, ∀ env, E env → ∃ env', bindD tg (g y) env = some env' ∧ (bad y = true → fb env' st = .rt r st) ∧ (bad y = false → fb env' st = .nx (nxt env y) st ∧ E (nxt env y))) → E env →
      forGo fb chk tg (ys.map g) env st = if ys.any bad = true then .rt r st else .nx (ys.foldl nxt env) st
  | [], env, _, he => by simp [forGo]
  | y :: ys, env, h, he => by
    obtain ⟨env', h1, h2, h3⟩ := h y (by simp) env he
    rw [List.map_cons, List.any_cons]
    unfold forGo
    simp only [h1]
    cases hb : bad y with
    | true =>
      rw [h2 hb]
      simp
    | false =>
      obtain ⟨h4, h5⟩ := h3 hb
      rw [h4]
      simp only [hk, if_true, Bool.false_or, List.foldl_cons]
      exact for_findR E g bad r nxt hk ys _ (fun z hz => h z (by simp [hz])) h5
/-- .. that goes on to its end -/
theorem for_all {α : Type} {fb : Env → Sto → ResS} {chk : Sto → Bool} {tg : List Nat} (E : Env → Prop) (g : α → D) (hk : chk st = true) (ys : List α)
    (h : ∀ y ∈ ys, ∀ env, E env → ∃ env', bindD tg (g y) env = some env' ∧ ∃ env1, fb env' st = .nx env1 st ∧ E env1) (env : Env) (he : E env) : ∃ env1, E env1 ∧ forGo fb chk tg (ys.map g) env st = .nx env1 st :=
  (for_find E g (fun _ => false) .non hk ys (fun y hy env e => by
    obtain ⟨env', h1, env1, h2, h3⟩ := h y hy env e
    exact ⟨env', h1, (fun h => nomatch h), fun _ => ⟨env1, h2, h3⟩⟩) env he).2 (by simp)
theorem bls_map {α : Type} (f : α → Bool) : ∀ ys : List α, blsOf (ys.map fun y => .bl (f y)) = some (ys.map f)
  | [] => rfl
  | y :: ys => by
    rw [List.map_cons, List.map_cons]
    unfold blsOf
    rw [bls_map f ys]
    rfl
theorem bls_cons {b : Bool} {r : List D} : blsOf (.bl b :: r) = (blsOf r).map (b :: ·) := rfl
/-! ranges -/
theorem evi_rng2 {st1 st2 : Sto} {a b : IE} {e : Env} {i j : Int} (h1 : ev C a e st = .ok (.int i) st1) (h2 : ev C b e st1 = .ok (.int j) st2) (h : rngB i j = true) : evi C (.rng2 a b) e st = Res.ok (rngD i (j - i).toNat, Src.none) st2 := by
  rw [evi.eq_3, h1]
  unfold Res.bind
  dsimp only
  rw [h2]
  dsimp only
  rw [if_pos h]
theorem evi_rng1 {st1 : Sto} {a : IE} {e : Env} {j : Int} (h1 : ev C a e st = .ok (.int j) st1) (h : rngA j = true) : evi C (.rng1 a) e st = Res.ok (rngD 0 j.toNat, Src.none) st1 := by
  rw [evi.eq_2, h1]
  unfold Res.bind
  dsimp only
  rw [if_pos h]
theorem rb2 {n : Nat} (h : n ≤ 1000) : rngB 1 n = true := by
  rw [rngB_iff]
  have : ((SL : Nat) : Int) = 16777216 := rfl
  exact ⟨by omega, by omega, by omega, by omega, by omega⟩
theorem rb1 {n : Nat} (h : n ≤ 1000) : rngA n = true := by
  rw [rngA_iff]
  have : ((SL : Nat) : Int) = 16777216 := rfl
  exact ⟨by omega, by omega⟩
theorem ev_one {e : Env} {i : Int} : ev C (.k (.int i)) e st = .ok (.int i) st := by rw [qev3]
theorem evi_1n {y : IE} {e : Env} {n : Nat} (h2 : ev C y e st = .ok (.int n) st) (h : n ≤ 1000) : evi C (.rng2 (.k (.int 1)) y) e st = .ok (rngD 1 (n - 1), .none) st := by
  have h3 := rb2 h
  rw [evi_rng2 ev_one h2 h3, show ((n : Int) - 1).toNat = n - 1 by omega]
theorem evi_0n {y : IE} {e : Env} {n : Nat} (h2 : ev C y e st = .ok (.int n) st) (h : n ≤ 1000) : evi C (.rng1 y) e st = .ok (rngD 0 n, .none) st := by
  have h3 := rb1 h
  rw [evi_rng1 h2 h3, Int.toNat_natCast]
theorem cut_1 {α : Type} (xs : List α) : cutD xs (some 1) none = xs.drop 1 := by
  have e : bndD xs.length 0 (some 1) = min 1 xs.length := rfl
  unfold cutD
  rw [e]
  show List.take (xs.length - min 1 xs.length) (xs.drop (min 1 xs.length)) = _
  cases xs with
  | nil => rfl
  | cons x r =>
    rw [List.length_cons, show min 1 (r.length + 1) = 1 by omega]
    exact List.take_of_length_le (by simp)
theorem cut_hi {α : Type} (xs : List α) {n : Int} (h : 0 ≤ n) : cutD xs none (some n) = xs.take n.toNat := by
  have e : bndD xs.length 0 none = 0 := rfl
  have e2 : bndD xs.length xs.length (some n) = min n.toNat xs.length := by
    show (if n < 0 then (n + (xs.length : Int)).toNat else min n.toNat xs.length) = _
    rw [if_neg (by omega)]
  unfold cutD
  rw [e, e2, Nat.sub_zero, List.drop_zero, ← List.take_eq_take_min]
theorem cut_lo {α : Type} (xs : List α) {n : Int} (h : 0 ≤ n) : cutD xs (some n) none = xs.drop n.toNat := by
  have e : bndD xs.length 0 (some n) = min n.toNat xs.length := by
    show (if n < 0 then (n + (xs.length : Int)).toNat else min n.toNat xs.length) = _
    rw [if_neg (by omega)]
  have e2 : bndD xs.length xs.length none = xs.length := rfl
  unfold cutD
  rw [e, e2]
  by_cases hn : n.toNat ≤ xs.length
  · rw [Nat.min_eq_left hn]
    exact List.take_of_length_le (by simp)
  · rw [Nat.min_eq_right (by omega), List.drop_length, List.drop_of_length_le (by omega), List.take_nil]
/-! flat data -/
theorem flat_dr {n : Nat} {d : D} (h : flatD n d = true) : deref st d = d := by
  cases d <;> first | rfl | (cases n <;> simp [flatD] at h)
theorem flat_strs {n : Nat} : ∀ l : List (List Nat), flatL n (l.map .str) = true
  | [] => by cases n <;> rfl
  | x :: r => by
    rw [List.map_cons]
    unfold flatL
    rw [flat_strs r]
    cases n <;> rfl
theorem flatL_of {n : Nat} : ∀ {ds : List D}, flatL n ds = true → ∀ d ∈ ds, flatD n d = true
  | [], _, _, h => by simp at h
  | x :: r, h, d, hd => by
    unfold flatL at h
    rw [Bool.and_eq_true] at h
    rcases List.mem_cons.mp hd with rfl | hd
    · exact h.1
    · exact flatL_of h.2 d hd
theorem flatL_mk {n : Nat} : ∀ {ds : List D}, (∀ d ∈ ds, flatD n d = true) → flatL n ds = true
  | [], _ => by cases n <;> rfl
  | x :: r, h => by
    unfold flatL
    rw [h x (by simp), flatL_mk fun d hd => h d (by simp [hd])]
    rfl
mutual
theorem flat_up {n : Nat} : ∀ {d : D}, flatD n d = true → flatD (n + 1) d = true
  | .non, _ | .bl _, _ | .int _, _ | .str _, _ => by simp [flatD]
  | .tup ds, h => by
    cases n with
    | zero => simp [flatD] at h
    | succ n =>
      simp only [flatD] at h ⊢
      exact flatL_up h
  | .lst ds, h => by
    cases n with
    | zero => simp [flatD] at h
    | succ n =>
      simp only [flatD] at h ⊢
      exact flatL_up h
  | .dct _ _, h | .loc _, h | .fn _, h | .obj _ _ _, h => by cases n <;> simp [flatD] at h
theorem flatL_up {n : Nat} : ∀ {ds : List D}, flatL n ds = true → flatL (n + 1) ds = true
  | [], _ => rfl
  | x :: r, h => by
    simp only [flatL, Bool.and_eq_true] at h ⊢
    exact ⟨flat_up h.1, flatL_up h.2⟩
end
theorem flat_le {n m : Nat} {d : D} (h : flatD n d = true) (hm : n ≤ m) : flatD m d = true := by
  induction hm with
  | refl => exact h
  | step _ ih => exact flat_up ih
def inL (c : Nat) : Bool := decide (c ∈ [97, 98, 99, 100, 101, 102, 103, 104, 105, 106, 107, 108, 109, 110, 111, 112, 113, 114, 115, 116, 117, 118, 119, 120, 121, 122])
def inF (c : Nat) : Bool := decide (c ∈ [48, 49, 50, 51, 52, 53, 54, 55, 56, 57])
theorem in_let {c : Nat} : opIn (.str [c]) (.str [97, 98, 99, 100, 101, 102, 103, 104, 105, 106, 107, 108, 109, 110, 111, 112, 113, 114, 115, 116, 117, 118, 119, 120, 121, 122]) = some (inL c) := rfl
theorem in_fig {c : Nat} : opIn (.str [c]) (.str [48, 49, 50, 51, 52, 53, 54, 55, 56, 57]) = some (inF c) := rfl
theorem in_both {c : Nat} : opIn (.str [c]) (.str [97, 98, 99, 100, 101, 102, 103, 104, 105, 106, 107, 108, 109, 110, 111, 112, 113, 114, 115, 116, 117, 118, 119, 120, 121, 122, 48, 49, 50, 51, 52, 53, 54, 55, 56, 57]) = some (inL c || inF c) := by
  have : decide (c ∈ [97, 98, 99, 100, 101, 102, 103, 104, 105, 106, 107, 108, 109, 110, 111, 112, 113, 114, 115, 116, 117, 118, 119, 120, 121, 122, 48, 49, 50, 51, 52, 53, 54, 55, 56, 57]) = (inL c || inF c) := by
    unfold inL inF
    rw [Bool.eq_iff_iff, Bool.or_eq_true, decide_eq_true_eq, decide_eq_true_eq, decide_eq_true_eq]
    exact List.mem_append (s := [97, 98, 99, 100, 101, 102, 103, 104, 105, 106, 107, 108, 109, 110, 111, 112, 113, 114, 115, 116, 117, 118, 119, 120, 121, 122]) (t := [48, 49, 50, 51, 52, 53, 54, 55, 56, 57])
  rw [← this]
  rfl
theorem notLF {c : Nat} (h : inL c = true) : inF c = false := by
  unfold inL inF at *
  simp only [decide_eq_true_eq, decide_eq_false_iff_not] at *
  simp at h
  simp
  omega
theorem op_eq {a b : D} (h1 : flatD 20 a = true) (h2 : flatD 20 b = true) : opEq a b = some (eqD a b) := by
  unfold opEq
  rw [show flatD DEEP a = true from h1, show flatD DEEP b = true from h2]
  rfl
theorem ix0 {a : D} {r : List D} : idxD (.tup (a :: r)) (.int 0) = some a := by
  rw [idx_tup (by omega) (by simp only [List.length_cons]; omega)]
  rfl
theorem ix1 {a b : D} {r : List D} : idxD (.tup (a :: b :: r)) (.int 1) = some b := by
  rw [idx_tup (by omega) (by simp only [List.length_cons]; omega)]
  rfl
theorem ix2 {a b c : D} {r : List D} : idxD (.tup (a :: b :: c :: r)) (.int 2) = some c := by
  rw [idx_tup (by omega) (by simp only [List.length_cons]; omega)]
  rfl
theorem ix3 {a b c d : D} {r : List D} : idxD (.tup (a :: b :: c :: d :: r)) (.int 3) = some d := by
  rw [idx_tup (by omega) (by simp only [List.length_cons]; omega)]
  rfl
theorem ix4 {a b c d e : D} {r : List D} : idxD (.tup (a :: b :: c :: d :: e :: r)) (.int 4) = some e := by
  rw [idx_tup (by omega) (by simp only [List.length_cons]; omega)]
  rfl
theorem ix5 {a b c d e f : D} {r : List D} : idxD (.tup (a :: b :: c :: d :: e :: f :: r)) (.int 5) = some f := by
  rw [idx_tup (by omega) (by simp only [List.length_cons]; omega)]
  rfl
theorem ix6 {a b c d e f g : D} {r : List D} : idxD (.tup (a :: b :: c :: d :: e :: f :: g :: r)) (.int 6) = some g := by
  rw [idx_tup (by omega) (by simp only [List.length_cons]; omega)]
  rfl
def b__law_cell_at : ISs := (.cons (.ifs (.cmp .lt (.w 1) (.blt .len (.cons (.w 0) .nil))) (.cons (.ret (.idx (.w 0) (.w 1))) .nil) .nil) (.cons (.ret (.k (.int 0))) .nil))
def b__law_mixed : ISs := (.cons (.set 3 (.bin .mod (.bin .add (.bin .add (.bin .add (.bin .mul (.w 0) (.k (.int 48271))) (.bin .mul (.bin .mul (.k (.int 7919)) (.w 1)) (.w 1))) (.bin .mul (.k (.int 31)) (.w 1))) (.k (.int 5))) (.k (.int 2147483647)))) (.cons (.ret (.bin .mod (.bin .mod (.bin .mul (.w 3) (.bin .add (.bin .add (.w 3) (.bin .mul (.k (.int 2)) (.w 1))) (.k (.int 1)))) (.k (.int 1000000007))) (.w 2))) .nil))
def b__law_name_by : ISs := (.cons (.set 2 (.idx (.k (.str [98, 99, 100, 101, 102, 103, 104, 105, 106, 107, 108, 109, 110, 111, 112, 113, 114, 115, 116, 117, 118, 119, 120, 121])) (.bin .mod (.w 0) (.k (.int 24))))) (.cons (.set 3 (.idx (.k (.str [97, 48, 122])) (.bin .mod (.bin .fdiv (.w 0) (.k (.int 24))) (.k (.int 3))))) (.cons (.ifs (.cmp .eq (.bin .mod (.w 1) (.k (.int 2))) (.k (.int 1))) (.cons (.ret (.bin .add (.bin .add (.idx (.lst (.cons (.k (.str [116])) (.cons (.k (.str [97, 98])) (.cons (.k (.str [120, 57, 97])) .nil)))) (.bin .mod (.bin .fdiv (.w 1) (.k (.int 2))) (.k (.int 3)))) (.w 2)) (.w 3))) .nil) .nil) (.cons (.set 4 (.bin .mod (.bin .fdiv (.w 1) (.k (.int 2))) (.k (.int 7)))) (.cons (.ret (.bin .add (.bin .add (.bin .add (.bin .mul (.k (.str [97])) (.w 4)) (.w 2)) (.w 3)) (.bin .mul (.k (.str [97])) (.bin .sub (.k (.int 6)) (.w 4))))) .nil)))))
def mixedI (a k m : Int) : Int :=
  let z := (a * 48271 + 7919 * k * k + 31 * k + 5) % 2147483647
  z * (z + 2 * k + 1) % 1000000007 % m
theorem small_l {i j : Int} (h1 : 0 ≤ i) (h2 : i < 2 ^ 64) : mulOk i j = true := by
  unfold mulOk
  rw [decide_eq_true (by omega : -(2 ^ 64) < i), decide_eq_true h2]
  rfl
theorem small_r {i j : Int} (h1 : -(2 ^ 64) < j) (h2 : j < 2 ^ 64) : mulOk i j = true := by
  unfold mulOk
  rw [decide_eq_true h1, decide_eq_true h2]
  simp
theorem p_mixed {a k m : Int} (hm : 0 < m) (h1 : 0 ≤ k) (h2 : k < 2 ^ 64) : runF C ⟨3, 4, b__law_mixed⟩ [.int a, .int k, .int m] st = .ok (.int (mixedI a k m)) st := by
  have m1 : mulOk a 48271 = true := small_r (by omega) (by omega)
  have m2 : mulOk 7919 k = true := small_l (by omega) (by omega)
  have m3 : mulOk (7919 * k) k = true := small_r (by omega) (by omega)
  have m4 : mulOk 31 k = true := small_l (by omega) (by omega)
  have m5 : mulOk 2 k = true := small_l (by omega) (by omega)
  have m6 : ∀ x y : Int, mulOk (x % 2147483647) y = true := fun x y => small_l (Int.emod_nonneg _ (by omega)) (Int.lt_trans (Int.emod_lt_of_pos _ (by omega)) (by omega))
  simp [b__law_mixed, runF, qev1, qev2, qev3, qev4, qev5, qev6, qev7, qev8, qev9, qev10, qev11, qev12, qev13, qev14, qev15, qev16, qev17, qev18, qev19, qev20, qev21, qevs1, qevs2, qevo1, qevo2, qevi1, qevi4, qexec1, qexec2, qexec3, qexec4, qexec5, qexec6, qexec7, qexec8, qexec9, qexec10, qexec11, qexec12, qexec13, qexec14, qexec15, qexec16, qexec17, qexec18, qexecs1, qexecs2, Res.bind, Res.go, lift, liftS, binD, cmpD, truth_bl, truth_int, truth_str, dr_non, dr_bl, dr_int, dr_str, dr_tup, dr_lst, dr_fn, idxD, bltD, lenD, isiD, slcD, seqD, bindD, wipeD, srcOf, sameAt, SL, Nat.reduceLeDiff, eq_int, eq_str, eq_bl, List.map_cons, List.map_nil, List.length_cons, List.length_nil, List.cons_append, List.nil_append, List.append_nil, List.getElem?_cons_zero, List.getElem?_cons_succ, List.set_cons_zero, List.set_cons_succ, List.replicate_succ, List.replicate_zero, Option.some.injEq, Option.map_some, Option.bind_some, Nat.reduceAdd, Nat.reduceSub, if_true, if_false, Bool.not_true, Bool.not_false, Bool.and_true, Bool.true_and, Bool.false_eq_true, reduceIte, Nat.zero_add, m1, m2, m3, m4, m5, m6, hm, mixedI]

theorem emod_bd (a : Int) {m : Int} (h : 0 < m) : 0 ≤ a % m ∧ a % m < m := ⟨Int.emod_nonneg _ (by omega), Int.emod_lt_of_pos _ h⟩
def cellI (ns : List Int) (i : Int) : Int := ns.getD i.toNat 0
theorem p_cell_at {ns : List Int} {i : Int} (h : 0 ≤ i) : runF C ⟨2, 2, b__law_cell_at⟩ [.lst (ns.map D.int), .int i] st = .ok (.int (cellI ns i)) st := by
  by_cases hi : i < ns.length
  · have e : idxD (.lst (ns.map D.int)) (.int i) = some (.int (cellI ns i)) := by
      rw [idx_lst h (by rw [List.length_map]; exact hi)]
      unfold cellI
      rw [List.getD_eq_getElem?_getD, List.getD_eq_getElem?_getD, List.getElem?_map, List.getElem?_eq_getElem (by omega)]
      rfl
    simp [b__law_cell_at, runF, qev1, qev2, qev3, qev4, qev5, qev6, qev7, qev8, qev9, qev10, qev11, qev12, qev13, qev14, qev15, qev16, qev17, qev18, qev19, qev20, qev21, qevs1, qevs2, qevo1, qevo2, qevi1, qevi4, qexec1, qexec2, qexec3, qexec4, qexec5, qexec6, qexec7, qexec8, qexec9, qexec10, qexec11, qexec12, qexec13, qexec14, qexec15, qexec16, qexec17, qexec18, qexecs1, qexecs2, Res.bind, Res.go, lift, liftS, binD, cmpD, truth_bl, truth_int, truth_str, dr_non, dr_bl, dr_int, dr_str, dr_tup, dr_lst, dr_fn, bltD, lenD, isiD, slcD, seqD, bindD, wipeD, srcOf, sameAt, SL, Nat.reduceLeDiff, eq_int, eq_str, eq_bl, List.map_cons, List.map_nil, List.length_cons, List.length_nil, List.cons_append, List.nil_append, List.append_nil, List.getElem?_cons_zero, List.getElem?_cons_succ, List.set_cons_zero, List.set_cons_succ, List.replicate_succ, List.replicate_zero, Option.some.injEq, Option.map_some, Option.bind_some, Nat.reduceAdd, Nat.reduceSub, if_true, if_false, Bool.not_true, Bool.not_false, Bool.and_true, Bool.true_and, Bool.false_eq_true, reduceIte, Nat.zero_add, hi, e]
  · have e : cellI ns i = 0 := by
      unfold cellI
      rw [List.getD_eq_getElem?_getD, List.getElem?_eq_none (by omega)]
      rfl
    simp [b__law_cell_at, runF, qev1, qev2, qev3, qev4, qev5, qev6, qev7, qev8, qev9, qev10, qev11, qev12, qev13, qev14, qev15, qev16, qev17, qev18, qev19, qev20, qev21, qevs1, qevs2, qevo1, qevo2, qevi1, qevi4, qexec1, qexec2, qexec3, qexec4, qexec5, qexec6, qexec7, qexec8, qexec9, qexec10, qexec11, qexec12, qexec13, qexec14, qexec15, qexec16, qexec17, qexec18, qexecs1, qexecs2, Res.bind, Res.go, lift, liftS, binD, cmpD, truth_bl, truth_int, truth_str, dr_non, dr_bl, dr_int, dr_str, dr_tup, dr_lst, dr_fn, bltD, lenD, isiD, slcD, seqD, bindD, wipeD, srcOf, sameAt, SL, Nat.reduceLeDiff, eq_int, eq_str, eq_bl, List.map_cons, List.map_nil, List.length_cons, List.length_nil, List.cons_append, List.nil_append, List.append_nil, List.getElem?_cons_zero, List.getElem?_cons_succ, List.set_cons_zero, List.set_cons_succ, List.replicate_succ, List.replicate_zero, Option.some.injEq, Option.map_some, Option.bind_some, Nat.reduceAdd, Nat.reduceSub, if_true, if_false, Bool.not_true, Bool.not_false, Bool.and_true, Bool.true_and, Bool.false_eq_true, reduceIte, Nat.zero_add, hi, e]
theorem mixed_bd (a k : Int) {m : Int} (h : 0 < m) : 0 ≤ mixedI a k m ∧ mixedI a k m < m := emod_bd _ h
def nameBy (k c : Int) : List Nat :=
  if c % 2 = 1 then ([[116], [97, 98], [120, 57, 97]] : List (List Nat)).getD (c / 2 % 3).toNat [] ++ [98 + (k % 24).toNat, ([97, 48, 122] : List Nat).getD (k / 24 % 3).toNat 0]
  else List.replicate (c / 2 % 7).toNat 97 ++ [98 + (k % 24).toNat, ([97, 48, 122] : List Nat).getD (k / 24 % 3).toNat 0] ++ List.replicate (6 - (c / 2 % 7).toNat) 97
theorem flat_rep {n : Nat} : (List.replicate n ([97] : List Nat)).flatten = List.replicate n 97 := by
  induction n with
  | zero => rfl
  | succ n ih => rw [List.replicate_succ, List.flatten_cons, ih]; rfl
theorem p_name_by {k c : Int} : runF C ⟨2, 5, b__law_name_by⟩ [.int k, .int c] st = .ok (.str (nameBy k c)) st := by
  obtain ⟨a1, a2⟩ := emod_bd k (m := 24) (by omega)
  obtain ⟨b1, b2⟩ := emod_bd (k / 24) (m := 3) (by omega)
  obtain ⟨c1, c2⟩ := emod_bd (c / 2) (m := 3) (by omega)
  obtain ⟨d1, d2⟩ := emod_bd (c / 2) (m := 7) (by omega)
  have i1 : idxD (.str [98, 99, 100, 101, 102, 103, 104, 105, 106, 107, 108, 109, 110, 111, 112, 113, 114, 115, 116, 117, 118, 119, 120, 121]) (.int (k % 24)) = some (.str [98 + (k % 24).toNat]) := by
    rw [idx_str a1 (by simpa using a2)]
    have : ∀ j, j < 24 → ([98, 99, 100, 101, 102, 103, 104, 105, 106, 107, 108, 109, 110, 111, 112, 113, 114, 115, 116, 117, 118, 119, 120, 121] : List Nat).getD j 0 = 98 + j := by decide
    rw [this _ (by omega)]
  have i2 : idxD (.str [97, 48, 122]) (.int (k / 24 % 3)) = some (.str [([97, 48, 122] : List Nat).getD (k / 24 % 3).toNat 0]) := idx_str b1 (by simpa using b2)
  have i3 : idxD (.lst [.str [116], .str [97, 98], .str [120, 57, 97]]) (.int (c / 2 % 3)) = some (.str (([[116], [97, 98], [120, 57, 97]] : List (List Nat)).getD (c / 2 % 3).toNat [])) := by
    rw [idx_lst c1 (by simpa using c2)]
    have : ∀ j, j < 3 → ([.str [116], .str [97, 98], .str [120, 57, 97]] : List D).getD j .non = .str (([[116], [97, 98], [120, 57, 97]] : List (List Nat)).getD j []) := by decide
    rw [this _ (by omega)]
  have l3 : (([[116], [97, 98], [120, 57, 97]] : List (List Nat)).getD (c / 2 % 3).toNat []).length ≤ 3 := by
    have : ∀ j, j < 3 → (([[116], [97, 98], [120, 57, 97]] : List (List Nat)).getD j []).length ≤ 3 := by decide
    exact this _ (by omega)
  by_cases hc : c % 2 = 1
  · have e1 : (([[116], [97, 98], [120, 57, 97]] : List (List Nat)).getD (c / 2 % 3).toNat []).length + 1 ≤ 16777216 := by omega
    have e2 : (([[116], [97, 98], [120, 57, 97]] : List (List Nat)).getD (c / 2 % 3).toNat []).length + 1 + 1 ≤ 16777216 := by omega
    simp only [List.getD_eq_getElem?_getD] at *
    simp [b__law_name_by, runF, qev1, qev2, qev3, qev4, qev5, qev6, qev7, qev8, qev9, qev10, qev11, qev12, qev13, qev14, qev15, qev16, qev17, qev18, qev19, qev20, qev21, qevs1, qevs2, qevo1, qevo2, qevi1, qevi4, qexec1, qexec2, qexec3, qexec4, qexec5, qexec6, qexec7, qexec8, qexec9, qexec10, qexec11, qexec12, qexec13, qexec14, qexec15, qexec16, qexec17, qexec18, qexecs1, qexecs2, Res.bind, Res.go, lift, liftS, binD, cmpD, truth_bl, truth_int, truth_str, dr_non, dr_bl, dr_int, dr_str, dr_tup, dr_lst, dr_fn, bltD, lenD, isiD, slcD, seqD, bindD, wipeD, srcOf, sameAt, SL, Nat.reduceLeDiff, eq_int, eq_str, eq_bl, List.map_cons, List.map_nil, List.length_cons, List.length_nil, List.cons_append, List.nil_append, List.append_nil, List.getElem?_cons_zero, List.getElem?_cons_succ, List.set_cons_zero, List.set_cons_succ, List.replicate_succ, List.replicate_zero, Option.some.injEq, Option.map_some, Option.bind_some, Nat.reduceAdd, Nat.reduceSub, if_true, if_false, Bool.not_true, Bool.not_false, Bool.and_true, Bool.true_and, Bool.false_eq_true, reduceIte, Nat.zero_add, i1, i2, i3, hc, nameBy, e1, e2]
  · have m1 : c / 2 % 7 ≤ 16777216 := by omega
    have m2 : (0 : Int) ≤ 6 - c / 2 % 7 := by omega
    have m3 : (6 : Int) - c / 2 % 7 ≤ 16777216 := by omega
    have m4 : (c / 2 % 7).toNat ≤ 16777216 := by omega
    have m5 : (6 - c / 2 % 7).toNat ≤ 16777216 := by omega
    have m6 : (c / 2 % 7).toNat + 1 ≤ 16777216 := by omega
    have m7 : (c / 2 % 7).toNat + 1 + 1 ≤ 16777216 := by omega
    have m8 : (c / 2 % 7).toNat + 1 + 1 + (6 - c / 2 % 7).toNat ≤ 16777216 := by omega
    have m9 : (6 - c / 2 % 7).toNat = 6 - (c / 2 % 7).toNat := by omega
    have m10 : c / 2 % 7 ≤ 6 := by omega
    have m11 : 6 ≤ 16777216 + (c / 2 % 7).toNat := by omega
    have m12 : (c / 2 % 7).toNat + (1 + (1 + (6 - (c / 2 % 7).toNat))) ≤ 16777216 := by omega
    have m13 : (c / 2 % 7).toNat + 2 + (6 - (c / 2 % 7).toNat) ≤ 16777216 := by omega
    simp only [List.getD_eq_getElem?_getD] at *
    simp [b__law_name_by, runF, qev1, qev2, qev3, qev4, qev5, qev6, qev7, qev8, qev9, qev10, qev11, qev12, qev13, qev14, qev15, qev16, qev17, qev18, qev19, qev20, qev21, qevs1, qevs2, qevo1, qevo2, qevi1, qevi4, qexec1, qexec2, qexec3, qexec4, qexec5, qexec6, qexec7, qexec8, qexec9, qexec10, qexec11, qexec12, qexec13, qexec14, qexec15, qexec16, qexec17, qexec18, qexecs1, qexecs2, Res.bind, Res.go, lift, liftS, binD, cmpD, truth_bl, truth_int, truth_str, dr_non, dr_bl, dr_int, dr_str, dr_tup, dr_lst, dr_fn, bltD, lenD, isiD, slcD, seqD, bindD, wipeD, srcOf, sameAt, SL, Nat.reduceLeDiff, eq_int, eq_str, eq_bl, List.map_cons, List.map_nil, List.length_cons, List.length_nil, List.cons_append, List.nil_append, List.append_nil, List.getElem?_cons_zero, List.getElem?_cons_succ, List.set_cons_zero, List.set_cons_succ, List.replicate_succ, List.replicate_zero, Option.some.injEq, Option.map_some, Option.bind_some, Nat.reduceAdd, Nat.reduceSub, if_true, if_false, Bool.not_true, Bool.not_false, Bool.and_true, Bool.true_and, Bool.false_eq_true, reduceIte, Nat.zero_add, i1, i2, hc, nameBy, flat_rep, m1, m2, m3, m4, m5, m6, m7, m8, d1, m9, m10, m11, m12, m13]
end
end Cal
/-! plain lemmas: letters -/
namespace Cal
section
variable {C : CallF} {st : Sto}
def b_is_name : ISs := (.cons (.ifs (.orv (.cmp .eq (.w 0) (.k (.str []))) (.orv (.cmp .gt (.blt .len (.cons (.w 0) .nil)) (.k (.int 8))) (.cmp .notin (.idx (.w 0) (.k (.int 0))) (.k (.str [97, 98, 99, 100, 101, 102, 103, 104, 105, 106, 107, 108, 109, 110, 111, 112, 113, 114, 115, 116, 117, 118, 119, 120, 121, 122]))))) (.cons (.ret (.k (.bl false))) .nil) .nil) (.cons (.forr [1] (.seq (.v 0)) (.cons (.ifs (.andv (.cmp .notin (.w 1) (.k (.str [97, 98, 99, 100, 101, 102, 103, 104, 105, 106, 107, 108, 109, 110, 111, 112, 113, 114, 115, 116, 117, 118, 119, 120, 121, 122]))) (.cmp .notin (.w 1) (.k (.str [48, 49, 50, 51, 52, 53, 54, 55, 56, 57])))) (.cons (.ret (.k (.bl false))) .nil) .nil) .nil)) (.cons (.ret (.k (.bl true))) .nil)))
def b_is_number : ISs := (.cons (.ret (.andv (.isi (.w 0) .int) (.andv (.notv (.isi (.w 0) .bool)) (.cmp .ge (.w 0) (.w 1))))) .nil)
def b_is_whole : ISs := (.cons (.ret (.andv (.isi (.w 0) .int) (.notv (.isi (.w 0) .bool)))) .nil)
def b_is_hand (f_is_name : Nat) : ISs := (.cons (.ret (.andv (.isi (.w 0) .str) (.call f_is_name (.cons (.v 0) .nil)))) .nil)
def b_are_hands (f_is_hand : Nat) : ISs := (.cons (.ifs (.orv (.notv (.isi (.w 0) .tuple)) (.notv (.chain .le .le (.w 2) (.blt .len (.cons (.w 0) .nil)) (.k (.int 20))))) (.cons (.ret (.k (.bl false))) .nil) .nil) (.cons (.ifs (.notv (.blt .all (.cons (.comp (.seq (.w 0)) [3] (.k (.bl true)) (.andv (.call f_is_hand (.cons (.v 3) .nil)) (.cmp .ne (.w 3) (.w 1))) [3]) .nil))) (.cons (.ret (.k (.bl false))) .nil) .nil) (.cons (.ret (.blt .all (.cons (.comp (.zip (.v 0) (.slc (.w 0) (.so (.k (.int 1))) .no)) [4, 5] (.k (.bl true)) (.cmp .lt (.w 4) (.w 5)) [4, 5]) .nil))) .nil)))
def b_is_bid (f_is_whole : Nat) (f_are_hands : Nat) : ISs := (.cons (.ifs (.orv (.cmp .ne (.blt .len (.cons (.w 0) .nil)) (.k (.int 7))) (.orv (.notv (.call f_is_whole (.cons (.idx (.w 0) (.k (.int 4))) .nil))) (.orv (.notv (.call f_is_whole (.cons (.idx (.w 0) (.k (.int 5))) .nil))) (.cmp .le (.idx (.w 0) (.k (.int 5))) (.idx (.w 0) (.k (.int 4))))))) (.cons (.ret (.k (.bl false))) .nil) .nil) (.cons (.ret (.call f_are_hands (.cons (.idx (.w 0) (.k (.int 6))) (.cons (.idx (.w 0) (.k (.int 1))) (.cons (.k (.int 1)) .nil))))) .nil))
def b_is_answer (f_is_hand : Nat) (f_is_number : Nat) : ISs := (.cons (.ifs (.orv (.cmp .ne (.blt .len (.cons (.w 0) .nil)) (.k (.int 7))) (.orv (.notv (.call f_is_hand (.cons (.idx (.w 0) (.k (.int 4))) .nil))) (.cmp .eq (.idx (.w 0) (.k (.int 4))) (.idx (.w 0) (.k (.int 1)))))) (.cons (.ret (.k (.bl false))) .nil) .nil) (.cons (.ret (.andv (.call f_is_number (.cons (.idx (.w 0) (.k (.int 5))) (.cons (.k (.int 0)) .nil))) (.andv (.isi (.idx (.w 0) (.k (.int 6))) .str) (.cmp .isin (.idx (.w 0) (.k (.int 6))) (.tup (.cons (.k (.str [121, 101, 115])) (.cons (.k (.str [110, 111])) .nil))))))) .nil))
def b_is_letter (f_is_hand : Nat) (f_is_number : Nat) (f_is_bid : Nat) (f_are_hands : Nat) (f_is_answer : Nat) : ISs := (.cons (.ifs (.orv (.cmp .lt (.blt .len (.cons (.w 0) .nil)) (.k (.int 4))) (.orv (.notv (.call f_is_hand (.cons (.idx (.w 0) (.k (.int 1))) .nil))) (.orv (.notv (.call f_is_number (.cons (.idx (.w 0) (.k (.int 2))) (.cons (.k (.int 0)) .nil)))) (.notv (.call f_is_number (.cons (.idx (.w 0) (.k (.int 3))) (.cons (.k (.int 1)) .nil))))))) (.cons (.ret (.k (.bl false))) .nil) .nil) (.cons (.ifs (.cmp .eq (.idx (.w 0) (.k (.int 0))) (.k (.str [98, 105, 100]))) (.cons (.ret (.call f_is_bid (.cons (.v 0) .nil))) .nil) .nil) (.cons (.ifs (.cmp .eq (.idx (.w 0) (.k (.int 0))) (.k (.str [111, 102, 102]))) (.cons (.ret (.andv (.cmp .eq (.blt .len (.cons (.w 0) .nil)) (.k (.int 4))) (.cmp .ge (.idx (.w 0) (.k (.int 3))) (.k (.int 2))))) .nil) .nil) (.cons (.ifs (.cmp .eq (.idx (.w 0) (.k (.int 0))) (.k (.str [99, 108, 111, 115, 101]))) (.cons (.ret (.andv (.cmp .eq (.blt .len (.cons (.w 0) .nil)) (.k (.int 5))) (.call f_are_hands (.cons (.idx (.w 0) (.k (.int 4))) (.cons (.idx (.w 0) (.k (.int 1))) (.cons (.k (.int 0)) .nil)))))) .nil) .nil) (.cons (.ret (.andv (.cmp .eq (.idx (.w 0) (.k (.int 0))) (.k (.str [97, 110, 115, 119, 101, 114]))) (.call f_is_answer (.cons (.v 0) .nil)))) .nil)))))
def b__law_is_name : ISs := (.cons (.set 1 (.k (.str [48, 49, 50, 51, 52, 53, 54, 55, 56, 57]))) (.cons (.ifs (.orv (.notv (.isi (.w 0) .str)) (.orv (.cmp .eq (.w 0) (.k (.str []))) (.orv (.cmp .gt (.blt .len (.cons (.w 0) .nil)) (.k (.int 8))) (.cmp .isin (.idx (.w 0) (.k (.int 0))) (.w 1))))) (.cons (.ret (.k (.bl false))) .nil) .nil) (.cons (.ret (.blt .all (.cons (.comp (.seq (.w 0)) [2] (.k (.bl true)) (.cmp .isin (.w 2) (.bin .add (.k (.str [97, 98, 99, 100, 101, 102, 103, 104, 105, 106, 107, 108, 109, 110, 111, 112, 113, 114, 115, 116, 117, 118, 119, 120, 121, 122])) (.w 1))) [2]) .nil))) .nil)))
def b__law_whole : ISs := (.cons (.ret (.andv (.isi (.w 0) .int) (.notv (.isi (.w 0) .bool)))) .nil)
def b__law_are_hands (f__law_is_name : Nat) : ISs := (.cons (.ifs (.orv (.notv (.isi (.w 0) .tuple)) (.orv (.cmp .lt (.blt .len (.cons (.w 0) .nil)) (.w 2)) (.cmp .gt (.blt .len (.cons (.w 0) .nil)) (.k (.int 20))))) (.cons (.ret (.k (.bl false))) .nil) .nil) (.cons (.ifs (.notv (.blt .all (.cons (.comp (.seq (.w 0)) [3] (.k (.bl true)) (.andv (.call f__law_is_name (.cons (.v 3) .nil)) (.cmp .ne (.w 3) (.w 1))) [3]) .nil))) (.cons (.ret (.k (.bl false))) .nil) .nil) (.cons (.ret (.blt .all (.cons (.comp (.rng2 (.k (.int 1)) (.blt .len (.cons (.w 0) .nil))) [4] (.k (.bl true)) (.cmp .lt (.idx (.w 0) (.bin .sub (.w 4) (.k (.int 1)))) (.idx (.w 0) (.w 4))) [4]) .nil))) .nil)))
def b__law_due (f__law_is_name : Nat) (f__law_whole : Nat) (f__law_are_hands : Nat) : ISs := (.cons (.ifs (.orv (.cmp .lt (.blt .len (.cons (.w 0) .nil)) (.k (.int 4))) (.notv (.call f__law_is_name (.cons (.idx (.w 0) (.k (.int 1))) .nil)))) (.cons (.ret (.k (.bl false))) .nil) .nil) (.cons (.ifs (.orv (.notv (.call f__law_whole (.cons (.idx (.w 0) (.k (.int 2))) .nil))) (.orv (.cmp .lt (.idx (.w 0) (.k (.int 2))) (.k (.int 0))) (.orv (.notv (.call f__law_whole (.cons (.idx (.w 0) (.k (.int 3))) .nil))) (.cmp .lt (.idx (.w 0) (.k (.int 3))) (.k (.int 1)))))) (.cons (.ret (.k (.bl false))) .nil) .nil) (.cons (.ifs (.andv (.cmp .eq (.idx (.w 0) (.k (.int 0))) (.k (.str [98, 105, 100]))) (.cmp .eq (.blt .len (.cons (.w 0) .nil)) (.k (.int 7)))) (.cons (.set 1 (.andv (.call f__law_whole (.cons (.idx (.w 0) (.k (.int 4))) .nil)) (.andv (.call f__law_whole (.cons (.idx (.w 0) (.k (.int 5))) .nil)) (.cmp .lt (.idx (.w 0) (.k (.int 4))) (.idx (.w 0) (.k (.int 5))))))) (.cons (.ret (.andv (.v 1) (.call f__law_are_hands (.cons (.idx (.w 0) (.k (.int 6))) (.cons (.idx (.w 0) (.k (.int 1))) (.cons (.k (.int 1)) .nil)))))) .nil)) .nil) (.cons (.ifs (.cmp .eq (.idx (.w 0) (.k (.int 0))) (.k (.str [111, 102, 102]))) (.cons (.ret (.andv (.cmp .eq (.blt .len (.cons (.w 0) .nil)) (.k (.int 4))) (.cmp .gt (.idx (.w 0) (.k (.int 3))) (.k (.int 1))))) .nil) .nil) (.cons (.ifs (.andv (.cmp .eq (.idx (.w 0) (.k (.int 0))) (.k (.str [99, 108, 111, 115, 101]))) (.cmp .eq (.blt .len (.cons (.w 0) .nil)) (.k (.int 5)))) (.cons (.ret (.call f__law_are_hands (.cons (.idx (.w 0) (.k (.int 4))) (.cons (.idx (.w 0) (.k (.int 1))) (.cons (.k (.int 0)) .nil))))) .nil) .nil) (.cons (.ifs (.andv (.cmp .eq (.idx (.w 0) (.k (.int 0))) (.k (.str [97, 110, 115, 119, 101, 114]))) (.cmp .eq (.blt .len (.cons (.w 0) .nil)) (.k (.int 7)))) (.cons (.set 2 (.andv (.call f__law_is_name (.cons (.idx (.w 0) (.k (.int 4))) .nil)) (.andv (.cmp .ne (.idx (.w 0) (.k (.int 4))) (.idx (.w 0) (.k (.int 1)))) (.andv (.call f__law_whole (.cons (.idx (.w 0) (.k (.int 5))) .nil)) (.cmp .ge (.idx (.w 0) (.k (.int 5))) (.k (.int 0))))))) (.cons (.ret (.andv (.v 2) (.cmp .isin (.idx (.w 0) (.k (.int 6))) (.lst (.cons (.k (.str [121, 101, 115])) (.cons (.k (.str [110, 111])) .nil)))))) .nil)) .nil) (.cons (.ret (.k (.bl false))) .nil)))))))

def nameB (s : List Nat) : Bool :=
  match s with
  | [] => false
  | c :: r => decide (s.length ≤ 8) && inL c && s.all fun c => inL c || inF c
theorem p_is_name {s : List Nat} : runF C ⟨1, 2, b_is_name⟩ [.str s] st = .ok (.bl (nameB s)) st := by
  cases s with
  | nil => simp [b_is_name, runF, qev1, qev2, qev3, qev4, qev5, qev6, qev7, qev8, qev9, qev10, qev11, qev12, qev13, qev14, qev15, qev16, qev17, qev18, qev19, qev20, qev21, qevs1, qevs2, qevo1, qevo2, qevi1, qevi4, qexec1, qexec2, qexec3, qexec4, qexec5, qexec6, qexec7, qexec8, qexec9, qexec10, qexec11, qexec12, qexec13, qexec14, qexec15, qexec16, qexec17, qexec18, qexecs1, qexecs2, Res.bind, Res.go, lift, liftS, binD, cmpD, truth_bl, truth_int, truth_str, dr_non, dr_bl, dr_int, dr_str, dr_tup, dr_lst, dr_fn, bltD, lenD, isiD, slcD, seqD, bindD, wipeD, srcOf, sameAt, SL, Nat.reduceLeDiff, eq_int, eq_str, eq_bl, List.map_cons, List.map_nil, List.length_cons, List.length_nil, List.cons_append, List.nil_append, List.append_nil, List.getElem?_cons_zero, List.getElem?_cons_succ, List.set_cons_zero, List.set_cons_succ, List.replicate_succ, List.replicate_zero, Option.some.injEq, Option.map_some, Option.bind_some, Nat.reduceAdd, Nat.reduceSub, if_true, if_false, Bool.not_true, Bool.not_false, Bool.and_true, Bool.true_and, Bool.false_eq_true, reduceIte, Nat.zero_add, opEq, flatD, flatL, eqD, nameB]
  | cons c r =>
    have i0 : idxD (.str (c :: r)) (.int 0) = some (.str [c]) := idx_str (by omega) (by simp only [List.length_cons]; omega)
    by_cases h8 : (8 : Int) < (r.length : Int) + 1
    · have h8' : ¬ r.length ≤ 7 := by omega
      simp [b_is_name, runF, qev1, qev2, qev3, qev4, qev5, qev6, qev7, qev8, qev9, qev10, qev11, qev12, qev13, qev14, qev15, qev16, qev17, qev18, qev19, qev20, qev21, qevs1, qevs2, qevo1, qevo2, qevi1, qevi4, qexec1, qexec2, qexec3, qexec4, qexec5, qexec6, qexec7, qexec8, qexec9, qexec10, qexec11, qexec12, qexec13, qexec14, qexec15, qexec16, qexec17, qexec18, qexecs1, qexecs2, Res.bind, Res.go, lift, liftS, binD, cmpD, truth_bl, truth_int, truth_str, dr_non, dr_bl, dr_int, dr_str, dr_tup, dr_lst, dr_fn, bltD, lenD, isiD, slcD, seqD, bindD, wipeD, srcOf, sameAt, SL, Nat.reduceLeDiff, eq_int, eq_str, eq_bl, List.map_cons, List.map_nil, List.length_cons, List.length_nil, List.cons_append, List.nil_append, List.append_nil, List.getElem?_cons_zero, List.getElem?_cons_succ, List.set_cons_zero, List.set_cons_succ, List.replicate_succ, List.replicate_zero, Option.some.injEq, Option.map_some, Option.bind_some, Nat.reduceAdd, Nat.reduceSub, if_true, if_false, Bool.not_true, Bool.not_false, Bool.and_true, Bool.true_and, Bool.false_eq_true, reduceIte, Nat.zero_add, i0, opEq, flatD, flatL, eqD, in_let, in_fig, h8, nameB, h8']
    · have h8' : r.length ≤ 7 := by omega
      cases hc : inL c with
      | false => simp [b_is_name, runF, qev1, qev2, qev3, qev4, qev5, qev6, qev7, qev8, qev9, qev10, qev11, qev12, qev13, qev14, qev15, qev16, qev17, qev18, qev19, qev20, qev21, qevs1, qevs2, qevo1, qevo2, qevi1, qevi4, qexec1, qexec2, qexec3, qexec4, qexec5, qexec6, qexec7, qexec8, qexec9, qexec10, qexec11, qexec12, qexec13, qexec14, qexec15, qexec16, qexec17, qexec18, qexecs1, qexecs2, Res.bind, Res.go, lift, liftS, binD, cmpD, truth_bl, truth_int, truth_str, dr_non, dr_bl, dr_int, dr_str, dr_tup, dr_lst, dr_fn, bltD, lenD, isiD, slcD, seqD, bindD, wipeD, srcOf, sameAt, SL, Nat.reduceLeDiff, eq_int, eq_str, eq_bl, List.map_cons, List.map_nil, List.length_cons, List.length_nil, List.cons_append, List.nil_append, List.append_nil, List.getElem?_cons_zero, List.getElem?_cons_succ, List.set_cons_zero, List.set_cons_succ, List.replicate_succ, List.replicate_zero, Option.some.injEq, Option.map_some, Option.bind_some, Nat.reduceAdd, Nat.reduceSub, if_true, if_false, Bool.not_true, Bool.not_false, Bool.and_true, Bool.true_and, Bool.false_eq_true, reduceIte, Nat.zero_add, i0, opEq, flatD, flatL, eqD, in_let, in_fig, h8, nameB, hc]
      | true =>
        simp [b_is_name, runF, qev1, qev2, qev3, qev4, qev5, qev6, qev7, qev8, qev9, qev10, qev11, qev12, qev13, qev14, qev15, qev16, qev17, qev18, qev19, qev20, qev21, qevs1, qevs2, qevo1, qevo2, qevi1, qevi4, qexec1, qexec2, qexec3, qexec4, qexec5, qexec6, qexec7, qexec8, qexec9, qexec10, qexec11, qexec12, qexec13, qexec14, qexec15, qexec16, qexec17, qexec18, qexecs1, qexecs2, Res.bind, Res.go, lift, liftS, binD, cmpD, truth_bl, truth_int, truth_str, dr_non, dr_bl, dr_int, dr_str, dr_tup, dr_lst, dr_fn, bltD, lenD, isiD, slcD, seqD, bindD, wipeD, srcOf, sameAt, SL, Nat.reduceLeDiff, eq_int, eq_str, eq_bl, List.map_cons, List.map_nil, List.length_cons, List.length_nil, List.cons_append, List.nil_append, List.append_nil, List.getElem?_cons_zero, List.getElem?_cons_succ, List.set_cons_zero, List.set_cons_succ, List.replicate_succ, List.replicate_zero, Option.some.injEq, Option.map_some, Option.bind_some, Nat.reduceAdd, Nat.reduceSub, if_true, if_false, Bool.not_true, Bool.not_false, Bool.and_true, Bool.true_and, Bool.false_eq_true, reduceIte, Nat.zero_add, i0, opEq, flatD, flatL, eqD, in_let, in_fig, h8, hc]
        rw [← List.map_cons (f := fun c => D.str [c]), for_findR (fun env => ∃ x, env = [.va (.str (c :: r)), x]) (fun c => D.str [c]) (fun c => !(inL c || inF c)) (.bl false) (fun env y => env.set 1 (.va (.str [y]))) rfl (c :: r)]
        · have en : nameB (c :: r) = !((c :: r).any fun c => !(inL c || inF c)) := by
            unfold nameB
            simp only [List.length_cons, h8', hc, List.not_any_eq_all_not]
            simp [h8']
          rw [en]
          cases (c :: r).any fun c => !(inL c || inF c) <;> simp
        · intro y hy env ⟨x, e⟩
          subst e
          refine ⟨_, rfl, fun h => ?_, fun h => ⟨?_, _, rfl⟩⟩
          · cases hL : inL y <;> cases hF : inF y <;> simp [hL, hF] at h
            simp [runF, qev1, qev2, qev3, qev4, qev5, qev6, qev7, qev8, qev9, qev10, qev11, qev12, qev13, qev14, qev15, qev16, qev17, qev18, qev19, qev20, qev21, qevs1, qevs2, qevo1, qevo2, qevi1, qevi4, qexec1, qexec2, qexec3, qexec4, qexec5, qexec6, qexec7, qexec8, qexec9, qexec10, qexec11, qexec12, qexec13, qexec14, qexec15, qexec16, qexec17, qexec18, qexecs1, qexecs2, Res.bind, Res.go, lift, liftS, binD, cmpD, truth_bl, truth_int, truth_str, dr_non, dr_bl, dr_int, dr_str, dr_tup, dr_lst, dr_fn, bltD, lenD, isiD, slcD, seqD, bindD, wipeD, srcOf, sameAt, SL, Nat.reduceLeDiff, eq_int, eq_str, eq_bl, List.map_cons, List.map_nil, List.length_cons, List.length_nil, List.cons_append, List.nil_append, List.append_nil, List.getElem?_cons_zero, List.getElem?_cons_succ, List.set_cons_zero, List.set_cons_succ, List.replicate_succ, List.replicate_zero, Option.some.injEq, Option.map_some, Option.bind_some, Nat.reduceAdd, Nat.reduceSub, if_true, if_false, Bool.not_true, Bool.not_false, Bool.and_true, Bool.true_and, Bool.false_eq_true, reduceIte, Nat.zero_add, in_let, in_fig, hL, hF]
          · cases hL : inL y <;> cases hF : inF y <;> simp [hL, hF] at h <;> simp [runF, qev1, qev2, qev3, qev4, qev5, qev6, qev7, qev8, qev9, qev10, qev11, qev12, qev13, qev14, qev15, qev16, qev17, qev18, qev19, qev20, qev21, qevs1, qevs2, qevo1, qevo2, qevi1, qevi4, qexec1, qexec2, qexec3, qexec4, qexec5, qexec6, qexec7, qexec8, qexec9, qexec10, qexec11, qexec12, qexec13, qexec14, qexec15, qexec16, qexec17, qexec18, qexecs1, qexecs2, Res.bind, Res.go, lift, liftS, binD, cmpD, truth_bl, truth_int, truth_str, dr_non, dr_bl, dr_int, dr_str, dr_tup, dr_lst, dr_fn, bltD, lenD, isiD, slcD, seqD, bindD, wipeD, srcOf, sameAt, SL, Nat.reduceLeDiff, eq_int, eq_str, eq_bl, List.map_cons, List.map_nil, List.length_cons, List.length_nil, List.cons_append, List.nil_append, List.append_nil, List.getElem?_cons_zero, List.getElem?_cons_succ, List.set_cons_zero, List.set_cons_succ, List.replicate_succ, List.replicate_zero, Option.some.injEq, Option.map_some, Option.bind_some, Nat.reduceAdd, Nat.reduceSub, if_true, if_false, Bool.not_true, Bool.not_false, Bool.and_true, Bool.true_and, Bool.false_eq_true, reduceIte, Nat.zero_add, in_let, in_fig, hL, hF]
        · exact ⟨_, rfl⟩

def wholeB : D → Bool
  | .int _ => true
  | _ => false
def numB (d : D) (l : Int) : Bool :=
  match d with
  | .int i => decide (l ≤ i)
  | _ => false
def handB : D → Bool
  | .str s => nameB s
  | _ => false
def strOf : D → List Nat
  | .str s => s
  | _ => []
def adjB (l : List (List Nat)) : Bool := (l.zip l.tail).all fun p => decide (p.1 < p.2)
def handsB (d a : D) (l : Int) : Bool :=
  match d with
  | .tup hs => decide (l ≤ hs.length) && decide (hs.length ≤ 20) && hs.all (fun h => handB h && !eqD h a) && adjB (hs.map strOf)
  | _ => false
theorem p_is_number {d : D} {l : Int} (h : flatD 10 d = true) : runF C ⟨2, 2, b_is_number⟩ [d, .int l] st = .ok (.bl (numB d l)) st := by
  cases d <;> first | (simp [flatD] at h; done) | simp [b_is_number, runF, qev1, qev2, qev3, qev4, qev5, qev6, qev7, qev8, qev9, qev10, qev11, qev12, qev13, qev14, qev15, qev16, qev17, qev18, qev19, qev20, qev21, qevs1, qevs2, qevo1, qevo2, qevi1, qevi4, qexec1, qexec2, qexec3, qexec4, qexec5, qexec6, qexec7, qexec8, qexec9, qexec10, qexec11, qexec12, qexec13, qexec14, qexec15, qexec16, qexec17, qexec18, qexecs1, qexecs2, Res.bind, Res.go, lift, liftS, binD, cmpD, truth_bl, truth_int, truth_str, dr_non, dr_bl, dr_int, dr_str, dr_tup, dr_lst, dr_fn, bltD, lenD, isiD, slcD, seqD, bindD, wipeD, srcOf, sameAt, SL, Nat.reduceLeDiff, eq_int, eq_str, eq_bl, List.map_cons, List.map_nil, List.length_cons, List.length_nil, List.cons_append, List.nil_append, List.append_nil, List.getElem?_cons_zero, List.getElem?_cons_succ, List.set_cons_zero, List.set_cons_succ, List.replicate_succ, List.replicate_zero, Option.some.injEq, Option.map_some, Option.bind_some, Nat.reduceAdd, Nat.reduceSub, if_true, if_false, Bool.not_true, Bool.not_false, Bool.and_true, Bool.true_and, Bool.false_eq_true, reduceIte, Nat.zero_add, numB]
theorem p_is_whole {d : D} (h : flatD 10 d = true) : runF C ⟨1, 1, b_is_whole⟩ [d] st = .ok (.bl (wholeB d)) st := by
  cases d <;> first | (simp [flatD] at h; done) | simp [b_is_whole, runF, qev1, qev2, qev3, qev4, qev5, qev6, qev7, qev8, qev9, qev10, qev11, qev12, qev13, qev14, qev15, qev16, qev17, qev18, qev19, qev20, qev21, qevs1, qevs2, qevo1, qevo2, qevi1, qevi4, qexec1, qexec2, qexec3, qexec4, qexec5, qexec6, qexec7, qexec8, qexec9, qexec10, qexec11, qexec12, qexec13, qexec14, qexec15, qexec16, qexec17, qexec18, qexecs1, qexecs2, Res.bind, Res.go, lift, liftS, binD, cmpD, truth_bl, truth_int, truth_str, dr_non, dr_bl, dr_int, dr_str, dr_tup, dr_lst, dr_fn, bltD, lenD, isiD, slcD, seqD, bindD, wipeD, srcOf, sameAt, SL, Nat.reduceLeDiff, eq_int, eq_str, eq_bl, List.map_cons, List.map_nil, List.length_cons, List.length_nil, List.cons_append, List.nil_append, List.append_nil, List.getElem?_cons_zero, List.getElem?_cons_succ, List.set_cons_zero, List.set_cons_succ, List.replicate_succ, List.replicate_zero, Option.some.injEq, Option.map_some, Option.bind_some, Nat.reduceAdd, Nat.reduceSub, if_true, if_false, Bool.not_true, Bool.not_false, Bool.and_true, Bool.true_and, Bool.false_eq_true, reduceIte, Nat.zero_add, wholeB]
theorem p_law_whole {d : D} (h : flatD 10 d = true) : runF C ⟨1, 1, b__law_whole⟩ [d] st = .ok (.bl (wholeB d)) st := by
  cases d <;> first | (simp [flatD] at h; done) | simp [b__law_whole, runF, qev1, qev2, qev3, qev4, qev5, qev6, qev7, qev8, qev9, qev10, qev11, qev12, qev13, qev14, qev15, qev16, qev17, qev18, qev19, qev20, qev21, qevs1, qevs2, qevo1, qevo2, qevi1, qevi4, qexec1, qexec2, qexec3, qexec4, qexec5, qexec6, qexec7, qexec8, qexec9, qexec10, qexec11, qexec12, qexec13, qexec14, qexec15, qexec16, qexec17, qexec18, qexecs1, qexecs2, Res.bind, Res.go, lift, liftS, binD, cmpD, truth_bl, truth_int, truth_str, dr_non, dr_bl, dr_int, dr_str, dr_tup, dr_lst, dr_fn, bltD, lenD, isiD, slcD, seqD, bindD, wipeD, srcOf, sameAt, SL, Nat.reduceLeDiff, eq_int, eq_str, eq_bl, List.map_cons, List.map_nil, List.length_cons, List.length_nil, List.cons_append, List.nil_append, List.append_nil, List.getElem?_cons_zero, List.getElem?_cons_succ, List.set_cons_zero, List.set_cons_succ, List.replicate_succ, List.replicate_zero, Option.some.injEq, Option.map_some, Option.bind_some, Nat.reduceAdd, Nat.reduceSub, if_true, if_false, Bool.not_true, Bool.not_false, Bool.and_true, Bool.true_and, Bool.false_eq_true, reduceIte, Nat.zero_add, wholeB]
theorem p_is_hand {f : Nat} {d : D} (hN : ∀ s, C f [.str s] st = .ok (.bl (nameB s)) st) (h : flatD 10 d = true) : runF C ⟨1, 1, b_is_hand f⟩ [d] st = .ok (.bl (handB d)) st := by
  cases d <;> first | (simp [flatD] at h; done) | simp [b_is_hand, runF, qev1, qev2, qev3, qev4, qev5, qev6, qev7, qev8, qev9, qev10, qev11, qev12, qev13, qev14, qev15, qev16, qev17, qev18, qev19, qev20, qev21, qevs1, qevs2, qevo1, qevo2, qevi1, qevi4, qexec1, qexec2, qexec3, qexec4, qexec5, qexec6, qexec7, qexec8, qexec9, qexec10, qexec11, qexec12, qexec13, qexec14, qexec15, qexec16, qexec17, qexec18, qexecs1, qexecs2, Res.bind, Res.go, lift, liftS, binD, cmpD, truth_bl, truth_int, truth_str, dr_non, dr_bl, dr_int, dr_str, dr_tup, dr_lst, dr_fn, bltD, lenD, isiD, slcD, seqD, bindD, wipeD, srcOf, sameAt, SL, Nat.reduceLeDiff, eq_int, eq_str, eq_bl, List.map_cons, List.map_nil, List.length_cons, List.length_nil, List.cons_append, List.nil_append, List.append_nil, List.getElem?_cons_zero, List.getElem?_cons_succ, List.set_cons_zero, List.set_cons_succ, List.replicate_succ, List.replicate_zero, Option.some.injEq, Option.map_some, Option.bind_some, Nat.reduceAdd, Nat.reduceSub, if_true, if_false, Bool.not_true, Bool.not_false, Bool.and_true, Bool.true_and, Bool.false_eq_true, reduceIte, Nat.zero_add, handB, hN]
theorem hands_strs {hs : List D} {a : D} (h : (hs.all fun h => handB h && !eqD h a) = true) : hs = (hs.map strOf).map .str := by
  rw [List.map_map]
  have e : ∀ l : List D, (l.all fun h => handB h && !eqD h a) = true → l.map (D.str ∘ strOf) = l := fun l => by
    induction l with
    | nil => intro _; rfl
    | cons d r ih =>
      intro h
      rw [List.all_cons, Bool.and_eq_true, Bool.and_eq_true] at h
      rw [List.map_cons, ih h.2]
      cases d <;> first | rfl | (have := h.1.1; simp [handB] at this)
  exact (e hs h).symm
theorem zip_strs : ∀ (l r : List (List Nat)), List.zipWith (fun p q => D.tup [p, q]) (l.map .str) (r.map .str) = (l.zip r).map fun p => .tup [.str p.1, .str p.2]
  | [], _ => by simp
  | _ :: _, [] => by simp
  | x :: l, y :: r => by
    simp only [List.map_cons, List.zipWith_cons_cons, List.zip_cons_cons, zip_strs l r]

theorem p_are_hands {f : Nat} {d a : D} {l0 : Int} (hH : ∀ d, flatD 10 d = true → C f [d] st = .ok (.bl (handB d)) st) (h : flatD 10 d = true) (ha : flatD 10 a = true) : runF C ⟨3, 6, b_are_hands f⟩ [d, a, .int l0] st = .ok (.bl (handsB d a l0)) st := by
  cases d with
  | tup hs =>
    have hf : ∀ d ∈ hs, flatD 9 d = true := flatL_of h
    by_cases h1 : l0 ≤ hs.length
    · by_cases h2 : (hs.length : Int) ≤ 20
      · have h2' : hs.length ≤ 20 := by omega
        simp [b_are_hands, runF, qev1, qev2, qev3, qev4, qev5, qev6, qev7, qev8, qev9, qev10, qev11, qev12, qev13, qev14, qev15, qev16, qev17, qev18, qev19, qev20, qev21, qevs1, qevs2, qevo1, qevo2, qevi1, qevi4, qexec1, qexec2, qexec3, qexec4, qexec5, qexec6, qexec7, qexec8, qexec9, qexec10, qexec11, qexec12, qexec13, qexec14, qexec15, qexec16, qexec17, qexec18, qexecs1, qexecs2, Res.bind, Res.go, lift, liftS, binD, cmpD, truth_bl, truth_int, truth_str, dr_non, dr_bl, dr_int, dr_str, dr_tup, dr_lst, dr_fn, bltD, lenD, isiD, slcD, seqD, bindD, wipeD, srcOf, sameAt, SL, Nat.reduceLeDiff, eq_int, eq_str, eq_bl, List.map_cons, List.map_nil, List.length_cons, List.length_nil, List.cons_append, List.nil_append, List.append_nil, List.getElem?_cons_zero, List.getElem?_cons_succ, List.set_cons_zero, List.set_cons_succ, List.replicate_succ, List.replicate_zero, Option.some.injEq, Option.map_some, Option.bind_some, Nat.reduceAdd, Nat.reduceSub, if_true, if_false, Bool.not_true, Bool.not_false, Bool.and_true, Bool.true_and, Bool.false_eq_true, reduceIte, Nat.zero_add, h1, h2]
        rw [comp_mapI (fun h => .bl (handB h && !eqD h a)) rfl hs]
        · cases hh : hs.all fun h => handB h && !eqD h a with
          | false =>
            have hh' := hh
            simp only [Bool.eq_false_iff] at hh'
            simp [runF, qev1, qev2, qev3, qev4, qev5, qev6, qev7, qev8, qev9, qev10, qev11, qev12, qev13, qev14, qev15, qev16, qev17, qev18, qev19, qev20, qev21, qevs1, qevs2, qevo1, qevo2, qevi1, qevi4, qexec1, qexec2, qexec3, qexec4, qexec5, qexec6, qexec7, qexec8, qexec9, qexec10, qexec11, qexec12, qexec13, qexec14, qexec15, qexec16, qexec17, qexec18, qexecs1, qexecs2, Res.bind, Res.go, lift, liftS, binD, cmpD, truth_bl, truth_int, truth_str, dr_non, dr_bl, dr_int, dr_str, dr_tup, dr_lst, dr_fn, bltD, lenD, isiD, slcD, seqD, bindD, wipeD, srcOf, sameAt, SL, Nat.reduceLeDiff, eq_int, eq_str, eq_bl, List.map_cons, List.map_nil, List.length_cons, List.length_nil, List.cons_append, List.nil_append, List.append_nil, List.getElem?_cons_zero, List.getElem?_cons_succ, List.set_cons_zero, List.set_cons_succ, List.replicate_succ, List.replicate_zero, Option.some.injEq, Option.map_some, Option.bind_some, Nat.reduceAdd, Nat.reduceSub, if_true, if_false, Bool.not_true, Bool.not_false, Bool.and_true, Bool.true_and, Bool.false_eq_true, reduceIte, Nat.zero_add, bls_map, List.all_map, Function.comp_def, hh, handsB, h1, h2']
          | true =>
            have hs' := hands_strs hh
            have hz : hs.all (fun h => handB h && !eqD h a) = true := hh
            simp [runF, qev1, qev2, qev3, qev4, qev5, qev6, qev7, qev8, qev9, qev10, qev11, qev12, qev13, qev14, qev15, qev16, qev17, qev18, qev19, qev20, qev21, qevs1, qevs2, qevo1, qevo2, qevi1, qevi4, qexec1, qexec2, qexec3, qexec4, qexec5, qexec6, qexec7, qexec8, qexec9, qexec10, qexec11, qexec12, qexec13, qexec14, qexec15, qexec16, qexec17, qexec18, qexecs1, qexecs2, Res.bind, Res.go, lift, liftS, binD, cmpD, truth_bl, truth_int, truth_str, dr_non, dr_bl, dr_int, dr_str, dr_tup, dr_lst, dr_fn, bltD, lenD, isiD, slcD, seqD, bindD, wipeD, srcOf, sameAt, SL, Nat.reduceLeDiff, eq_int, eq_str, eq_bl, List.map_cons, List.map_nil, List.length_cons, List.length_nil, List.cons_append, List.nil_append, List.append_nil, List.getElem?_cons_zero, List.getElem?_cons_succ, List.set_cons_zero, List.set_cons_succ, List.replicate_succ, List.replicate_zero, Option.some.injEq, Option.map_some, Option.bind_some, Nat.reduceAdd, Nat.reduceSub, if_true, if_false, Bool.not_true, Bool.not_false, Bool.and_true, Bool.true_and, Bool.false_eq_true, reduceIte, Nat.zero_add, bls_map, List.all_map, Function.comp_def, hh, cut_1]
            generalize hl : hs.map strOf = l at *
            subst hs'
            rw [← List.map_tail, zip_strs, comp_map (fun p : List Nat × List Nat => .tup [.str p.1, .str p.2]) (fun p => .bl (decide (p.1 < p.2))) rfl (l.zip l.tail)]
            · have e3 : handsB (.tup (l.map .str)) a l0 = adjB l := by
                unfold handsB
                simp only [hl, hz, decide_eq_true h1, decide_eq_true h2', Bool.and_self, Bool.true_and]
              rw [e3]
              simp [runF, qev1, qev2, qev3, qev4, qev5, qev6, qev7, qev8, qev9, qev10, qev11, qev12, qev13, qev14, qev15, qev16, qev17, qev18, qev19, qev20, qev21, qevs1, qevs2, qevo1, qevo2, qevi1, qevi4, qexec1, qexec2, qexec3, qexec4, qexec5, qexec6, qexec7, qexec8, qexec9, qexec10, qexec11, qexec12, qexec13, qexec14, qexec15, qexec16, qexec17, qexec18, qexecs1, qexecs2, Res.bind, Res.go, lift, liftS, binD, cmpD, truth_bl, truth_int, truth_str, dr_non, dr_bl, dr_int, dr_str, dr_tup, dr_lst, dr_fn, bltD, lenD, isiD, slcD, seqD, bindD, wipeD, srcOf, sameAt, SL, Nat.reduceLeDiff, eq_int, eq_str, eq_bl, List.map_cons, List.map_nil, List.length_cons, List.length_nil, List.cons_append, List.nil_append, List.append_nil, List.getElem?_cons_zero, List.getElem?_cons_succ, List.set_cons_zero, List.set_cons_succ, List.replicate_succ, List.replicate_zero, Option.some.injEq, Option.map_some, Option.bind_some, Nat.reduceAdd, Nat.reduceSub, if_true, if_false, Bool.not_true, Bool.not_false, Bool.and_true, Bool.true_and, Bool.false_eq_true, reduceIte, Nat.zero_add, bls_map, List.all_map, Function.comp_def, adjB]
            · intro y hy
              exact ⟨_, rfl, rfl, by simp [runF, qev1, qev2, qev3, qev4, qev5, qev6, qev7, qev8, qev9, qev10, qev11, qev12, qev13, qev14, qev15, qev16, qev17, qev18, qev19, qev20, qev21, qevs1, qevs2, qevo1, qevo2, qevi1, qevi4, qexec1, qexec2, qexec3, qexec4, qexec5, qexec6, qexec7, qexec8, qexec9, qexec10, qexec11, qexec12, qexec13, qexec14, qexec15, qexec16, qexec17, qexec18, qexecs1, qexecs2, Res.bind, Res.go, lift, liftS, binD, cmpD, truth_bl, truth_int, truth_str, dr_non, dr_bl, dr_int, dr_str, dr_tup, dr_lst, dr_fn, bltD, lenD, isiD, slcD, seqD, bindD, wipeD, srcOf, sameAt, SL, Nat.reduceLeDiff, eq_int, eq_str, eq_bl, List.map_cons, List.map_nil, List.length_cons, List.length_nil, List.cons_append, List.nil_append, List.append_nil, List.getElem?_cons_zero, List.getElem?_cons_succ, List.set_cons_zero, List.set_cons_succ, List.replicate_succ, List.replicate_zero, Option.some.injEq, Option.map_some, Option.bind_some, Nat.reduceAdd, Nat.reduceSub, if_true, if_false, Bool.not_true, Bool.not_false, Bool.and_true, Bool.true_and, Bool.false_eq_true, reduceIte, Nat.zero_add]⟩
        · intro y hy
          refine ⟨_, rfl, rfl, ?_⟩
          have e := hH y (flat_le (hf y hy) (by omega))
          have e2 := op_eq (a := y) (b := a) (flat_le (hf y hy) (by omega)) (flat_le ha (by omega))
          have d1 := flat_dr (st := st) (hf y hy)
          have d2 := flat_dr (st := st) ha
          cases hb : handB y <;> simp [runF, qev1, qev2, qev3, qev4, qev5, qev6, qev7, qev8, qev9, qev10, qev11, qev12, qev13, qev14, qev15, qev16, qev17, qev18, qev19, qev20, qev21, qevs1, qevs2, qevo1, qevo2, qevi1, qevi4, qexec1, qexec2, qexec3, qexec4, qexec5, qexec6, qexec7, qexec8, qexec9, qexec10, qexec11, qexec12, qexec13, qexec14, qexec15, qexec16, qexec17, qexec18, qexecs1, qexecs2, Res.bind, Res.go, lift, liftS, binD, cmpD, truth_bl, truth_int, truth_str, dr_non, dr_bl, dr_int, dr_str, dr_tup, dr_lst, dr_fn, bltD, lenD, isiD, slcD, seqD, bindD, wipeD, srcOf, sameAt, SL, Nat.reduceLeDiff, eq_int, eq_str, eq_bl, List.map_cons, List.map_nil, List.length_cons, List.length_nil, List.cons_append, List.nil_append, List.append_nil, List.getElem?_cons_zero, List.getElem?_cons_succ, List.set_cons_zero, List.set_cons_succ, List.replicate_succ, List.replicate_zero, Option.some.injEq, Option.map_some, Option.bind_some, Nat.reduceAdd, Nat.reduceSub, if_true, if_false, Bool.not_true, Bool.not_false, Bool.and_true, Bool.true_and, Bool.false_eq_true, reduceIte, Nat.zero_add, e, e2, d1, d2, hb]
      · have h2' : ¬ hs.length ≤ 20 := by omega
        simp [b_are_hands, runF, qev1, qev2, qev3, qev4, qev5, qev6, qev7, qev8, qev9, qev10, qev11, qev12, qev13, qev14, qev15, qev16, qev17, qev18, qev19, qev20, qev21, qevs1, qevs2, qevo1, qevo2, qevi1, qevi4, qexec1, qexec2, qexec3, qexec4, qexec5, qexec6, qexec7, qexec8, qexec9, qexec10, qexec11, qexec12, qexec13, qexec14, qexec15, qexec16, qexec17, qexec18, qexecs1, qexecs2, Res.bind, Res.go, lift, liftS, binD, cmpD, truth_bl, truth_int, truth_str, dr_non, dr_bl, dr_int, dr_str, dr_tup, dr_lst, dr_fn, bltD, lenD, isiD, slcD, seqD, bindD, wipeD, srcOf, sameAt, SL, Nat.reduceLeDiff, eq_int, eq_str, eq_bl, List.map_cons, List.map_nil, List.length_cons, List.length_nil, List.cons_append, List.nil_append, List.append_nil, List.getElem?_cons_zero, List.getElem?_cons_succ, List.set_cons_zero, List.set_cons_succ, List.replicate_succ, List.replicate_zero, Option.some.injEq, Option.map_some, Option.bind_some, Nat.reduceAdd, Nat.reduceSub, if_true, if_false, Bool.not_true, Bool.not_false, Bool.and_true, Bool.true_and, Bool.false_eq_true, reduceIte, Nat.zero_add, h1, h2, handsB, h2']
    · simp [b_are_hands, runF, qev1, qev2, qev3, qev4, qev5, qev6, qev7, qev8, qev9, qev10, qev11, qev12, qev13, qev14, qev15, qev16, qev17, qev18, qev19, qev20, qev21, qevs1, qevs2, qevo1, qevo2, qevi1, qevi4, qexec1, qexec2, qexec3, qexec4, qexec5, qexec6, qexec7, qexec8, qexec9, qexec10, qexec11, qexec12, qexec13, qexec14, qexec15, qexec16, qexec17, qexec18, qexecs1, qexecs2, Res.bind, Res.go, lift, liftS, binD, cmpD, truth_bl, truth_int, truth_str, dr_non, dr_bl, dr_int, dr_str, dr_tup, dr_lst, dr_fn, bltD, lenD, isiD, slcD, seqD, bindD, wipeD, srcOf, sameAt, SL, Nat.reduceLeDiff, eq_int, eq_str, eq_bl, List.map_cons, List.map_nil, List.length_cons, List.length_nil, List.cons_append, List.nil_append, List.append_nil, List.getElem?_cons_zero, List.getElem?_cons_succ, List.set_cons_zero, List.set_cons_succ, List.replicate_succ, List.replicate_zero, Option.some.injEq, Option.map_some, Option.bind_some, Nat.reduceAdd, Nat.reduceSub, if_true, if_false, Bool.not_true, Bool.not_false, Bool.and_true, Bool.true_and, Bool.false_eq_true, reduceIte, Nat.zero_add, h1, handsB]
  | _ => first | (simp [flatD] at h; done) | simp [b_are_hands, runF, qev1, qev2, qev3, qev4, qev5, qev6, qev7, qev8, qev9, qev10, qev11, qev12, qev13, qev14, qev15, qev16, qev17, qev18, qev19, qev20, qev21, qevs1, qevs2, qevo1, qevo2, qevi1, qevi4, qexec1, qexec2, qexec3, qexec4, qexec5, qexec6, qexec7, qexec8, qexec9, qexec10, qexec11, qexec12, qexec13, qexec14, qexec15, qexec16, qexec17, qexec18, qexecs1, qexecs2, Res.bind, Res.go, lift, liftS, binD, cmpD, truth_bl, truth_int, truth_str, dr_non, dr_bl, dr_int, dr_str, dr_tup, dr_lst, dr_fn, bltD, lenD, isiD, slcD, seqD, bindD, wipeD, srcOf, sameAt, SL, Nat.reduceLeDiff, eq_int, eq_str, eq_bl, List.map_cons, List.map_nil, List.length_cons, List.length_nil, List.cons_append, List.nil_append, List.append_nil, List.getElem?_cons_zero, List.getElem?_cons_succ, List.set_cons_zero, List.set_cons_succ, List.replicate_succ, List.replicate_zero, Option.some.injEq, Option.map_some, Option.bind_some, Nat.reduceAdd, Nat.reduceSub, if_true, if_false, Bool.not_true, Bool.not_false, Bool.and_true, Bool.true_and, Bool.false_eq_true, reduceIte, Nat.zero_add, handsB]
end
end Cal
/-! plain lemmas: letters told -/
namespace Cal
section
variable {C : CallF} {st : Sto}
theorem ixLen {ds : List D} {i : Int} : (ds.length : Int) = i ↔ (ds.length : Int) = i := Iff.rfl
def ltI (d e : D) : Bool :=
  match d, e with
  | .int i, .int j => decide (i < j)
  | _, _ => false
def bidB : List D → Bool
  | [_, b, _, _, e, f, g] => wholeB e && wholeB f && ltI e f && handsB g b 1
  | _ => false
def yesB (g : D) : Bool := eqD (.str [121, 101, 115]) g || eqD (.str [110, 111]) g
def answerB : List D → Bool
  | [_, b, _, _, e, f, g] => handB e && !eqD e b && numB f 0 && yesB g
  | _ => false
def letterB : List D → Bool
  | a :: b :: c :: d :: r => handB b && numB c 0 && numB d 1 &&
    if eqD a (.str [98, 105, 100]) = true then bidB (a :: b :: c :: d :: r)
    else if eqD a (.str [111, 102, 102]) = true then r.isEmpty && numB d 2
    else if eqD a (.str [99, 108, 111, 115, 101]) = true then (match r with | [e] => handsB e b 0 | _ => false)
    else eqD a (.str [97, 110, 115, 119, 101, 114]) && answerB (a :: b :: c :: d :: r)
  | _ => false
theorem seven {ds : List D} (h : ds.length = 7) : ∃ a b c d e f g, ds = [a, b, c, d, e, f, g] := by
  match ds, h with
  | [a, b, c, d, e, f, g], _ => exact ⟨a, b, c, d, e, f, g, rfl⟩
theorem bidB_no {ds : List D} (h : ds.length ≠ 7) : bidB ds = false := by
  unfold bidB
  split
  · exact absurd rfl h
  · rfl
theorem answerB_no {ds : List D} (h : ds.length ≠ 7) : answerB ds = false := by
  unfold answerB
  split
  · exact absurd rfl h
  · rfl
theorem p_is_bid {fw fh : Nat} {ds : List D} (hW : ∀ d, flatD 10 d = true → C fw [d] st = .ok (.bl (wholeB d)) st) (hH : ∀ d a l, flatD 10 d = true → flatD 10 a = true → C fh [d, a, .int l] st = .ok (.bl (handsB d a l)) st) (h : ∀ d ∈ ds, flatD 10 d = true) :
    runF C ⟨1, 1, b_is_bid fw fh⟩ [.tup ds] st = .ok (.bl (bidB ds)) st := by
  by_cases h7 : ds.length = 7
  · obtain ⟨a, b, c, d, e, f, g, rfl⟩ := seven h7
    have he := hW e (h e (by simp))
    have hf := hW f (h f (by simp))
    have hg := hH g b 1 (h g (by simp)) (h b (by simp))
    cases e with
    | int i =>
      cases f with
      | int j =>
        by_cases hij : j ≤ i
        · have hij' : ¬ i < j := by omega
          simp [b_is_bid, runF, qev1, qev2, qev3, qev4, qev5, qev6, qev7, qev8, qev9, qev10, qev11, qev12, qev13, qev14, qev15, qev16, qev17, qev18, qev19, qev20, qev21, qevs1, qevs2, qevo1, qevo2, qevi1, qevi4, qexec1, qexec2, qexec3, qexec4, qexec5, qexec6, qexec7, qexec8, qexec9, qexec10, qexec11, qexec12, qexec13, qexec14, qexec15, qexec16, qexec17, qexec18, qexecs1, qexecs2, Res.bind, Res.go, lift, liftS, binD, cmpD, truth_bl, truth_int, truth_str, dr_non, dr_bl, dr_int, dr_str, dr_tup, dr_lst, dr_fn, bltD, lenD, isiD, slcD, seqD, bindD, wipeD, srcOf, sameAt, SL, Nat.reduceLeDiff, eq_int, eq_str, eq_bl, List.map_cons, List.map_nil, List.length_cons, List.length_nil, List.cons_append, List.nil_append, List.append_nil, List.getElem?_cons_zero, List.getElem?_cons_succ, List.set_cons_zero, List.set_cons_succ, List.replicate_succ, List.replicate_zero, Option.some.injEq, Option.map_some, Option.bind_some, Nat.reduceAdd, Nat.reduceSub, if_true, if_false, Bool.not_true, Bool.not_false, Bool.and_true, Bool.true_and, Bool.false_eq_true, reduceIte, Nat.zero_add, ix0, ix1, ix4, ix5, ix6, he, hf, hg, bidB, wholeB, ltI, hij, hij']
        · have hij' : i < j := by omega
          simp [b_is_bid, runF, qev1, qev2, qev3, qev4, qev5, qev6, qev7, qev8, qev9, qev10, qev11, qev12, qev13, qev14, qev15, qev16, qev17, qev18, qev19, qev20, qev21, qevs1, qevs2, qevo1, qevo2, qevi1, qevi4, qexec1, qexec2, qexec3, qexec4, qexec5, qexec6, qexec7, qexec8, qexec9, qexec10, qexec11, qexec12, qexec13, qexec14, qexec15, qexec16, qexec17, qexec18, qexecs1, qexecs2, Res.bind, Res.go, lift, liftS, binD, cmpD, truth_bl, truth_int, truth_str, dr_non, dr_bl, dr_int, dr_str, dr_tup, dr_lst, dr_fn, bltD, lenD, isiD, slcD, seqD, bindD, wipeD, srcOf, sameAt, SL, Nat.reduceLeDiff, eq_int, eq_str, eq_bl, List.map_cons, List.map_nil, List.length_cons, List.length_nil, List.cons_append, List.nil_append, List.append_nil, List.getElem?_cons_zero, List.getElem?_cons_succ, List.set_cons_zero, List.set_cons_succ, List.replicate_succ, List.replicate_zero, Option.some.injEq, Option.map_some, Option.bind_some, Nat.reduceAdd, Nat.reduceSub, if_true, if_false, Bool.not_true, Bool.not_false, Bool.and_true, Bool.true_and, Bool.false_eq_true, reduceIte, Nat.zero_add, ix0, ix1, ix4, ix5, ix6, he, hf, hg, bidB, wholeB, ltI, hij, hij']
      | _ => simp [b_is_bid, runF, qev1, qev2, qev3, qev4, qev5, qev6, qev7, qev8, qev9, qev10, qev11, qev12, qev13, qev14, qev15, qev16, qev17, qev18, qev19, qev20, qev21, qevs1, qevs2, qevo1, qevo2, qevi1, qevi4, qexec1, qexec2, qexec3, qexec4, qexec5, qexec6, qexec7, qexec8, qexec9, qexec10, qexec11, qexec12, qexec13, qexec14, qexec15, qexec16, qexec17, qexec18, qexecs1, qexecs2, Res.bind, Res.go, lift, liftS, binD, cmpD, truth_bl, truth_int, truth_str, dr_non, dr_bl, dr_int, dr_str, dr_tup, dr_lst, dr_fn, bltD, lenD, isiD, slcD, seqD, bindD, wipeD, srcOf, sameAt, SL, Nat.reduceLeDiff, eq_int, eq_str, eq_bl, List.map_cons, List.map_nil, List.length_cons, List.length_nil, List.cons_append, List.nil_append, List.append_nil, List.getElem?_cons_zero, List.getElem?_cons_succ, List.set_cons_zero, List.set_cons_succ, List.replicate_succ, List.replicate_zero, Option.some.injEq, Option.map_some, Option.bind_some, Nat.reduceAdd, Nat.reduceSub, if_true, if_false, Bool.not_true, Bool.not_false, Bool.and_true, Bool.true_and, Bool.false_eq_true, reduceIte, Nat.zero_add, ix0, ix1, ix4, ix5, ix6, he, hf, hg, bidB, wholeB, ltI]
    | _ => simp [b_is_bid, runF, qev1, qev2, qev3, qev4, qev5, qev6, qev7, qev8, qev9, qev10, qev11, qev12, qev13, qev14, qev15, qev16, qev17, qev18, qev19, qev20, qev21, qevs1, qevs2, qevo1, qevo2, qevi1, qevi4, qexec1, qexec2, qexec3, qexec4, qexec5, qexec6, qexec7, qexec8, qexec9, qexec10, qexec11, qexec12, qexec13, qexec14, qexec15, qexec16, qexec17, qexec18, qexecs1, qexecs2, Res.bind, Res.go, lift, liftS, binD, cmpD, truth_bl, truth_int, truth_str, dr_non, dr_bl, dr_int, dr_str, dr_tup, dr_lst, dr_fn, bltD, lenD, isiD, slcD, seqD, bindD, wipeD, srcOf, sameAt, SL, Nat.reduceLeDiff, eq_int, eq_str, eq_bl, List.map_cons, List.map_nil, List.length_cons, List.length_nil, List.cons_append, List.nil_append, List.append_nil, List.getElem?_cons_zero, List.getElem?_cons_succ, List.set_cons_zero, List.set_cons_succ, List.replicate_succ, List.replicate_zero, Option.some.injEq, Option.map_some, Option.bind_some, Nat.reduceAdd, Nat.reduceSub, if_true, if_false, Bool.not_true, Bool.not_false, Bool.and_true, Bool.true_and, Bool.false_eq_true, reduceIte, Nat.zero_add, ix0, ix1, ix4, ix5, ix6, he, hf, hg, bidB, wholeB, ltI]
  · have h7' : ¬ (ds.length : Int) = 7 := by omega
    rw [bidB_no h7]
    simp [b_is_bid, runF, qev1, qev2, qev3, qev4, qev5, qev6, qev7, qev8, qev9, qev10, qev11, qev12, qev13, qev14, qev15, qev16, qev17, qev18, qev19, qev20, qev21, qevs1, qevs2, qevo1, qevo2, qevi1, qevi4, qexec1, qexec2, qexec3, qexec4, qexec5, qexec6, qexec7, qexec8, qexec9, qexec10, qexec11, qexec12, qexec13, qexec14, qexec15, qexec16, qexec17, qexec18, qexecs1, qexecs2, Res.bind, Res.go, lift, liftS, binD, cmpD, truth_bl, truth_int, truth_str, dr_non, dr_bl, dr_int, dr_str, dr_tup, dr_lst, dr_fn, bltD, lenD, isiD, slcD, seqD, bindD, wipeD, srcOf, sameAt, SL, Nat.reduceLeDiff, eq_int, eq_str, eq_bl, List.map_cons, List.map_nil, List.length_cons, List.length_nil, List.cons_append, List.nil_append, List.append_nil, List.getElem?_cons_zero, List.getElem?_cons_succ, List.set_cons_zero, List.set_cons_succ, List.replicate_succ, List.replicate_zero, Option.some.injEq, Option.map_some, Option.bind_some, Nat.reduceAdd, Nat.reduceSub, if_true, if_false, Bool.not_true, Bool.not_false, Bool.and_true, Bool.true_and, Bool.false_eq_true, reduceIte, Nat.zero_add, h7']
theorem p_is_answer {fh fn : Nat} {ds : List D} (hH : ∀ d, flatD 10 d = true → C fh [d] st = .ok (.bl (handB d)) st) (hN : ∀ d l, flatD 10 d = true → C fn [d, .int l] st = .ok (.bl (numB d l)) st) (h : ∀ d ∈ ds, flatD 10 d = true) :
    runF C ⟨1, 1, b_is_answer fh fn⟩ [.tup ds] st = .ok (.bl (answerB ds)) st := by
  by_cases h7 : ds.length = 7
  · obtain ⟨a, b, c, d, e, f, g, rfl⟩ := seven h7
    have he := hH e (h e (by simp))
    have hf := hN f 0 (h f (by simp))
    have fe := h e (by simp)
    have fb := h b (by simp)
    have fg := h g (by simp)
    have e1 := op_eq (flat_le fe (show 10 ≤ 20 by omega)) (flat_le fb (show 10 ≤ 20 by omega))
    have d1 := flat_dr (st := st) fe
    have d2 := flat_dr (st := st) fb
    have d3 := flat_dr (st := st) fg
    have g1 : flatD 20 g = true := flat_le fg (by omega)
    cases hb : handB e with
    | false => simp [b_is_answer, runF, qev1, qev2, qev3, qev4, qev5, qev6, qev7, qev8, qev9, qev10, qev11, qev12, qev13, qev14, qev15, qev16, qev17, qev18, qev19, qev20, qev21, qevs1, qevs2, qevo1, qevo2, qevi1, qevi4, qexec1, qexec2, qexec3, qexec4, qexec5, qexec6, qexec7, qexec8, qexec9, qexec10, qexec11, qexec12, qexec13, qexec14, qexec15, qexec16, qexec17, qexec18, qexecs1, qexecs2, Res.bind, Res.go, lift, liftS, binD, cmpD, truth_bl, truth_int, truth_str, dr_non, dr_bl, dr_int, dr_str, dr_tup, dr_lst, dr_fn, bltD, lenD, isiD, slcD, seqD, bindD, wipeD, srcOf, sameAt, SL, Nat.reduceLeDiff, eq_int, eq_str, eq_bl, List.map_cons, List.map_nil, List.length_cons, List.length_nil, List.cons_append, List.nil_append, List.append_nil, List.getElem?_cons_zero, List.getElem?_cons_succ, List.set_cons_zero, List.set_cons_succ, List.replicate_succ, List.replicate_zero, Option.some.injEq, Option.map_some, Option.bind_some, Nat.reduceAdd, Nat.reduceSub, if_true, if_false, Bool.not_true, Bool.not_false, Bool.and_true, Bool.true_and, Bool.false_eq_true, reduceIte, Nat.zero_add, ix0, ix1, ix4, ix5, ix6, he, hf, answerB, hb]
    | true =>
      cases hq : eqD e b with
      | true => simp [b_is_answer, runF, qev1, qev2, qev3, qev4, qev5, qev6, qev7, qev8, qev9, qev10, qev11, qev12, qev13, qev14, qev15, qev16, qev17, qev18, qev19, qev20, qev21, qevs1, qevs2, qevo1, qevo2, qevi1, qevi4, qexec1, qexec2, qexec3, qexec4, qexec5, qexec6, qexec7, qexec8, qexec9, qexec10, qexec11, qexec12, qexec13, qexec14, qexec15, qexec16, qexec17, qexec18, qexecs1, qexecs2, Res.bind, Res.go, lift, liftS, binD, cmpD, truth_bl, truth_int, truth_str, dr_non, dr_bl, dr_int, dr_str, dr_tup, dr_lst, dr_fn, bltD, lenD, isiD, slcD, seqD, bindD, wipeD, srcOf, sameAt, SL, Nat.reduceLeDiff, eq_int, eq_str, eq_bl, List.map_cons, List.map_nil, List.length_cons, List.length_nil, List.cons_append, List.nil_append, List.append_nil, List.getElem?_cons_zero, List.getElem?_cons_succ, List.set_cons_zero, List.set_cons_succ, List.replicate_succ, List.replicate_zero, Option.some.injEq, Option.map_some, Option.bind_some, Nat.reduceAdd, Nat.reduceSub, if_true, if_false, Bool.not_true, Bool.not_false, Bool.and_true, Bool.true_and, Bool.false_eq_true, reduceIte, Nat.zero_add, ix0, ix1, ix4, ix5, ix6, he, hf, answerB, hb, e1, d1, d2, hq]
      | false =>
        cases hn : numB f 0 with
        | false => simp [b_is_answer, runF, qev1, qev2, qev3, qev4, qev5, qev6, qev7, qev8, qev9, qev10, qev11, qev12, qev13, qev14, qev15, qev16, qev17, qev18, qev19, qev20, qev21, qevs1, qevs2, qevo1, qevo2, qevi1, qevi4, qexec1, qexec2, qexec3, qexec4, qexec5, qexec6, qexec7, qexec8, qexec9, qexec10, qexec11, qexec12, qexec13, qexec14, qexec15, qexec16, qexec17, qexec18, qexecs1, qexecs2, Res.bind, Res.go, lift, liftS, binD, cmpD, truth_bl, truth_int, truth_str, dr_non, dr_bl, dr_int, dr_str, dr_tup, dr_lst, dr_fn, bltD, lenD, isiD, slcD, seqD, bindD, wipeD, srcOf, sameAt, SL, Nat.reduceLeDiff, eq_int, eq_str, eq_bl, List.map_cons, List.map_nil, List.length_cons, List.length_nil, List.cons_append, List.nil_append, List.append_nil, List.getElem?_cons_zero, List.getElem?_cons_succ, List.set_cons_zero, List.set_cons_succ, List.replicate_succ, List.replicate_zero, Option.some.injEq, Option.map_some, Option.bind_some, Nat.reduceAdd, Nat.reduceSub, if_true, if_false, Bool.not_true, Bool.not_false, Bool.and_true, Bool.true_and, Bool.false_eq_true, reduceIte, Nat.zero_add, ix0, ix1, ix4, ix5, ix6, he, hf, answerB, hb, e1, d1, d2, hq, hn]
        | true =>
          cases g <;> first
            | (simp [flatD] at fg; done)
            | simp [b_is_answer, runF, qev1, qev2, qev3, qev4, qev5, qev6, qev7, qev8, qev9, qev10, qev11, qev12, qev13, qev14, qev15, qev16, qev17, qev18, qev19, qev20, qev21, qevs1, qevs2, qevo1, qevo2, qevi1, qevi4, qexec1, qexec2, qexec3, qexec4, qexec5, qexec6, qexec7, qexec8, qexec9, qexec10, qexec11, qexec12, qexec13, qexec14, qexec15, qexec16, qexec17, qexec18, qexecs1, qexecs2, Res.bind, Res.go, lift, liftS, binD, cmpD, truth_bl, truth_int, truth_str, dr_non, dr_bl, dr_int, dr_str, dr_tup, dr_lst, dr_fn, bltD, lenD, isiD, slcD, seqD, bindD, wipeD, srcOf, sameAt, SL, Nat.reduceLeDiff, eq_int, eq_str, eq_bl, List.map_cons, List.map_nil, List.length_cons, List.length_nil, List.cons_append, List.nil_append, List.append_nil, List.getElem?_cons_zero, List.getElem?_cons_succ, List.set_cons_zero, List.set_cons_succ, List.replicate_succ, List.replicate_zero, Option.some.injEq, Option.map_some, Option.bind_some, Nat.reduceAdd, Nat.reduceSub, if_true, if_false, Bool.not_true, Bool.not_false, Bool.and_true, Bool.true_and, Bool.false_eq_true, reduceIte, Nat.zero_add, ix0, ix1, ix4, ix5, ix6, he, hf, answerB, hb, e1, d1, d2, hq, hn, opIn, yesB, eqD, flatL, flatD]
  · have h7' : ¬ (ds.length : Int) = 7 := by omega
    rw [answerB_no h7]
    simp [b_is_answer, runF, qev1, qev2, qev3, qev4, qev5, qev6, qev7, qev8, qev9, qev10, qev11, qev12, qev13, qev14, qev15, qev16, qev17, qev18, qev19, qev20, qev21, qevs1, qevs2, qevo1, qevo2, qevi1, qevi4, qexec1, qexec2, qexec3, qexec4, qexec5, qexec6, qexec7, qexec8, qexec9, qexec10, qexec11, qexec12, qexec13, qexec14, qexec15, qexec16, qexec17, qexec18, qexecs1, qexecs2, Res.bind, Res.go, lift, liftS, binD, cmpD, truth_bl, truth_int, truth_str, dr_non, dr_bl, dr_int, dr_str, dr_tup, dr_lst, dr_fn, bltD, lenD, isiD, slcD, seqD, bindD, wipeD, srcOf, sameAt, SL, Nat.reduceLeDiff, eq_int, eq_str, eq_bl, List.map_cons, List.map_nil, List.length_cons, List.length_nil, List.cons_append, List.nil_append, List.append_nil, List.getElem?_cons_zero, List.getElem?_cons_succ, List.set_cons_zero, List.set_cons_succ, List.replicate_succ, List.replicate_zero, Option.some.injEq, Option.map_some, Option.bind_some, Nat.reduceAdd, Nat.reduceSub, if_true, if_false, Bool.not_true, Bool.not_false, Bool.and_true, Bool.true_and, Bool.false_eq_true, reduceIte, Nat.zero_add, h7']
end
end Cal
/-! plain lemmas: letters told -/
namespace Cal
section
variable {C : CallF} {st : Sto}
theorem numB_int {i l : Int} : numB (.int i) l = decide (l ≤ i) := rfl
theorem p_is_letter {fh fn fb fhs fa : Nat} {ds : List D} (hH : ∀ d, flatD 10 d = true → C fh [d] st = .ok (.bl (handB d)) st) (hN : ∀ d l, flatD 10 d = true → C fn [d, .int l] st = .ok (.bl (numB d l)) st)
    (hB : ∀ ds, (∀ d ∈ ds, flatD 10 d = true) → C fb [.tup ds] st = .ok (.bl (bidB ds)) st) (hHs : ∀ d a l, flatD 10 d = true → flatD 10 a = true → C fhs [d, a, .int l] st = .ok (.bl (handsB d a l)) st)
    (hA : ∀ ds, (∀ d ∈ ds, flatD 10 d = true) → C fa [.tup ds] st = .ok (.bl (answerB ds)) st) (h : ∀ d ∈ ds, flatD 10 d = true) :
    runF C ⟨1, 1, b_is_letter fh fn fb fhs fa⟩ [.tup ds] st = .ok (.bl (letterB ds)) st := by
  match ds, h with
  | [], _ => simp [b_is_letter, runF, qev1, qev2, qev3, qev4, qev5, qev6, qev7, qev8, qev9, qev10, qev11, qev12, qev13, qev14, qev15, qev16, qev17, qev18, qev19, qev20, qev21, qevs1, qevs2, qevo1, qevo2, qevi1, qevi4, qexec1, qexec2, qexec3, qexec4, qexec5, qexec6, qexec7, qexec8, qexec9, qexec10, qexec11, qexec12, qexec13, qexec14, qexec15, qexec16, qexec17, qexec18, qexecs1, qexecs2, Res.bind, Res.go, lift, liftS, binD, cmpD, truth_bl, truth_int, truth_str, dr_non, dr_bl, dr_int, dr_str, dr_tup, dr_lst, dr_fn, bltD, lenD, isiD, slcD, seqD, bindD, wipeD, srcOf, sameAt, SL, Nat.reduceLeDiff, eq_int, eq_str, eq_bl, List.map_cons, List.map_nil, List.length_cons, List.length_nil, List.cons_append, List.nil_append, List.append_nil, List.getElem?_cons_zero, List.getElem?_cons_succ, List.set_cons_zero, List.set_cons_succ, List.replicate_succ, List.replicate_zero, Option.some.injEq, Option.map_some, Option.bind_some, Nat.reduceAdd, Nat.reduceSub, if_true, if_false, Bool.not_true, Bool.not_false, Bool.and_true, Bool.true_and, Bool.false_eq_true, reduceIte, Nat.zero_add, letterB]
  | [a], _ => simp [b_is_letter, runF, qev1, qev2, qev3, qev4, qev5, qev6, qev7, qev8, qev9, qev10, qev11, qev12, qev13, qev14, qev15, qev16, qev17, qev18, qev19, qev20, qev21, qevs1, qevs2, qevo1, qevo2, qevi1, qevi4, qexec1, qexec2, qexec3, qexec4, qexec5, qexec6, qexec7, qexec8, qexec9, qexec10, qexec11, qexec12, qexec13, qexec14, qexec15, qexec16, qexec17, qexec18, qexecs1, qexecs2, Res.bind, Res.go, lift, liftS, binD, cmpD, truth_bl, truth_int, truth_str, dr_non, dr_bl, dr_int, dr_str, dr_tup, dr_lst, dr_fn, bltD, lenD, isiD, slcD, seqD, bindD, wipeD, srcOf, sameAt, SL, Nat.reduceLeDiff, eq_int, eq_str, eq_bl, List.map_cons, List.map_nil, List.length_cons, List.length_nil, List.cons_append, List.nil_append, List.append_nil, List.getElem?_cons_zero, List.getElem?_cons_succ, List.set_cons_zero, List.set_cons_succ, List.replicate_succ, List.replicate_zero, Option.some.injEq, Option.map_some, Option.bind_some, Nat.reduceAdd, Nat.reduceSub, if_true, if_false, Bool.not_true, Bool.not_false, Bool.and_true, Bool.true_and, Bool.false_eq_true, reduceIte, Nat.zero_add, letterB]
  | [a, b], _ => simp [b_is_letter, runF, qev1, qev2, qev3, qev4, qev5, qev6, qev7, qev8, qev9, qev10, qev11, qev12, qev13, qev14, qev15, qev16, qev17, qev18, qev19, qev20, qev21, qevs1, qevs2, qevo1, qevo2, qevi1, qevi4, qexec1, qexec2, qexec3, qexec4, qexec5, qexec6, qexec7, qexec8, qexec9, qexec10, qexec11, qexec12, qexec13, qexec14, qexec15, qexec16, qexec17, qexec18, qexecs1, qexecs2, Res.bind, Res.go, lift, liftS, binD, cmpD, truth_bl, truth_int, truth_str, dr_non, dr_bl, dr_int, dr_str, dr_tup, dr_lst, dr_fn, bltD, lenD, isiD, slcD, seqD, bindD, wipeD, srcOf, sameAt, SL, Nat.reduceLeDiff, eq_int, eq_str, eq_bl, List.map_cons, List.map_nil, List.length_cons, List.length_nil, List.cons_append, List.nil_append, List.append_nil, List.getElem?_cons_zero, List.getElem?_cons_succ, List.set_cons_zero, List.set_cons_succ, List.replicate_succ, List.replicate_zero, Option.some.injEq, Option.map_some, Option.bind_some, Nat.reduceAdd, Nat.reduceSub, if_true, if_false, Bool.not_true, Bool.not_false, Bool.and_true, Bool.true_and, Bool.false_eq_true, reduceIte, Nat.zero_add, letterB]
  | [a, b, c], _ => simp [b_is_letter, runF, qev1, qev2, qev3, qev4, qev5, qev6, qev7, qev8, qev9, qev10, qev11, qev12, qev13, qev14, qev15, qev16, qev17, qev18, qev19, qev20, qev21, qevs1, qevs2, qevo1, qevo2, qevi1, qevi4, qexec1, qexec2, qexec3, qexec4, qexec5, qexec6, qexec7, qexec8, qexec9, qexec10, qexec11, qexec12, qexec13, qexec14, qexec15, qexec16, qexec17, qexec18, qexecs1, qexecs2, Res.bind, Res.go, lift, liftS, binD, cmpD, truth_bl, truth_int, truth_str, dr_non, dr_bl, dr_int, dr_str, dr_tup, dr_lst, dr_fn, bltD, lenD, isiD, slcD, seqD, bindD, wipeD, srcOf, sameAt, SL, Nat.reduceLeDiff, eq_int, eq_str, eq_bl, List.map_cons, List.map_nil, List.length_cons, List.length_nil, List.cons_append, List.nil_append, List.append_nil, List.getElem?_cons_zero, List.getElem?_cons_succ, List.set_cons_zero, List.set_cons_succ, List.replicate_succ, List.replicate_zero, Option.some.injEq, Option.map_some, Option.bind_some, Nat.reduceAdd, Nat.reduceSub, if_true, if_false, Bool.not_true, Bool.not_false, Bool.and_true, Bool.true_and, Bool.false_eq_true, reduceIte, Nat.zero_add, letterB]
  | a :: b :: c :: d :: r, h =>
    have h4 : ¬ (r.length : Int) + 1 + 1 + 1 + 1 < 4 := by omega
    have hb := hH b (h b (by simp))
    have hc := hN c 0 (h c (by simp))
    have hd := hN d 1 (h d (by simp))
    have fa' : flatD 20 a = true := flat_le (h a (by simp)) (by omega)
    have ea : ∀ s, opEq a (.str s) = some (eqD a (.str s)) := fun s => op_eq fa' rfl
    have da := flat_dr (st := st) (h a (by simp))
    have dd := flat_dr (st := st) (h d (by simp))
    have eB := hB _ h
    have eA := hA _ h
    cases hb' : handB b with
    | false => simp [b_is_letter, runF, qev1, qev2, qev3, qev4, qev5, qev6, qev7, qev8, qev9, qev10, qev11, qev12, qev13, qev14, qev15, qev16, qev17, qev18, qev19, qev20, qev21, qevs1, qevs2, qevo1, qevo2, qevi1, qevi4, qexec1, qexec2, qexec3, qexec4, qexec5, qexec6, qexec7, qexec8, qexec9, qexec10, qexec11, qexec12, qexec13, qexec14, qexec15, qexec16, qexec17, qexec18, qexecs1, qexecs2, Res.bind, Res.go, lift, liftS, binD, cmpD, truth_bl, truth_int, truth_str, dr_non, dr_bl, dr_int, dr_str, dr_tup, dr_lst, dr_fn, bltD, lenD, isiD, slcD, seqD, bindD, wipeD, srcOf, sameAt, SL, Nat.reduceLeDiff, eq_int, eq_str, eq_bl, List.map_cons, List.map_nil, List.length_cons, List.length_nil, List.cons_append, List.nil_append, List.append_nil, List.getElem?_cons_zero, List.getElem?_cons_succ, List.set_cons_zero, List.set_cons_succ, List.replicate_succ, List.replicate_zero, Option.some.injEq, Option.map_some, Option.bind_some, Nat.reduceAdd, Nat.reduceSub, if_true, if_false, Bool.not_true, Bool.not_false, Bool.and_true, Bool.true_and, Bool.false_eq_true, reduceIte, Nat.zero_add, ix0, ix1, ix2, ix3, ix4, hb, hc, hd, hb', letterB, h4]
    | true =>
      cases hc' : numB c 0 with
      | false => simp [b_is_letter, runF, qev1, qev2, qev3, qev4, qev5, qev6, qev7, qev8, qev9, qev10, qev11, qev12, qev13, qev14, qev15, qev16, qev17, qev18, qev19, qev20, qev21, qevs1, qevs2, qevo1, qevo2, qevi1, qevi4, qexec1, qexec2, qexec3, qexec4, qexec5, qexec6, qexec7, qexec8, qexec9, qexec10, qexec11, qexec12, qexec13, qexec14, qexec15, qexec16, qexec17, qexec18, qexecs1, qexecs2, Res.bind, Res.go, lift, liftS, binD, cmpD, truth_bl, truth_int, truth_str, dr_non, dr_bl, dr_int, dr_str, dr_tup, dr_lst, dr_fn, bltD, lenD, isiD, slcD, seqD, bindD, wipeD, srcOf, sameAt, SL, Nat.reduceLeDiff, eq_int, eq_str, eq_bl, List.map_cons, List.map_nil, List.length_cons, List.length_nil, List.cons_append, List.nil_append, List.append_nil, List.getElem?_cons_zero, List.getElem?_cons_succ, List.set_cons_zero, List.set_cons_succ, List.replicate_succ, List.replicate_zero, Option.some.injEq, Option.map_some, Option.bind_some, Nat.reduceAdd, Nat.reduceSub, if_true, if_false, Bool.not_true, Bool.not_false, Bool.and_true, Bool.true_and, Bool.false_eq_true, reduceIte, Nat.zero_add, ix0, ix1, ix2, ix3, ix4, hb, hc, hd, hb', hc', letterB, h4]
      | true =>
        cases hd' : numB d 1 with
        | false => simp [b_is_letter, runF, qev1, qev2, qev3, qev4, qev5, qev6, qev7, qev8, qev9, qev10, qev11, qev12, qev13, qev14, qev15, qev16, qev17, qev18, qev19, qev20, qev21, qevs1, qevs2, qevo1, qevo2, qevi1, qevi4, qexec1, qexec2, qexec3, qexec4, qexec5, qexec6, qexec7, qexec8, qexec9, qexec10, qexec11, qexec12, qexec13, qexec14, qexec15, qexec16, qexec17, qexec18, qexecs1, qexecs2, Res.bind, Res.go, lift, liftS, binD, cmpD, truth_bl, truth_int, truth_str, dr_non, dr_bl, dr_int, dr_str, dr_tup, dr_lst, dr_fn, bltD, lenD, isiD, slcD, seqD, bindD, wipeD, srcOf, sameAt, SL, Nat.reduceLeDiff, eq_int, eq_str, eq_bl, List.map_cons, List.map_nil, List.length_cons, List.length_nil, List.cons_append, List.nil_append, List.append_nil, List.getElem?_cons_zero, List.getElem?_cons_succ, List.set_cons_zero, List.set_cons_succ, List.replicate_succ, List.replicate_zero, Option.some.injEq, Option.map_some, Option.bind_some, Nat.reduceAdd, Nat.reduceSub, if_true, if_false, Bool.not_true, Bool.not_false, Bool.and_true, Bool.true_and, Bool.false_eq_true, reduceIte, Nat.zero_add, ix0, ix1, ix2, ix3, ix4, hb, hc, hd, hb', hc', hd', letterB, h4]
        | true =>
          cases d with
          | int i =>
            cases e1 : eqD a (.str [98, 105, 100]) with
            | true => simp [b_is_letter, runF, qev1, qev2, qev3, qev4, qev5, qev6, qev7, qev8, qev9, qev10, qev11, qev12, qev13, qev14, qev15, qev16, qev17, qev18, qev19, qev20, qev21, qevs1, qevs2, qevo1, qevo2, qevi1, qevi4, qexec1, qexec2, qexec3, qexec4, qexec5, qexec6, qexec7, qexec8, qexec9, qexec10, qexec11, qexec12, qexec13, qexec14, qexec15, qexec16, qexec17, qexec18, qexecs1, qexecs2, Res.bind, Res.go, lift, liftS, binD, cmpD, truth_bl, truth_int, truth_str, dr_non, dr_bl, dr_int, dr_str, dr_tup, dr_lst, dr_fn, bltD, lenD, isiD, slcD, seqD, bindD, wipeD, srcOf, sameAt, SL, Nat.reduceLeDiff, eq_int, eq_str, eq_bl, List.map_cons, List.map_nil, List.length_cons, List.length_nil, List.cons_append, List.nil_append, List.append_nil, List.getElem?_cons_zero, List.getElem?_cons_succ, List.set_cons_zero, List.set_cons_succ, List.replicate_succ, List.replicate_zero, Option.some.injEq, Option.map_some, Option.bind_some, Nat.reduceAdd, Nat.reduceSub, if_true, if_false, Bool.not_true, Bool.not_false, Bool.and_true, Bool.true_and, Bool.false_eq_true, reduceIte, Nat.zero_add, ix0, ix1, ix2, ix3, ix4, hb, hc, hd, hb', hc', hd', letterB, h4, ea, da, e1, eB]
            | false =>
              cases e2 : eqD a (.str [111, 102, 102]) with
              | true =>
                cases r with
                | nil => simp [b_is_letter, runF, qev1, qev2, qev3, qev4, qev5, qev6, qev7, qev8, qev9, qev10, qev11, qev12, qev13, qev14, qev15, qev16, qev17, qev18, qev19, qev20, qev21, qevs1, qevs2, qevo1, qevo2, qevi1, qevi4, qexec1, qexec2, qexec3, qexec4, qexec5, qexec6, qexec7, qexec8, qexec9, qexec10, qexec11, qexec12, qexec13, qexec14, qexec15, qexec16, qexec17, qexec18, qexecs1, qexecs2, Res.bind, Res.go, lift, liftS, binD, cmpD, truth_bl, truth_int, truth_str, dr_non, dr_bl, dr_int, dr_str, dr_tup, dr_lst, dr_fn, bltD, lenD, isiD, slcD, seqD, bindD, wipeD, srcOf, sameAt, SL, Nat.reduceLeDiff, eq_int, eq_str, eq_bl, List.map_cons, List.map_nil, List.length_cons, List.length_nil, List.cons_append, List.nil_append, List.append_nil, List.getElem?_cons_zero, List.getElem?_cons_succ, List.set_cons_zero, List.set_cons_succ, List.replicate_succ, List.replicate_zero, Option.some.injEq, Option.map_some, Option.bind_some, Nat.reduceAdd, Nat.reduceSub, if_true, if_false, Bool.not_true, Bool.not_false, Bool.and_true, Bool.true_and, Bool.false_eq_true, reduceIte, Nat.zero_add, ix0, ix1, ix2, ix3, ix4, hb, hc, hd, hb', hc', hd', letterB, h4, ea, da, e1, e2, numB_int]
                | cons e r =>
                  have h5 : ¬ ((r.length : Int) + 1 + 1 + 1 + 1 + 1 = 4) := by omega
                  have h6 : ¬ ((r.length : Int) + 1 + 1 + 1 + 1 + 1 < 4) := by omega
                  simp [b_is_letter, runF, qev1, qev2, qev3, qev4, qev5, qev6, qev7, qev8, qev9, qev10, qev11, qev12, qev13, qev14, qev15, qev16, qev17, qev18, qev19, qev20, qev21, qevs1, qevs2, qevo1, qevo2, qevi1, qevi4, qexec1, qexec2, qexec3, qexec4, qexec5, qexec6, qexec7, qexec8, qexec9, qexec10, qexec11, qexec12, qexec13, qexec14, qexec15, qexec16, qexec17, qexec18, qexecs1, qexecs2, Res.bind, Res.go, lift, liftS, binD, cmpD, truth_bl, truth_int, truth_str, dr_non, dr_bl, dr_int, dr_str, dr_tup, dr_lst, dr_fn, bltD, lenD, isiD, slcD, seqD, bindD, wipeD, srcOf, sameAt, SL, Nat.reduceLeDiff, eq_int, eq_str, eq_bl, List.map_cons, List.map_nil, List.length_cons, List.length_nil, List.cons_append, List.nil_append, List.append_nil, List.getElem?_cons_zero, List.getElem?_cons_succ, List.set_cons_zero, List.set_cons_succ, List.replicate_succ, List.replicate_zero, Option.some.injEq, Option.map_some, Option.bind_some, Nat.reduceAdd, Nat.reduceSub, if_true, if_false, Bool.not_true, Bool.not_false, Bool.and_true, Bool.true_and, Bool.false_eq_true, reduceIte, Nat.zero_add, ix0, ix1, ix2, ix3, ix4, hb, hc, hd, hb', hc', hd', letterB, h4, ea, da, e1, e2, h5, h6]
              | false =>
                cases e3 : eqD a (.str [99, 108, 111, 115, 101]) with
                | true =>
                  match r, h with
                  | [], h => simp [b_is_letter, runF, qev1, qev2, qev3, qev4, qev5, qev6, qev7, qev8, qev9, qev10, qev11, qev12, qev13, qev14, qev15, qev16, qev17, qev18, qev19, qev20, qev21, qevs1, qevs2, qevo1, qevo2, qevi1, qevi4, qexec1, qexec2, qexec3, qexec4, qexec5, qexec6, qexec7, qexec8, qexec9, qexec10, qexec11, qexec12, qexec13, qexec14, qexec15, qexec16, qexec17, qexec18, qexecs1, qexecs2, Res.bind, Res.go, lift, liftS, binD, cmpD, truth_bl, truth_int, truth_str, dr_non, dr_bl, dr_int, dr_str, dr_tup, dr_lst, dr_fn, bltD, lenD, isiD, slcD, seqD, bindD, wipeD, srcOf, sameAt, SL, Nat.reduceLeDiff, eq_int, eq_str, eq_bl, List.map_cons, List.map_nil, List.length_cons, List.length_nil, List.cons_append, List.nil_append, List.append_nil, List.getElem?_cons_zero, List.getElem?_cons_succ, List.set_cons_zero, List.set_cons_succ, List.replicate_succ, List.replicate_zero, Option.some.injEq, Option.map_some, Option.bind_some, Nat.reduceAdd, Nat.reduceSub, if_true, if_false, Bool.not_true, Bool.not_false, Bool.and_true, Bool.true_and, Bool.false_eq_true, reduceIte, Nat.zero_add, ix0, ix1, ix2, ix3, ix4, hb, hc, hd, hb', hc', hd', letterB, h4, ea, da, e1, e2, e3]
                  | [e], h =>
                    have hh := hHs e b 0 (h e (by simp)) (h b (by simp))
                    simp [b_is_letter, runF, qev1, qev2, qev3, qev4, qev5, qev6, qev7, qev8, qev9, qev10, qev11, qev12, qev13, qev14, qev15, qev16, qev17, qev18, qev19, qev20, qev21, qevs1, qevs2, qevo1, qevo2, qevi1, qevi4, qexec1, qexec2, qexec3, qexec4, qexec5, qexec6, qexec7, qexec8, qexec9, qexec10, qexec11, qexec12, qexec13, qexec14, qexec15, qexec16, qexec17, qexec18, qexecs1, qexecs2, Res.bind, Res.go, lift, liftS, binD, cmpD, truth_bl, truth_int, truth_str, dr_non, dr_bl, dr_int, dr_str, dr_tup, dr_lst, dr_fn, bltD, lenD, isiD, slcD, seqD, bindD, wipeD, srcOf, sameAt, SL, Nat.reduceLeDiff, eq_int, eq_str, eq_bl, List.map_cons, List.map_nil, List.length_cons, List.length_nil, List.cons_append, List.nil_append, List.append_nil, List.getElem?_cons_zero, List.getElem?_cons_succ, List.set_cons_zero, List.set_cons_succ, List.replicate_succ, List.replicate_zero, Option.some.injEq, Option.map_some, Option.bind_some, Nat.reduceAdd, Nat.reduceSub, if_true, if_false, Bool.not_true, Bool.not_false, Bool.and_true, Bool.true_and, Bool.false_eq_true, reduceIte, Nat.zero_add, ix0, ix1, ix2, ix3, ix4, hb, hc, hd, hb', hc', hd', letterB, h4, ea, da, e1, e2, e3, hh]
                  | e :: f :: r, h =>
                    have h5 : ¬ ((r.length : Int) + 1 + 1 + 1 + 1 + 1 + 1 = 5) := by omega
                    have h6 : ¬ ((r.length : Int) + 1 + 1 + 1 + 1 + 1 + 1 < 4) := by omega
                    simp [b_is_letter, runF, qev1, qev2, qev3, qev4, qev5, qev6, qev7, qev8, qev9, qev10, qev11, qev12, qev13, qev14, qev15, qev16, qev17, qev18, qev19, qev20, qev21, qevs1, qevs2, qevo1, qevo2, qevi1, qevi4, qexec1, qexec2, qexec3, qexec4, qexec5, qexec6, qexec7, qexec8, qexec9, qexec10, qexec11, qexec12, qexec13, qexec14, qexec15, qexec16, qexec17, qexec18, qexecs1, qexecs2, Res.bind, Res.go, lift, liftS, binD, cmpD, truth_bl, truth_int, truth_str, dr_non, dr_bl, dr_int, dr_str, dr_tup, dr_lst, dr_fn, bltD, lenD, isiD, slcD, seqD, bindD, wipeD, srcOf, sameAt, SL, Nat.reduceLeDiff, eq_int, eq_str, eq_bl, List.map_cons, List.map_nil, List.length_cons, List.length_nil, List.cons_append, List.nil_append, List.append_nil, List.getElem?_cons_zero, List.getElem?_cons_succ, List.set_cons_zero, List.set_cons_succ, List.replicate_succ, List.replicate_zero, Option.some.injEq, Option.map_some, Option.bind_some, Nat.reduceAdd, Nat.reduceSub, if_true, if_false, Bool.not_true, Bool.not_false, Bool.and_true, Bool.true_and, Bool.false_eq_true, reduceIte, Nat.zero_add, ix0, ix1, ix2, ix3, ix4, hb, hc, hd, hb', hc', hd', letterB, h4, ea, da, e1, e2, e3, h5, h6]
                | false =>
                  cases e4 : eqD a (.str [97, 110, 115, 119, 101, 114]) <;> simp [b_is_letter, runF, qev1, qev2, qev3, qev4, qev5, qev6, qev7, qev8, qev9, qev10, qev11, qev12, qev13, qev14, qev15, qev16, qev17, qev18, qev19, qev20, qev21, qevs1, qevs2, qevo1, qevo2, qevi1, qevi4, qexec1, qexec2, qexec3, qexec4, qexec5, qexec6, qexec7, qexec8, qexec9, qexec10, qexec11, qexec12, qexec13, qexec14, qexec15, qexec16, qexec17, qexec18, qexecs1, qexecs2, Res.bind, Res.go, lift, liftS, binD, cmpD, truth_bl, truth_int, truth_str, dr_non, dr_bl, dr_int, dr_str, dr_tup, dr_lst, dr_fn, bltD, lenD, isiD, slcD, seqD, bindD, wipeD, srcOf, sameAt, SL, Nat.reduceLeDiff, eq_int, eq_str, eq_bl, List.map_cons, List.map_nil, List.length_cons, List.length_nil, List.cons_append, List.nil_append, List.append_nil, List.getElem?_cons_zero, List.getElem?_cons_succ, List.set_cons_zero, List.set_cons_succ, List.replicate_succ, List.replicate_zero, Option.some.injEq, Option.map_some, Option.bind_some, Nat.reduceAdd, Nat.reduceSub, if_true, if_false, Bool.not_true, Bool.not_false, Bool.and_true, Bool.true_and, Bool.false_eq_true, reduceIte, Nat.zero_add, ix0, ix1, ix2, ix3, ix4, hb, hc, hd, hb', hc', hd', letterB, h4, ea, da, e1, e2, e3, e4, eA]
          | _ => simp [numB] at hd'
theorem nameB_law {s : List Nat} : nameB s = (!s.isEmpty && decide (s.length ≤ 8) && !inF (s.getD 0 0) && s.all fun c => inL c || inF c) := by
  cases s with
  | nil => rfl
  | cons c r =>
    unfold nameB
    simp only [List.isEmpty_cons, Bool.not_false, Bool.true_and, List.getD_cons_zero, List.all_cons]
    cases hL : inL c with
    | true => rw [notLF hL]; simp
    | false => cases hF : inF c <;> simp
theorem p_law_is_name {d : D} (h : flatD 10 d = true) : runF C ⟨1, 3, b__law_is_name⟩ [d] st = .ok (.bl (handB d)) st := by
  cases d with
  | str s =>
    show _ = Res.ok (D.bl (nameB s)) st
    rw [nameB_law]
    cases s with
    | nil => simp [b__law_is_name, runF, qev1, qev2, qev3, qev4, qev5, qev6, qev7, qev8, qev9, qev10, qev11, qev12, qev13, qev14, qev15, qev16, qev17, qev18, qev19, qev20, qev21, qevs1, qevs2, qevo1, qevo2, qevi1, qevi4, qexec1, qexec2, qexec3, qexec4, qexec5, qexec6, qexec7, qexec8, qexec9, qexec10, qexec11, qexec12, qexec13, qexec14, qexec15, qexec16, qexec17, qexec18, qexecs1, qexecs2, Res.bind, Res.go, lift, liftS, binD, cmpD, truth_bl, truth_int, truth_str, dr_non, dr_bl, dr_int, dr_str, dr_tup, dr_lst, dr_fn, bltD, lenD, isiD, slcD, seqD, bindD, wipeD, srcOf, sameAt, SL, Nat.reduceLeDiff, eq_int, eq_str, eq_bl, List.map_cons, List.map_nil, List.length_cons, List.length_nil, List.cons_append, List.nil_append, List.append_nil, List.getElem?_cons_zero, List.getElem?_cons_succ, List.set_cons_zero, List.set_cons_succ, List.replicate_succ, List.replicate_zero, Option.some.injEq, Option.map_some, Option.bind_some, Nat.reduceAdd, Nat.reduceSub, if_true, if_false, Bool.not_true, Bool.not_false, Bool.and_true, Bool.true_and, Bool.false_eq_true, reduceIte, Nat.zero_add]
    | cons c r =>
      have i0 : idxD (.str (c :: r)) (.int 0) = some (.str [c]) := idx_str (by omega) (by simp only [List.length_cons]; omega)
      by_cases h8 : (8 : Int) < (r.length : Int) + 1
      · have h8' : ¬ r.length ≤ 7 := by omega
        simp [b__law_is_name, runF, qev1, qev2, qev3, qev4, qev5, qev6, qev7, qev8, qev9, qev10, qev11, qev12, qev13, qev14, qev15, qev16, qev17, qev18, qev19, qev20, qev21, qevs1, qevs2, qevo1, qevo2, qevi1, qevi4, qexec1, qexec2, qexec3, qexec4, qexec5, qexec6, qexec7, qexec8, qexec9, qexec10, qexec11, qexec12, qexec13, qexec14, qexec15, qexec16, qexec17, qexec18, qexecs1, qexecs2, Res.bind, Res.go, lift, liftS, binD, cmpD, truth_bl, truth_int, truth_str, dr_non, dr_bl, dr_int, dr_str, dr_tup, dr_lst, dr_fn, bltD, lenD, isiD, slcD, seqD, bindD, wipeD, srcOf, sameAt, SL, Nat.reduceLeDiff, eq_int, eq_str, eq_bl, List.map_cons, List.map_nil, List.length_cons, List.length_nil, List.cons_append, List.nil_append, List.append_nil, List.getElem?_cons_zero, List.getElem?_cons_succ, List.set_cons_zero, List.set_cons_succ, List.replicate_succ, List.replicate_zero, Option.some.injEq, Option.map_some, Option.bind_some, Nat.reduceAdd, Nat.reduceSub, if_true, if_false, Bool.not_true, Bool.not_false, Bool.and_true, Bool.true_and, Bool.false_eq_true, reduceIte, Nat.zero_add, i0, in_fig, h8, h8']
      · have h8' : r.length ≤ 7 := by omega
        cases hc : inF c with
        | true => simp [b__law_is_name, runF, qev1, qev2, qev3, qev4, qev5, qev6, qev7, qev8, qev9, qev10, qev11, qev12, qev13, qev14, qev15, qev16, qev17, qev18, qev19, qev20, qev21, qevs1, qevs2, qevo1, qevo2, qevi1, qevi4, qexec1, qexec2, qexec3, qexec4, qexec5, qexec6, qexec7, qexec8, qexec9, qexec10, qexec11, qexec12, qexec13, qexec14, qexec15, qexec16, qexec17, qexec18, qexecs1, qexecs2, Res.bind, Res.go, lift, liftS, binD, cmpD, truth_bl, truth_int, truth_str, dr_non, dr_bl, dr_int, dr_str, dr_tup, dr_lst, dr_fn, bltD, lenD, isiD, slcD, seqD, bindD, wipeD, srcOf, sameAt, SL, Nat.reduceLeDiff, eq_int, eq_str, eq_bl, List.map_cons, List.map_nil, List.length_cons, List.length_nil, List.cons_append, List.nil_append, List.append_nil, List.getElem?_cons_zero, List.getElem?_cons_succ, List.set_cons_zero, List.set_cons_succ, List.replicate_succ, List.replicate_zero, Option.some.injEq, Option.map_some, Option.bind_some, Nat.reduceAdd, Nat.reduceSub, if_true, if_false, Bool.not_true, Bool.not_false, Bool.and_true, Bool.true_and, Bool.false_eq_true, reduceIte, Nat.zero_add, i0, in_fig, h8, h8', hc]
        | false =>
          simp [b__law_is_name, runF, qev1, qev2, qev3, qev4, qev5, qev6, qev7, qev8, qev9, qev10, qev11, qev12, qev13, qev14, qev15, qev16, qev17, qev18, qev19, qev20, qev21, qevs1, qevs2, qevo1, qevo2, qevi1, qevi4, qexec1, qexec2, qexec3, qexec4, qexec5, qexec6, qexec7, qexec8, qexec9, qexec10, qexec11, qexec12, qexec13, qexec14, qexec15, qexec16, qexec17, qexec18, qexecs1, qexecs2, Res.bind, Res.go, lift, liftS, binD, cmpD, truth_bl, truth_int, truth_str, dr_non, dr_bl, dr_int, dr_str, dr_tup, dr_lst, dr_fn, bltD, lenD, isiD, slcD, seqD, bindD, wipeD, srcOf, sameAt, SL, Nat.reduceLeDiff, eq_int, eq_str, eq_bl, List.map_cons, List.map_nil, List.length_cons, List.length_nil, List.cons_append, List.nil_append, List.append_nil, List.getElem?_cons_zero, List.getElem?_cons_succ, List.set_cons_zero, List.set_cons_succ, List.replicate_succ, List.replicate_zero, Option.some.injEq, Option.map_some, Option.bind_some, Nat.reduceAdd, Nat.reduceSub, if_true, if_false, Bool.not_true, Bool.not_false, Bool.and_true, Bool.true_and, Bool.false_eq_true, reduceIte, Nat.zero_add, i0, in_fig, h8, h8', hc]
          rw [← List.map_cons (f := fun c => D.str [c]), comp_map (fun c => D.str [c]) (fun c => D.bl (inL c || inF c)) rfl (c :: r)]
          · simp [runF, qev1, qev2, qev3, qev4, qev5, qev6, qev7, qev8, qev9, qev10, qev11, qev12, qev13, qev14, qev15, qev16, qev17, qev18, qev19, qev20, qev21, qevs1, qevs2, qevo1, qevo2, qevi1, qevi4, qexec1, qexec2, qexec3, qexec4, qexec5, qexec6, qexec7, qexec8, qexec9, qexec10, qexec11, qexec12, qexec13, qexec14, qexec15, qexec16, qexec17, qexec18, qexecs1, qexecs2, Res.bind, Res.go, lift, liftS, binD, cmpD, truth_bl, truth_int, truth_str, dr_non, dr_bl, dr_int, dr_str, dr_tup, dr_lst, dr_fn, bltD, lenD, isiD, slcD, seqD, bindD, wipeD, srcOf, sameAt, SL, Nat.reduceLeDiff, eq_int, eq_str, eq_bl, List.map_cons, List.map_nil, List.length_cons, List.length_nil, List.cons_append, List.nil_append, List.append_nil, List.getElem?_cons_zero, List.getElem?_cons_succ, List.set_cons_zero, List.set_cons_succ, List.replicate_succ, List.replicate_zero, Option.some.injEq, Option.map_some, Option.bind_some, Nat.reduceAdd, Nat.reduceSub, if_true, if_false, Bool.not_true, Bool.not_false, Bool.and_true, Bool.true_and, Bool.false_eq_true, reduceIte, Nat.zero_add, bls_cons, bls_map, List.all_map, Function.comp_def, hc]
          · intro y hy
            exact ⟨_, rfl, rfl, by simp [runF, qev1, qev2, qev3, qev4, qev5, qev6, qev7, qev8, qev9, qev10, qev11, qev12, qev13, qev14, qev15, qev16, qev17, qev18, qev19, qev20, qev21, qevs1, qevs2, qevo1, qevo2, qevi1, qevi4, qexec1, qexec2, qexec3, qexec4, qexec5, qexec6, qexec7, qexec8, qexec9, qexec10, qexec11, qexec12, qexec13, qexec14, qexec15, qexec16, qexec17, qexec18, qexecs1, qexecs2, Res.bind, Res.go, lift, liftS, binD, cmpD, truth_bl, truth_int, truth_str, dr_non, dr_bl, dr_int, dr_str, dr_tup, dr_lst, dr_fn, bltD, lenD, isiD, slcD, seqD, bindD, wipeD, srcOf, sameAt, SL, Nat.reduceLeDiff, eq_int, eq_str, eq_bl, List.map_cons, List.map_nil, List.length_cons, List.length_nil, List.cons_append, List.nil_append, List.append_nil, List.getElem?_cons_zero, List.getElem?_cons_succ, List.set_cons_zero, List.set_cons_succ, List.replicate_succ, List.replicate_zero, Option.some.injEq, Option.map_some, Option.bind_some, Nat.reduceAdd, Nat.reduceSub, if_true, if_false, Bool.not_true, Bool.not_false, Bool.and_true, Bool.true_and, Bool.false_eq_true, reduceIte, Nat.zero_add, in_both]⟩
  | _ => first | (simp [flatD] at h; done) | simp [b__law_is_name, runF, qev1, qev2, qev3, qev4, qev5, qev6, qev7, qev8, qev9, qev10, qev11, qev12, qev13, qev14, qev15, qev16, qev17, qev18, qev19, qev20, qev21, qevs1, qevs2, qevo1, qevo2, qevi1, qevi4, qexec1, qexec2, qexec3, qexec4, qexec5, qexec6, qexec7, qexec8, qexec9, qexec10, qexec11, qexec12, qexec13, qexec14, qexec15, qexec16, qexec17, qexec18, qexecs1, qexecs2, Res.bind, Res.go, lift, liftS, binD, cmpD, truth_bl, truth_int, truth_str, dr_non, dr_bl, dr_int, dr_str, dr_tup, dr_lst, dr_fn, bltD, lenD, isiD, slcD, seqD, bindD, wipeD, srcOf, sameAt, SL, Nat.reduceLeDiff, eq_int, eq_str, eq_bl, List.map_cons, List.map_nil, List.length_cons, List.length_nil, List.cons_append, List.nil_append, List.append_nil, List.getElem?_cons_zero, List.getElem?_cons_succ, List.set_cons_zero, List.set_cons_succ, List.replicate_succ, List.replicate_zero, Option.some.injEq, Option.map_some, Option.bind_some, Nat.reduceAdd, Nat.reduceSub, if_true, if_false, Bool.not_true, Bool.not_false, Bool.and_true, Bool.true_and, Bool.false_eq_true, reduceIte, Nat.zero_add, handB]

theorem adjB_rng (l : List (List Nat)) : adjB l = ((List.range (l.length - 1)).all fun i => decide (l.getD i [] < l.getD (i + 1) [])) := by
  have e : l.zip l.tail = (List.range (l.length - 1)).map fun i => (l.getD i [], l.getD (i + 1) []) := by
    refine List.ext_getElem (by simp) fun i h1 h2 => ?_
    simp only [List.length_map, List.length_range] at h2
    rw [List.getElem_zip, List.getElem_map, List.getElem_range, List.getElem_tail]
    rw [List.getD_eq_getElem?_getD, List.getD_eq_getElem?_getD, List.getElem?_eq_getElem (by omega), List.getElem?_eq_getElem (by omega)]
    rfl
  unfold adjB
  rw [e, List.all_map]
  rfl
theorem p_law_are_hands {f : Nat} {d a : D} {l0 : Int} (hH : ∀ d, flatD 10 d = true → C f [d] st = .ok (.bl (handB d)) st) (h : flatD 10 d = true) (ha : flatD 10 a = true) : runF C ⟨3, 5, b__law_are_hands f⟩ [d, a, .int l0] st = .ok (.bl (handsB d a l0)) st := by
  cases d with
  | tup hs =>
    have hf : ∀ d ∈ hs, flatD 9 d = true := flatL_of h
    by_cases h1 : l0 ≤ hs.length
    · have h1' : ¬ (hs.length : Int) < l0 := by omega
      by_cases h2 : (20 : Int) < hs.length
      · have h2' : ¬ hs.length ≤ 20 := by omega
        simp [b__law_are_hands, runF, qev1, qev2, qev3, qev4, qev5, qev6, qev7, qev8, qev9, qev10, qev11, qev12, qev13, qev14, qev15, qev16, qev17, qev18, qev19, qev20, qev21, qevs1, qevs2, qevo1, qevo2, qevi1, qevi4, qexec1, qexec2, qexec3, qexec4, qexec5, qexec6, qexec7, qexec8, qexec9, qexec10, qexec11, qexec12, qexec13, qexec14, qexec15, qexec16, qexec17, qexec18, qexecs1, qexecs2, Res.bind, Res.go, lift, liftS, binD, cmpD, truth_bl, truth_int, truth_str, dr_non, dr_bl, dr_int, dr_str, dr_tup, dr_lst, dr_fn, bltD, lenD, isiD, slcD, seqD, bindD, wipeD, srcOf, sameAt, SL, Nat.reduceLeDiff, eq_int, eq_str, eq_bl, List.map_cons, List.map_nil, List.length_cons, List.length_nil, List.cons_append, List.nil_append, List.append_nil, List.getElem?_cons_zero, List.getElem?_cons_succ, List.set_cons_zero, List.set_cons_succ, List.replicate_succ, List.replicate_zero, Option.some.injEq, Option.map_some, Option.bind_some, Nat.reduceAdd, Nat.reduceSub, if_true, if_false, Bool.not_true, Bool.not_false, Bool.and_true, Bool.true_and, Bool.false_eq_true, reduceIte, Nat.zero_add, h1, h1', h2, handsB, h2']
      · have h2' : hs.length ≤ 20 := by omega
        have hstep : ∀ y ∈ hs, ∃ env', bindD [3] y (wipeD [.va (.tup hs), .va a, .va (.int l0), .un, .un] [3]) = some env' ∧ ev C (.k (.bl true)) env' st = .ok (.bl true) st ∧ ev C (.andv (.call f (.cons (.v 3) .nil)) (.cmp .ne (.w 3) (.w 1))) env' st = .ok (.bl (handB y && !eqD y a)) st := by
          intro y hy
          refine ⟨_, rfl, qev3 .., ?_⟩
          have e := hH y (flat_le (hf y hy) (by omega))
          have e2 := op_eq (a := y) (b := a) (flat_le (hf y hy) (by omega)) (flat_le ha (by omega))
          have d1 := flat_dr (st := st) (hf y hy)
          have d2 := flat_dr (st := st) ha
          cases hb : handB y <;> simp [runF, qev1, qev2, qev3, qev4, qev5, qev6, qev7, qev8, qev9, qev10, qev11, qev12, qev13, qev14, qev15, qev16, qev17, qev18, qev19, qev20, qev21, qevs1, qevs2, qevo1, qevo2, qevi1, qevi4, qexec1, qexec2, qexec3, qexec4, qexec5, qexec6, qexec7, qexec8, qexec9, qexec10, qexec11, qexec12, qexec13, qexec14, qexec15, qexec16, qexec17, qexec18, qexecs1, qexecs2, Res.bind, Res.go, lift, liftS, binD, cmpD, truth_bl, truth_int, truth_str, dr_non, dr_bl, dr_int, dr_str, dr_tup, dr_lst, dr_fn, bltD, lenD, isiD, slcD, seqD, bindD, wipeD, srcOf, sameAt, SL, Nat.reduceLeDiff, eq_int, eq_str, eq_bl, List.map_cons, List.map_nil, List.length_cons, List.length_nil, List.cons_append, List.nil_append, List.append_nil, List.getElem?_cons_zero, List.getElem?_cons_succ, List.set_cons_zero, List.set_cons_succ, List.replicate_succ, List.replicate_zero, Option.some.injEq, Option.map_some, Option.bind_some, Nat.reduceAdd, Nat.reduceSub, if_true, if_false, Bool.not_true, Bool.not_false, Bool.and_true, Bool.true_and, Bool.false_eq_true, reduceIte, Nat.zero_add, e, e2, d1, d2, hb]
        have hc := comp_mapI (fun h => .bl (handB h && !eqD h a)) (chk := sameAt .none st) rfl hs [] hstep
        cases hh : hs.all fun h => handB h && !eqD h a with
        | false =>
          simp [b__law_are_hands, runF, qev1, qev2, qev3, qev4, qev5, qev6, qev7, qev8, qev9, qev10, qev11, qev12, qev13, qev14, qev15, qev16, qev17, qev18, qev19, qev20, qev21, qevs1, qevs2, qevo1, qevo2, qevi1, qevi4, qexec1, qexec2, qexec3, qexec4, qexec5, qexec6, qexec7, qexec8, qexec9, qexec10, qexec11, qexec12, qexec13, qexec14, qexec15, qexec16, qexec17, qexec18, qexecs1, qexecs2, Res.bind, Res.go, lift, liftS, binD, cmpD, truth_bl, truth_int, truth_str, dr_non, dr_bl, dr_int, dr_str, dr_tup, dr_lst, dr_fn, bltD, lenD, isiD, slcD, seqD, bindD, wipeD, srcOf, sameAt, SL, Nat.reduceLeDiff, eq_int, eq_str, eq_bl, List.map_cons, List.map_nil, List.length_cons, List.length_nil, List.cons_append, List.nil_append, List.append_nil, List.getElem?_cons_zero, List.getElem?_cons_succ, List.set_cons_zero, List.set_cons_succ, List.replicate_succ, List.replicate_zero, Option.some.injEq, Option.map_some, Option.bind_some, Nat.reduceAdd, Nat.reduceSub, if_true, if_false, Bool.not_true, Bool.not_false, Bool.and_true, Bool.true_and, Bool.false_eq_true, reduceIte, Nat.zero_add, h1, h1', h2]
          rw [comp_mapI (fun h => .bl (handB h && !eqD h a)) rfl hs]
          · simp [runF, qev1, qev2, qev3, qev4, qev5, qev6, qev7, qev8, qev9, qev10, qev11, qev12, qev13, qev14, qev15, qev16, qev17, qev18, qev19, qev20, qev21, qevs1, qevs2, qevo1, qevo2, qevi1, qevi4, qexec1, qexec2, qexec3, qexec4, qexec5, qexec6, qexec7, qexec8, qexec9, qexec10, qexec11, qexec12, qexec13, qexec14, qexec15, qexec16, qexec17, qexec18, qexecs1, qexecs2, Res.bind, Res.go, lift, liftS, binD, cmpD, truth_bl, truth_int, truth_str, dr_non, dr_bl, dr_int, dr_str, dr_tup, dr_lst, dr_fn, bltD, lenD, isiD, slcD, seqD, bindD, wipeD, srcOf, sameAt, SL, Nat.reduceLeDiff, eq_int, eq_str, eq_bl, List.map_cons, List.map_nil, List.length_cons, List.length_nil, List.cons_append, List.nil_append, List.append_nil, List.getElem?_cons_zero, List.getElem?_cons_succ, List.set_cons_zero, List.set_cons_succ, List.replicate_succ, List.replicate_zero, Option.some.injEq, Option.map_some, Option.bind_some, Nat.reduceAdd, Nat.reduceSub, if_true, if_false, Bool.not_true, Bool.not_false, Bool.and_true, Bool.true_and, Bool.false_eq_true, reduceIte, Nat.zero_add, bls_map, List.all_map, Function.comp_def, hh, handsB, h1, h2']
          · exact hstep
        | true =>
          obtain ⟨l, rfl⟩ : ∃ l : List (List Nat), hs = l.map D.str := ⟨_, hands_strs hh⟩
          have hl : (l.map D.str).map strOf = l := by
            rw [List.map_map]
            exact List.map_id'' (f := strOf ∘ D.str) (fun _ => rfl) l
          have e3 : handsB (.tup (l.map .str)) a l0 = adjB l := by
            unfold handsB
            simp only [hl, hh, decide_eq_true h1, decide_eq_true h2', Bool.and_self, Bool.true_and]
          have hn : (l.map D.str).length = l.length := List.length_map ..
          have r0 : ev C (.blt .len (.cons (.w 0) .nil)) [.va (.tup (l.map .str)), .va a, .va (.int l0), .un, .un] st = .ok (.int l.length) st := by simp [runF, qev1, qev2, qev3, qev4, qev5, qev6, qev7, qev8, qev9, qev10, qev11, qev12, qev13, qev14, qev15, qev16, qev17, qev18, qev19, qev20, qev21, qevs1, qevs2, qevo1, qevo2, qevi1, qevi4, qexec1, qexec2, qexec3, qexec4, qexec5, qexec6, qexec7, qexec8, qexec9, qexec10, qexec11, qexec12, qexec13, qexec14, qexec15, qexec16, qexec17, qexec18, qexecs1, qexecs2, Res.bind, Res.go, lift, liftS, binD, cmpD, truth_bl, truth_int, truth_str, dr_non, dr_bl, dr_int, dr_str, dr_tup, dr_lst, dr_fn, bltD, lenD, isiD, slcD, seqD, bindD, wipeD, srcOf, sameAt, SL, Nat.reduceLeDiff, eq_int, eq_str, eq_bl, List.map_cons, List.map_nil, List.length_cons, List.length_nil, List.cons_append, List.nil_append, List.append_nil, List.getElem?_cons_zero, List.getElem?_cons_succ, List.set_cons_zero, List.set_cons_succ, List.replicate_succ, List.replicate_zero, Option.some.injEq, Option.map_some, Option.bind_some, Nat.reduceAdd, Nat.reduceSub, if_true, if_false, Bool.not_true, Bool.not_false, Bool.and_true, Bool.true_and, Bool.false_eq_true, reduceIte, Nat.zero_add]
          have r1 := evi_1n r0 (by omega)
          have r2 : rngD 1 (l.length - 1) = (List.range (l.length - 1)).map fun i : Nat => D.int (1 + (i : Int)) := rfl
          rw [hn] at h1 h1' h2 h2'
          simp [b__law_are_hands, runF, qev1, qev2, qev3, qev4, qev5, qev6, qev7, qev8, qev9, qev10, qev11, qev12, qev13, qev14, qev15, qev16, qev17, qev18, qev19, qev20, qev21, qevs1, qevs2, qevo1, qevo2, qevi1, qevi4, qexec1, qexec2, qexec3, qexec4, qexec5, qexec6, qexec7, qexec8, qexec9, qexec10, qexec11, qexec12, qexec13, qexec14, qexec15, qexec16, qexec17, qexec18, qexecs1, qexecs2, Res.bind, Res.go, lift, liftS, binD, cmpD, truth_bl, truth_int, truth_str, dr_non, dr_bl, dr_int, dr_str, dr_tup, dr_lst, dr_fn, bltD, lenD, isiD, slcD, seqD, bindD, wipeD, srcOf, sameAt, SL, Nat.reduceLeDiff, eq_int, eq_str, eq_bl, List.map_cons, List.map_nil, List.length_cons, List.length_nil, List.cons_append, List.nil_append, List.append_nil, List.getElem?_cons_zero, List.getElem?_cons_succ, List.set_cons_zero, List.set_cons_succ, List.replicate_succ, List.replicate_zero, Option.some.injEq, Option.map_some, Option.bind_some, Nat.reduceAdd, Nat.reduceSub, if_true, if_false, Bool.not_true, Bool.not_false, Bool.and_true, Bool.true_and, Bool.false_eq_true, reduceIte, Nat.zero_add, h1, h1', h2]
          rw [comp_mapI (fun h => .bl (handB h && !eqD h a)) rfl (l.map D.str)]
          · simp only [List.all_map, Function.comp_def] at hh
            simp [runF, qev1, qev2, qev3, qev4, qev5, qev6, qev7, qev8, qev9, qev10, qev11, qev12, qev13, qev14, qev15, qev16, qev17, qev18, qev19, qev20, qev21, qevs1, qevs2, qevo1, qevo2, qevi1, qevi4, qexec1, qexec2, qexec3, qexec4, qexec5, qexec6, qexec7, qexec8, qexec9, qexec10, qexec11, qexec12, qexec13, qexec14, qexec15, qexec16, qexec17, qexec18, qexecs1, qexecs2, Res.bind, Res.go, lift, liftS, binD, cmpD, truth_bl, truth_int, truth_str, dr_non, dr_bl, dr_int, dr_str, dr_tup, dr_lst, dr_fn, bltD, lenD, isiD, slcD, seqD, bindD, wipeD, srcOf, sameAt, SL, Nat.reduceLeDiff, eq_int, eq_str, eq_bl, List.map_cons, List.map_nil, List.length_cons, List.length_nil, List.cons_append, List.nil_append, List.append_nil, List.getElem?_cons_zero, List.getElem?_cons_succ, List.set_cons_zero, List.set_cons_succ, List.replicate_succ, List.replicate_zero, Option.some.injEq, Option.map_some, Option.bind_some, Nat.reduceAdd, Nat.reduceSub, if_true, if_false, Bool.not_true, Bool.not_false, Bool.and_true, Bool.true_and, Bool.false_eq_true, reduceIte, Nat.zero_add, bls_map, List.all_map, Function.comp_def, hh, r1, r2]
            rw [comp_map (fun i : Nat => D.int (1 + (i : Int))) (fun i => D.bl (decide (l.getD i [] < l.getD (i + 1) []))) rfl]
            · rw [e3, adjB_rng]
              simp [runF, qev1, qev2, qev3, qev4, qev5, qev6, qev7, qev8, qev9, qev10, qev11, qev12, qev13, qev14, qev15, qev16, qev17, qev18, qev19, qev20, qev21, qevs1, qevs2, qevo1, qevo2, qevi1, qevi4, qexec1, qexec2, qexec3, qexec4, qexec5, qexec6, qexec7, qexec8, qexec9, qexec10, qexec11, qexec12, qexec13, qexec14, qexec15, qexec16, qexec17, qexec18, qexecs1, qexecs2, Res.bind, Res.go, lift, liftS, binD, cmpD, truth_bl, truth_int, truth_str, dr_non, dr_bl, dr_int, dr_str, dr_tup, dr_lst, dr_fn, bltD, lenD, isiD, slcD, seqD, bindD, wipeD, srcOf, sameAt, SL, Nat.reduceLeDiff, eq_int, eq_str, eq_bl, List.map_cons, List.map_nil, List.length_cons, List.length_nil, List.cons_append, List.nil_append, List.append_nil, List.getElem?_cons_zero, List.getElem?_cons_succ, List.set_cons_zero, List.set_cons_succ, List.replicate_succ, List.replicate_zero, Option.some.injEq, Option.map_some, Option.bind_some, Nat.reduceAdd, Nat.reduceSub, if_true, if_false, Bool.not_true, Bool.not_false, Bool.and_true, Bool.true_and, Bool.false_eq_true, reduceIte, Nat.zero_add, bls_map, List.all_map, Function.comp_def]
            · intro i hi
              rw [List.mem_range] at hi
              refine ⟨_, rfl, qev3 .., ?_⟩
              have i1 : idxD (.tup (l.map .str)) (.int (i : Int)) = some (.str (l.getD i [])) := by
                rw [idx_tup (by omega) (by rw [List.length_map]; omega)]
                rw [List.getD_eq_getElem?_getD, List.getD_eq_getElem?_getD, List.getElem?_map, List.getElem?_eq_getElem (by rw [Int.toNat_natCast]; omega), List.getElem?_eq_getElem (by omega)]
                rfl
              have i2 : idxD (.tup (l.map .str)) (.int (1 + (i : Int))) = some (.str (l.getD (i + 1) [])) := by
                rw [idx_tup (by omega) (by rw [List.length_map]; omega), show (1 + (i : Int)).toNat = i + 1 by omega]
                rw [List.getD_eq_getElem?_getD, List.getD_eq_getElem?_getD, List.getElem?_map, List.getElem?_eq_getElem (by omega)]
                rfl
              have i3 : (1 : Int) + (i : Int) - 1 = i := by omega
              simp only [List.getD_eq_getElem?_getD] at i1 i2
              simp [runF, qev1, qev2, qev3, qev4, qev5, qev6, qev7, qev8, qev9, qev10, qev11, qev12, qev13, qev14, qev15, qev16, qev17, qev18, qev19, qev20, qev21, qevs1, qevs2, qevo1, qevo2, qevi1, qevi4, qexec1, qexec2, qexec3, qexec4, qexec5, qexec6, qexec7, qexec8, qexec9, qexec10, qexec11, qexec12, qexec13, qexec14, qexec15, qexec16, qexec17, qexec18, qexecs1, qexecs2, Res.bind, Res.go, lift, liftS, binD, cmpD, truth_bl, truth_int, truth_str, dr_non, dr_bl, dr_int, dr_str, dr_tup, dr_lst, dr_fn, bltD, lenD, isiD, slcD, seqD, bindD, wipeD, srcOf, sameAt, SL, Nat.reduceLeDiff, eq_int, eq_str, eq_bl, List.map_cons, List.map_nil, List.length_cons, List.length_nil, List.cons_append, List.nil_append, List.append_nil, List.getElem?_cons_zero, List.getElem?_cons_succ, List.set_cons_zero, List.set_cons_succ, List.replicate_succ, List.replicate_zero, Option.some.injEq, Option.map_some, Option.bind_some, Nat.reduceAdd, Nat.reduceSub, if_true, if_false, Bool.not_true, Bool.not_false, Bool.and_true, Bool.true_and, Bool.false_eq_true, reduceIte, Nat.zero_add, i1, i2, i3]
          · exact hstep
    · have h1' : (hs.length : Int) < l0 := by omega
      simp [b__law_are_hands, runF, qev1, qev2, qev3, qev4, qev5, qev6, qev7, qev8, qev9, qev10, qev11, qev12, qev13, qev14, qev15, qev16, qev17, qev18, qev19, qev20, qev21, qevs1, qevs2, qevo1, qevo2, qevi1, qevi4, qexec1, qexec2, qexec3, qexec4, qexec5, qexec6, qexec7, qexec8, qexec9, qexec10, qexec11, qexec12, qexec13, qexec14, qexec15, qexec16, qexec17, qexec18, qexecs1, qexecs2, Res.bind, Res.go, lift, liftS, binD, cmpD, truth_bl, truth_int, truth_str, dr_non, dr_bl, dr_int, dr_str, dr_tup, dr_lst, dr_fn, bltD, lenD, isiD, slcD, seqD, bindD, wipeD, srcOf, sameAt, SL, Nat.reduceLeDiff, eq_int, eq_str, eq_bl, List.map_cons, List.map_nil, List.length_cons, List.length_nil, List.cons_append, List.nil_append, List.append_nil, List.getElem?_cons_zero, List.getElem?_cons_succ, List.set_cons_zero, List.set_cons_succ, List.replicate_succ, List.replicate_zero, Option.some.injEq, Option.map_some, Option.bind_some, Nat.reduceAdd, Nat.reduceSub, if_true, if_false, Bool.not_true, Bool.not_false, Bool.and_true, Bool.true_and, Bool.false_eq_true, reduceIte, Nat.zero_add, h1, h1', handsB]
  | _ => first | (simp [flatD] at h; done) | simp [b__law_are_hands, runF, qev1, qev2, qev3, qev4, qev5, qev6, qev7, qev8, qev9, qev10, qev11, qev12, qev13, qev14, qev15, qev16, qev17, qev18, qev19, qev20, qev21, qevs1, qevs2, qevo1, qevo2, qevi1, qevi4, qexec1, qexec2, qexec3, qexec4, qexec5, qexec6, qexec7, qexec8, qexec9, qexec10, qexec11, qexec12, qexec13, qexec14, qexec15, qexec16, qexec17, qexec18, qexecs1, qexecs2, Res.bind, Res.go, lift, liftS, binD, cmpD, truth_bl, truth_int, truth_str, dr_non, dr_bl, dr_int, dr_str, dr_tup, dr_lst, dr_fn, bltD, lenD, isiD, slcD, seqD, bindD, wipeD, srcOf, sameAt, SL, Nat.reduceLeDiff, eq_int, eq_str, eq_bl, List.map_cons, List.map_nil, List.length_cons, List.length_nil, List.cons_append, List.nil_append, List.append_nil, List.getElem?_cons_zero, List.getElem?_cons_succ, List.set_cons_zero, List.set_cons_succ, List.replicate_succ, List.replicate_zero, Option.some.injEq, Option.map_some, Option.bind_some, Nat.reduceAdd, Nat.reduceSub, if_true, if_false, Bool.not_true, Bool.not_false, Bool.and_true, Bool.true_and, Bool.false_eq_true, reduceIte, Nat.zero_add, handsB]
end
end Cal
/-! plain lemmas: what is due -/
namespace Cal
section
variable {C : CallF} {st : Sto}
theorem two_strs {a : D} {x y : List Nat} (h1 : eqD a (.str x) = true) (h2 : eqD a (.str y) = true) : x = y := by
  cases a <;> simp [eqD] at h1 h2
  rw [← h1, ← h2]
theorem p_law_due {fn fw fhs : Nat} {ds : List D} (hN : ∀ d, flatD 10 d = true → C fn [d] st = .ok (.bl (handB d)) st) (hW : ∀ d, flatD 10 d = true → C fw [d] st = .ok (.bl (wholeB d)) st)
    (hHs : ∀ d a l, flatD 10 d = true → flatD 10 a = true → C fhs [d, a, .int l] st = .ok (.bl (handsB d a l)) st) (h : ∀ d ∈ ds, flatD 10 d = true) :
    runF C ⟨1, 3, b__law_due fn fw fhs⟩ [.tup ds] st = .ok (.bl (letterB ds)) st := by
  match ds, h with
  | [], _ => simp [b__law_due, runF, qev1, qev2, qev3, qev4, qev5, qev6, qev7, qev8, qev9, qev10, qev11, qev12, qev13, qev14, qev15, qev16, qev17, qev18, qev19, qev20, qev21, qevs1, qevs2, qevo1, qevo2, qevi1, qevi4, qexec1, qexec2, qexec3, qexec4, qexec5, qexec6, qexec7, qexec8, qexec9, qexec10, qexec11, qexec12, qexec13, qexec14, qexec15, qexec16, qexec17, qexec18, qexecs1, qexecs2, Res.bind, Res.go, lift, liftS, binD, cmpD, truth_bl, truth_int, truth_str, dr_non, dr_bl, dr_int, dr_str, dr_tup, dr_lst, dr_fn, bltD, lenD, isiD, slcD, seqD, bindD, wipeD, srcOf, sameAt, SL, Nat.reduceLeDiff, eq_int, eq_str, eq_bl, List.map_cons, List.map_nil, List.length_cons, List.length_nil, List.cons_append, List.nil_append, List.append_nil, List.getElem?_cons_zero, List.getElem?_cons_succ, List.set_cons_zero, List.set_cons_succ, List.replicate_succ, List.replicate_zero, Option.some.injEq, Option.map_some, Option.bind_some, Nat.reduceAdd, Nat.reduceSub, if_true, if_false, Bool.not_true, Bool.not_false, Bool.and_true, Bool.true_and, Bool.false_eq_true, reduceIte, Nat.zero_add, letterB]
  | [a], _ => simp [b__law_due, runF, qev1, qev2, qev3, qev4, qev5, qev6, qev7, qev8, qev9, qev10, qev11, qev12, qev13, qev14, qev15, qev16, qev17, qev18, qev19, qev20, qev21, qevs1, qevs2, qevo1, qevo2, qevi1, qevi4, qexec1, qexec2, qexec3, qexec4, qexec5, qexec6, qexec7, qexec8, qexec9, qexec10, qexec11, qexec12, qexec13, qexec14, qexec15, qexec16, qexec17, qexec18, qexecs1, qexecs2, Res.bind, Res.go, lift, liftS, binD, cmpD, truth_bl, truth_int, truth_str, dr_non, dr_bl, dr_int, dr_str, dr_tup, dr_lst, dr_fn, bltD, lenD, isiD, slcD, seqD, bindD, wipeD, srcOf, sameAt, SL, Nat.reduceLeDiff, eq_int, eq_str, eq_bl, List.map_cons, List.map_nil, List.length_cons, List.length_nil, List.cons_append, List.nil_append, List.append_nil, List.getElem?_cons_zero, List.getElem?_cons_succ, List.set_cons_zero, List.set_cons_succ, List.replicate_succ, List.replicate_zero, Option.some.injEq, Option.map_some, Option.bind_some, Nat.reduceAdd, Nat.reduceSub, if_true, if_false, Bool.not_true, Bool.not_false, Bool.and_true, Bool.true_and, Bool.false_eq_true, reduceIte, Nat.zero_add, letterB]
  | [a, b], _ => simp [b__law_due, runF, qev1, qev2, qev3, qev4, qev5, qev6, qev7, qev8, qev9, qev10, qev11, qev12, qev13, qev14, qev15, qev16, qev17, qev18, qev19, qev20, qev21, qevs1, qevs2, qevo1, qevo2, qevi1, qevi4, qexec1, qexec2, qexec3, qexec4, qexec5, qexec6, qexec7, qexec8, qexec9, qexec10, qexec11, qexec12, qexec13, qexec14, qexec15, qexec16, qexec17, qexec18, qexecs1, qexecs2, Res.bind, Res.go, lift, liftS, binD, cmpD, truth_bl, truth_int, truth_str, dr_non, dr_bl, dr_int, dr_str, dr_tup, dr_lst, dr_fn, bltD, lenD, isiD, slcD, seqD, bindD, wipeD, srcOf, sameAt, SL, Nat.reduceLeDiff, eq_int, eq_str, eq_bl, List.map_cons, List.map_nil, List.length_cons, List.length_nil, List.cons_append, List.nil_append, List.append_nil, List.getElem?_cons_zero, List.getElem?_cons_succ, List.set_cons_zero, List.set_cons_succ, List.replicate_succ, List.replicate_zero, Option.some.injEq, Option.map_some, Option.bind_some, Nat.reduceAdd, Nat.reduceSub, if_true, if_false, Bool.not_true, Bool.not_false, Bool.and_true, Bool.true_and, Bool.false_eq_true, reduceIte, Nat.zero_add, letterB]
  | [a, b, c], _ => simp [b__law_due, runF, qev1, qev2, qev3, qev4, qev5, qev6, qev7, qev8, qev9, qev10, qev11, qev12, qev13, qev14, qev15, qev16, qev17, qev18, qev19, qev20, qev21, qevs1, qevs2, qevo1, qevo2, qevi1, qevi4, qexec1, qexec2, qexec3, qexec4, qexec5, qexec6, qexec7, qexec8, qexec9, qexec10, qexec11, qexec12, qexec13, qexec14, qexec15, qexec16, qexec17, qexec18, qexecs1, qexecs2, Res.bind, Res.go, lift, liftS, binD, cmpD, truth_bl, truth_int, truth_str, dr_non, dr_bl, dr_int, dr_str, dr_tup, dr_lst, dr_fn, bltD, lenD, isiD, slcD, seqD, bindD, wipeD, srcOf, sameAt, SL, Nat.reduceLeDiff, eq_int, eq_str, eq_bl, List.map_cons, List.map_nil, List.length_cons, List.length_nil, List.cons_append, List.nil_append, List.append_nil, List.getElem?_cons_zero, List.getElem?_cons_succ, List.set_cons_zero, List.set_cons_succ, List.replicate_succ, List.replicate_zero, Option.some.injEq, Option.map_some, Option.bind_some, Nat.reduceAdd, Nat.reduceSub, if_true, if_false, Bool.not_true, Bool.not_false, Bool.and_true, Bool.true_and, Bool.false_eq_true, reduceIte, Nat.zero_add, letterB]
  | a :: b :: c :: d :: r, h =>
    have h4 : ¬ (r.length : Int) + 1 + 1 + 1 + 1 < 4 := by omega
    have hb := hN b (h b (by simp))
    have hc := hW c (h c (by simp))
    have hd := hW d (h d (by simp))
    have fa' : flatD 20 a = true := flat_le (h a (by simp)) (by omega)
    have ea : ∀ s, opEq a (.str s) = some (eqD a (.str s)) := fun s => op_eq fa' rfl
    have da := flat_dr (st := st) (h a (by simp))
    cases hb' : handB b with
    | false => simp [b__law_due, runF, qev1, qev2, qev3, qev4, qev5, qev6, qev7, qev8, qev9, qev10, qev11, qev12, qev13, qev14, qev15, qev16, qev17, qev18, qev19, qev20, qev21, qevs1, qevs2, qevo1, qevo2, qevi1, qevi4, qexec1, qexec2, qexec3, qexec4, qexec5, qexec6, qexec7, qexec8, qexec9, qexec10, qexec11, qexec12, qexec13, qexec14, qexec15, qexec16, qexec17, qexec18, qexecs1, qexecs2, Res.bind, Res.go, lift, liftS, binD, cmpD, truth_bl, truth_int, truth_str, dr_non, dr_bl, dr_int, dr_str, dr_tup, dr_lst, dr_fn, bltD, lenD, isiD, slcD, seqD, bindD, wipeD, srcOf, sameAt, SL, Nat.reduceLeDiff, eq_int, eq_str, eq_bl, List.map_cons, List.map_nil, List.length_cons, List.length_nil, List.cons_append, List.nil_append, List.append_nil, List.getElem?_cons_zero, List.getElem?_cons_succ, List.set_cons_zero, List.set_cons_succ, List.replicate_succ, List.replicate_zero, Option.some.injEq, Option.map_some, Option.bind_some, Nat.reduceAdd, Nat.reduceSub, if_true, if_false, Bool.not_true, Bool.not_false, Bool.and_true, Bool.true_and, Bool.false_eq_true, reduceIte, Nat.zero_add, ix0, ix1, ix2, ix3, ix4, ix5, ix6, hb, hc, hd, hb', letterB, h4]
    | true =>
      cases c with
      | int i =>
        by_cases hi : i < 0
        · have hi' : ¬ 0 ≤ i := by omega
          simp [b__law_due, runF, qev1, qev2, qev3, qev4, qev5, qev6, qev7, qev8, qev9, qev10, qev11, qev12, qev13, qev14, qev15, qev16, qev17, qev18, qev19, qev20, qev21, qevs1, qevs2, qevo1, qevo2, qevi1, qevi4, qexec1, qexec2, qexec3, qexec4, qexec5, qexec6, qexec7, qexec8, qexec9, qexec10, qexec11, qexec12, qexec13, qexec14, qexec15, qexec16, qexec17, qexec18, qexecs1, qexecs2, Res.bind, Res.go, lift, liftS, binD, cmpD, truth_bl, truth_int, truth_str, dr_non, dr_bl, dr_int, dr_str, dr_tup, dr_lst, dr_fn, bltD, lenD, isiD, slcD, seqD, bindD, wipeD, srcOf, sameAt, SL, Nat.reduceLeDiff, eq_int, eq_str, eq_bl, List.map_cons, List.map_nil, List.length_cons, List.length_nil, List.cons_append, List.nil_append, List.append_nil, List.getElem?_cons_zero, List.getElem?_cons_succ, List.set_cons_zero, List.set_cons_succ, List.replicate_succ, List.replicate_zero, Option.some.injEq, Option.map_some, Option.bind_some, Nat.reduceAdd, Nat.reduceSub, if_true, if_false, Bool.not_true, Bool.not_false, Bool.and_true, Bool.true_and, Bool.false_eq_true, reduceIte, Nat.zero_add, ix0, ix1, ix2, ix3, ix4, ix5, ix6, hb, hc, hd, hb', letterB, h4, wholeB, hi, hi', numB_int]
        · have hi' : 0 ≤ i := by omega
          cases d with
          | int j =>
            by_cases hj : j < 1
            · have hj' : ¬ 1 ≤ j := by omega
              simp [b__law_due, runF, qev1, qev2, qev3, qev4, qev5, qev6, qev7, qev8, qev9, qev10, qev11, qev12, qev13, qev14, qev15, qev16, qev17, qev18, qev19, qev20, qev21, qevs1, qevs2, qevo1, qevo2, qevi1, qevi4, qexec1, qexec2, qexec3, qexec4, qexec5, qexec6, qexec7, qexec8, qexec9, qexec10, qexec11, qexec12, qexec13, qexec14, qexec15, qexec16, qexec17, qexec18, qexecs1, qexecs2, Res.bind, Res.go, lift, liftS, binD, cmpD, truth_bl, truth_int, truth_str, dr_non, dr_bl, dr_int, dr_str, dr_tup, dr_lst, dr_fn, bltD, lenD, isiD, slcD, seqD, bindD, wipeD, srcOf, sameAt, SL, Nat.reduceLeDiff, eq_int, eq_str, eq_bl, List.map_cons, List.map_nil, List.length_cons, List.length_nil, List.cons_append, List.nil_append, List.append_nil, List.getElem?_cons_zero, List.getElem?_cons_succ, List.set_cons_zero, List.set_cons_succ, List.replicate_succ, List.replicate_zero, Option.some.injEq, Option.map_some, Option.bind_some, Nat.reduceAdd, Nat.reduceSub, if_true, if_false, Bool.not_true, Bool.not_false, Bool.and_true, Bool.true_and, Bool.false_eq_true, reduceIte, Nat.zero_add, ix0, ix1, ix2, ix3, ix4, ix5, ix6, hb, hc, hd, hb', letterB, h4, wholeB, hi, hi', hj, hj', numB_int]
            · have hj' : 1 ≤ j := by omega
              have hj2 : (1 < j) ↔ (2 ≤ j) := by omega
              cases e1 : eqD a (.str [98, 105, 100]) with
              | true =>
                cases e2 : eqD a (.str [111, 102, 102]) with
                | true => exact absurd (two_strs e1 e2) (by decide)
                | false =>
                cases e3 : eqD a (.str [99, 108, 111, 115, 101]) with
                | true => exact absurd (two_strs e1 e3) (by decide)
                | false =>
                cases e4 : eqD a (.str [97, 110, 115, 119, 101, 114]) with
                | true => exact absurd (two_strs e1 e4) (by decide)
                | false =>
                match r, h with
                | [e, f, g], h =>
                  have he := hW e (h e (by simp))
                  have hf := hW f (h f (by simp))
                  have hg := hHs g b 1 (h g (by simp)) (h b (by simp))
                  cases e with
                  | int x =>
                    cases f with
                    | int y =>
                      by_cases hxy : x < y <;> simp [b__law_due, runF, qev1, qev2, qev3, qev4, qev5, qev6, qev7, qev8, qev9, qev10, qev11, qev12, qev13, qev14, qev15, qev16, qev17, qev18, qev19, qev20, qev21, qevs1, qevs2, qevo1, qevo2, qevi1, qevi4, qexec1, qexec2, qexec3, qexec4, qexec5, qexec6, qexec7, qexec8, qexec9, qexec10, qexec11, qexec12, qexec13, qexec14, qexec15, qexec16, qexec17, qexec18, qexecs1, qexecs2, Res.bind, Res.go, lift, liftS, binD, cmpD, truth_bl, truth_int, truth_str, dr_non, dr_bl, dr_int, dr_str, dr_tup, dr_lst, dr_fn, bltD, lenD, isiD, slcD, seqD, bindD, wipeD, srcOf, sameAt, SL, Nat.reduceLeDiff, eq_int, eq_str, eq_bl, List.map_cons, List.map_nil, List.length_cons, List.length_nil, List.cons_append, List.nil_append, List.append_nil, List.getElem?_cons_zero, List.getElem?_cons_succ, List.set_cons_zero, List.set_cons_succ, List.replicate_succ, List.replicate_zero, Option.some.injEq, Option.map_some, Option.bind_some, Nat.reduceAdd, Nat.reduceSub, if_true, if_false, Bool.not_true, Bool.not_false, Bool.and_true, Bool.true_and, Bool.false_eq_true, reduceIte, Nat.zero_add, ix0, ix1, ix2, ix3, ix4, ix5, ix6, hb, hc, hd, hb', letterB, h4, wholeB, hi, hi', hj, hj', numB_int, ea, da, e1, he, hf, hg, bidB, ltI, hxy]
                    | _ => simp [b__law_due, runF, qev1, qev2, qev3, qev4, qev5, qev6, qev7, qev8, qev9, qev10, qev11, qev12, qev13, qev14, qev15, qev16, qev17, qev18, qev19, qev20, qev21, qevs1, qevs2, qevo1, qevo2, qevi1, qevi4, qexec1, qexec2, qexec3, qexec4, qexec5, qexec6, qexec7, qexec8, qexec9, qexec10, qexec11, qexec12, qexec13, qexec14, qexec15, qexec16, qexec17, qexec18, qexecs1, qexecs2, Res.bind, Res.go, lift, liftS, binD, cmpD, truth_bl, truth_int, truth_str, dr_non, dr_bl, dr_int, dr_str, dr_tup, dr_lst, dr_fn, bltD, lenD, isiD, slcD, seqD, bindD, wipeD, srcOf, sameAt, SL, Nat.reduceLeDiff, eq_int, eq_str, eq_bl, List.map_cons, List.map_nil, List.length_cons, List.length_nil, List.cons_append, List.nil_append, List.append_nil, List.getElem?_cons_zero, List.getElem?_cons_succ, List.set_cons_zero, List.set_cons_succ, List.replicate_succ, List.replicate_zero, Option.some.injEq, Option.map_some, Option.bind_some, Nat.reduceAdd, Nat.reduceSub, if_true, if_false, Bool.not_true, Bool.not_false, Bool.and_true, Bool.true_and, Bool.false_eq_true, reduceIte, Nat.zero_add, ix0, ix1, ix2, ix3, ix4, ix5, ix6, hb, hc, hd, hb', letterB, h4, wholeB, hi, hi', hj, hj', numB_int, ea, da, e1, he, hf, hg, bidB, ltI]
                  | _ => simp [b__law_due, runF, qev1, qev2, qev3, qev4, qev5, qev6, qev7, qev8, qev9, qev10, qev11, qev12, qev13, qev14, qev15, qev16, qev17, qev18, qev19, qev20, qev21, qevs1, qevs2, qevo1, qevo2, qevi1, qevi4, qexec1, qexec2, qexec3, qexec4, qexec5, qexec6, qexec7, qexec8, qexec9, qexec10, qexec11, qexec12, qexec13, qexec14, qexec15, qexec16, qexec17, qexec18, qexecs1, qexecs2, Res.bind, Res.go, lift, liftS, binD, cmpD, truth_bl, truth_int, truth_str, dr_non, dr_bl, dr_int, dr_str, dr_tup, dr_lst, dr_fn, bltD, lenD, isiD, slcD, seqD, bindD, wipeD, srcOf, sameAt, SL, Nat.reduceLeDiff, eq_int, eq_str, eq_bl, List.map_cons, List.map_nil, List.length_cons, List.length_nil, List.cons_append, List.nil_append, List.append_nil, List.getElem?_cons_zero, List.getElem?_cons_succ, List.set_cons_zero, List.set_cons_succ, List.replicate_succ, List.replicate_zero, Option.some.injEq, Option.map_some, Option.bind_some, Nat.reduceAdd, Nat.reduceSub, if_true, if_false, Bool.not_true, Bool.not_false, Bool.and_true, Bool.true_and, Bool.false_eq_true, reduceIte, Nat.zero_add, ix0, ix1, ix2, ix3, ix4, ix5, ix6, hb, hc, hd, hb', letterB, h4, wholeB, hi, hi', hj, hj', numB_int, ea, da, e1, he, hf, hg, bidB, ltI]
                | [], h => simp [b__law_due, runF, qev1, qev2, qev3, qev4, qev5, qev6, qev7, qev8, qev9, qev10, qev11, qev12, qev13, qev14, qev15, qev16, qev17, qev18, qev19, qev20, qev21, qevs1, qevs2, qevo1, qevo2, qevi1, qevi4, qexec1, qexec2, qexec3, qexec4, qexec5, qexec6, qexec7, qexec8, qexec9, qexec10, qexec11, qexec12, qexec13, qexec14, qexec15, qexec16, qexec17, qexec18, qexecs1, qexecs2, Res.bind, Res.go, lift, liftS, binD, cmpD, truth_bl, truth_int, truth_str, dr_non, dr_bl, dr_int, dr_str, dr_tup, dr_lst, dr_fn, bltD, lenD, isiD, slcD, seqD, bindD, wipeD, srcOf, sameAt, SL, Nat.reduceLeDiff, eq_int, eq_str, eq_bl, List.map_cons, List.map_nil, List.length_cons, List.length_nil, List.cons_append, List.nil_append, List.append_nil, List.getElem?_cons_zero, List.getElem?_cons_succ, List.set_cons_zero, List.set_cons_succ, List.replicate_succ, List.replicate_zero, Option.some.injEq, Option.map_some, Option.bind_some, Nat.reduceAdd, Nat.reduceSub, if_true, if_false, Bool.not_true, Bool.not_false, Bool.and_true, Bool.true_and, Bool.false_eq_true, reduceIte, Nat.zero_add, ix0, ix1, ix2, ix3, ix4, ix5, ix6, hb, hc, hd, hb', letterB, h4, wholeB, hi, hi', hj, hj', numB_int, ea, da, e1, e2, e3, e4, bidB]
                | [e], h => simp [b__law_due, runF, qev1, qev2, qev3, qev4, qev5, qev6, qev7, qev8, qev9, qev10, qev11, qev12, qev13, qev14, qev15, qev16, qev17, qev18, qev19, qev20, qev21, qevs1, qevs2, qevo1, qevo2, qevi1, qevi4, qexec1, qexec2, qexec3, qexec4, qexec5, qexec6, qexec7, qexec8, qexec9, qexec10, qexec11, qexec12, qexec13, qexec14, qexec15, qexec16, qexec17, qexec18, qexecs1, qexecs2, Res.bind, Res.go, lift, liftS, binD, cmpD, truth_bl, truth_int, truth_str, dr_non, dr_bl, dr_int, dr_str, dr_tup, dr_lst, dr_fn, bltD, lenD, isiD, slcD, seqD, bindD, wipeD, srcOf, sameAt, SL, Nat.reduceLeDiff, eq_int, eq_str, eq_bl, List.map_cons, List.map_nil, List.length_cons, List.length_nil, List.cons_append, List.nil_append, List.append_nil, List.getElem?_cons_zero, List.getElem?_cons_succ, List.set_cons_zero, List.set_cons_succ, List.replicate_succ, List.replicate_zero, Option.some.injEq, Option.map_some, Option.bind_some, Nat.reduceAdd, Nat.reduceSub, if_true, if_false, Bool.not_true, Bool.not_false, Bool.and_true, Bool.true_and, Bool.false_eq_true, reduceIte, Nat.zero_add, ix0, ix1, ix2, ix3, ix4, ix5, ix6, hb, hc, hd, hb', letterB, h4, wholeB, hi, hi', hj, hj', numB_int, ea, da, e1, e2, e3, e4, bidB]
                | [e, f], h => simp [b__law_due, runF, qev1, qev2, qev3, qev4, qev5, qev6, qev7, qev8, qev9, qev10, qev11, qev12, qev13, qev14, qev15, qev16, qev17, qev18, qev19, qev20, qev21, qevs1, qevs2, qevo1, qevo2, qevi1, qevi4, qexec1, qexec2, qexec3, qexec4, qexec5, qexec6, qexec7, qexec8, qexec9, qexec10, qexec11, qexec12, qexec13, qexec14, qexec15, qexec16, qexec17, qexec18, qexecs1, qexecs2, Res.bind, Res.go, lift, liftS, binD, cmpD, truth_bl, truth_int, truth_str, dr_non, dr_bl, dr_int, dr_str, dr_tup, dr_lst, dr_fn, bltD, lenD, isiD, slcD, seqD, bindD, wipeD, srcOf, sameAt, SL, Nat.reduceLeDiff, eq_int, eq_str, eq_bl, List.map_cons, List.map_nil, List.length_cons, List.length_nil, List.cons_append, List.nil_append, List.append_nil, List.getElem?_cons_zero, List.getElem?_cons_succ, List.set_cons_zero, List.set_cons_succ, List.replicate_succ, List.replicate_zero, Option.some.injEq, Option.map_some, Option.bind_some, Nat.reduceAdd, Nat.reduceSub, if_true, if_false, Bool.not_true, Bool.not_false, Bool.and_true, Bool.true_and, Bool.false_eq_true, reduceIte, Nat.zero_add, ix0, ix1, ix2, ix3, ix4, ix5, ix6, hb, hc, hd, hb', letterB, h4, wholeB, hi, hi', hj, hj', numB_int, ea, da, e1, e2, e3, e4, bidB]
                | e :: f :: g :: k :: r, h =>
                  have h7 : ¬ ((r.length : Int) + 1 + 1 + 1 + 1 + 1 + 1 + 1 + 1 = 7) := by omega
                  have h7' : ¬ ((r.length : Int) + 1 + 1 + 1 + 1 + 1 + 1 + 1 + 1 < 4) := by omega
                  simp [b__law_due, runF, qev1, qev2, qev3, qev4, qev5, qev6, qev7, qev8, qev9, qev10, qev11, qev12, qev13, qev14, qev15, qev16, qev17, qev18, qev19, qev20, qev21, qevs1, qevs2, qevo1, qevo2, qevi1, qevi4, qexec1, qexec2, qexec3, qexec4, qexec5, qexec6, qexec7, qexec8, qexec9, qexec10, qexec11, qexec12, qexec13, qexec14, qexec15, qexec16, qexec17, qexec18, qexecs1, qexecs2, Res.bind, Res.go, lift, liftS, binD, cmpD, truth_bl, truth_int, truth_str, dr_non, dr_bl, dr_int, dr_str, dr_tup, dr_lst, dr_fn, bltD, lenD, isiD, slcD, seqD, bindD, wipeD, srcOf, sameAt, SL, Nat.reduceLeDiff, eq_int, eq_str, eq_bl, List.map_cons, List.map_nil, List.length_cons, List.length_nil, List.cons_append, List.nil_append, List.append_nil, List.getElem?_cons_zero, List.getElem?_cons_succ, List.set_cons_zero, List.set_cons_succ, List.replicate_succ, List.replicate_zero, Option.some.injEq, Option.map_some, Option.bind_some, Nat.reduceAdd, Nat.reduceSub, if_true, if_false, Bool.not_true, Bool.not_false, Bool.and_true, Bool.true_and, Bool.false_eq_true, reduceIte, Nat.zero_add, ix0, ix1, ix2, ix3, ix4, ix5, ix6, hb, hc, hd, hb', letterB, h4, wholeB, hi, hi', hj, hj', numB_int, ea, da, e1, e2, e3, e4, bidB, h7, h7']
              | false =>
                cases e2 : eqD a (.str [111, 102, 102]) with
                | true =>
                  cases r with
                  | nil => simp [b__law_due, runF, qev1, qev2, qev3, qev4, qev5, qev6, qev7, qev8, qev9, qev10, qev11, qev12, qev13, qev14, qev15, qev16, qev17, qev18, qev19, qev20, qev21, qevs1, qevs2, qevo1, qevo2, qevi1, qevi4, qexec1, qexec2, qexec3, qexec4, qexec5, qexec6, qexec7, qexec8, qexec9, qexec10, qexec11, qexec12, qexec13, qexec14, qexec15, qexec16, qexec17, qexec18, qexecs1, qexecs2, Res.bind, Res.go, lift, liftS, binD, cmpD, truth_bl, truth_int, truth_str, dr_non, dr_bl, dr_int, dr_str, dr_tup, dr_lst, dr_fn, bltD, lenD, isiD, slcD, seqD, bindD, wipeD, srcOf, sameAt, SL, Nat.reduceLeDiff, eq_int, eq_str, eq_bl, List.map_cons, List.map_nil, List.length_cons, List.length_nil, List.cons_append, List.nil_append, List.append_nil, List.getElem?_cons_zero, List.getElem?_cons_succ, List.set_cons_zero, List.set_cons_succ, List.replicate_succ, List.replicate_zero, Option.some.injEq, Option.map_some, Option.bind_some, Nat.reduceAdd, Nat.reduceSub, if_true, if_false, Bool.not_true, Bool.not_false, Bool.and_true, Bool.true_and, Bool.false_eq_true, reduceIte, Nat.zero_add, ix0, ix1, ix2, ix3, ix4, ix5, ix6, hb, hc, hd, hb', letterB, h4, wholeB, hi, hi', hj, hj', numB_int, ea, da, e1, e2, hj2]
                  | cons e r =>
                    have h5 : ¬ ((r.length : Int) + 1 + 1 + 1 + 1 + 1 = 4) := by omega
                    have h6 : ¬ ((r.length : Int) + 1 + 1 + 1 + 1 + 1 < 4) := by omega
                    simp [b__law_due, runF, qev1, qev2, qev3, qev4, qev5, qev6, qev7, qev8, qev9, qev10, qev11, qev12, qev13, qev14, qev15, qev16, qev17, qev18, qev19, qev20, qev21, qevs1, qevs2, qevo1, qevo2, qevi1, qevi4, qexec1, qexec2, qexec3, qexec4, qexec5, qexec6, qexec7, qexec8, qexec9, qexec10, qexec11, qexec12, qexec13, qexec14, qexec15, qexec16, qexec17, qexec18, qexecs1, qexecs2, Res.bind, Res.go, lift, liftS, binD, cmpD, truth_bl, truth_int, truth_str, dr_non, dr_bl, dr_int, dr_str, dr_tup, dr_lst, dr_fn, bltD, lenD, isiD, slcD, seqD, bindD, wipeD, srcOf, sameAt, SL, Nat.reduceLeDiff, eq_int, eq_str, eq_bl, List.map_cons, List.map_nil, List.length_cons, List.length_nil, List.cons_append, List.nil_append, List.append_nil, List.getElem?_cons_zero, List.getElem?_cons_succ, List.set_cons_zero, List.set_cons_succ, List.replicate_succ, List.replicate_zero, Option.some.injEq, Option.map_some, Option.bind_some, Nat.reduceAdd, Nat.reduceSub, if_true, if_false, Bool.not_true, Bool.not_false, Bool.and_true, Bool.true_and, Bool.false_eq_true, reduceIte, Nat.zero_add, ix0, ix1, ix2, ix3, ix4, ix5, ix6, hb, hc, hd, hb', letterB, h4, wholeB, hi, hi', hj, hj', numB_int, ea, da, e1, e2, hj2, h5, h6]
                | false =>
                  cases e3 : eqD a (.str [99, 108, 111, 115, 101]) with
                  | true =>
                    cases e4 : eqD a (.str [97, 110, 115, 119, 101, 114]) with
                    | true => exact absurd (two_strs e3 e4) (by decide)
                    | false =>
                    match r, h with
                    | [], h => simp [b__law_due, runF, qev1, qev2, qev3, qev4, qev5, qev6, qev7, qev8, qev9, qev10, qev11, qev12, qev13, qev14, qev15, qev16, qev17, qev18, qev19, qev20, qev21, qevs1, qevs2, qevo1, qevo2, qevi1, qevi4, qexec1, qexec2, qexec3, qexec4, qexec5, qexec6, qexec7, qexec8, qexec9, qexec10, qexec11, qexec12, qexec13, qexec14, qexec15, qexec16, qexec17, qexec18, qexecs1, qexecs2, Res.bind, Res.go, lift, liftS, binD, cmpD, truth_bl, truth_int, truth_str, dr_non, dr_bl, dr_int, dr_str, dr_tup, dr_lst, dr_fn, bltD, lenD, isiD, slcD, seqD, bindD, wipeD, srcOf, sameAt, SL, Nat.reduceLeDiff, eq_int, eq_str, eq_bl, List.map_cons, List.map_nil, List.length_cons, List.length_nil, List.cons_append, List.nil_append, List.append_nil, List.getElem?_cons_zero, List.getElem?_cons_succ, List.set_cons_zero, List.set_cons_succ, List.replicate_succ, List.replicate_zero, Option.some.injEq, Option.map_some, Option.bind_some, Nat.reduceAdd, Nat.reduceSub, if_true, if_false, Bool.not_true, Bool.not_false, Bool.and_true, Bool.true_and, Bool.false_eq_true, reduceIte, Nat.zero_add, ix0, ix1, ix2, ix3, ix4, ix5, ix6, hb, hc, hd, hb', letterB, h4, wholeB, hi, hi', hj, hj', numB_int, ea, da, e1, e2, e3, e4]
                    | [e], h =>
                      have hh := hHs e b 0 (h e (by simp)) (h b (by simp))
                      simp [b__law_due, runF, qev1, qev2, qev3, qev4, qev5, qev6, qev7, qev8, qev9, qev10, qev11, qev12, qev13, qev14, qev15, qev16, qev17, qev18, qev19, qev20, qev21, qevs1, qevs2, qevo1, qevo2, qevi1, qevi4, qexec1, qexec2, qexec3, qexec4, qexec5, qexec6, qexec7, qexec8, qexec9, qexec10, qexec11, qexec12, qexec13, qexec14, qexec15, qexec16, qexec17, qexec18, qexecs1, qexecs2, Res.bind, Res.go, lift, liftS, binD, cmpD, truth_bl, truth_int, truth_str, dr_non, dr_bl, dr_int, dr_str, dr_tup, dr_lst, dr_fn, bltD, lenD, isiD, slcD, seqD, bindD, wipeD, srcOf, sameAt, SL, Nat.reduceLeDiff, eq_int, eq_str, eq_bl, List.map_cons, List.map_nil, List.length_cons, List.length_nil, List.cons_append, List.nil_append, List.append_nil, List.getElem?_cons_zero, List.getElem?_cons_succ, List.set_cons_zero, List.set_cons_succ, List.replicate_succ, List.replicate_zero, Option.some.injEq, Option.map_some, Option.bind_some, Nat.reduceAdd, Nat.reduceSub, if_true, if_false, Bool.not_true, Bool.not_false, Bool.and_true, Bool.true_and, Bool.false_eq_true, reduceIte, Nat.zero_add, ix0, ix1, ix2, ix3, ix4, ix5, ix6, hb, hc, hd, hb', letterB, h4, wholeB, hi, hi', hj, hj', numB_int, ea, da, e1, e2, e3, e4, hh]
                    | e :: f :: r, h =>
                      have h5 : ¬ ((r.length : Int) + 1 + 1 + 1 + 1 + 1 + 1 = 5) := by omega
                      have h6 : ¬ ((r.length : Int) + 1 + 1 + 1 + 1 + 1 + 1 < 4) := by omega
                      simp [b__law_due, runF, qev1, qev2, qev3, qev4, qev5, qev6, qev7, qev8, qev9, qev10, qev11, qev12, qev13, qev14, qev15, qev16, qev17, qev18, qev19, qev20, qev21, qevs1, qevs2, qevo1, qevo2, qevi1, qevi4, qexec1, qexec2, qexec3, qexec4, qexec5, qexec6, qexec7, qexec8, qexec9, qexec10, qexec11, qexec12, qexec13, qexec14, qexec15, qexec16, qexec17, qexec18, qexecs1, qexecs2, Res.bind, Res.go, lift, liftS, binD, cmpD, truth_bl, truth_int, truth_str, dr_non, dr_bl, dr_int, dr_str, dr_tup, dr_lst, dr_fn, bltD, lenD, isiD, slcD, seqD, bindD, wipeD, srcOf, sameAt, SL, Nat.reduceLeDiff, eq_int, eq_str, eq_bl, List.map_cons, List.map_nil, List.length_cons, List.length_nil, List.cons_append, List.nil_append, List.append_nil, List.getElem?_cons_zero, List.getElem?_cons_succ, List.set_cons_zero, List.set_cons_succ, List.replicate_succ, List.replicate_zero, Option.some.injEq, Option.map_some, Option.bind_some, Nat.reduceAdd, Nat.reduceSub, if_true, if_false, Bool.not_true, Bool.not_false, Bool.and_true, Bool.true_and, Bool.false_eq_true, reduceIte, Nat.zero_add, ix0, ix1, ix2, ix3, ix4, ix5, ix6, hb, hc, hd, hb', letterB, h4, wholeB, hi, hi', hj, hj', numB_int, ea, da, e1, e2, e3, e4, h5, h6]
                  | false =>
                    cases e4 : eqD a (.str [97, 110, 115, 119, 101, 114]) with
                    | false => simp [b__law_due, runF, qev1, qev2, qev3, qev4, qev5, qev6, qev7, qev8, qev9, qev10, qev11, qev12, qev13, qev14, qev15, qev16, qev17, qev18, qev19, qev20, qev21, qevs1, qevs2, qevo1, qevo2, qevi1, qevi4, qexec1, qexec2, qexec3, qexec4, qexec5, qexec6, qexec7, qexec8, qexec9, qexec10, qexec11, qexec12, qexec13, qexec14, qexec15, qexec16, qexec17, qexec18, qexecs1, qexecs2, Res.bind, Res.go, lift, liftS, binD, cmpD, truth_bl, truth_int, truth_str, dr_non, dr_bl, dr_int, dr_str, dr_tup, dr_lst, dr_fn, bltD, lenD, isiD, slcD, seqD, bindD, wipeD, srcOf, sameAt, SL, Nat.reduceLeDiff, eq_int, eq_str, eq_bl, List.map_cons, List.map_nil, List.length_cons, List.length_nil, List.cons_append, List.nil_append, List.append_nil, List.getElem?_cons_zero, List.getElem?_cons_succ, List.set_cons_zero, List.set_cons_succ, List.replicate_succ, List.replicate_zero, Option.some.injEq, Option.map_some, Option.bind_some, Nat.reduceAdd, Nat.reduceSub, if_true, if_false, Bool.not_true, Bool.not_false, Bool.and_true, Bool.true_and, Bool.false_eq_true, reduceIte, Nat.zero_add, ix0, ix1, ix2, ix3, ix4, ix5, ix6, hb, hc, hd, hb', letterB, h4, wholeB, hi, hi', hj, hj', numB_int, ea, da, e1, e2, e3, e4]
                    | true =>
                      match r, h with
                      | [e, f, g], h =>
                        have he := hN e (h e (by simp))
                        have hf := hW f (h f (by simp))
                        have fe := h e (by simp)
                        have fb := h b (by simp)
                        have fg := h g (by simp)
                        have q1 := op_eq (flat_le fe (show 10 ≤ 20 by omega)) (flat_le fb (show 10 ≤ 20 by omega))
                        have d1 := flat_dr (st := st) fe
                        have d2 := flat_dr (st := st) fb
                        have d3 := flat_dr (st := st) fg
                        have q2 : opIn g (.lst [.str [121, 101, 115], .str [110, 111]]) = some (yesB g) := by
                          have f1 : flatD DEEP g = true := flat_le fg (show 10 ≤ 20 by omega)
                          have f2 : flatL DEEP [.str [121, 101, 115], .str [110, 111]] = true := rfl
                          unfold opIn
                          simp only [f1, f2]
                          simp [yesB]
                        cases hq : handB e with
                        | false => simp [b__law_due, runF, qev1, qev2, qev3, qev4, qev5, qev6, qev7, qev8, qev9, qev10, qev11, qev12, qev13, qev14, qev15, qev16, qev17, qev18, qev19, qev20, qev21, qevs1, qevs2, qevo1, qevo2, qevi1, qevi4, qexec1, qexec2, qexec3, qexec4, qexec5, qexec6, qexec7, qexec8, qexec9, qexec10, qexec11, qexec12, qexec13, qexec14, qexec15, qexec16, qexec17, qexec18, qexecs1, qexecs2, Res.bind, Res.go, lift, liftS, binD, cmpD, truth_bl, truth_int, truth_str, dr_non, dr_bl, dr_int, dr_str, dr_tup, dr_lst, dr_fn, bltD, lenD, isiD, slcD, seqD, bindD, wipeD, srcOf, sameAt, SL, Nat.reduceLeDiff, eq_int, eq_str, eq_bl, List.map_cons, List.map_nil, List.length_cons, List.length_nil, List.cons_append, List.nil_append, List.append_nil, List.getElem?_cons_zero, List.getElem?_cons_succ, List.set_cons_zero, List.set_cons_succ, List.replicate_succ, List.replicate_zero, Option.some.injEq, Option.map_some, Option.bind_some, Nat.reduceAdd, Nat.reduceSub, if_true, if_false, Bool.not_true, Bool.not_false, Bool.and_true, Bool.true_and, Bool.false_eq_true, reduceIte, Nat.zero_add, ix0, ix1, ix2, ix3, ix4, ix5, ix6, hb, hc, hd, hb', letterB, h4, wholeB, hi, hi', hj, hj', numB_int, ea, da, e1, e2, e3, e4, he, hf, answerB, hq]
                        | true =>
                          cases hz : eqD e b with
                          | true => simp [b__law_due, runF, qev1, qev2, qev3, qev4, qev5, qev6, qev7, qev8, qev9, qev10, qev11, qev12, qev13, qev14, qev15, qev16, qev17, qev18, qev19, qev20, qev21, qevs1, qevs2, qevo1, qevo2, qevi1, qevi4, qexec1, qexec2, qexec3, qexec4, qexec5, qexec6, qexec7, qexec8, qexec9, qexec10, qexec11, qexec12, qexec13, qexec14, qexec15, qexec16, qexec17, qexec18, qexecs1, qexecs2, Res.bind, Res.go, lift, liftS, binD, cmpD, truth_bl, truth_int, truth_str, dr_non, dr_bl, dr_int, dr_str, dr_tup, dr_lst, dr_fn, bltD, lenD, isiD, slcD, seqD, bindD, wipeD, srcOf, sameAt, SL, Nat.reduceLeDiff, eq_int, eq_str, eq_bl, List.map_cons, List.map_nil, List.length_cons, List.length_nil, List.cons_append, List.nil_append, List.append_nil, List.getElem?_cons_zero, List.getElem?_cons_succ, List.set_cons_zero, List.set_cons_succ, List.replicate_succ, List.replicate_zero, Option.some.injEq, Option.map_some, Option.bind_some, Nat.reduceAdd, Nat.reduceSub, if_true, if_false, Bool.not_true, Bool.not_false, Bool.and_true, Bool.true_and, Bool.false_eq_true, reduceIte, Nat.zero_add, ix0, ix1, ix2, ix3, ix4, ix5, ix6, hb, hc, hd, hb', letterB, h4, wholeB, hi, hi', hj, hj', numB_int, ea, da, e1, e2, e3, e4, he, hf, answerB, hq, q1, d1, d2, hz]
                          | false =>
                            cases f with
                            | int y => by_cases hy : 0 ≤ y <;> simp [b__law_due, runF, qev1, qev2, qev3, qev4, qev5, qev6, qev7, qev8, qev9, qev10, qev11, qev12, qev13, qev14, qev15, qev16, qev17, qev18, qev19, qev20, qev21, qevs1, qevs2, qevo1, qevo2, qevi1, qevi4, qexec1, qexec2, qexec3, qexec4, qexec5, qexec6, qexec7, qexec8, qexec9, qexec10, qexec11, qexec12, qexec13, qexec14, qexec15, qexec16, qexec17, qexec18, qexecs1, qexecs2, Res.bind, Res.go, lift, liftS, binD, cmpD, truth_bl, truth_int, truth_str, dr_non, dr_bl, dr_int, dr_str, dr_tup, dr_lst, dr_fn, bltD, lenD, isiD, slcD, seqD, bindD, wipeD, srcOf, sameAt, SL, Nat.reduceLeDiff, eq_int, eq_str, eq_bl, List.map_cons, List.map_nil, List.length_cons, List.length_nil, List.cons_append, List.nil_append, List.append_nil, List.getElem?_cons_zero, List.getElem?_cons_succ, List.set_cons_zero, List.set_cons_succ, List.replicate_succ, List.replicate_zero, Option.some.injEq, Option.map_some, Option.bind_some, Nat.reduceAdd, Nat.reduceSub, if_true, if_false, Bool.not_true, Bool.not_false, Bool.and_true, Bool.true_and, Bool.false_eq_true, reduceIte, Nat.zero_add, ix0, ix1, ix2, ix3, ix4, ix5, ix6, hb, hc, hd, hb', letterB, h4, wholeB, hi, hi', hj, hj', numB_int, ea, da, e1, e2, e3, e4, he, hf, answerB, hq, q1, q2, d1, d2, d3, hz, hy]
                            | _ => simp [b__law_due, runF, qev1, qev2, qev3, qev4, qev5, qev6, qev7, qev8, qev9, qev10, qev11, qev12, qev13, qev14, qev15, qev16, qev17, qev18, qev19, qev20, qev21, qevs1, qevs2, qevo1, qevo2, qevi1, qevi4, qexec1, qexec2, qexec3, qexec4, qexec5, qexec6, qexec7, qexec8, qexec9, qexec10, qexec11, qexec12, qexec13, qexec14, qexec15, qexec16, qexec17, qexec18, qexecs1, qexecs2, Res.bind, Res.go, lift, liftS, binD, cmpD, truth_bl, truth_int, truth_str, dr_non, dr_bl, dr_int, dr_str, dr_tup, dr_lst, dr_fn, bltD, lenD, isiD, slcD, seqD, bindD, wipeD, srcOf, sameAt, SL, Nat.reduceLeDiff, eq_int, eq_str, eq_bl, List.map_cons, List.map_nil, List.length_cons, List.length_nil, List.cons_append, List.nil_append, List.append_nil, List.getElem?_cons_zero, List.getElem?_cons_succ, List.set_cons_zero, List.set_cons_succ, List.replicate_succ, List.replicate_zero, Option.some.injEq, Option.map_some, Option.bind_some, Nat.reduceAdd, Nat.reduceSub, if_true, if_false, Bool.not_true, Bool.not_false, Bool.and_true, Bool.true_and, Bool.false_eq_true, reduceIte, Nat.zero_add, ix0, ix1, ix2, ix3, ix4, ix5, ix6, hb, hc, hd, hb', letterB, h4, wholeB, hi, hi', hj, hj', numB_int, ea, da, e1, e2, e3, e4, he, hf, answerB, hq, q1, q2, d1, d2, d3, hz, numB]
                      | [], h => simp [b__law_due, runF, qev1, qev2, qev3, qev4, qev5, qev6, qev7, qev8, qev9, qev10, qev11, qev12, qev13, qev14, qev15, qev16, qev17, qev18, qev19, qev20, qev21, qevs1, qevs2, qevo1, qevo2, qevi1, qevi4, qexec1, qexec2, qexec3, qexec4, qexec5, qexec6, qexec7, qexec8, qexec9, qexec10, qexec11, qexec12, qexec13, qexec14, qexec15, qexec16, qexec17, qexec18, qexecs1, qexecs2, Res.bind, Res.go, lift, liftS, binD, cmpD, truth_bl, truth_int, truth_str, dr_non, dr_bl, dr_int, dr_str, dr_tup, dr_lst, dr_fn, bltD, lenD, isiD, slcD, seqD, bindD, wipeD, srcOf, sameAt, SL, Nat.reduceLeDiff, eq_int, eq_str, eq_bl, List.map_cons, List.map_nil, List.length_cons, List.length_nil, List.cons_append, List.nil_append, List.append_nil, List.getElem?_cons_zero, List.getElem?_cons_succ, List.set_cons_zero, List.set_cons_succ, List.replicate_succ, List.replicate_zero, Option.some.injEq, Option.map_some, Option.bind_some, Nat.reduceAdd, Nat.reduceSub, if_true, if_false, Bool.not_true, Bool.not_false, Bool.and_true, Bool.true_and, Bool.false_eq_true, reduceIte, Nat.zero_add, ix0, ix1, ix2, ix3, ix4, ix5, ix6, hb, hc, hd, hb', letterB, h4, wholeB, hi, hi', hj, hj', numB_int, ea, da, e1, e2, e3, e4, answerB]
                      | [e], h => simp [b__law_due, runF, qev1, qev2, qev3, qev4, qev5, qev6, qev7, qev8, qev9, qev10, qev11, qev12, qev13, qev14, qev15, qev16, qev17, qev18, qev19, qev20, qev21, qevs1, qevs2, qevo1, qevo2, qevi1, qevi4, qexec1, qexec2, qexec3, qexec4, qexec5, qexec6, qexec7, qexec8, qexec9, qexec10, qexec11, qexec12, qexec13, qexec14, qexec15, qexec16, qexec17, qexec18, qexecs1, qexecs2, Res.bind, Res.go, lift, liftS, binD, cmpD, truth_bl, truth_int, truth_str, dr_non, dr_bl, dr_int, dr_str, dr_tup, dr_lst, dr_fn, bltD, lenD, isiD, slcD, seqD, bindD, wipeD, srcOf, sameAt, SL, Nat.reduceLeDiff, eq_int, eq_str, eq_bl, List.map_cons, List.map_nil, List.length_cons, List.length_nil, List.cons_append, List.nil_append, List.append_nil, List.getElem?_cons_zero, List.getElem?_cons_succ, List.set_cons_zero, List.set_cons_succ, List.replicate_succ, List.replicate_zero, Option.some.injEq, Option.map_some, Option.bind_some, Nat.reduceAdd, Nat.reduceSub, if_true, if_false, Bool.not_true, Bool.not_false, Bool.and_true, Bool.true_and, Bool.false_eq_true, reduceIte, Nat.zero_add, ix0, ix1, ix2, ix3, ix4, ix5, ix6, hb, hc, hd, hb', letterB, h4, wholeB, hi, hi', hj, hj', numB_int, ea, da, e1, e2, e3, e4, answerB]
                      | [e, f], h => simp [b__law_due, runF, qev1, qev2, qev3, qev4, qev5, qev6, qev7, qev8, qev9, qev10, qev11, qev12, qev13, qev14, qev15, qev16, qev17, qev18, qev19, qev20, qev21, qevs1, qevs2, qevo1, qevo2, qevi1, qevi4, qexec1, qexec2, qexec3, qexec4, qexec5, qexec6, qexec7, qexec8, qexec9, qexec10, qexec11, qexec12, qexec13, qexec14, qexec15, qexec16, qexec17, qexec18, qexecs1, qexecs2, Res.bind, Res.go, lift, liftS, binD, cmpD, truth_bl, truth_int, truth_str, dr_non, dr_bl, dr_int, dr_str, dr_tup, dr_lst, dr_fn, bltD, lenD, isiD, slcD, seqD, bindD, wipeD, srcOf, sameAt, SL, Nat.reduceLeDiff, eq_int, eq_str, eq_bl, List.map_cons, List.map_nil, List.length_cons, List.length_nil, List.cons_append, List.nil_append, List.append_nil, List.getElem?_cons_zero, List.getElem?_cons_succ, List.set_cons_zero, List.set_cons_succ, List.replicate_succ, List.replicate_zero, Option.some.injEq, Option.map_some, Option.bind_some, Nat.reduceAdd, Nat.reduceSub, if_true, if_false, Bool.not_true, Bool.not_false, Bool.and_true, Bool.true_and, Bool.false_eq_true, reduceIte, Nat.zero_add, ix0, ix1, ix2, ix3, ix4, ix5, ix6, hb, hc, hd, hb', letterB, h4, wholeB, hi, hi', hj, hj', numB_int, ea, da, e1, e2, e3, e4, answerB]
                      | e :: f :: g :: k :: r, h =>
                        have h7 : ¬ ((r.length : Int) + 1 + 1 + 1 + 1 + 1 + 1 + 1 + 1 = 7) := by omega
                        have h7' : ¬ ((r.length : Int) + 1 + 1 + 1 + 1 + 1 + 1 + 1 + 1 < 4) := by omega
                        simp [b__law_due, runF, qev1, qev2, qev3, qev4, qev5, qev6, qev7, qev8, qev9, qev10, qev11, qev12, qev13, qev14, qev15, qev16, qev17, qev18, qev19, qev20, qev21, qevs1, qevs2, qevo1, qevo2, qevi1, qevi4, qexec1, qexec2, qexec3, qexec4, qexec5, qexec6, qexec7, qexec8, qexec9, qexec10, qexec11, qexec12, qexec13, qexec14, qexec15, qexec16, qexec17, qexec18, qexecs1, qexecs2, Res.bind, Res.go, lift, liftS, binD, cmpD, truth_bl, truth_int, truth_str, dr_non, dr_bl, dr_int, dr_str, dr_tup, dr_lst, dr_fn, bltD, lenD, isiD, slcD, seqD, bindD, wipeD, srcOf, sameAt, SL, Nat.reduceLeDiff, eq_int, eq_str, eq_bl, List.map_cons, List.map_nil, List.length_cons, List.length_nil, List.cons_append, List.nil_append, List.append_nil, List.getElem?_cons_zero, List.getElem?_cons_succ, List.set_cons_zero, List.set_cons_succ, List.replicate_succ, List.replicate_zero, Option.some.injEq, Option.map_some, Option.bind_some, Nat.reduceAdd, Nat.reduceSub, if_true, if_false, Bool.not_true, Bool.not_false, Bool.and_true, Bool.true_and, Bool.false_eq_true, reduceIte, Nat.zero_add, ix0, ix1, ix2, ix3, ix4, ix5, ix6, hb, hc, hd, hb', letterB, h4, wholeB, hi, hi', hj, hj', numB_int, ea, da, e1, e2, e3, e4, answerB, h7, h7']
          | _ => simp [b__law_due, runF, qev1, qev2, qev3, qev4, qev5, qev6, qev7, qev8, qev9, qev10, qev11, qev12, qev13, qev14, qev15, qev16, qev17, qev18, qev19, qev20, qev21, qevs1, qevs2, qevo1, qevo2, qevi1, qevi4, qexec1, qexec2, qexec3, qexec4, qexec5, qexec6, qexec7, qexec8, qexec9, qexec10, qexec11, qexec12, qexec13, qexec14, qexec15, qexec16, qexec17, qexec18, qexecs1, qexecs2, Res.bind, Res.go, lift, liftS, binD, cmpD, truth_bl, truth_int, truth_str, dr_non, dr_bl, dr_int, dr_str, dr_tup, dr_lst, dr_fn, bltD, lenD, isiD, slcD, seqD, bindD, wipeD, srcOf, sameAt, SL, Nat.reduceLeDiff, eq_int, eq_str, eq_bl, List.map_cons, List.map_nil, List.length_cons, List.length_nil, List.cons_append, List.nil_append, List.append_nil, List.getElem?_cons_zero, List.getElem?_cons_succ, List.set_cons_zero, List.set_cons_succ, List.replicate_succ, List.replicate_zero, Option.some.injEq, Option.map_some, Option.bind_some, Nat.reduceAdd, Nat.reduceSub, if_true, if_false, Bool.not_true, Bool.not_false, Bool.and_true, Bool.true_and, Bool.false_eq_true, reduceIte, Nat.zero_add, ix0, ix1, ix2, ix3, ix4, ix5, ix6, hb, hc, hd, hb', letterB, h4, wholeB, hi, hi', numB]
      | _ => simp [b__law_due, runF, qev1, qev2, qev3, qev4, qev5, qev6, qev7, qev8, qev9, qev10, qev11, qev12, qev13, qev14, qev15, qev16, qev17, qev18, qev19, qev20, qev21, qevs1, qevs2, qevo1, qevo2, qevi1, qevi4, qexec1, qexec2, qexec3, qexec4, qexec5, qexec6, qexec7, qexec8, qexec9, qexec10, qexec11, qexec12, qexec13, qexec14, qexec15, qexec16, qexec17, qexec18, qexecs1, qexecs2, Res.bind, Res.go, lift, liftS, binD, cmpD, truth_bl, truth_int, truth_str, dr_non, dr_bl, dr_int, dr_str, dr_tup, dr_lst, dr_fn, bltD, lenD, isiD, slcD, seqD, bindD, wipeD, srcOf, sameAt, SL, Nat.reduceLeDiff, eq_int, eq_str, eq_bl, List.map_cons, List.map_nil, List.length_cons, List.length_nil, List.cons_append, List.nil_append, List.append_nil, List.getElem?_cons_zero, List.getElem?_cons_succ, List.set_cons_zero, List.set_cons_succ, List.replicate_succ, List.replicate_zero, Option.some.injEq, Option.map_some, Option.bind_some, Nat.reduceAdd, Nat.reduceSub, if_true, if_false, Bool.not_true, Bool.not_false, Bool.and_true, Bool.true_and, Bool.false_eq_true, reduceIte, Nat.zero_add, ix0, ix1, ix2, ix3, ix4, ix5, ix6, hb, hc, hd, hb', letterB, h4, wholeB, numB]
end
end Cal
/-! plain lemmas: letters made -/
namespace Cal
section
variable {C : CallF} {st : Sto}
def b__law_names_by (f__law_name_by : Nat) : ISs := (.cons (.set 1 (.bin .add (.k (.int 2)) (.bin .mod (.w 0) (.k (.int 6))))) (.cons (.ifs (.cmp .eq (.bin .mod (.bin .fdiv (.w 0) (.k (.int 6))) (.k (.int 6))) (.k (.int 1))) (.cons (.set 1 (.bin .add (.k (.int 21)) (.bin .mod (.bin .fdiv (.w 0) (.k (.int 36))) (.k (.int 2))))) .nil) .nil) (.cons (.ret (.blt .sorted (.cons (.comp (.rng1 (.w 1)) [2] (.k (.bl true)) (.call f__law_name_by (.cons (.v 2) (.cons (.bin .fdiv (.w 0) (.k (.int 6))) .nil))) [2]) .nil))) .nil)))
def b__law_some (f__law_mixed : Nat) : ISs := (.cons (.set 5 (.comp (.seq (.w 0)) [6] (.cmp .ne (.w 6) (.w 1)) (.v 6) [6])) (.cons (.set 7 (.comp (.rng1 (.blt .len (.cons (.w 5) .nil))) [8] (.cmp .gt (.call f__law_mixed (.cons (.v 2) (.cons (.bin .add (.bin .add (.w 3) (.k (.int 50))) (.bin .mul (.k (.int 3)) (.w 8))) (.cons (.k (.int 3)) .nil)))) (.k (.int 0))) (.idx (.w 5) (.w 8)) [8])) (.cons (.ifs (.cmp .lt (.blt .len (.cons (.w 7) .nil)) (.w 4)) (.cons (.set 7 (.v 5)) .nil) .nil) (.cons (.ret (.blt .tuple (.cons (.slc (.w 7) .no (.so (.k (.int 20)))) .nil))) .nil))))
def b__law_key : ISs := (.cons (.set 5 (.bin .add (.w 0) (.bin .mul (.k (.int 1009)) (.mth .index (.w 1) (.cons (.w 2) .nil))))) (.cons (.ret (.bin .add (.bin .add (.w 5) (.bin .mul (.k (.int 10007)) (.bin .mod (.w 3) (.k (.int 100003))))) (.bin .mul (.k (.int 1000003)) (.bin .mod (.w 4) (.k (.int 100019)))))) .nil))
def b__law_bid_of (f__law_key : Nat) (f__law_mixed : Nat) (f__law_some : Nat) : ISs := (.cons (.set 5 (.call f__law_key (.cons (.v 0) (.cons (.v 1) (.cons (.v 2) (.cons (.v 3) (.cons (.v 4) .nil))))))) (.cons (.ifs (.andv (.cmp .gt (.w 4) (.k (.int 1))) (.cmp .eq (.call f__law_mixed (.cons (.v 5) (.cons (.k (.int 1)) (.cons (.k (.int 6)) .nil)))) (.k (.int 1)))) (.cons (.ret (.tup (.cons (.k (.str [111, 102, 102])) (.cons (.v 2) (.cons (.v 3) (.cons (.v 4) .nil)))))) .nil) .nil) (.cons (.set 6 (.bin .sub (.call f__law_mixed (.cons (.v 5) (.cons (.k (.int 2)) (.cons (.k (.int 4001)) .nil)))) (.k (.int 2000)))) (.cons (.ifs (.cmp .eq (.call f__law_mixed (.cons (.v 5) (.cons (.k (.int 3)) (.cons (.k (.int 5)) .nil)))) (.k (.int 1))) (.cons (.set 6 (.bin .mul (.w 6) (.bin .pow (.k (.int 10)) (.k (.int 12))))) .nil) .nil) (.cons (.set 7 (.bin .add (.bin .add (.w 6) (.k (.int 1))) (.call f__law_mixed (.cons (.v 5) (.cons (.k (.int 4)) (.cons (.idx (.lst (.cons (.k (.int 1)) (.cons (.k (.int 30)) (.cons (.k (.int 3000)) .nil)))) (.call f__law_mixed (.cons (.v 5) (.cons (.k (.int 5)) (.cons (.k (.int 3)) .nil))))) .nil)))))) (.cons (.ret (.tup (.cons (.k (.str [98, 105, 100])) (.cons (.v 2) (.cons (.v 3) (.cons (.v 4) (.cons (.v 6) (.cons (.v 7) (.cons (.call f__law_some (.cons (.v 1) (.cons (.v 2) (.cons (.v 5) (.cons (.k (.int 6)) (.cons (.k (.int 1)) .nil)))))) .nil))))))))) .nil))))))
def b__law_close_of (f__law_key : Nat) (f__law_some : Nat) (f__law_mixed : Nat) : ISs := (.cons (.set 5 (.call f__law_key (.cons (.v 0) (.cons (.v 1) (.cons (.v 2) (.cons (.v 3) (.cons (.v 4) .nil))))))) (.cons (.set 6 (.call f__law_some (.cons (.v 1) (.cons (.v 2) (.cons (.v 5) (.cons (.k (.int 7)) (.cons (.k (.int 0)) .nil))))))) (.cons (.ifs (.cmp .eq (.call f__law_mixed (.cons (.v 5) (.cons (.k (.int 8)) (.cons (.k (.int 4)) .nil)))) (.k (.int 1))) (.cons (.set 6 (.tup .nil)) .nil) .nil) (.cons (.ret (.tup (.cons (.k (.str [99, 108, 111, 115, 101])) (.cons (.v 2) (.cons (.v 3) (.cons (.v 4) (.cons (.v 6) .nil))))))) .nil))))
def b__law_answer_of (f__law_mixed : Nat) (f__law_key : Nat) : ISs := (.cons (.set 6 (.comp (.seq (.w 1)) [7] (.cmp .ne (.w 7) (.w 2)) (.v 7) [7])) (.cons (.set 8 (.idx (.w 6) (.call f__law_mixed (.cons (.v 5) (.cons (.k (.int 9)) (.cons (.blt .len (.cons (.w 6) .nil)) .nil)))))) (.cons (.set 9 (.call f__law_mixed (.cons (.v 5) (.cons (.k (.int 10)) (.cons (.k (.int 3)) .nil))))) (.cons (.ifs (.cmp .eq (.call f__law_mixed (.cons (.v 5) (.cons (.k (.int 11)) (.cons (.k (.int 9)) .nil)))) (.k (.int 1))) (.cons (.set 9 (.bin .add (.bin .pow (.k (.int 10)) (.k (.int 9))) (.w 9))) .nil) .nil) (.cons (.set 10 (.bin .add (.bin .add (.call f__law_key (.cons (.v 0) (.cons (.v 1) (.cons (.v 2) (.cons (.v 3) (.cons (.v 4) .nil)))))) (.bin .mul (.k (.int 17)) (.mth .index (.w 1) (.cons (.w 8) .nil)))) (.bin .mul (.w 9) (.k (.int 131))))) (.cons (.ret (.tup (.cons (.k (.str [97, 110, 115, 119, 101, 114])) (.cons (.v 2) (.cons (.v 3) (.cons (.v 4) (.cons (.v 8) (.cons (.v 9) (.cons (.idx (.lst (.cons (.k (.str [121, 101, 115])) (.cons (.k (.str [110, 111])) (.cons (.k (.str [121, 101, 115])) .nil)))) (.call f__law_mixed (.cons (.v 10) (.cons (.k (.int 12)) (.cons (.k (.int 3)) .nil))))) .nil))))))))) .nil))))))
def b__law_letter_by (f__law_mixed : Nat) (f__law_bid_of : Nat) (f__law_close_of : Nat) (f__law_answer_of : Nat) : ISs := (.cons (.set 3 (.idx (.w 2) (.call f__law_mixed (.cons (.v 0) (.cons (.k (.int 13)) (.cons (.blt .min2 (.cons (.k (.int 3)) (.cons (.blt .len (.cons (.w 2) .nil)) .nil))) .nil)))))) (.cons (.set 4 (.idx (.lst (.cons (.k (.int 0)) (.cons (.k (.int 0)) (.cons (.k (.int 1)) (.cons (.k (.int 2)) (.cons (.bin .pow (.k (.int 10)) (.k (.int 9))) .nil)))))) (.call f__law_mixed (.cons (.v 0) (.cons (.k (.int 14)) (.cons (.k (.int 5)) .nil)))))) (.cons (.set 5 (.bin .add (.k (.int 1)) (.call f__law_mixed (.cons (.v 0) (.cons (.k (.int 15)) (.cons (.idx (.lst (.cons (.k (.int 1)) (.cons (.k (.int 2)) (.cons (.k (.int 3)) .nil)))) (.call f__law_mixed (.cons (.v 0) (.cons (.k (.int 16)) (.cons (.k (.int 3)) .nil))))) .nil)))))) (.cons (.ifs (.cmp .eq (.call f__law_mixed (.cons (.v 0) (.cons (.k (.int 17)) (.cons (.k (.int 30)) .nil)))) (.k (.int 1))) (.cons (.set 5 (.bin .add (.bin .pow (.k (.int 10)) (.k (.int 9))) (.w 5))) .nil) .nil) (.cons (.set 6 (.call f__law_mixed (.cons (.v 0) (.cons (.k (.int 18)) (.cons (.k (.int 9)) .nil))))) (.cons (.ifs (.cmp .lt (.w 6) (.k (.int 3))) (.cons (.ret (.call f__law_bid_of (.cons (.v 1) (.cons (.v 2) (.cons (.v 3) (.cons (.v 4) (.cons (.v 5) .nil))))))) .nil) .nil) (.cons (.ifs (.cmp .eq (.w 6) (.k (.int 3))) (.cons (.ret (.call f__law_close_of (.cons (.v 1) (.cons (.v 2) (.cons (.v 3) (.cons (.v 4) (.cons (.v 5) .nil))))))) .nil) .nil) (.cons (.ret (.call f__law_answer_of (.cons (.v 1) (.cons (.v 2) (.cons (.v 3) (.cons (.v 4) (.cons (.v 5) (.cons (.v 0) .nil)))))))) .nil))))))))
def b__law_strange (f__law_mixed : Nat) (f__law_whole : Nat) : ISs := (.cons (.set 4 (.blt .min2 (.cons (.k (.int 11)) (.cons (.call f__law_mixed (.cons (.v 3) (.cons (.k (.int 31)) (.cons (.k (.int 18)) .nil)))) .nil)))) (.cons (.setf 5 (.lst (.cons (.k .non) (.cons (.k (.bl true)) (.cons (.k (.str [])) (.cons (.neg (.k (.int 1))) (.cons (.k (.int 0)) (.cons (.k (.int 1)) (.cons (.bin .pow (.k (.int 10)) (.k (.int 18))) (.cons (.idx (.w 1) (.k (.int 1))) (.cons (.idx (.w 2) (.k (.int 0))) (.cons (.bin .add (.idx (.w 2) (.k (.int 0))) (.k (.str [45]))) (.cons (.tup .nil) (.cons (.v 0) .nil)))))))))))))) (.cons (.ifs (.andv (.cmp .eq (.w 4) (.k (.int 11))) (.isi (.w 0) .tuple)) (.cons (.set 6 (.blt .tuple (.cons (.comp (.seq (.w 2)) [7] (.cmp .ne (.w 7) (.idx (.w 1) (.k (.int 1)))) (.v 7) [7]) .nil))) (.cons (.set 8 (.lst (.cons (.rev (.w 0)) (.cons (.bin .add (.w 0) (.slc (.w 0) .no (.so (.k (.int 1))))) (.cons (.bin .add (.w 0) (.tup (.cons (.idx (.w 1) (.k (.int 1))) .nil))) (.cons (.slc (.w 0) (.so (.k (.int 1))) .no) (.cons (.v 6) (.cons (.slc (.w 6) .no (.so (.k (.int 20)))) .nil)))))))) (.cons (.seti (.slot 5) (.k (.int 11)) (.idx (.w 8) (.call f__law_mixed (.cons (.v 3) (.cons (.k (.int 32)) (.cons (.k (.int 6)) .nil)))))) .nil))) .nil) (.cons (.ifs (.andv (.cmp .eq (.w 4) (.k (.int 11))) (.isi (.w 0) .str)) (.cons (.seti (.slot 5) (.k (.int 11)) (.idx (.lst (.cons (.mth .upper (.w 0) .nil) (.cons (.bin .add (.w 0) (.k (.str [120]))) (.cons (.slc (.w 0) .no (.so (.neg (.k (.int 1))))) (.cons (.bin .add (.k (.str [32])) (.w 0)) (.cons (.bin .add (.k (.str [50])) (.w 0)) .nil)))))) (.call f__law_mixed (.cons (.v 3) (.cons (.k (.int 33)) (.cons (.k (.int 5)) .nil)))))) .nil) .nil) (.cons (.ifs (.andv (.cmp .eq (.w 4) (.k (.int 11))) (.call f__law_whole (.cons (.v 0) .nil))) (.cons (.seti (.slot 5) (.k (.int 11)) (.idx (.lst (.cons (.bin .sub (.neg (.k (.int 1))) (.w 0)) (.cons (.bin .add (.w 0) (.k (.int 1))) (.cons (.k (.int 0)) (.cons (.blt .str (.cons (.w 0) .nil)) (.cons (.tup (.cons (.v 0) .nil)) .nil)))))) (.call f__law_mixed (.cons (.v 3) (.cons (.k (.int 34)) (.cons (.k (.int 5)) .nil)))))) .nil) .nil) (.cons (.ret (.idx (.w 5) (.w 4))) .nil))))))
def b__law_altered (f__law_mixed : Nat) (f__law_strange : Nat) : ISs := (.cons (.set 3 (.call f__law_mixed (.cons (.v 2) (.cons (.k (.int 35)) (.cons (.blt .len (.cons (.w 0) .nil)) .nil))))) (.cons (.set 4 (.call f__law_mixed (.cons (.v 2) (.cons (.k (.int 36)) (.cons (.k (.int 8)) .nil))))) (.cons (.ifs (.cmp .eq (.w 4) (.k (.int 0))) (.cons (.ret (.bin .add (.slc (.w 0) .no (.so (.w 3))) (.slc (.w 0) (.so (.bin .add (.w 3) (.k (.int 1)))) .no))) .nil) .nil) (.cons (.ifs (.cmp .eq (.w 4) (.k (.int 1))) (.cons (.ret (.bin .add (.bin .add (.slc (.w 0) .no (.so (.w 3))) (.tup (.cons (.idx (.w 0) (.w 3)) .nil))) (.slc (.w 0) (.so (.w 3)) .no))) .nil) .nil) (.cons (.ifs (.andv (.cmp .lt (.w 4) (.k (.int 5))) (.cmp .eq (.idx (.w 0) (.k (.int 0))) (.k (.str [98, 105, 100])))) (.cons (.ret (.bin .add (.bin .add (.slc (.w 0) .no (.so (.k (.int 5)))) (.tup (.cons (.bin .add (.idx (.w 0) (.k (.int 4))) (.idx (.lst (.cons (.k (.int 0)) (.cons (.neg (.k (.int 1))) (.cons (.k (.int 1)) .nil)))) (.bin .sub (.w 4) (.k (.int 2))))) .nil))) (.slc (.w 0) (.so (.k (.int 6))) .no))) .nil) .nil) (.cons (.ifs (.andv (.cmp .lt (.w 4) (.k (.int 7))) (.isi (.idx (.w 0) (.neg (.k (.int 1)))) .tuple)) (.cons (.set 5 (.idx (.w 0) (.neg (.k (.int 1))))) (.cons (.set 6 (.lst (.cons (.rev (.w 5)) (.cons (.bin .add (.w 5) (.slc (.w 5) (.so (.neg (.k (.int 1)))) .no)) (.cons (.bin .add (.slc (.w 5) (.so (.k (.int 1))) .no) (.slc (.w 5) .no (.so (.k (.int 1))))) .nil))))) (.cons (.ret (.bin .add (.slc (.w 0) .no (.so (.neg (.k (.int 1))))) (.tup (.cons (.idx (.w 6) (.call f__law_mixed (.cons (.v 2) (.cons (.k (.int 37)) (.cons (.k (.int 3)) .nil))))) .nil)))) .nil))) .nil) (.cons (.ret (.bin .add (.bin .add (.slc (.w 0) .no (.so (.w 3))) (.tup (.cons (.call f__law_strange (.cons (.idx (.w 0) (.w 3)) (.cons (.v 0) (.cons (.v 1) (.cons (.v 2) .nil))))) .nil))) (.slc (.w 0) (.so (.bin .add (.w 3) (.k (.int 1)))) .no))) .nil)))))))
abbrev nm (l : List (List Nat)) : List D := l.map D.str
def MixOk (C : CallF) (f : Nat) (st : Sto) : Prop := ∀ a k m : Int, 0 < m → 0 ≤ k → k < 2 ^ 64 → C f [.int a, .int k, .int m] st = .ok (.int (mixedI a k m)) st
theorem others_ne {names : List (List Nat)} {a : List Nat} (h : ∃ x ∈ names, ∃ y ∈ names, x ≠ y) : 0 < (names.filter fun x => !(x == a)).length := by
  obtain ⟨x, hx, y, hy, hxy⟩ := h
  by_cases e : x = a
  · have : y ∈ names.filter fun x => !(x == a) := List.mem_filter.mpr ⟨hy, by simp; intro q; exact hxy (by rw [e, q])⟩
    exact List.length_pos_of_mem this
  · have : x ∈ names.filter fun x => !(x == a) := List.mem_filter.mpr ⟨hx, by simp [e]⟩
    exact List.length_pos_of_mem this
theorem get_nm {l : List (List Nat)} {i : Int} (h0 : 0 ≤ i) (h1 : i < l.length) : idxD (.lst (nm l)) (.int i) = some (.str (l.getD i.toNat [])) := by
  rw [idx_lst h0 (by rw [List.length_map]; exact h1)]
  rw [List.getD_eq_getElem?_getD, List.getD_eq_getElem?_getD, List.getElem?_map, List.getElem?_eq_getElem (by omega)]
  rfl
theorem getD_mem {l : List (List Nat)} {i : Nat} (h : i < l.length) : l.getD i [] ∈ l := by
  rw [List.getD_eq_getElem?_getD, List.getElem?_eq_getElem h]
  exact List.getElem_mem h
def othersOf (names : List (List Nat)) (a : List Nat) : List (List Nat) := names.filter fun x => !(x == a)
def foundOf (o : List (List Nat)) (s k : Int) : List (List Nat) := ((List.range o.length).filter fun i : Nat => decide (0 < mixedI s (k + 50 + 3 * (i : Int)) 3)).map fun i => o.getD i []
def someOf (names : List (List Nat)) (a : List Nat) (s k l : Int) : List (List Nat) :=
  if ((foundOf (othersOf names a) s k).length : Int) < l then (othersOf names a).take 20 else (foundOf (othersOf names a) s k).take 20
theorem others_len {names : List (List Nat)} {a : List Nat} : (othersOf names a).length ≤ names.length := List.length_filter_le _ _
theorem others_sub {names : List (List Nat)} {a x : List Nat} (h : x ∈ othersOf names a) : x ∈ names := (List.mem_filter.mp h).1
theorem found_sub {o : List (List Nat)} {s k : Int} {x : List Nat} (h : x ∈ foundOf o s k) : x ∈ o := by
  obtain ⟨i, hi, rfl⟩ := List.mem_map.mp h
  exact getD_mem (List.mem_range.mp (List.mem_filter.mp hi).1)
theorem some_ok {names : List (List Nat)} {a : List Nat} {s k l : Int} : (someOf names a s k l).length ≤ 20 ∧ ∀ x ∈ someOf names a s k l, x ∈ names := by
  unfold someOf
  split
  · exact ⟨by rw [List.length_take]; omega, fun x hx => others_sub (List.mem_of_mem_take hx)⟩
  · exact ⟨by rw [List.length_take]; omega, fun x hx => others_sub (found_sub (List.mem_of_mem_take hx))⟩
theorem p_some {f : Nat} {names : List (List Nat)} {a : List Nat} {s k l : Int} (hM : MixOk C f st) (hk : 0 ≤ k) (hk2 : k ≤ 1000) (hn : names.length ≤ 100) :
    runF C ⟨5, 9, b__law_some f⟩ [.lst (nm names), .str a, .int s, .int k, .int l] st = .ok (.tup (nm (someOf names a s k l))) st := by
  simp [b__law_some, runF, qev1, qev2, qev3, qev4, qev5, qev6, qev7, qev8, qev9, qev10, qev11, qev12, qev13, qev14, qev15, qev16, qev17, qev18, qev19, qev20, qev21, qevs1, qevs2, qevo1, qevo2, qevi1, qevi4, qexec1, qexec2, qexec3, qexec4, qexec5, qexec6, qexec7, qexec8, qexec9, qexec10, qexec11, qexec12, qexec13, qexec14, qexec15, qexec16, qexec17, qexec18, qexecs1, qexecs2, Res.bind, Res.go, lift, liftS, binD, cmpD, truth_bl, truth_int, truth_str, dr_non, dr_bl, dr_int, dr_str, dr_tup, dr_lst, dr_fn, bltD, lenD, isiD, slcD, seqD, bindD, wipeD, srcOf, sameAt, SL, Nat.reduceLeDiff, eq_int, eq_str, eq_bl, List.map_cons, List.map_nil, List.length_cons, List.length_nil, List.cons_append, List.nil_append, List.append_nil, List.getElem?_cons_zero, List.getElem?_cons_succ, List.set_cons_zero, List.set_cons_succ, List.replicate_succ, List.replicate_zero, Option.some.injEq, Option.map_some, Option.bind_some, Nat.reduceAdd, Nat.reduceSub, if_true, if_false, Bool.not_true, Bool.not_false, Bool.and_true, Bool.true_and, Bool.false_eq_true, reduceIte, Nat.zero_add]
  rw [comp_fm D.str (fun x => !(x == a)) D.str rfl names]
  · have eo : names.filter (fun x => !(x == a)) = othersOf names a := rfl
    rw [eo]
    generalize ho : othersOf names a = others
    have lo : others.length ≤ 100 := by
      rw [← ho]
      exact Nat.le_trans others_len hn
    have r0 : ev C (.blt .len (.cons (.w 5) .nil)) [.va (.lst (nm names)), .va (.str a), .va (.int s), .va (.int k), .va (.int l), .va (.lst (nm others)), .un, .un, .un] st = .ok (.int others.length) st := by simp [runF, qev1, qev2, qev3, qev4, qev5, qev6, qev7, qev8, qev9, qev10, qev11, qev12, qev13, qev14, qev15, qev16, qev17, qev18, qev19, qev20, qev21, qevs1, qevs2, qevo1, qevo2, qevi1, qevi4, qexec1, qexec2, qexec3, qexec4, qexec5, qexec6, qexec7, qexec8, qexec9, qexec10, qexec11, qexec12, qexec13, qexec14, qexec15, qexec16, qexec17, qexec18, qexecs1, qexecs2, Res.bind, Res.go, lift, liftS, binD, cmpD, truth_bl, truth_int, truth_str, dr_non, dr_bl, dr_int, dr_str, dr_tup, dr_lst, dr_fn, bltD, lenD, isiD, slcD, seqD, bindD, wipeD, srcOf, sameAt, SL, Nat.reduceLeDiff, eq_int, eq_str, eq_bl, List.map_cons, List.map_nil, List.length_cons, List.length_nil, List.cons_append, List.nil_append, List.append_nil, List.getElem?_cons_zero, List.getElem?_cons_succ, List.set_cons_zero, List.set_cons_succ, List.replicate_succ, List.replicate_zero, Option.some.injEq, Option.map_some, Option.bind_some, Nat.reduceAdd, Nat.reduceSub, if_true, if_false, Bool.not_true, Bool.not_false, Bool.and_true, Bool.true_and, Bool.false_eq_true, reduceIte, Nat.zero_add]
    have r1 := evi_0n r0 (by omega)
    have r2 : rngD 0 others.length = (List.range others.length).map fun i : Nat => D.int (0 + (i : Int)) := rfl
    simp [runF, qev1, qev2, qev3, qev4, qev5, qev6, qev7, qev8, qev9, qev10, qev11, qev12, qev13, qev14, qev15, qev16, qev17, qev18, qev19, qev20, qev21, qevs1, qevs2, qevo1, qevo2, qevi1, qevi4, qexec1, qexec2, qexec3, qexec4, qexec5, qexec6, qexec7, qexec8, qexec9, qexec10, qexec11, qexec12, qexec13, qexec14, qexec15, qexec16, qexec17, qexec18, qexecs1, qexecs2, Res.bind, Res.go, lift, liftS, binD, cmpD, truth_bl, truth_int, truth_str, dr_non, dr_bl, dr_int, dr_str, dr_tup, dr_lst, dr_fn, bltD, lenD, isiD, slcD, seqD, bindD, wipeD, srcOf, sameAt, SL, Nat.reduceLeDiff, eq_int, eq_str, eq_bl, List.map_cons, List.map_nil, List.length_cons, List.length_nil, List.cons_append, List.nil_append, List.append_nil, List.getElem?_cons_zero, List.getElem?_cons_succ, List.set_cons_zero, List.set_cons_succ, List.replicate_succ, List.replicate_zero, Option.some.injEq, Option.map_some, Option.bind_some, Nat.reduceAdd, Nat.reduceSub, if_true, if_false, Bool.not_true, Bool.not_false, Bool.and_true, Bool.true_and, Bool.false_eq_true, reduceIte, Nat.zero_add, r1, r2]
    rw [comp_fm (fun i : Nat => D.int (i : Int)) (fun i => decide (0 < mixedI s (k + 50 + 3 * (i : Int)) 3)) (fun i => .str (others.getD i [])) rfl (List.range others.length)]
    · have ef : ((List.range others.length).filter fun i : Nat => decide (0 < mixedI s (k + 50 + 3 * (i : Int)) 3)).map (fun i => D.str (others.getD i [])) = nm (foundOf others s k) := by
        unfold foundOf nm
        rw [List.map_map]
        rfl
      rw [ef]
      unfold someOf
      rw [ho]
      by_cases hl : ((foundOf others s k).length : Int) < l
      · simp [runF, qev1, qev2, qev3, qev4, qev5, qev6, qev7, qev8, qev9, qev10, qev11, qev12, qev13, qev14, qev15, qev16, qev17, qev18, qev19, qev20, qev21, qevs1, qevs2, qevo1, qevo2, qevi1, qevi4, qexec1, qexec2, qexec3, qexec4, qexec5, qexec6, qexec7, qexec8, qexec9, qexec10, qexec11, qexec12, qexec13, qexec14, qexec15, qexec16, qexec17, qexec18, qexecs1, qexecs2, Res.bind, Res.go, lift, liftS, binD, cmpD, truth_bl, truth_int, truth_str, dr_non, dr_bl, dr_int, dr_str, dr_tup, dr_lst, dr_fn, bltD, lenD, isiD, slcD, seqD, bindD, wipeD, srcOf, sameAt, SL, Nat.reduceLeDiff, eq_int, eq_str, eq_bl, List.map_cons, List.map_nil, List.length_cons, List.length_nil, List.cons_append, List.nil_append, List.append_nil, List.getElem?_cons_zero, List.getElem?_cons_succ, List.set_cons_zero, List.set_cons_succ, List.replicate_succ, List.replicate_zero, Option.some.injEq, Option.map_some, Option.bind_some, Nat.reduceAdd, Nat.reduceSub, if_true, if_false, Bool.not_true, Bool.not_false, Bool.and_true, Bool.true_and, Bool.false_eq_true, reduceIte, Nat.zero_add, hl, cut_hi, List.map_take]
      · simp [runF, qev1, qev2, qev3, qev4, qev5, qev6, qev7, qev8, qev9, qev10, qev11, qev12, qev13, qev14, qev15, qev16, qev17, qev18, qev19, qev20, qev21, qevs1, qevs2, qevo1, qevo2, qevi1, qevi4, qexec1, qexec2, qexec3, qexec4, qexec5, qexec6, qexec7, qexec8, qexec9, qexec10, qexec11, qexec12, qexec13, qexec14, qexec15, qexec16, qexec17, qexec18, qexecs1, qexecs2, Res.bind, Res.go, lift, liftS, binD, cmpD, truth_bl, truth_int, truth_str, dr_non, dr_bl, dr_int, dr_str, dr_tup, dr_lst, dr_fn, bltD, lenD, isiD, slcD, seqD, bindD, wipeD, srcOf, sameAt, SL, Nat.reduceLeDiff, eq_int, eq_str, eq_bl, List.map_cons, List.map_nil, List.length_cons, List.length_nil, List.cons_append, List.nil_append, List.append_nil, List.getElem?_cons_zero, List.getElem?_cons_succ, List.set_cons_zero, List.set_cons_succ, List.replicate_succ, List.replicate_zero, Option.some.injEq, Option.map_some, Option.bind_some, Nat.reduceAdd, Nat.reduceSub, if_true, if_false, Bool.not_true, Bool.not_false, Bool.and_true, Bool.true_and, Bool.false_eq_true, reduceIte, Nat.zero_add, hl, cut_hi, List.map_take]
    · intro i hi
      rw [List.mem_range] at hi
      have m1 : mulOk 3 (i : Int) = true := small_l (by omega) (by omega)
      have m2 := hM s (k + 50 + 3 * (i : Int)) 3 (by omega) (by omega) (by omega)
      have g1 : idxD (.lst (nm others)) (.int (i : Int)) = some (.str (others.getD i [])) := get_nm (by omega) (by omega)
      simp only [List.getD_eq_getElem?_getD, Int.toNat_natCast] at g1
      refine ⟨_, rfl, ⟨.bl (decide (0 < mixedI s (k + 50 + 3 * (i : Int)) 3)), by simp [runF, qev1, qev2, qev3, qev4, qev5, qev6, qev7, qev8, qev9, qev10, qev11, qev12, qev13, qev14, qev15, qev16, qev17, qev18, qev19, qev20, qev21, qevs1, qevs2, qevo1, qevo2, qevi1, qevi4, qexec1, qexec2, qexec3, qexec4, qexec5, qexec6, qexec7, qexec8, qexec9, qexec10, qexec11, qexec12, qexec13, qexec14, qexec15, qexec16, qexec17, qexec18, qexecs1, qexecs2, Res.bind, Res.go, lift, liftS, binD, cmpD, truth_bl, truth_int, truth_str, dr_non, dr_bl, dr_int, dr_str, dr_tup, dr_lst, dr_fn, bltD, lenD, isiD, slcD, seqD, bindD, wipeD, srcOf, sameAt, SL, Nat.reduceLeDiff, eq_int, eq_str, eq_bl, List.map_cons, List.map_nil, List.length_cons, List.length_nil, List.cons_append, List.nil_append, List.append_nil, List.getElem?_cons_zero, List.getElem?_cons_succ, List.set_cons_zero, List.set_cons_succ, List.replicate_succ, List.replicate_zero, Option.some.injEq, Option.map_some, Option.bind_some, Nat.reduceAdd, Nat.reduceSub, if_true, if_false, Bool.not_true, Bool.not_false, Bool.and_true, Bool.true_and, Bool.false_eq_true, reduceIte, Nat.zero_add, m1, m2], rfl⟩, fun _ => ?_⟩
      simp [runF, qev1, qev2, qev3, qev4, qev5, qev6, qev7, qev8, qev9, qev10, qev11, qev12, qev13, qev14, qev15, qev16, qev17, qev18, qev19, qev20, qev21, qevs1, qevs2, qevo1, qevo2, qevi1, qevi4, qexec1, qexec2, qexec3, qexec4, qexec5, qexec6, qexec7, qexec8, qexec9, qexec10, qexec11, qexec12, qexec13, qexec14, qexec15, qexec16, qexec17, qexec18, qexecs1, qexecs2, Res.bind, Res.go, lift, liftS, binD, cmpD, truth_bl, truth_int, truth_str, dr_non, dr_bl, dr_int, dr_str, dr_tup, dr_lst, dr_fn, bltD, lenD, isiD, slcD, seqD, bindD, wipeD, srcOf, sameAt, SL, Nat.reduceLeDiff, eq_int, eq_str, eq_bl, List.map_cons, List.map_nil, List.length_cons, List.length_nil, List.cons_append, List.nil_append, List.append_nil, List.getElem?_cons_zero, List.getElem?_cons_succ, List.set_cons_zero, List.set_cons_succ, List.replicate_succ, List.replicate_zero, Option.some.injEq, Option.map_some, Option.bind_some, Nat.reduceAdd, Nat.reduceSub, if_true, if_false, Bool.not_true, Bool.not_false, Bool.and_true, Bool.true_and, Bool.false_eq_true, reduceIte, Nat.zero_add, g1]
  · intro y hy
    exact ⟨_, rfl, ⟨.bl (!(y == a)), by simp [runF, qev1, qev2, qev3, qev4, qev5, qev6, qev7, qev8, qev9, qev10, qev11, qev12, qev13, qev14, qev15, qev16, qev17, qev18, qev19, qev20, qev21, qevs1, qevs2, qevo1, qevo2, qevi1, qevi4, qexec1, qexec2, qexec3, qexec4, qexec5, qexec6, qexec7, qexec8, qexec9, qexec10, qexec11, qexec12, qexec13, qexec14, qexec15, qexec16, qexec17, qexec18, qexecs1, qexecs2, Res.bind, Res.go, lift, liftS, binD, cmpD, truth_bl, truth_int, truth_str, dr_non, dr_bl, dr_int, dr_str, dr_tup, dr_lst, dr_fn, bltD, lenD, isiD, slcD, seqD, bindD, wipeD, srcOf, sameAt, SL, Nat.reduceLeDiff, eq_int, eq_str, eq_bl, List.map_cons, List.map_nil, List.length_cons, List.length_nil, List.cons_append, List.nil_append, List.append_nil, List.getElem?_cons_zero, List.getElem?_cons_succ, List.set_cons_zero, List.set_cons_succ, List.replicate_succ, List.replicate_zero, Option.some.injEq, Option.map_some, Option.bind_some, Nat.reduceAdd, Nat.reduceSub, if_true, if_false, Bool.not_true, Bool.not_false, Bool.and_true, Bool.true_and, Bool.false_eq_true, reduceIte, Nat.zero_add], rfl⟩, fun _ => by simp [runF, qev1, qev2, qev3, qev4, qev5, qev6, qev7, qev8, qev9, qev10, qev11, qev12, qev13, qev14, qev15, qev16, qev17, qev18, qev19, qev20, qev21, qevs1, qevs2, qevo1, qevo2, qevi1, qevi4, qexec1, qexec2, qexec3, qexec4, qexec5, qexec6, qexec7, qexec8, qexec9, qexec10, qexec11, qexec12, qexec13, qexec14, qexec15, qexec16, qexec17, qexec18, qexecs1, qexecs2, Res.bind, Res.go, lift, liftS, binD, cmpD, truth_bl, truth_int, truth_str, dr_non, dr_bl, dr_int, dr_str, dr_tup, dr_lst, dr_fn, bltD, lenD, isiD, slcD, seqD, bindD, wipeD, srcOf, sameAt, SL, Nat.reduceLeDiff, eq_int, eq_str, eq_bl, List.map_cons, List.map_nil, List.length_cons, List.length_nil, List.cons_append, List.nil_append, List.append_nil, List.getElem?_cons_zero, List.getElem?_cons_succ, List.set_cons_zero, List.set_cons_succ, List.replicate_succ, List.replicate_zero, Option.some.injEq, Option.map_some, Option.bind_some, Nat.reduceAdd, Nat.reduceSub, if_true, if_false, Bool.not_true, Bool.not_false, Bool.and_true, Bool.true_and, Bool.false_eq_true, reduceIte, Nat.zero_add]⟩
theorem pick_lst {ds : List D} {i : Int} (h0 : 0 ≤ i) (h1 : i < ds.length) : ∃ d ∈ ds, idxD (.lst ds) (.int i) = some d := by
  refine ⟨ds.getD i.toNat .non, ?_, idx_lst h0 h1⟩
  rw [List.getD_eq_getElem?_getD, List.getElem?_eq_getElem (by omega)]
  exact List.getElem_mem _
theorem pick_tup {ds : List D} {i : Int} (h0 : 0 ≤ i) (h1 : i < ds.length) : ∃ d ∈ ds, idxD (.tup ds) (.int i) = some d := by
  refine ⟨ds.getD i.toNat .non, ?_, idx_tup h0 h1⟩
  rw [List.getD_eq_getElem?_getD, List.getElem?_eq_getElem (by omega)]
  exact List.getElem_mem _
theorem idx_nm {names : List (List Nat)} {a : List Nat} (h : a ∈ names) : ∃ j : Nat, mthD .index (.lst (nm names)) [.str a] = some (.int j) := by
  have e : ∃ j, (nm names).findIdx? (fun z => eqD z (.str a)) = some j := by
    cases hq : (nm names).findIdx? (fun z => eqD z (.str a)) with
    | some j => exact ⟨j, rfl⟩
    | none =>
      rw [List.findIdx?_eq_none_iff] at hq
      have := hq (.str a) (List.mem_map.mpr ⟨a, h, rfl⟩)
      simp [eqD] at this
  obtain ⟨j, e⟩ := e
  have f : flatL 0 (nm names) = true := flat_strs names
  refine ⟨j, ?_⟩
  show (if flatD 0 (.str a) && flatL 0 (nm names) then ((nm names).findIdx? fun z => eqD z (.str a)).map fun j => D.int j else none) = _
  rw [f, e]
  rfl
theorem p_key {names : List (List Nat)} {a : List Nat} {s n t : Int} (h : a ∈ names) : ∃ v, runF C ⟨5, 6, b__law_key⟩ [.int s, .lst (nm names), .str a, .int n, .int t] st = .ok (.int v) st := by
  obtain ⟨j, hj⟩ := idx_nm h
  have m1 : mulOk 1009 (j : Int) = true := small_l (by omega) (by omega)
  have m2 : mulOk 10007 (n % 100003) = true := small_l (by omega) (by omega)
  have m3 : mulOk 1000003 (t % 100019) = true := small_l (by omega) (by omega)
  exact ⟨_, by simp [b__law_key, runF, qev1, qev2, qev3, qev4, qev5, qev6, qev7, qev8, qev9, qev10, qev11, qev12, qev13, qev14, qev15, qev16, qev17, qev18, qev19, qev20, qev21, qevs1, qevs2, qevo1, qevo2, qevi1, qevi4, qexec1, qexec2, qexec3, qexec4, qexec5, qexec6, qexec7, qexec8, qexec9, qexec10, qexec11, qexec12, qexec13, qexec14, qexec15, qexec16, qexec17, qexec18, qexecs1, qexecs2, Res.bind, Res.go, lift, liftS, binD, cmpD, truth_bl, truth_int, truth_str, dr_non, dr_bl, dr_int, dr_str, dr_tup, dr_lst, dr_fn, bltD, lenD, isiD, slcD, seqD, bindD, wipeD, srcOf, sameAt, SL, Nat.reduceLeDiff, eq_int, eq_str, eq_bl, List.map_cons, List.map_nil, List.length_cons, List.length_nil, List.cons_append, List.nil_append, List.append_nil, List.getElem?_cons_zero, List.getElem?_cons_succ, List.set_cons_zero, List.set_cons_succ, List.replicate_succ, List.replicate_zero, Option.some.injEq, Option.map_some, Option.bind_some, Nat.reduceAdd, Nat.reduceSub, if_true, if_false, Bool.not_true, Bool.not_false, Bool.and_true, Bool.true_and, Bool.false_eq_true, reduceIte, Nat.zero_add, hj, m1, m2, m3]; rfl⟩
def KeyOk (C : CallF) (f : Nat) (names : List (List Nat)) (st : Sto) : Prop := ∀ (a : List Nat) (s n t : Int), a ∈ names → ∃ v, C f [.int s, .lst (nm names), .str a, .int n, .int t] st = .ok (.int v) st
def SomeOk (C : CallF) (f : Nat) (names : List (List Nat)) (st : Sto) : Prop := ∀ (a : List Nat) (s k l : Int), 0 ≤ k → k ≤ 1000 → C f [.lst (nm names), .str a, .int s, .int k, .int l] st = .ok (.tup (nm (someOf names a s k l))) st
def Small (d : D) : Prop :=
  match d with
  | .str s => s.length ≤ 16
  | .int i => -(2 ^ 100) < i ∧ i < 2 ^ 100
  | .tup ds => ∃ l : List (List Nat), ds = nm l ∧ l.length ≤ 64
  | _ => False
structure LetOk (names : List (List Nat)) (ds : List D) : Prop where
  ex : ∃ k a n t r, ds = .str k :: .str a :: .int n :: .int t :: r ∧ a ∈ names ∧ (∀ d ∈ ds, Small d) ∧ r.length ≤ 3 ∧ (k = [98, 105, 100] → ∃ b e h, r = [.int b, e, h])
def Names (names : List (List Nat)) : Prop := (∀ x ∈ names, nameB x = true) ∧ names.length ≤ 40 ∧ 2 ≤ names.length ∧ names.Pairwise fun x y => x < y
theorem name_len {x : List Nat} (h : nameB x = true) : x.length ≤ 8 := by
  cases x with
  | nil => simp
  | cons c r =>
    simp only [nameB, Bool.and_eq_true, decide_eq_true_eq] at h
    exact h.1.1
theorem small_nm {l : List (List Nat)} (h : l.length ≤ 64) : Small (.tup (nm l)) := ⟨l, rfl, h⟩
theorem p_bid_of {fk fm fs : Nat} {names : List (List Nat)} {a : List Nat} {s n t : Int} (hK : KeyOk C fk names st) (hM : MixOk C fm st) (hS : SomeOk C fs names st) (N : Names names) (h : a ∈ names) (hn : -(2 ^ 90) < n ∧ n < 2 ^ 90) (ht : -(2 ^ 90) < t ∧ t < 2 ^ 90) :
    ∃ ds, runF C ⟨5, 8, b__law_bid_of fk fm fs⟩ [.int s, .lst (nm names), .str a, .int n, .int t] st = .ok (.tup ds) st ∧ LetOk names ds := by
  obtain ⟨v, hv⟩ := hK a s n t h
  have sa : a.length ≤ 16 := Nat.le_trans (name_len (N.1 a h)) (by omega)
  have x1 := hM v 1 6 (by omega) (by omega) (by omega)
  have x2 := hM v 2 4001 (by omega) (by omega) (by omega)
  have x3 := hM v 3 5 (by omega) (by omega) (by omega)
  have x5 := hM v 5 3 (by omega) (by omega) (by omega)
  have b2 := mixed_bd v 2 (m := 4001) (by omega)
  have b5 := mixed_bd v 5 (m := 3) (by omega)
  obtain ⟨w, hw, p5⟩ := pick_lst (ds := [.int 1, .int 30, .int 3000]) b5.1 (by simpa using b5.2)
  have x6 := hS a v 6 1 (by omega) (by omega)
  by_cases c1 : 1 < t ∧ mixedI v 1 6 = 1
  · refine ⟨[.str [111, 102, 102], .str a, .int n, .int t], by simp [b__law_bid_of, runF, qev1, qev2, qev3, qev4, qev5, qev6, qev7, qev8, qev9, qev10, qev11, qev12, qev13, qev14, qev15, qev16, qev17, qev18, qev19, qev20, qev21, qevs1, qevs2, qevo1, qevo2, qevi1, qevi4, qexec1, qexec2, qexec3, qexec4, qexec5, qexec6, qexec7, qexec8, qexec9, qexec10, qexec11, qexec12, qexec13, qexec14, qexec15, qexec16, qexec17, qexec18, qexecs1, qexecs2, Res.bind, Res.go, lift, liftS, binD, cmpD, truth_bl, truth_int, truth_str, dr_non, dr_bl, dr_int, dr_str, dr_tup, dr_lst, dr_fn, bltD, lenD, isiD, slcD, seqD, bindD, wipeD, srcOf, sameAt, SL, Nat.reduceLeDiff, eq_int, eq_str, eq_bl, List.map_cons, List.map_nil, List.length_cons, List.length_nil, List.cons_append, List.nil_append, List.append_nil, List.getElem?_cons_zero, List.getElem?_cons_succ, List.set_cons_zero, List.set_cons_succ, List.replicate_succ, List.replicate_zero, Option.some.injEq, Option.map_some, Option.bind_some, Nat.reduceAdd, Nat.reduceSub, if_true, if_false, Bool.not_true, Bool.not_false, Bool.and_true, Bool.true_and, Bool.false_eq_true, reduceIte, Nat.zero_add, hv, x1, c1.1, c1.2], ⟨_, a, n, t, [], rfl, h, ?_, by simp, fun e => by simp at e⟩⟩
    intro d hd
    simp only [List.mem_cons, List.not_mem_nil, or_false] at hd
    rcases hd with rfl | rfl | rfl | rfl
    · exact (show 3 ≤ 16 by omega)
    · exact sa
    · exact ⟨by omega, by omega⟩
    · exact ⟨by omega, by omega⟩
  · have hwi : ∃ w' : Int, w = .int w' ∧ 0 < w' ∧ w' ≤ 3000 := by
      simp only [List.mem_cons, List.not_mem_nil, or_false] at hw
      rcases hw with rfl | rfl | rfl
      · exact ⟨1, rfl, by omega, by omega⟩
      · exact ⟨30, rfl, by omega, by omega⟩
      · exact ⟨3000, rfl, by omega, by omega⟩
    obtain ⟨w', rfl, w1, w2⟩ := hwi
    have x4 := hM v 4 w' w1 (by omega) (by omega)
    have b4 := mixed_bd v 4 (m := w') w1
    have mm : ∀ x : Int, mulOk x 1000000000000 = true := fun x => small_r (by omega) (by omega)
    have fin : ∀ b e : Int, -(2 ^ 90) < b → b < 2 ^ 90 → -(2 ^ 90) < e → e < 2 ^ 90 → LetOk names [.str [98, 105, 100], .str a, .int n, .int t, .int b, .int e, .tup (nm (someOf names a v 6 1))] := fun b e h1 h2 h3 h4 => by
      refine ⟨_, a, n, t, _, rfl, h, ?_, by simp, fun _ => ⟨b, _, _, rfl⟩⟩
      intro d hd
      simp only [List.mem_cons, List.not_mem_nil, or_false] at hd
      rcases hd with rfl | rfl | rfl | rfl | rfl | rfl | rfl
      · exact (show 3 ≤ 16 by omega)
      · exact sa
      · exact ⟨by omega, by omega⟩
      · exact ⟨by omega, by omega⟩
      · exact ⟨by omega, by omega⟩
      · exact ⟨by omega, by omega⟩
      · exact small_nm (Nat.le_trans some_ok.1 (by omega))
    by_cases c3 : mixedI v 3 5 = 1
    · refine ⟨_, ?_, fin ((mixedI v 2 4001 - 2000) * 1000000000000) ((mixedI v 2 4001 - 2000) * 1000000000000 + 1 + mixedI v 4 w') (by omega) (by omega) (by omega) (by omega)⟩
      by_cases t1 : 1 < t
      · have c1' : ¬ mixedI v 1 6 = 1 := fun q => c1 ⟨t1, q⟩
        simp [b__law_bid_of, runF, qev1, qev2, qev3, qev4, qev5, qev6, qev7, qev8, qev9, qev10, qev11, qev12, qev13, qev14, qev15, qev16, qev17, qev18, qev19, qev20, qev21, qevs1, qevs2, qevo1, qevo2, qevi1, qevi4, qexec1, qexec2, qexec3, qexec4, qexec5, qexec6, qexec7, qexec8, qexec9, qexec10, qexec11, qexec12, qexec13, qexec14, qexec15, qexec16, qexec17, qexec18, qexecs1, qexecs2, Res.bind, Res.go, lift, liftS, binD, cmpD, truth_bl, truth_int, truth_str, dr_non, dr_bl, dr_int, dr_str, dr_tup, dr_lst, dr_fn, bltD, lenD, isiD, slcD, seqD, bindD, wipeD, srcOf, sameAt, SL, Nat.reduceLeDiff, eq_int, eq_str, eq_bl, List.map_cons, List.map_nil, List.length_cons, List.length_nil, List.cons_append, List.nil_append, List.append_nil, List.getElem?_cons_zero, List.getElem?_cons_succ, List.set_cons_zero, List.set_cons_succ, List.replicate_succ, List.replicate_zero, Option.some.injEq, Option.map_some, Option.bind_some, Nat.reduceAdd, Nat.reduceSub, if_true, if_false, Bool.not_true, Bool.not_false, Bool.and_true, Bool.true_and, Bool.false_eq_true, reduceIte, Nat.zero_add, hv, x1, x2, x3, x4, x5, x6, p5, c1', t1, c3, mm]
      · simp [b__law_bid_of, runF, qev1, qev2, qev3, qev4, qev5, qev6, qev7, qev8, qev9, qev10, qev11, qev12, qev13, qev14, qev15, qev16, qev17, qev18, qev19, qev20, qev21, qevs1, qevs2, qevo1, qevo2, qevi1, qevi4, qexec1, qexec2, qexec3, qexec4, qexec5, qexec6, qexec7, qexec8, qexec9, qexec10, qexec11, qexec12, qexec13, qexec14, qexec15, qexec16, qexec17, qexec18, qexecs1, qexecs2, Res.bind, Res.go, lift, liftS, binD, cmpD, truth_bl, truth_int, truth_str, dr_non, dr_bl, dr_int, dr_str, dr_tup, dr_lst, dr_fn, bltD, lenD, isiD, slcD, seqD, bindD, wipeD, srcOf, sameAt, SL, Nat.reduceLeDiff, eq_int, eq_str, eq_bl, List.map_cons, List.map_nil, List.length_cons, List.length_nil, List.cons_append, List.nil_append, List.append_nil, List.getElem?_cons_zero, List.getElem?_cons_succ, List.set_cons_zero, List.set_cons_succ, List.replicate_succ, List.replicate_zero, Option.some.injEq, Option.map_some, Option.bind_some, Nat.reduceAdd, Nat.reduceSub, if_true, if_false, Bool.not_true, Bool.not_false, Bool.and_true, Bool.true_and, Bool.false_eq_true, reduceIte, Nat.zero_add, hv, x1, x2, x3, x4, x5, x6, p5, t1, c3, mm]
    · refine ⟨_, ?_, fin (mixedI v 2 4001 - 2000) (mixedI v 2 4001 - 2000 + 1 + mixedI v 4 w') (by omega) (by omega) (by omega) (by omega)⟩
      by_cases t1 : 1 < t
      · have c1' : ¬ mixedI v 1 6 = 1 := fun q => c1 ⟨t1, q⟩
        simp [b__law_bid_of, runF, qev1, qev2, qev3, qev4, qev5, qev6, qev7, qev8, qev9, qev10, qev11, qev12, qev13, qev14, qev15, qev16, qev17, qev18, qev19, qev20, qev21, qevs1, qevs2, qevo1, qevo2, qevi1, qevi4, qexec1, qexec2, qexec3, qexec4, qexec5, qexec6, qexec7, qexec8, qexec9, qexec10, qexec11, qexec12, qexec13, qexec14, qexec15, qexec16, qexec17, qexec18, qexecs1, qexecs2, Res.bind, Res.go, lift, liftS, binD, cmpD, truth_bl, truth_int, truth_str, dr_non, dr_bl, dr_int, dr_str, dr_tup, dr_lst, dr_fn, bltD, lenD, isiD, slcD, seqD, bindD, wipeD, srcOf, sameAt, SL, Nat.reduceLeDiff, eq_int, eq_str, eq_bl, List.map_cons, List.map_nil, List.length_cons, List.length_nil, List.cons_append, List.nil_append, List.append_nil, List.getElem?_cons_zero, List.getElem?_cons_succ, List.set_cons_zero, List.set_cons_succ, List.replicate_succ, List.replicate_zero, Option.some.injEq, Option.map_some, Option.bind_some, Nat.reduceAdd, Nat.reduceSub, if_true, if_false, Bool.not_true, Bool.not_false, Bool.and_true, Bool.true_and, Bool.false_eq_true, reduceIte, Nat.zero_add, hv, x1, x2, x3, x4, x5, x6, p5, c1', t1, c3, mm]
      · simp [b__law_bid_of, runF, qev1, qev2, qev3, qev4, qev5, qev6, qev7, qev8, qev9, qev10, qev11, qev12, qev13, qev14, qev15, qev16, qev17, qev18, qev19, qev20, qev21, qevs1, qevs2, qevo1, qevo2, qevi1, qevi4, qexec1, qexec2, qexec3, qexec4, qexec5, qexec6, qexec7, qexec8, qexec9, qexec10, qexec11, qexec12, qexec13, qexec14, qexec15, qexec16, qexec17, qexec18, qexecs1, qexecs2, Res.bind, Res.go, lift, liftS, binD, cmpD, truth_bl, truth_int, truth_str, dr_non, dr_bl, dr_int, dr_str, dr_tup, dr_lst, dr_fn, bltD, lenD, isiD, slcD, seqD, bindD, wipeD, srcOf, sameAt, SL, Nat.reduceLeDiff, eq_int, eq_str, eq_bl, List.map_cons, List.map_nil, List.length_cons, List.length_nil, List.cons_append, List.nil_append, List.append_nil, List.getElem?_cons_zero, List.getElem?_cons_succ, List.set_cons_zero, List.set_cons_succ, List.replicate_succ, List.replicate_zero, Option.some.injEq, Option.map_some, Option.bind_some, Nat.reduceAdd, Nat.reduceSub, if_true, if_false, Bool.not_true, Bool.not_false, Bool.and_true, Bool.true_and, Bool.false_eq_true, reduceIte, Nat.zero_add, hv, x1, x2, x3, x4, x5, x6, p5, t1, c3, mm]
end
end Cal
/-! plain lemmas: letters made -/
namespace Cal
section
variable {C : CallF} {st : Sto}
theorem p_close_of {fk fm fs : Nat} {names : List (List Nat)} {a : List Nat} {s n t : Int} (hK : KeyOk C fk names st) (hM : MixOk C fm st) (hS : SomeOk C fs names st) (N : Names names) (h : a ∈ names) (hn : -(2 ^ 90) < n ∧ n < 2 ^ 90) (ht : -(2 ^ 90) < t ∧ t < 2 ^ 90) :
    ∃ ds, runF C ⟨5, 7, b__law_close_of fk fs fm⟩ [.int s, .lst (nm names), .str a, .int n, .int t] st = .ok (.tup ds) st ∧ LetOk names ds := by
  obtain ⟨v, hv⟩ := hK a s n t h
  have sa : a.length ≤ 16 := Nat.le_trans (name_len (N.1 a h)) (by omega)
  have x1 := hM v 8 4 (by omega) (by omega) (by omega)
  have x6 := hS a v 7 0 (by omega) (by omega)
  have fin : ∀ l : List (List Nat), l.length ≤ 64 → LetOk names [.str [99, 108, 111, 115, 101], .str a, .int n, .int t, .tup (nm l)] := fun l hl => by
    refine ⟨_, a, n, t, _, rfl, h, ?_, by simp, fun e => by simp at e⟩
    intro d hd
    simp only [List.mem_cons, List.not_mem_nil, or_false] at hd
    rcases hd with rfl | rfl | rfl | rfl | rfl
    · exact (show 5 ≤ 16 by omega)
    · exact sa
    · exact ⟨by omega, by omega⟩
    · exact ⟨by omega, by omega⟩
    · exact small_nm hl
  by_cases c : mixedI v 8 4 = 1
  · refine ⟨_, ?_, fin [] (by simp)⟩
    simp [b__law_close_of, runF, qev1, qev2, qev3, qev4, qev5, qev6, qev7, qev8, qev9, qev10, qev11, qev12, qev13, qev14, qev15, qev16, qev17, qev18, qev19, qev20, qev21, qevs1, qevs2, qevo1, qevo2, qevi1, qevi4, qexec1, qexec2, qexec3, qexec4, qexec5, qexec6, qexec7, qexec8, qexec9, qexec10, qexec11, qexec12, qexec13, qexec14, qexec15, qexec16, qexec17, qexec18, qexecs1, qexecs2, Res.bind, Res.go, lift, liftS, binD, cmpD, truth_bl, truth_int, truth_str, dr_non, dr_bl, dr_int, dr_str, dr_tup, dr_lst, dr_fn, bltD, lenD, isiD, slcD, seqD, bindD, wipeD, srcOf, sameAt, SL, Nat.reduceLeDiff, eq_int, eq_str, eq_bl, List.map_cons, List.map_nil, List.length_cons, List.length_nil, List.cons_append, List.nil_append, List.append_nil, List.getElem?_cons_zero, List.getElem?_cons_succ, List.set_cons_zero, List.set_cons_succ, List.replicate_succ, List.replicate_zero, Option.some.injEq, Option.map_some, Option.bind_some, Nat.reduceAdd, Nat.reduceSub, if_true, if_false, Bool.not_true, Bool.not_false, Bool.and_true, Bool.true_and, Bool.false_eq_true, reduceIte, Nat.zero_add, hv, x1, x6, c]
  · refine ⟨_, ?_, fin (someOf names a v 7 0) (Nat.le_trans some_ok.1 (by omega))⟩
    simp [b__law_close_of, runF, qev1, qev2, qev3, qev4, qev5, qev6, qev7, qev8, qev9, qev10, qev11, qev12, qev13, qev14, qev15, qev16, qev17, qev18, qev19, qev20, qev21, qevs1, qevs2, qevo1, qevo2, qevi1, qevi4, qexec1, qexec2, qexec3, qexec4, qexec5, qexec6, qexec7, qexec8, qexec9, qexec10, qexec11, qexec12, qexec13, qexec14, qexec15, qexec16, qexec17, qexec18, qexecs1, qexecs2, Res.bind, Res.go, lift, liftS, binD, cmpD, truth_bl, truth_int, truth_str, dr_non, dr_bl, dr_int, dr_str, dr_tup, dr_lst, dr_fn, bltD, lenD, isiD, slcD, seqD, bindD, wipeD, srcOf, sameAt, SL, Nat.reduceLeDiff, eq_int, eq_str, eq_bl, List.map_cons, List.map_nil, List.length_cons, List.length_nil, List.cons_append, List.nil_append, List.append_nil, List.getElem?_cons_zero, List.getElem?_cons_succ, List.set_cons_zero, List.set_cons_succ, List.replicate_succ, List.replicate_zero, Option.some.injEq, Option.map_some, Option.bind_some, Nat.reduceAdd, Nat.reduceSub, if_true, if_false, Bool.not_true, Bool.not_false, Bool.and_true, Bool.true_and, Bool.false_eq_true, reduceIte, Nat.zero_add, hv, x1, x6, c]
theorem two_of {names : List (List Nat)} (N : Names names) : ∃ x ∈ names, ∃ y ∈ names, x ≠ y := by
  obtain ⟨_, _, h2, hp⟩ := N
  match names, h2, hp with
  | x :: y :: r, _, hp =>
    refine ⟨x, by simp, y, by simp, fun e => ?_⟩
    have := (List.pairwise_cons.mp hp).1 y (by simp)
    rw [e] at this
    exact List.lt_irrefl _ this
theorem p_answer_of {fk fm : Nat} {names : List (List Nat)} {a : List Nat} {s n t c : Int} (hK : KeyOk C fk names st) (hM : MixOk C fm st) (N : Names names) (h : a ∈ names) (hn : -(2 ^ 90) < n ∧ n < 2 ^ 90) (ht : -(2 ^ 90) < t ∧ t < 2 ^ 90) :
    ∃ ds, runF C ⟨6, 11, b__law_answer_of fm fk⟩ [.int s, .lst (nm names), .str a, .int n, .int t, .int c] st = .ok (.tup ds) st ∧ LetOk names ds := by
  obtain ⟨v, hv⟩ := hK a s n t h
  have sa : a.length ≤ 16 := Nat.le_trans (name_len (N.1 a h)) (by omega)
  have lo : 0 < (othersOf names a).length := others_ne (two_of N)
  have x1 := hM c 9 (othersOf names a).length (by omega) (by omega) (by omega)
  have b1 := mixed_bd c 9 (m := (othersOf names a).length) (by omega)
  have g1 := get_nm b1.1 b1.2
  have hin : (othersOf names a).getD (mixedI c 9 (othersOf names a).length).toNat [] ∈ names := others_sub (getD_mem (by omega))
  generalize hh : (othersOf names a).getD (mixedI c 9 (othersOf names a).length).toNat [] = hd at *
  obtain ⟨j, hj⟩ := idx_nm hin
  have sh : hd.length ≤ 16 := Nat.le_trans (name_len (N.1 hd hin)) (by omega)
  have x2 := hM c 10 3 (by omega) (by omega) (by omega)
  have b2 := mixed_bd c 10 (m := 3) (by omega)
  have x3 := hM c 11 9 (by omega) (by omega) (by omega)
  have m1 : mulOk 17 (j : Int) = true := small_l (by omega) (by omega)
  have m2 : ∀ x, mulOk x 131 = true := fun x => small_r (by omega) (by omega)
  have fin : ∀ (g : Int) (w : D), -(2 ^ 90) < g → g < 2 ^ 90 → Small w → LetOk names [.str [97, 110, 115, 119, 101, 114], .str a, .int n, .int t, .str hd, .int g, w] := fun g w h1 h2 h3 => by
    refine ⟨_, a, n, t, _, rfl, h, ?_, by simp, fun e => by simp at e⟩
    intro d hd
    simp only [List.mem_cons, List.not_mem_nil, or_false] at hd
    rcases hd with rfl | rfl | rfl | rfl | rfl | rfl | rfl
    · exact (show 6 ≤ 16 by omega)
    · exact sa
    · exact ⟨by omega, by omega⟩
    · exact ⟨by omega, by omega⟩
    · exact sh
    · exact ⟨by omega, by omega⟩
    · exact h3
  have yn : ∀ z : Int, ∃ w, C fm [.int z, .int 12, .int 3] st = .ok (.int (mixedI z 12 3)) st ∧ idxD (.lst [.str [121, 101, 115], .str [110, 111], .str [121, 101, 115]]) (.int (mixedI z 12 3)) = some w ∧ Small w := fun z => by
    have b := mixed_bd z 12 (m := 3) (by omega)
    obtain ⟨w, hw, p⟩ := pick_lst (ds := [.str [121, 101, 115], .str [110, 111], .str [121, 101, 115]]) b.1 (by simpa using b.2)
    refine ⟨w, hM z 12 3 (by omega) (by omega) (by omega), p, ?_⟩
    simp only [List.mem_cons, List.not_mem_nil, or_false] at hw
    rcases hw with rfl | rfl | rfl
    · exact (show 3 ≤ 16 by omega)
    · exact (show 2 ≤ 16 by omega)
    · exact (show 3 ≤ 16 by omega)
  by_cases c3 : mixedI c 11 9 = 1
  · obtain ⟨w, y1, y2, y3⟩ := yn (v + 17 * j + (1000000000 + mixedI c 10 3) * 131)
    refine ⟨_, ?_, fin (1000000000 + mixedI c 10 3) w (by omega) (by omega) y3⟩
    simp [b__law_answer_of, runF, qev1, qev2, qev3, qev4, qev5, qev6, qev7, qev8, qev9, qev10, qev11, qev12, qev13, qev14, qev15, qev16, qev17, qev18, qev19, qev20, qev21, qevs1, qevs2, qevo1, qevo2, qevi1, qevi4, qexec1, qexec2, qexec3, qexec4, qexec5, qexec6, qexec7, qexec8, qexec9, qexec10, qexec11, qexec12, qexec13, qexec14, qexec15, qexec16, qexec17, qexec18, qexecs1, qexecs2, Res.bind, Res.go, lift, liftS, binD, cmpD, truth_bl, truth_int, truth_str, dr_non, dr_bl, dr_int, dr_str, dr_tup, dr_lst, dr_fn, bltD, lenD, isiD, slcD, seqD, bindD, wipeD, srcOf, sameAt, SL, Nat.reduceLeDiff, eq_int, eq_str, eq_bl, List.map_cons, List.map_nil, List.length_cons, List.length_nil, List.cons_append, List.nil_append, List.append_nil, List.getElem?_cons_zero, List.getElem?_cons_succ, List.set_cons_zero, List.set_cons_succ, List.replicate_succ, List.replicate_zero, Option.some.injEq, Option.map_some, Option.bind_some, Nat.reduceAdd, Nat.reduceSub, if_true, if_false, Bool.not_true, Bool.not_false, Bool.and_true, Bool.true_and, Bool.false_eq_true, reduceIte, Nat.zero_add]
    rw [comp_fm D.str (fun x => !(x == a)) D.str rfl names]
    · rw [show names.filter (fun x => !(x == a)) = othersOf names a from rfl]
      simp [runF, qev1, qev2, qev3, qev4, qev5, qev6, qev7, qev8, qev9, qev10, qev11, qev12, qev13, qev14, qev15, qev16, qev17, qev18, qev19, qev20, qev21, qevs1, qevs2, qevo1, qevo2, qevi1, qevi4, qexec1, qexec2, qexec3, qexec4, qexec5, qexec6, qexec7, qexec8, qexec9, qexec10, qexec11, qexec12, qexec13, qexec14, qexec15, qexec16, qexec17, qexec18, qexecs1, qexecs2, Res.bind, Res.go, lift, liftS, binD, cmpD, truth_bl, truth_int, truth_str, dr_non, dr_bl, dr_int, dr_str, dr_tup, dr_lst, dr_fn, bltD, lenD, isiD, slcD, seqD, bindD, wipeD, srcOf, sameAt, SL, Nat.reduceLeDiff, eq_int, eq_str, eq_bl, List.map_cons, List.map_nil, List.length_cons, List.length_nil, List.cons_append, List.nil_append, List.append_nil, List.getElem?_cons_zero, List.getElem?_cons_succ, List.set_cons_zero, List.set_cons_succ, List.replicate_succ, List.replicate_zero, Option.some.injEq, Option.map_some, Option.bind_some, Nat.reduceAdd, Nat.reduceSub, if_true, if_false, Bool.not_true, Bool.not_false, Bool.and_true, Bool.true_and, Bool.false_eq_true, reduceIte, Nat.zero_add, x1, g1, hj, x2, x3, c3, hv, m1, m2, y1, y2]
    · intro y hy
      exact ⟨_, rfl, ⟨.bl (!(y == a)), by simp [runF, qev1, qev2, qev3, qev4, qev5, qev6, qev7, qev8, qev9, qev10, qev11, qev12, qev13, qev14, qev15, qev16, qev17, qev18, qev19, qev20, qev21, qevs1, qevs2, qevo1, qevo2, qevi1, qevi4, qexec1, qexec2, qexec3, qexec4, qexec5, qexec6, qexec7, qexec8, qexec9, qexec10, qexec11, qexec12, qexec13, qexec14, qexec15, qexec16, qexec17, qexec18, qexecs1, qexecs2, Res.bind, Res.go, lift, liftS, binD, cmpD, truth_bl, truth_int, truth_str, dr_non, dr_bl, dr_int, dr_str, dr_tup, dr_lst, dr_fn, bltD, lenD, isiD, slcD, seqD, bindD, wipeD, srcOf, sameAt, SL, Nat.reduceLeDiff, eq_int, eq_str, eq_bl, List.map_cons, List.map_nil, List.length_cons, List.length_nil, List.cons_append, List.nil_append, List.append_nil, List.getElem?_cons_zero, List.getElem?_cons_succ, List.set_cons_zero, List.set_cons_succ, List.replicate_succ, List.replicate_zero, Option.some.injEq, Option.map_some, Option.bind_some, Nat.reduceAdd, Nat.reduceSub, if_true, if_false, Bool.not_true, Bool.not_false, Bool.and_true, Bool.true_and, Bool.false_eq_true, reduceIte, Nat.zero_add], rfl⟩, fun _ => by simp [runF, qev1, qev2, qev3, qev4, qev5, qev6, qev7, qev8, qev9, qev10, qev11, qev12, qev13, qev14, qev15, qev16, qev17, qev18, qev19, qev20, qev21, qevs1, qevs2, qevo1, qevo2, qevi1, qevi4, qexec1, qexec2, qexec3, qexec4, qexec5, qexec6, qexec7, qexec8, qexec9, qexec10, qexec11, qexec12, qexec13, qexec14, qexec15, qexec16, qexec17, qexec18, qexecs1, qexecs2, Res.bind, Res.go, lift, liftS, binD, cmpD, truth_bl, truth_int, truth_str, dr_non, dr_bl, dr_int, dr_str, dr_tup, dr_lst, dr_fn, bltD, lenD, isiD, slcD, seqD, bindD, wipeD, srcOf, sameAt, SL, Nat.reduceLeDiff, eq_int, eq_str, eq_bl, List.map_cons, List.map_nil, List.length_cons, List.length_nil, List.cons_append, List.nil_append, List.append_nil, List.getElem?_cons_zero, List.getElem?_cons_succ, List.set_cons_zero, List.set_cons_succ, List.replicate_succ, List.replicate_zero, Option.some.injEq, Option.map_some, Option.bind_some, Nat.reduceAdd, Nat.reduceSub, if_true, if_false, Bool.not_true, Bool.not_false, Bool.and_true, Bool.true_and, Bool.false_eq_true, reduceIte, Nat.zero_add]⟩
  · obtain ⟨w, y1, y2, y3⟩ := yn (v + 17 * j + (mixedI c 10 3) * 131)
    refine ⟨_, ?_, fin (mixedI c 10 3) w (by omega) (by omega) y3⟩
    simp [b__law_answer_of, runF, qev1, qev2, qev3, qev4, qev5, qev6, qev7, qev8, qev9, qev10, qev11, qev12, qev13, qev14, qev15, qev16, qev17, qev18, qev19, qev20, qev21, qevs1, qevs2, qevo1, qevo2, qevi1, qevi4, qexec1, qexec2, qexec3, qexec4, qexec5, qexec6, qexec7, qexec8, qexec9, qexec10, qexec11, qexec12, qexec13, qexec14, qexec15, qexec16, qexec17, qexec18, qexecs1, qexecs2, Res.bind, Res.go, lift, liftS, binD, cmpD, truth_bl, truth_int, truth_str, dr_non, dr_bl, dr_int, dr_str, dr_tup, dr_lst, dr_fn, bltD, lenD, isiD, slcD, seqD, bindD, wipeD, srcOf, sameAt, SL, Nat.reduceLeDiff, eq_int, eq_str, eq_bl, List.map_cons, List.map_nil, List.length_cons, List.length_nil, List.cons_append, List.nil_append, List.append_nil, List.getElem?_cons_zero, List.getElem?_cons_succ, List.set_cons_zero, List.set_cons_succ, List.replicate_succ, List.replicate_zero, Option.some.injEq, Option.map_some, Option.bind_some, Nat.reduceAdd, Nat.reduceSub, if_true, if_false, Bool.not_true, Bool.not_false, Bool.and_true, Bool.true_and, Bool.false_eq_true, reduceIte, Nat.zero_add]
    rw [comp_fm D.str (fun x => !(x == a)) D.str rfl names]
    · rw [show names.filter (fun x => !(x == a)) = othersOf names a from rfl]
      simp [runF, qev1, qev2, qev3, qev4, qev5, qev6, qev7, qev8, qev9, qev10, qev11, qev12, qev13, qev14, qev15, qev16, qev17, qev18, qev19, qev20, qev21, qevs1, qevs2, qevo1, qevo2, qevi1, qevi4, qexec1, qexec2, qexec3, qexec4, qexec5, qexec6, qexec7, qexec8, qexec9, qexec10, qexec11, qexec12, qexec13, qexec14, qexec15, qexec16, qexec17, qexec18, qexecs1, qexecs2, Res.bind, Res.go, lift, liftS, binD, cmpD, truth_bl, truth_int, truth_str, dr_non, dr_bl, dr_int, dr_str, dr_tup, dr_lst, dr_fn, bltD, lenD, isiD, slcD, seqD, bindD, wipeD, srcOf, sameAt, SL, Nat.reduceLeDiff, eq_int, eq_str, eq_bl, List.map_cons, List.map_nil, List.length_cons, List.length_nil, List.cons_append, List.nil_append, List.append_nil, List.getElem?_cons_zero, List.getElem?_cons_succ, List.set_cons_zero, List.set_cons_succ, List.replicate_succ, List.replicate_zero, Option.some.injEq, Option.map_some, Option.bind_some, Nat.reduceAdd, Nat.reduceSub, if_true, if_false, Bool.not_true, Bool.not_false, Bool.and_true, Bool.true_and, Bool.false_eq_true, reduceIte, Nat.zero_add, x1, g1, hj, x2, x3, c3, hv, m1, m2, y1, y2]
    · intro y hy
      exact ⟨_, rfl, ⟨.bl (!(y == a)), by simp [runF, qev1, qev2, qev3, qev4, qev5, qev6, qev7, qev8, qev9, qev10, qev11, qev12, qev13, qev14, qev15, qev16, qev17, qev18, qev19, qev20, qev21, qevs1, qevs2, qevo1, qevo2, qevi1, qevi4, qexec1, qexec2, qexec3, qexec4, qexec5, qexec6, qexec7, qexec8, qexec9, qexec10, qexec11, qexec12, qexec13, qexec14, qexec15, qexec16, qexec17, qexec18, qexecs1, qexecs2, Res.bind, Res.go, lift, liftS, binD, cmpD, truth_bl, truth_int, truth_str, dr_non, dr_bl, dr_int, dr_str, dr_tup, dr_lst, dr_fn, bltD, lenD, isiD, slcD, seqD, bindD, wipeD, srcOf, sameAt, SL, Nat.reduceLeDiff, eq_int, eq_str, eq_bl, List.map_cons, List.map_nil, List.length_cons, List.length_nil, List.cons_append, List.nil_append, List.append_nil, List.getElem?_cons_zero, List.getElem?_cons_succ, List.set_cons_zero, List.set_cons_succ, List.replicate_succ, List.replicate_zero, Option.some.injEq, Option.map_some, Option.bind_some, Nat.reduceAdd, Nat.reduceSub, if_true, if_false, Bool.not_true, Bool.not_false, Bool.and_true, Bool.true_and, Bool.false_eq_true, reduceIte, Nat.zero_add], rfl⟩, fun _ => by simp [runF, qev1, qev2, qev3, qev4, qev5, qev6, qev7, qev8, qev9, qev10, qev11, qev12, qev13, qev14, qev15, qev16, qev17, qev18, qev19, qev20, qev21, qevs1, qevs2, qevo1, qevo2, qevi1, qevi4, qexec1, qexec2, qexec3, qexec4, qexec5, qexec6, qexec7, qexec8, qexec9, qexec10, qexec11, qexec12, qexec13, qexec14, qexec15, qexec16, qexec17, qexec18, qexecs1, qexecs2, Res.bind, Res.go, lift, liftS, binD, cmpD, truth_bl, truth_int, truth_str, dr_non, dr_bl, dr_int, dr_str, dr_tup, dr_lst, dr_fn, bltD, lenD, isiD, slcD, seqD, bindD, wipeD, srcOf, sameAt, SL, Nat.reduceLeDiff, eq_int, eq_str, eq_bl, List.map_cons, List.map_nil, List.length_cons, List.length_nil, List.cons_append, List.nil_append, List.append_nil, List.getElem?_cons_zero, List.getElem?_cons_succ, List.set_cons_zero, List.set_cons_succ, List.replicate_succ, List.replicate_zero, Option.some.injEq, Option.map_some, Option.bind_some, Nat.reduceAdd, Nat.reduceSub, if_true, if_false, Bool.not_true, Bool.not_false, Bool.and_true, Bool.true_and, Bool.false_eq_true, reduceIte, Nat.zero_add]⟩
def MakeOk (C : CallF) (f : Nat) (names : List (List Nat)) (st : Sto) : Prop := ∀ (a : List Nat) (s n t : Int), a ∈ names → (-(2 ^ 90) < n ∧ n < 2 ^ 90) → (-(2 ^ 90) < t ∧ t < 2 ^ 90) → ∃ ds, C f [.int s, .lst (nm names), .str a, .int n, .int t] st = .ok (.tup ds) st ∧ LetOk names ds
def MakeOk6 (C : CallF) (f : Nat) (names : List (List Nat)) (st : Sto) : Prop := ∀ (a : List Nat) (s n t c : Int), a ∈ names → (-(2 ^ 90) < n ∧ n < 2 ^ 90) → (-(2 ^ 90) < t ∧ t < 2 ^ 90) → ∃ ds, C f [.int s, .lst (nm names), .str a, .int n, .int t, .int c] st = .ok (.tup ds) st ∧ LetOk names ds
theorem p_letter_by {fm fb fc fa : Nat} {names : List (List Nat)} {c s : Int} (hM : MixOk C fm st) (hB : MakeOk C fb names st) (hC : MakeOk C fc names st) (hA : MakeOk6 C fa names st) (N : Names names) :
    ∃ ds, runF C ⟨3, 7, b__law_letter_by fm fb fc fa⟩ [.int c, .int s, .lst (nm names)] st = .ok (.tup ds) st ∧ LetOk names ds := by
  have n2 := N.2.2.1
  have mn : (if (names.length : Int) < 3 then (names.length : Int) else 3) = min (names.length : Int) 3 := by split <;> omega
  have x13 := hM c 13 (min (names.length : Int) 3) (by omega) (by omega) (by omega)
  have b13 := mixed_bd c 13 (m := min (names.length : Int) 3) (by omega)
  have g1 := get_nm (l := names) b13.1 (by omega)
  have hin : names.getD (mixedI c 13 (min (names.length : Int) 3)).toNat [] ∈ names := getD_mem (by omega)
  generalize hh : names.getD (mixedI c 13 (min (names.length : Int) 3)).toNat [] = a at *
  have x14 := hM c 14 5 (by omega) (by omega) (by omega)
  have b14 := mixed_bd c 14 (m := 5) (by omega)
  obtain ⟨w, hw, p14⟩ := pick_lst (ds := [.int 0, .int 0, .int 1, .int 2, .int 1000000000]) b14.1 (by simpa using b14.2)
  have hwi : ∃ w' : Int, w = .int w' ∧ 0 ≤ w' ∧ w' ≤ 1000000000 := by
    simp only [List.mem_cons, List.not_mem_nil, or_false] at hw
    rcases hw with rfl | rfl | rfl | rfl | rfl <;> exact ⟨_, rfl, by omega, by omega⟩
  obtain ⟨n, rfl, n1, n3⟩ := hwi
  have x16 := hM c 16 3 (by omega) (by omega) (by omega)
  have b16 := mixed_bd c 16 (m := 3) (by omega)
  obtain ⟨u, hu, p16⟩ := pick_lst (ds := [.int 1, .int 2, .int 3]) b16.1 (by simpa using b16.2)
  have hui : ∃ w' : Int, u = .int w' ∧ 0 < w' ∧ w' ≤ 3 := by
    simp only [List.mem_cons, List.not_mem_nil, or_false] at hu
    rcases hu with rfl | rfl | rfl <;> exact ⟨_, rfl, by omega, by omega⟩
  obtain ⟨u', rfl, u1, u2⟩ := hui
  have x15 := hM c 15 u' u1 (by omega) (by omega)
  have b15 := mixed_bd c 15 (m := u') u1
  have x17 := hM c 17 30 (by omega) (by omega) (by omega)
  have x18 := hM c 18 9 (by omega) (by omega) (by omega)
  have key : ∀ t : Int, (-(2 ^ 90) < t ∧ t < 2 ^ 90) → (∀ ds, ((mixedI c 18 9 < 3 → C fb [.int s, .lst (nm names), .str a, .int n, .int t] st = .ok (.tup ds) st) ∧ (¬ mixedI c 18 9 < 3 → mixedI c 18 9 = 3 → C fc [.int s, .lst (nm names), .str a, .int n, .int t] st = .ok (.tup ds) st) ∧
      (¬ mixedI c 18 9 < 3 → ¬ mixedI c 18 9 = 3 → C fa [.int s, .lst (nm names), .str a, .int n, .int t, .int c] st = .ok (.tup ds) st)) → runF C ⟨3, 7, b__law_letter_by fm fb fc fa⟩ [.int c, .int s, .lst (nm names)] st = .ok (.tup ds) st) → ∃ ds, runF C ⟨3, 7, b__law_letter_by fm fb fc fa⟩ [.int c, .int s, .lst (nm names)] st = .ok (.tup ds) st ∧ LetOk names ds := fun t ht hr => by
    by_cases c1 : mixedI c 18 9 < 3
    · obtain ⟨ds, e, l⟩ := hB a s n t hin (by omega) ht
      exact ⟨ds, hr ds ⟨fun _ => e, fun q => absurd c1 q, fun q => absurd c1 q⟩, l⟩
    · by_cases c2 : mixedI c 18 9 = 3
      · obtain ⟨ds, e, l⟩ := hC a s n t hin (by omega) ht
        exact ⟨ds, hr ds ⟨fun q => absurd q c1, fun _ _ => e, fun _ q => absurd c2 q⟩, l⟩
      · obtain ⟨ds, e, l⟩ := hA a s n t c hin (by omega) ht
        exact ⟨ds, hr ds ⟨fun q => absurd q c1, fun _ q => absurd q c2, fun _ _ => e⟩, l⟩
  by_cases c17 : mixedI c 17 30 = 1
  · refine key (1000000000 + (1 + mixedI c 15 u')) (by omega) fun ds ⟨q1, q2, q3⟩ => ?_
    by_cases c1 : mixedI c 18 9 < 3
    · simp [b__law_letter_by, runF, qev1, qev2, qev3, qev4, qev5, qev6, qev7, qev8, qev9, qev10, qev11, qev12, qev13, qev14, qev15, qev16, qev17, qev18, qev19, qev20, qev21, qevs1, qevs2, qevo1, qevo2, qevi1, qevi4, qexec1, qexec2, qexec3, qexec4, qexec5, qexec6, qexec7, qexec8, qexec9, qexec10, qexec11, qexec12, qexec13, qexec14, qexec15, qexec16, qexec17, qexec18, qexecs1, qexecs2, Res.bind, Res.go, lift, liftS, binD, cmpD, truth_bl, truth_int, truth_str, dr_non, dr_bl, dr_int, dr_str, dr_tup, dr_lst, dr_fn, bltD, lenD, isiD, slcD, seqD, bindD, wipeD, srcOf, sameAt, SL, Nat.reduceLeDiff, eq_int, eq_str, eq_bl, List.map_cons, List.map_nil, List.length_cons, List.length_nil, List.cons_append, List.nil_append, List.append_nil, List.getElem?_cons_zero, List.getElem?_cons_succ, List.set_cons_zero, List.set_cons_succ, List.replicate_succ, List.replicate_zero, Option.some.injEq, Option.map_some, Option.bind_some, Nat.reduceAdd, Nat.reduceSub, if_true, if_false, Bool.not_true, Bool.not_false, Bool.and_true, Bool.true_and, Bool.false_eq_true, reduceIte, Nat.zero_add, mn, x13, g1, x14, p14, x16, p16, x15, x17, c17, x18, c1, q1 c1]
    · by_cases c2 : mixedI c 18 9 = 3
      · simp [b__law_letter_by, runF, qev1, qev2, qev3, qev4, qev5, qev6, qev7, qev8, qev9, qev10, qev11, qev12, qev13, qev14, qev15, qev16, qev17, qev18, qev19, qev20, qev21, qevs1, qevs2, qevo1, qevo2, qevi1, qevi4, qexec1, qexec2, qexec3, qexec4, qexec5, qexec6, qexec7, qexec8, qexec9, qexec10, qexec11, qexec12, qexec13, qexec14, qexec15, qexec16, qexec17, qexec18, qexecs1, qexecs2, Res.bind, Res.go, lift, liftS, binD, cmpD, truth_bl, truth_int, truth_str, dr_non, dr_bl, dr_int, dr_str, dr_tup, dr_lst, dr_fn, bltD, lenD, isiD, slcD, seqD, bindD, wipeD, srcOf, sameAt, SL, Nat.reduceLeDiff, eq_int, eq_str, eq_bl, List.map_cons, List.map_nil, List.length_cons, List.length_nil, List.cons_append, List.nil_append, List.append_nil, List.getElem?_cons_zero, List.getElem?_cons_succ, List.set_cons_zero, List.set_cons_succ, List.replicate_succ, List.replicate_zero, Option.some.injEq, Option.map_some, Option.bind_some, Nat.reduceAdd, Nat.reduceSub, if_true, if_false, Bool.not_true, Bool.not_false, Bool.and_true, Bool.true_and, Bool.false_eq_true, reduceIte, Nat.zero_add, mn, x13, g1, x14, p14, x16, p16, x15, x17, c17, x18, c1, c2, q2 c1 c2]
      · simp [b__law_letter_by, runF, qev1, qev2, qev3, qev4, qev5, qev6, qev7, qev8, qev9, qev10, qev11, qev12, qev13, qev14, qev15, qev16, qev17, qev18, qev19, qev20, qev21, qevs1, qevs2, qevo1, qevo2, qevi1, qevi4, qexec1, qexec2, qexec3, qexec4, qexec5, qexec6, qexec7, qexec8, qexec9, qexec10, qexec11, qexec12, qexec13, qexec14, qexec15, qexec16, qexec17, qexec18, qexecs1, qexecs2, Res.bind, Res.go, lift, liftS, binD, cmpD, truth_bl, truth_int, truth_str, dr_non, dr_bl, dr_int, dr_str, dr_tup, dr_lst, dr_fn, bltD, lenD, isiD, slcD, seqD, bindD, wipeD, srcOf, sameAt, SL, Nat.reduceLeDiff, eq_int, eq_str, eq_bl, List.map_cons, List.map_nil, List.length_cons, List.length_nil, List.cons_append, List.nil_append, List.append_nil, List.getElem?_cons_zero, List.getElem?_cons_succ, List.set_cons_zero, List.set_cons_succ, List.replicate_succ, List.replicate_zero, Option.some.injEq, Option.map_some, Option.bind_some, Nat.reduceAdd, Nat.reduceSub, if_true, if_false, Bool.not_true, Bool.not_false, Bool.and_true, Bool.true_and, Bool.false_eq_true, reduceIte, Nat.zero_add, mn, x13, g1, x14, p14, x16, p16, x15, x17, c17, x18, c1, c2, q3 c1 c2]
  · refine key (1 + mixedI c 15 u') (by omega) fun ds ⟨q1, q2, q3⟩ => ?_
    by_cases c1 : mixedI c 18 9 < 3
    · simp [b__law_letter_by, runF, qev1, qev2, qev3, qev4, qev5, qev6, qev7, qev8, qev9, qev10, qev11, qev12, qev13, qev14, qev15, qev16, qev17, qev18, qev19, qev20, qev21, qevs1, qevs2, qevo1, qevo2, qevi1, qevi4, qexec1, qexec2, qexec3, qexec4, qexec5, qexec6, qexec7, qexec8, qexec9, qexec10, qexec11, qexec12, qexec13, qexec14, qexec15, qexec16, qexec17, qexec18, qexecs1, qexecs2, Res.bind, Res.go, lift, liftS, binD, cmpD, truth_bl, truth_int, truth_str, dr_non, dr_bl, dr_int, dr_str, dr_tup, dr_lst, dr_fn, bltD, lenD, isiD, slcD, seqD, bindD, wipeD, srcOf, sameAt, SL, Nat.reduceLeDiff, eq_int, eq_str, eq_bl, List.map_cons, List.map_nil, List.length_cons, List.length_nil, List.cons_append, List.nil_append, List.append_nil, List.getElem?_cons_zero, List.getElem?_cons_succ, List.set_cons_zero, List.set_cons_succ, List.replicate_succ, List.replicate_zero, Option.some.injEq, Option.map_some, Option.bind_some, Nat.reduceAdd, Nat.reduceSub, if_true, if_false, Bool.not_true, Bool.not_false, Bool.and_true, Bool.true_and, Bool.false_eq_true, reduceIte, Nat.zero_add, mn, x13, g1, x14, p14, x16, p16, x15, x17, c17, x18, c1, q1 c1]
    · by_cases c2 : mixedI c 18 9 = 3
      · simp [b__law_letter_by, runF, qev1, qev2, qev3, qev4, qev5, qev6, qev7, qev8, qev9, qev10, qev11, qev12, qev13, qev14, qev15, qev16, qev17, qev18, qev19, qev20, qev21, qevs1, qevs2, qevo1, qevo2, qevi1, qevi4, qexec1, qexec2, qexec3, qexec4, qexec5, qexec6, qexec7, qexec8, qexec9, qexec10, qexec11, qexec12, qexec13, qexec14, qexec15, qexec16, qexec17, qexec18, qexecs1, qexecs2, Res.bind, Res.go, lift, liftS, binD, cmpD, truth_bl, truth_int, truth_str, dr_non, dr_bl, dr_int, dr_str, dr_tup, dr_lst, dr_fn, bltD, lenD, isiD, slcD, seqD, bindD, wipeD, srcOf, sameAt, SL, Nat.reduceLeDiff, eq_int, eq_str, eq_bl, List.map_cons, List.map_nil, List.length_cons, List.length_nil, List.cons_append, List.nil_append, List.append_nil, List.getElem?_cons_zero, List.getElem?_cons_succ, List.set_cons_zero, List.set_cons_succ, List.replicate_succ, List.replicate_zero, Option.some.injEq, Option.map_some, Option.bind_some, Nat.reduceAdd, Nat.reduceSub, if_true, if_false, Bool.not_true, Bool.not_false, Bool.and_true, Bool.true_and, Bool.false_eq_true, reduceIte, Nat.zero_add, mn, x13, g1, x14, p14, x16, p16, x15, x17, c17, x18, c1, c2, q2 c1 c2]
      · simp [b__law_letter_by, runF, qev1, qev2, qev3, qev4, qev5, qev6, qev7, qev8, qev9, qev10, qev11, qev12, qev13, qev14, qev15, qev16, qev17, qev18, qev19, qev20, qev21, qevs1, qevs2, qevo1, qevo2, qevi1, qevi4, qexec1, qexec2, qexec3, qexec4, qexec5, qexec6, qexec7, qexec8, qexec9, qexec10, qexec11, qexec12, qexec13, qexec14, qexec15, qexec16, qexec17, qexec18, qexecs1, qexecs2, Res.bind, Res.go, lift, liftS, binD, cmpD, truth_bl, truth_int, truth_str, dr_non, dr_bl, dr_int, dr_str, dr_tup, dr_lst, dr_fn, bltD, lenD, isiD, slcD, seqD, bindD, wipeD, srcOf, sameAt, SL, Nat.reduceLeDiff, eq_int, eq_str, eq_bl, List.map_cons, List.map_nil, List.length_cons, List.length_nil, List.cons_append, List.nil_append, List.append_nil, List.getElem?_cons_zero, List.getElem?_cons_succ, List.set_cons_zero, List.set_cons_succ, List.replicate_succ, List.replicate_zero, Option.some.injEq, Option.map_some, Option.bind_some, Nat.reduceAdd, Nat.reduceSub, if_true, if_false, Bool.not_true, Bool.not_false, Bool.and_true, Bool.true_and, Bool.false_eq_true, reduceIte, Nat.zero_add, mn, x13, g1, x14, p14, x16, p16, x15, x17, c17, x18, c1, c2, q3 c1 c2]
end
end Cal
/-! plain lemmas: letters changed -/
namespace Cal
section
variable {C : CallF} {st : Sto}
theorem flat_nm {l : List (List Nat)} {n : Nat} : flatD (n + 1) (.tup (nm l)) = true := by
  simp only [flatD]
  exact flat_strs l
def baseL (a n0 : List Nat) (p : D) : List D := [.non, .bl true, .str [], .int (-1), .int 0, .int 1, .int 1000000000000000000, .str a, .str n0, .str (n0 ++ [45]), .tup [], p]
theorem base_flat {a n0 : List Nat} {p : D} (h : flatD 3 p = true) : ∀ d ∈ baseL a n0 p, flatD 3 d = true := by
  intro d hd
  simp only [baseL, List.mem_cons, List.not_mem_nil, or_false] at hd
  rcases hd with rfl | rfl | rfl | rfl | rfl | rfl | rfl | rfl | rfl | rfl | rfl | rfl <;> first | rfl | exact h
theorem small_flat {d : D} (h : Small d) : flatD 3 d = true := by
  cases d with
  | str s => rfl
  | int i => rfl
  | tup ds =>
    obtain ⟨l, rfl, _⟩ := h
    exact flat_nm
  | _ => exact h.elim
theorem p_strange {fm fw : Nat} {names : List (List Nat)} {p : D} {k a : List Nat} {r : List D} {c : Int} (hM : MixOk C fm st) (hW : ∀ d, flatD 10 d = true → C fw [d] st = .ok (.bl (wholeB d)) st) (N : Names names) (hp : Small p) (ha : a.length ≤ 16) :
    ∃ d, runF C ⟨4, 9, b__law_strange fm fw⟩ [p, .tup (.str k :: .str a :: r), .lst (nm names), .int c] st = .ok d st ∧ flatD 3 d = true := by
  have x31 := hM c 31 18 (by omega) (by omega) (by omega)
  have b31 := mixed_bd c 31 (m := 18) (by omega)
  have n2 := N.2.2.1
  have i0 : idxD (.lst (nm names)) (.int 0) = some (.str (names.getD 0 [])) := get_nm (by omega) (by omega)
  have l0 : (names.getD 0 []).length ≤ 16 := Nat.le_trans (name_len (N.1 _ (getD_mem (by omega)))) (by omega)
  generalize names.getD 0 [] = n0 at *
  have l0' : n0.length + 1 ≤ 16777216 := by omega
  have i1 : idxD (.tup (.str k :: .str a :: r)) (.int 1) = some (.str a) := ix1
  have hw := hW p (flat_le (small_flat hp) (by omega))
  by_cases h11 : mixedI c 31 18 < 11
  · have mn : (if mixedI c 31 18 < 11 then mixedI c 31 18 else 11) = mixedI c 31 18 := if_pos h11
    have ne : ¬ mixedI c 31 18 = 11 := by omega
    obtain ⟨d, hd, pd⟩ := pick_lst (ds := baseL a n0 p) b31.1 (by simp only [baseL, List.length_cons, List.length_nil]; omega)
    refine ⟨d, ?_, base_flat (small_flat hp) d hd⟩
    simp only [baseL] at pd
    simp [b__law_strange, runF, qev1, qev2, qev3, qev4, qev5, qev6, qev7, qev8, qev9, qev10, qev11, qev12, qev13, qev14, qev15, qev16, qev17, qev18, qev19, qev20, qev21, qevs1, qevs2, qevo1, qevo2, qevi1, qevi4, qexec1, qexec2, qexec3, qexec4, qexec5, qexec6, qexec7, qexec8, qexec9, qexec10, qexec11, qexec12, qexec13, qexec14, qexec15, qexec16, qexec17, qexec18, qexecs1, qexecs2, Res.bind, Res.go, lift, liftS, binD, cmpD, truth_bl, truth_int, truth_str, dr_non, dr_bl, dr_int, dr_str, dr_tup, dr_lst, dr_fn, bltD, lenD, isiD, slcD, seqD, bindD, wipeD, srcOf, sameAt, SL, Nat.reduceLeDiff, eq_int, eq_str, eq_bl, List.map_cons, List.map_nil, List.length_cons, List.length_nil, List.cons_append, List.nil_append, List.append_nil, List.getElem?_cons_zero, List.getElem?_cons_succ, List.set_cons_zero, List.set_cons_succ, List.replicate_succ, List.replicate_zero, Option.some.injEq, Option.map_some, Option.bind_some, Nat.reduceAdd, Nat.reduceSub, if_true, if_false, Bool.not_true, Bool.not_false, Bool.and_true, Bool.true_and, Bool.false_eq_true, reduceIte, Nat.zero_add, x31, h11, ne, i0, i1, l0', pd]
  · have mn : (if mixedI c 31 18 < 11 then mixedI c 31 18 else 11) = 11 := if_neg h11
    have fin : ∀ d, idxD (.lst [.non, .bl true, .str [], .int (-1), .int 0, .int 1, .int 1000000000000000000, .str a, .str n0, .str (n0 ++ [45]), .tup [], d]) (.int 11) = some d := fun d => by
      rw [idx_lst (by omega) (by simp)]
      rfl
    have ix : ixD 12 11 = some 11 := rfl
    cases p with
    | str x =>
      have hx : x.length ≤ 16 := hp
      have x33 := hM c 33 5 (by omega) (by omega) (by omega)
      have b33 := mixed_bd c 33 (m := 5) (by omega)
      have u1 : x.length ≤ 5592405 := by omega
      have u2 : x.length + 1 ≤ 16777216 := by omega
      have u3 : 1 + x.length ≤ 16777216 := by omega
      obtain ⟨d, hd, pd⟩ := pick_lst (ds := [.str (PySem.Txt.upper (toS x)).cps.toList, .str (x ++ [120]), .str (cutD x none (some (-1))), .str (32 :: x), .str (50 :: x)]) b33.1 (by simpa using b33.2)
      refine ⟨d, ?_, ?_⟩
      · simp [b__law_strange, runF, qev1, qev2, qev3, qev4, qev5, qev6, qev7, qev8, qev9, qev10, qev11, qev12, qev13, qev14, qev15, qev16, qev17, qev18, qev19, qev20, qev21, qevs1, qevs2, qevo1, qevo2, qevi1, qevi4, qexec1, qexec2, qexec3, qexec4, qexec5, qexec6, qexec7, qexec8, qexec9, qexec10, qexec11, qexec12, qexec13, qexec14, qexec15, qexec16, qexec17, qexec18, qexecs1, qexecs2, Res.bind, Res.go, lift, liftS, binD, cmpD, truth_bl, truth_int, truth_str, dr_non, dr_bl, dr_int, dr_str, dr_tup, dr_lst, dr_fn, bltD, lenD, isiD, slcD, seqD, bindD, wipeD, srcOf, sameAt, SL, Nat.reduceLeDiff, eq_int, eq_str, eq_bl, List.map_cons, List.map_nil, List.length_cons, List.length_nil, List.cons_append, List.nil_append, List.append_nil, List.getElem?_cons_zero, List.getElem?_cons_succ, List.set_cons_zero, List.set_cons_succ, List.replicate_succ, List.replicate_zero, Option.some.injEq, Option.map_some, Option.bind_some, Nat.reduceAdd, Nat.reduceSub, if_true, if_false, Bool.not_true, Bool.not_false, Bool.and_true, Bool.true_and, Bool.false_eq_true, reduceIte, Nat.zero_add, x31, h11, i0, i1, l0', mthD, u1, u2, u3, x33, pd, setAtD, ix, fin, hw, wholeB]
      · simp only [List.mem_cons, List.not_mem_nil, or_false] at hd
        rcases hd with rfl | rfl | rfl | rfl | rfl <;> rfl
    | int i =>
      have hx : -(2 ^ 100) < i ∧ i < 2 ^ 100 := hp
      have x34 := hM c 34 5 (by omega) (by omega) (by omega)
      have b34 := mixed_bd c 34 (m := 5) (by omega)
      have u1 : i.natAbs.log2 < 1920 := by
        by_cases z : i.natAbs = 0
        · rw [z]; decide
        · exact Nat.lt_of_lt_of_le ((Nat.log2_lt z).mpr (show i.natAbs < 2 ^ 100 by omega)) (by omega)
      obtain ⟨d, hd, pd⟩ := pick_lst (ds := [.int (-1 - i), .int (i + 1), .int 0, .str (codes (Int.repr i)), .tup [.int i]]) b34.1 (by simpa using b34.2)
      refine ⟨d, ?_, ?_⟩
      · simp [b__law_strange, runF, qev1, qev2, qev3, qev4, qev5, qev6, qev7, qev8, qev9, qev10, qev11, qev12, qev13, qev14, qev15, qev16, qev17, qev18, qev19, qev20, qev21, qevs1, qevs2, qevo1, qevo2, qevi1, qevi4, qexec1, qexec2, qexec3, qexec4, qexec5, qexec6, qexec7, qexec8, qexec9, qexec10, qexec11, qexec12, qexec13, qexec14, qexec15, qexec16, qexec17, qexec18, qexecs1, qexecs2, Res.bind, Res.go, lift, liftS, binD, cmpD, truth_bl, truth_int, truth_str, dr_non, dr_bl, dr_int, dr_str, dr_tup, dr_lst, dr_fn, bltD, lenD, isiD, slcD, seqD, bindD, wipeD, srcOf, sameAt, SL, Nat.reduceLeDiff, eq_int, eq_str, eq_bl, List.map_cons, List.map_nil, List.length_cons, List.length_nil, List.cons_append, List.nil_append, List.append_nil, List.getElem?_cons_zero, List.getElem?_cons_succ, List.set_cons_zero, List.set_cons_succ, List.replicate_succ, List.replicate_zero, Option.some.injEq, Option.map_some, Option.bind_some, Nat.reduceAdd, Nat.reduceSub, if_true, if_false, Bool.not_true, Bool.not_false, Bool.and_true, Bool.true_and, Bool.false_eq_true, reduceIte, Nat.zero_add, x31, h11, i0, i1, l0', u1, x34, pd, setAtD, ix, fin, hw, wholeB]
      · simp only [List.mem_cons, List.not_mem_nil, or_false] at hd
        rcases hd with rfl | rfl | rfl | rfl | rfl <;> rfl
    | tup ds =>
      obtain ⟨l, rfl, hl⟩ := hp
      have x32 := hM c 32 6 (by omega) (by omega) (by omega)
      have b32 := mixed_bd c 32 (m := 6) (by omega)
      have u1 : l.length + 1 ≤ 16777216 := by omega
      have u2 : l.length + min 1 l.length ≤ 16777216 := by omega
      have e1 : (nm l).reverse = nm l.reverse := by simp
      obtain ⟨d, hd, pd⟩ := pick_lst (ds := [.tup (nm l.reverse), .tup (nm (l ++ l.take 1)), .tup (nm (l ++ [a])), .tup (nm (l.drop 1)), .tup (nm (othersOf names a)), .tup (nm ((othersOf names a).take 20))]) b32.1 (by simpa using b32.2)
      refine ⟨d, ?_, ?_⟩
      · simp [b__law_strange, runF, qev1, qev2, qev3, qev4, qev5, qev6, qev7, qev8, qev9, qev10, qev11, qev12, qev13, qev14, qev15, qev16, qev17, qev18, qev19, qev20, qev21, qevs1, qevs2, qevo1, qevo2, qevi1, qevi4, qexec1, qexec2, qexec3, qexec4, qexec5, qexec6, qexec7, qexec8, qexec9, qexec10, qexec11, qexec12, qexec13, qexec14, qexec15, qexec16, qexec17, qexec18, qexecs1, qexecs2, Res.bind, Res.go, lift, liftS, binD, cmpD, truth_bl, truth_int, truth_str, dr_non, dr_bl, dr_int, dr_str, dr_tup, dr_lst, dr_fn, bltD, lenD, isiD, slcD, seqD, bindD, wipeD, srcOf, sameAt, SL, Nat.reduceLeDiff, eq_int, eq_str, eq_bl, List.map_cons, List.map_nil, List.length_cons, List.length_nil, List.cons_append, List.nil_append, List.append_nil, List.getElem?_cons_zero, List.getElem?_cons_succ, List.set_cons_zero, List.set_cons_succ, List.replicate_succ, List.replicate_zero, Option.some.injEq, Option.map_some, Option.bind_some, Nat.reduceAdd, Nat.reduceSub, if_true, if_false, Bool.not_true, Bool.not_false, Bool.and_true, Bool.true_and, Bool.false_eq_true, reduceIte, Nat.zero_add, x31, h11, i0, i1, l0', u1, u2, x32, setAtD, ix, fin, hw, wholeB, revD, cut_hi, cut_1]
        rw [comp_fm D.str (fun x => !(x == a)) D.str rfl names]
        · rw [show names.filter (fun x => !(x == a)) = othersOf names a from rfl]
          simp [nm] at pd
          simp [runF, qev1, qev2, qev3, qev4, qev5, qev6, qev7, qev8, qev9, qev10, qev11, qev12, qev13, qev14, qev15, qev16, qev17, qev18, qev19, qev20, qev21, qevs1, qevs2, qevo1, qevo2, qevi1, qevi4, qexec1, qexec2, qexec3, qexec4, qexec5, qexec6, qexec7, qexec8, qexec9, qexec10, qexec11, qexec12, qexec13, qexec14, qexec15, qexec16, qexec17, qexec18, qexecs1, qexecs2, Res.bind, Res.go, lift, liftS, binD, cmpD, truth_bl, truth_int, truth_str, dr_non, dr_bl, dr_int, dr_str, dr_tup, dr_lst, dr_fn, bltD, lenD, isiD, slcD, seqD, bindD, wipeD, srcOf, sameAt, SL, Nat.reduceLeDiff, eq_int, eq_str, eq_bl, List.map_cons, List.map_nil, List.length_cons, List.length_nil, List.cons_append, List.nil_append, List.append_nil, List.getElem?_cons_zero, List.getElem?_cons_succ, List.set_cons_zero, List.set_cons_succ, List.replicate_succ, List.replicate_zero, Option.some.injEq, Option.map_some, Option.bind_some, Nat.reduceAdd, Nat.reduceSub, if_true, if_false, Bool.not_true, Bool.not_false, Bool.and_true, Bool.true_and, Bool.false_eq_true, reduceIte, Nat.zero_add, x31, h11, i0, i1, l0', u1, u2, x32, setAtD, ix, fin, hw, wholeB, revD, cut_hi, cut_1, pd, nm]
        · intro y hy
          exact ⟨_, rfl, ⟨.bl (!(y == a)), by simp [runF, qev1, qev2, qev3, qev4, qev5, qev6, qev7, qev8, qev9, qev10, qev11, qev12, qev13, qev14, qev15, qev16, qev17, qev18, qev19, qev20, qev21, qevs1, qevs2, qevo1, qevo2, qevi1, qevi4, qexec1, qexec2, qexec3, qexec4, qexec5, qexec6, qexec7, qexec8, qexec9, qexec10, qexec11, qexec12, qexec13, qexec14, qexec15, qexec16, qexec17, qexec18, qexecs1, qexecs2, Res.bind, Res.go, lift, liftS, binD, cmpD, truth_bl, truth_int, truth_str, dr_non, dr_bl, dr_int, dr_str, dr_tup, dr_lst, dr_fn, bltD, lenD, isiD, slcD, seqD, bindD, wipeD, srcOf, sameAt, SL, Nat.reduceLeDiff, eq_int, eq_str, eq_bl, List.map_cons, List.map_nil, List.length_cons, List.length_nil, List.cons_append, List.nil_append, List.append_nil, List.getElem?_cons_zero, List.getElem?_cons_succ, List.set_cons_zero, List.set_cons_succ, List.replicate_succ, List.replicate_zero, Option.some.injEq, Option.map_some, Option.bind_some, Nat.reduceAdd, Nat.reduceSub, if_true, if_false, Bool.not_true, Bool.not_false, Bool.and_true, Bool.true_and, Bool.false_eq_true, reduceIte, Nat.zero_add, i1], rfl⟩, fun _ => by simp [runF, qev1, qev2, qev3, qev4, qev5, qev6, qev7, qev8, qev9, qev10, qev11, qev12, qev13, qev14, qev15, qev16, qev17, qev18, qev19, qev20, qev21, qevs1, qevs2, qevo1, qevo2, qevi1, qevi4, qexec1, qexec2, qexec3, qexec4, qexec5, qexec6, qexec7, qexec8, qexec9, qexec10, qexec11, qexec12, qexec13, qexec14, qexec15, qexec16, qexec17, qexec18, qexecs1, qexecs2, Res.bind, Res.go, lift, liftS, binD, cmpD, truth_bl, truth_int, truth_str, dr_non, dr_bl, dr_int, dr_str, dr_tup, dr_lst, dr_fn, bltD, lenD, isiD, slcD, seqD, bindD, wipeD, srcOf, sameAt, SL, Nat.reduceLeDiff, eq_int, eq_str, eq_bl, List.map_cons, List.map_nil, List.length_cons, List.length_nil, List.cons_append, List.nil_append, List.append_nil, List.getElem?_cons_zero, List.getElem?_cons_succ, List.set_cons_zero, List.set_cons_succ, List.replicate_succ, List.replicate_zero, Option.some.injEq, Option.map_some, Option.bind_some, Nat.reduceAdd, Nat.reduceSub, if_true, if_false, Bool.not_true, Bool.not_false, Bool.and_true, Bool.true_and, Bool.false_eq_true, reduceIte, Nat.zero_add]⟩
      · simp only [List.mem_cons, List.not_mem_nil, or_false] at hd
        rcases hd with rfl | rfl | rfl | rfl | rfl | rfl <;> exact flat_nm
    | _ => exact hp.elim
end
end Cal
/-! plain lemmas: letters changed -/
namespace Cal
section
variable {C : CallF} {st : Sto}
theorem cut_mem {α : Type} {xs : List α} {lo hi : Option Int} {x : α} (h : x ∈ cutD xs lo hi) : x ∈ xs := List.mem_of_mem_drop (List.mem_of_mem_take h)
theorem cut_len {α : Type} {xs : List α} {lo hi : Option Int} : (cutD xs lo hi).length ≤ xs.length := by
  unfold cutD
  rw [List.length_take, List.length_drop]
  omega
theorem idx_last {ds : List D} (h : 0 < ds.length) : ∃ e ∈ ds, idxD (.tup ds) (.int (-1)) = some e := by
  have hi : ixD ds.length (-1) = some (ds.length - 1) := by
    unfold ixD
    rw [if_neg (by omega), if_pos (by omega)]
    congr 1
    omega
  refine ⟨ds.getD (ds.length - 1) .non, ?_, ?_⟩
  · rw [List.getD_eq_getElem?_getD, List.getElem?_eq_getElem (by omega)]
    exact List.getElem_mem _
  · show (ixD ds.length (-1)).bind (fun j => ds[j]?) = _
    rw [hi]
    exact get_some (by omega)
theorem flat_tup {es : List D} {l : List (List Nat)} (h : ∀ d ∈ es, d ∈ nm l) : flatD 3 (.tup es) = true := by
  show flatL 2 es = true
  refine flatL_mk fun d hd => ?_
  obtain ⟨x, _, rfl⟩ := List.mem_map.mp (h d hd)
  rfl
def StrOk (C : CallF) (f : Nat) (names : List (List Nat)) (st : Sto) : Prop := ∀ (p : D) (k a : List Nat) (r : List D) (c : Int), Small p → a.length ≤ 16 → ∃ d, C f [p, .tup (.str k :: .str a :: r), .lst (nm names), .int c] st = .ok d st ∧ flatD 3 d = true
theorem p_altered {fm fs : Nat} {names : List (List Nat)} {ds : List D} {c : Int} (hM : MixOk C fm st) (hS : StrOk C fs names st) (N : Names names) (L : LetOk names ds) :
    ∃ es, runF C ⟨3, 7, b__law_altered fm fs⟩ [.tup ds, .lst (nm names), .int c] st = .ok (.tup es) st ∧ ∀ d ∈ es, flatD 3 d = true := by
  obtain ⟨k, a, n, t, r, e, ha, sm, hr, hb⟩ := L.ex
  have sa : a.length ≤ 16 := Nat.le_trans (name_len (N.1 a ha)) (by omega)
  have i0 : idxD (.tup ds) (.int 0) = some (.str k) := by rw [e]; exact ix0
  have hl : 4 ≤ ds.length ∧ ds.length ≤ 7 := by
    rw [e]
    simp only [List.length_cons]
    omega
  have fl : ∀ d ∈ ds, flatD 3 d = true := fun d hd => small_flat (sm d hd)
  have x35 := hM c 35 ds.length (by omega) (by omega) (by omega)
  have b35 := mixed_bd c 35 (m := ds.length) (by omega)
  have x36 := hM c 36 8 (by omega) (by omega) (by omega)
  have b36 := mixed_bd c 36 (m := 8) (by omega)
  have x37 := hM c 37 3 (by omega) (by omega) (by omega)
  have b37 := mixed_bd c 37 (m := 3) (by omega)
  obtain ⟨p, hp, pat⟩ := pick_tup b35.1 b35.2
  obtain ⟨q, hq, pl⟩ := idx_last (ds := ds) (by omega)
  generalize hat : mixedI c 35 ds.length = at' at *
  generalize hway : mixedI c 36 8 = way at *
  have cl : ∀ lo hi : Option Int, (cutD ds lo hi).length ≤ 7 := fun lo hi => Nat.le_trans cut_len hl.2
  have c1 : (cutD ds none (some at')).length + (cutD ds (some (at' + 1)) none).length ≤ 16777216 := by
    have := cl none (some at')
    have := cl (some (at' + 1)) none
    omega
  have c2 : (cutD ds none (some at')).length + 1 ≤ 16777216 := by
    have := cl none (some at')
    omega
  have c3 : ∀ lo hi, (cutD ds none (some at')).length + 1 + (cutD ds lo hi).length ≤ 16777216 := fun lo hi => by
    have := cl none (some at')
    have := cl lo hi
    omega
  have c3' : ∀ lo hi, (cutD ds none (some at')).length + ((cutD ds lo hi).length + 1) ≤ 16777216 := fun lo hi => by
    have := cl none (some at')
    have := cl lo hi
    omega
  have c4 : ∀ v, (cutD ds none (some v)).length + 1 ≤ 16777216 := fun v => by
    have := cl none (some v)
    omega
  have c5 : ∀ v lo hi, (cutD ds none (some v)).length + ((cutD ds lo hi).length + 1) ≤ 16777216 := fun v lo hi => by
    have := cl none (some v)
    have := cl lo hi
    omega
  have c6 : ∀ v lo hi, (cutD ds none (some v)).length + 1 + (cutD ds lo hi).length ≤ 16777216 := fun v lo hi => by
    have := cl none (some v)
    have := cl lo hi
    omega
  have mid : ∀ (lo hi lo' hi' : Option Int) (d : D), flatD 3 d = true → ∀ x ∈ cutD ds lo hi ++ d :: cutD ds lo' hi', flatD 3 x = true := fun lo hi lo' hi' d hd x hx => by
    rw [List.mem_append, List.mem_cons] at hx
    rcases hx with hx | rfl | hx
    · exact fl x (cut_mem hx)
    · exact hd
    · exact fl x (cut_mem hx)
  by_cases w0 : way = 0
  · refine ⟨cutD ds none (some at') ++ cutD ds (some (at' + 1)) none, ?_, fun x hx => ?_⟩
    · simp [b__law_altered, runF, qev1, qev2, qev3, qev4, qev5, qev6, qev7, qev8, qev9, qev10, qev11, qev12, qev13, qev14, qev15, qev16, qev17, qev18, qev19, qev20, qev21, qevs1, qevs2, qevo1, qevo2, qevi1, qevi4, qexec1, qexec2, qexec3, qexec4, qexec5, qexec6, qexec7, qexec8, qexec9, qexec10, qexec11, qexec12, qexec13, qexec14, qexec15, qexec16, qexec17, qexec18, qexecs1, qexecs2, Res.bind, Res.go, lift, liftS, binD, cmpD, truth_bl, truth_int, truth_str, dr_non, dr_bl, dr_int, dr_str, dr_tup, dr_lst, dr_fn, bltD, lenD, isiD, slcD, seqD, bindD, wipeD, srcOf, sameAt, SL, Nat.reduceLeDiff, eq_int, eq_str, eq_bl, List.map_cons, List.map_nil, List.length_cons, List.length_nil, List.cons_append, List.nil_append, List.append_nil, List.getElem?_cons_zero, List.getElem?_cons_succ, List.set_cons_zero, List.set_cons_succ, List.replicate_succ, List.replicate_zero, Option.some.injEq, Option.map_some, Option.bind_some, Nat.reduceAdd, Nat.reduceSub, if_true, if_false, Bool.not_true, Bool.not_false, Bool.and_true, Bool.true_and, Bool.false_eq_true, reduceIte, Nat.zero_add, x35, x36, w0, c1]
    · rw [List.mem_append] at hx
      rcases hx with hx | hx <;> exact fl x (cut_mem hx)
  by_cases w1 : way = 1
  · refine ⟨cutD ds none (some at') ++ p :: cutD ds (some at') none, ?_, mid _ _ _ _ _ (fl p hp)⟩
    simp [b__law_altered, runF, qev1, qev2, qev3, qev4, qev5, qev6, qev7, qev8, qev9, qev10, qev11, qev12, qev13, qev14, qev15, qev16, qev17, qev18, qev19, qev20, qev21, qevs1, qevs2, qevo1, qevo2, qevi1, qevi4, qexec1, qexec2, qexec3, qexec4, qexec5, qexec6, qexec7, qexec8, qexec9, qexec10, qexec11, qexec12, qexec13, qexec14, qexec15, qexec16, qexec17, qexec18, qexecs1, qexecs2, Res.bind, Res.go, lift, liftS, binD, cmpD, truth_bl, truth_int, truth_str, dr_non, dr_bl, dr_int, dr_str, dr_tup, dr_lst, dr_fn, bltD, lenD, isiD, slcD, seqD, bindD, wipeD, srcOf, sameAt, SL, Nat.reduceLeDiff, eq_int, eq_str, eq_bl, List.map_cons, List.map_nil, List.length_cons, List.length_nil, List.cons_append, List.nil_append, List.append_nil, List.getElem?_cons_zero, List.getElem?_cons_succ, List.set_cons_zero, List.set_cons_succ, List.replicate_succ, List.replicate_zero, Option.some.injEq, Option.map_some, Option.bind_some, Nat.reduceAdd, Nat.reduceSub, if_true, if_false, Bool.not_true, Bool.not_false, Bool.and_true, Bool.true_and, Bool.false_eq_true, reduceIte, Nat.zero_add, x35, x36, w0, w1, pat, c2, c3, c3', c5]
  have rest : ∀ (hn : ¬ (way < 5 ∧ k = [98, 105, 100])), ∃ es, runF C ⟨3, 7, b__law_altered fm fs⟩ [.tup ds, .lst (nm names), .int c] st = .ok (.tup es) st ∧ ∀ d ∈ es, flatD 3 d = true := fun hn => by
    have last : (¬ (way < 7 ∧ ∃ zs, q = .tup zs)) → ∃ es, runF C ⟨3, 7, b__law_altered fm fs⟩ [.tup ds, .lst (nm names), .int c] st = .ok (.tup es) st ∧ ∀ d ∈ es, flatD 3 d = true := fun hz => by
      obtain ⟨d, hd, fd⟩ := hS p k a (.int n :: .int t :: r) c (sm p hp) sa
      rw [← e] at hd
      refine ⟨cutD ds none (some at') ++ d :: cutD ds (some (at' + 1)) none, ?_, mid _ _ _ _ _ fd⟩
      by_cases w5 : way < 5
      · have kb : ¬ k = [98, 105, 100] := fun z => hn ⟨w5, z⟩
        have w7 : way < 7 := by omega
        have sq := sm q hq
        cases q with
        | tup zs => exact absurd ⟨w7, zs, rfl⟩ hz
        | str _ => simp [b__law_altered, runF, qev1, qev2, qev3, qev4, qev5, qev6, qev7, qev8, qev9, qev10, qev11, qev12, qev13, qev14, qev15, qev16, qev17, qev18, qev19, qev20, qev21, qevs1, qevs2, qevo1, qevo2, qevi1, qevi4, qexec1, qexec2, qexec3, qexec4, qexec5, qexec6, qexec7, qexec8, qexec9, qexec10, qexec11, qexec12, qexec13, qexec14, qexec15, qexec16, qexec17, qexec18, qexecs1, qexecs2, Res.bind, Res.go, lift, liftS, binD, cmpD, truth_bl, truth_int, truth_str, dr_non, dr_bl, dr_int, dr_str, dr_tup, dr_lst, dr_fn, bltD, lenD, isiD, slcD, seqD, bindD, wipeD, srcOf, sameAt, SL, Nat.reduceLeDiff, eq_int, eq_str, eq_bl, List.map_cons, List.map_nil, List.length_cons, List.length_nil, List.cons_append, List.nil_append, List.append_nil, List.getElem?_cons_zero, List.getElem?_cons_succ, List.set_cons_zero, List.set_cons_succ, List.replicate_succ, List.replicate_zero, Option.some.injEq, Option.map_some, Option.bind_some, Nat.reduceAdd, Nat.reduceSub, if_true, if_false, Bool.not_true, Bool.not_false, Bool.and_true, Bool.true_and, Bool.false_eq_true, reduceIte, Nat.zero_add, x35, x36, w0, w1, w5, w7, i0, kb, pl, pat, hd, c2, c3, c3', c5]
        | int _ => simp [b__law_altered, runF, qev1, qev2, qev3, qev4, qev5, qev6, qev7, qev8, qev9, qev10, qev11, qev12, qev13, qev14, qev15, qev16, qev17, qev18, qev19, qev20, qev21, qevs1, qevs2, qevo1, qevo2, qevi1, qevi4, qexec1, qexec2, qexec3, qexec4, qexec5, qexec6, qexec7, qexec8, qexec9, qexec10, qexec11, qexec12, qexec13, qexec14, qexec15, qexec16, qexec17, qexec18, qexecs1, qexecs2, Res.bind, Res.go, lift, liftS, binD, cmpD, truth_bl, truth_int, truth_str, dr_non, dr_bl, dr_int, dr_str, dr_tup, dr_lst, dr_fn, bltD, lenD, isiD, slcD, seqD, bindD, wipeD, srcOf, sameAt, SL, Nat.reduceLeDiff, eq_int, eq_str, eq_bl, List.map_cons, List.map_nil, List.length_cons, List.length_nil, List.cons_append, List.nil_append, List.append_nil, List.getElem?_cons_zero, List.getElem?_cons_succ, List.set_cons_zero, List.set_cons_succ, List.replicate_succ, List.replicate_zero, Option.some.injEq, Option.map_some, Option.bind_some, Nat.reduceAdd, Nat.reduceSub, if_true, if_false, Bool.not_true, Bool.not_false, Bool.and_true, Bool.true_and, Bool.false_eq_true, reduceIte, Nat.zero_add, x35, x36, w0, w1, w5, w7, i0, kb, pl, pat, hd, c2, c3, c3', c5]
        | _ => exact sq.elim
      · by_cases w7 : way < 7
        · have sq := sm q hq
          cases q with
          | tup zs => exact absurd ⟨w7, zs, rfl⟩ hz
          | str _ => simp [b__law_altered, runF, qev1, qev2, qev3, qev4, qev5, qev6, qev7, qev8, qev9, qev10, qev11, qev12, qev13, qev14, qev15, qev16, qev17, qev18, qev19, qev20, qev21, qevs1, qevs2, qevo1, qevo2, qevi1, qevi4, qexec1, qexec2, qexec3, qexec4, qexec5, qexec6, qexec7, qexec8, qexec9, qexec10, qexec11, qexec12, qexec13, qexec14, qexec15, qexec16, qexec17, qexec18, qexecs1, qexecs2, Res.bind, Res.go, lift, liftS, binD, cmpD, truth_bl, truth_int, truth_str, dr_non, dr_bl, dr_int, dr_str, dr_tup, dr_lst, dr_fn, bltD, lenD, isiD, slcD, seqD, bindD, wipeD, srcOf, sameAt, SL, Nat.reduceLeDiff, eq_int, eq_str, eq_bl, List.map_cons, List.map_nil, List.length_cons, List.length_nil, List.cons_append, List.nil_append, List.append_nil, List.getElem?_cons_zero, List.getElem?_cons_succ, List.set_cons_zero, List.set_cons_succ, List.replicate_succ, List.replicate_zero, Option.some.injEq, Option.map_some, Option.bind_some, Nat.reduceAdd, Nat.reduceSub, if_true, if_false, Bool.not_true, Bool.not_false, Bool.and_true, Bool.true_and, Bool.false_eq_true, reduceIte, Nat.zero_add, x35, x36, w0, w1, w5, w7, i0, pl, pat, hd, c2, c3, c3', c5]
          | int _ => simp [b__law_altered, runF, qev1, qev2, qev3, qev4, qev5, qev6, qev7, qev8, qev9, qev10, qev11, qev12, qev13, qev14, qev15, qev16, qev17, qev18, qev19, qev20, qev21, qevs1, qevs2, qevo1, qevo2, qevi1, qevi4, qexec1, qexec2, qexec3, qexec4, qexec5, qexec6, qexec7, qexec8, qexec9, qexec10, qexec11, qexec12, qexec13, qexec14, qexec15, qexec16, qexec17, qexec18, qexecs1, qexecs2, Res.bind, Res.go, lift, liftS, binD, cmpD, truth_bl, truth_int, truth_str, dr_non, dr_bl, dr_int, dr_str, dr_tup, dr_lst, dr_fn, bltD, lenD, isiD, slcD, seqD, bindD, wipeD, srcOf, sameAt, SL, Nat.reduceLeDiff, eq_int, eq_str, eq_bl, List.map_cons, List.map_nil, List.length_cons, List.length_nil, List.cons_append, List.nil_append, List.append_nil, List.getElem?_cons_zero, List.getElem?_cons_succ, List.set_cons_zero, List.set_cons_succ, List.replicate_succ, List.replicate_zero, Option.some.injEq, Option.map_some, Option.bind_some, Nat.reduceAdd, Nat.reduceSub, if_true, if_false, Bool.not_true, Bool.not_false, Bool.and_true, Bool.true_and, Bool.false_eq_true, reduceIte, Nat.zero_add, x35, x36, w0, w1, w5, w7, i0, pl, pat, hd, c2, c3, c3', c5]
          | _ => exact sq.elim
        · simp [b__law_altered, runF, qev1, qev2, qev3, qev4, qev5, qev6, qev7, qev8, qev9, qev10, qev11, qev12, qev13, qev14, qev15, qev16, qev17, qev18, qev19, qev20, qev21, qevs1, qevs2, qevo1, qevo2, qevi1, qevi4, qexec1, qexec2, qexec3, qexec4, qexec5, qexec6, qexec7, qexec8, qexec9, qexec10, qexec11, qexec12, qexec13, qexec14, qexec15, qexec16, qexec17, qexec18, qexecs1, qexecs2, Res.bind, Res.go, lift, liftS, binD, cmpD, truth_bl, truth_int, truth_str, dr_non, dr_bl, dr_int, dr_str, dr_tup, dr_lst, dr_fn, bltD, lenD, isiD, slcD, seqD, bindD, wipeD, srcOf, sameAt, SL, Nat.reduceLeDiff, eq_int, eq_str, eq_bl, List.map_cons, List.map_nil, List.length_cons, List.length_nil, List.cons_append, List.nil_append, List.append_nil, List.getElem?_cons_zero, List.getElem?_cons_succ, List.set_cons_zero, List.set_cons_succ, List.replicate_succ, List.replicate_zero, Option.some.injEq, Option.map_some, Option.bind_some, Nat.reduceAdd, Nat.reduceSub, if_true, if_false, Bool.not_true, Bool.not_false, Bool.and_true, Bool.true_and, Bool.false_eq_true, reduceIte, Nat.zero_add, x35, x36, w0, w1, w5, w7, i0, pl, pat, hd, c2, c3, c3', c5]
    by_cases hz : way < 7 ∧ ∃ zs, q = .tup zs
    · obtain ⟨w7, zs, rfl⟩ := hz
      obtain ⟨l, rfl, ll⟩ : ∃ l : List (List Nat), zs = nm l ∧ l.length ≤ 64 := sm _ hq
      have hlen : (nm l).length = l.length := List.length_map ..
      have cz : ∀ lo hi : Option Int, (cutD (nm l) lo hi).length ≤ 64 := fun lo hi => Nat.le_trans cut_len (by rw [hlen]; exact ll)
      have z1 : ∀ lo hi, l.length + (cutD (nm l) lo hi).length ≤ 16777216 := fun lo hi => by
        have := cz lo hi
        omega
      have z2 : ∀ lo hi lo' hi', (cutD (nm l) lo hi).length + (cutD (nm l) lo' hi').length ≤ 16777216 := fun lo hi lo' hi' => by
        have := cz lo hi
        have := cz lo' hi'
        omega
      obtain ⟨d, hd, pd⟩ := pick_lst (ds := [.tup (nm l).reverse, .tup (nm l ++ cutD (nm l) (some (-1)) none), .tup (cutD (nm l) (some 1) none ++ cutD (nm l) none (some 1))]) b37.1 (by simpa using b37.2)
      have fd : flatD 3 d = true := by
        simp only [List.mem_cons, List.not_mem_nil, or_false] at hd
        rcases hd with rfl | rfl | rfl
        · exact flat_tup (l := l) fun d hd => List.mem_reverse.mp hd
        · refine flat_tup (l := l) fun d hd => ?_
          rw [List.mem_append] at hd
          rcases hd with hd | hd
          · exact hd
          · exact cut_mem hd
        · refine flat_tup (l := l) fun d hd => ?_
          rw [List.mem_append] at hd
          rcases hd with hd | hd <;> exact cut_mem hd
      have mem : ∀ x ∈ cutD ds none (some (-1)) ++ [d], flatD 3 x = true := fun x hx => by
        rw [List.mem_append, List.mem_singleton] at hx
        rcases hx with hx | rfl
        · exact fl x (cut_mem hx)
        · exact fd
      refine ⟨cutD ds none (some (-1)) ++ [d], ?_, mem⟩
      by_cases w5 : way < 5
      · have kb : ¬ k = [98, 105, 100] := fun z => hn ⟨w5, z⟩
        simp only [nm] at *
        simp [b__law_altered, runF, qev1, qev2, qev3, qev4, qev5, qev6, qev7, qev8, qev9, qev10, qev11, qev12, qev13, qev14, qev15, qev16, qev17, qev18, qev19, qev20, qev21, qevs1, qevs2, qevo1, qevo2, qevi1, qevi4, qexec1, qexec2, qexec3, qexec4, qexec5, qexec6, qexec7, qexec8, qexec9, qexec10, qexec11, qexec12, qexec13, qexec14, qexec15, qexec16, qexec17, qexec18, qexecs1, qexecs2, Res.bind, Res.go, lift, liftS, binD, cmpD, truth_bl, truth_int, truth_str, dr_non, dr_bl, dr_int, dr_str, dr_tup, dr_lst, dr_fn, bltD, lenD, isiD, slcD, seqD, bindD, wipeD, srcOf, sameAt, SL, Nat.reduceLeDiff, eq_int, eq_str, eq_bl, List.map_cons, List.map_nil, List.length_cons, List.length_nil, List.cons_append, List.nil_append, List.append_nil, List.getElem?_cons_zero, List.getElem?_cons_succ, List.set_cons_zero, List.set_cons_succ, List.replicate_succ, List.replicate_zero, Option.some.injEq, Option.map_some, Option.bind_some, Nat.reduceAdd, Nat.reduceSub, if_true, if_false, Bool.not_true, Bool.not_false, Bool.and_true, Bool.true_and, Bool.false_eq_true, reduceIte, Nat.zero_add, x35, x36, x37, w0, w1, w5, w7, i0, kb, pl, revD, z1, z2, pd, c4]
      · simp only [nm] at *
        simp [b__law_altered, runF, qev1, qev2, qev3, qev4, qev5, qev6, qev7, qev8, qev9, qev10, qev11, qev12, qev13, qev14, qev15, qev16, qev17, qev18, qev19, qev20, qev21, qevs1, qevs2, qevo1, qevo2, qevi1, qevi4, qexec1, qexec2, qexec3, qexec4, qexec5, qexec6, qexec7, qexec8, qexec9, qexec10, qexec11, qexec12, qexec13, qexec14, qexec15, qexec16, qexec17, qexec18, qexecs1, qexecs2, Res.bind, Res.go, lift, liftS, binD, cmpD, truth_bl, truth_int, truth_str, dr_non, dr_bl, dr_int, dr_str, dr_tup, dr_lst, dr_fn, bltD, lenD, isiD, slcD, seqD, bindD, wipeD, srcOf, sameAt, SL, Nat.reduceLeDiff, eq_int, eq_str, eq_bl, List.map_cons, List.map_nil, List.length_cons, List.length_nil, List.cons_append, List.nil_append, List.append_nil, List.getElem?_cons_zero, List.getElem?_cons_succ, List.set_cons_zero, List.set_cons_succ, List.replicate_succ, List.replicate_zero, Option.some.injEq, Option.map_some, Option.bind_some, Nat.reduceAdd, Nat.reduceSub, if_true, if_false, Bool.not_true, Bool.not_false, Bool.and_true, Bool.true_and, Bool.false_eq_true, reduceIte, Nat.zero_add, x35, x36, x37, w0, w1, w5, w7, i0, pl, revD, z1, z2, pd, c4]
    · exact last hz
  by_cases hn : way < 5 ∧ k = [98, 105, 100]
  · obtain ⟨b, x, y, er⟩ := hb hn.2
    have i4 : idxD (.tup ds) (.int 4) = some (.int b) := by
      rw [e, er]
      exact ix4
    obtain ⟨d, hd, pd⟩ := pick_lst (ds := [.int 0, .int (-1), .int 1]) (i := way - 2) (by omega) (by
      show way - 2 < 3
      have := hn.1
      omega)
    have hdi : ∃ z : Int, d = .int z := by
      simp only [List.mem_cons, List.not_mem_nil, or_false] at hd
      rcases hd with rfl | rfl | rfl <;> exact ⟨_, rfl⟩
    obtain ⟨z, rfl⟩ := hdi
    refine ⟨cutD ds none (some 5) ++ .int (b + z) :: cutD ds (some 6) none, ?_, mid _ _ _ _ _ rfl⟩
    simp [b__law_altered, runF, qev1, qev2, qev3, qev4, qev5, qev6, qev7, qev8, qev9, qev10, qev11, qev12, qev13, qev14, qev15, qev16, qev17, qev18, qev19, qev20, qev21, qevs1, qevs2, qevo1, qevo2, qevi1, qevi4, qexec1, qexec2, qexec3, qexec4, qexec5, qexec6, qexec7, qexec8, qexec9, qexec10, qexec11, qexec12, qexec13, qexec14, qexec15, qexec16, qexec17, qexec18, qexecs1, qexecs2, Res.bind, Res.go, lift, liftS, binD, cmpD, truth_bl, truth_int, truth_str, dr_non, dr_bl, dr_int, dr_str, dr_tup, dr_lst, dr_fn, bltD, lenD, isiD, slcD, seqD, bindD, wipeD, srcOf, sameAt, SL, Nat.reduceLeDiff, eq_int, eq_str, eq_bl, List.map_cons, List.map_nil, List.length_cons, List.length_nil, List.cons_append, List.nil_append, List.append_nil, List.getElem?_cons_zero, List.getElem?_cons_succ, List.set_cons_zero, List.set_cons_succ, List.replicate_succ, List.replicate_zero, Option.some.injEq, Option.map_some, Option.bind_some, Nat.reduceAdd, Nat.reduceSub, if_true, if_false, Bool.not_true, Bool.not_false, Bool.and_true, Bool.true_and, Bool.false_eq_true, reduceIte, Nat.zero_add, x35, x36, w0, w1, hn.1, hn.2, i0, i4, pd, c4, c5, c6]
  · exact rest hn
end
end Cal
/-! plain lemmas: names -/
namespace Cal
section
variable {C : CallF} {st : Sto}
theorem one_lt {k : Int} : (k % 24).toNat < 24 := by omega
theorem nameB_mk {s : List Nat} (h : 0 < s.length) (h8 : s.length ≤ 8) (h0 : inL (s.getD 0 0) = true) (h1 : ∀ c ∈ s, (inL c || inF c) = true) : nameB s = true := by
  cases s with
  | nil => simp at h
  | cons c r =>
    show (decide ((c :: r).length ≤ 8) && inL c && (c :: r).all fun c => inL c || inF c) = true
    rw [decide_eq_true h8, show inL c = true from h0, List.all_eq_true.mpr h1]
    rfl
theorem nameBy_name (k c : Int) : nameB (nameBy k c) = true ∧ (nameBy k c).length ≠ 6 := by
  have h1 : ∀ j, j < 24 → inL (98 + j) = true := by decide
  have h2 : ∀ j, j < 3 → (inL (([97, 48, 122] : List Nat).getD j 0) || inF (([97, 48, 122] : List Nat).getD j 0)) = true := by decide
  have h3 : ∀ j, j < 3 → (∀ x ∈ ([[116], [97, 98], [120, 57, 97]] : List (List Nat)).getD j [], (inL x || inF x) = true) ∧ inL ((([[116], [97, 98], [120, 57, 97]] : List (List Nat)).getD j []).getD 0 0) = true ∧ 0 < (([[116], [97, 98], [120, 57, 97]] : List (List Nat)).getD j []).length ∧ (([[116], [97, 98], [120, 57, 97]] : List (List Nat)).getD j []).length ≤ 3 := by decide
  have e1 := h1 (k % 24).toNat (by omega)
  have e2 := h2 (k / 24 % 3).toNat (by omega)
  have e3 := h3 (c / 2 % 3).toNat (by omega)
  unfold nameBy
  split
  · generalize ([[116], [97, 98], [120, 57, 97]] : List (List Nat)).getD (c / 2 % 3).toNat [] = w at *
    obtain ⟨w1, w2, w3, w4⟩ := e3
    refine ⟨nameB_mk (by simp) (by simp; omega) ?_ ?_, by simp; omega⟩
    · cases w with
      | nil => simp at w3
      | cons x r => exact w2
    · intro x hx
      simp only [List.mem_append, List.mem_cons, List.not_mem_nil, or_false] at hx
      rcases hx with hx | rfl | rfl
      · exact w1 x hx
      · rw [e1]; rfl
      · exact e2
  · have hl : (List.replicate (c / 2 % 7).toNat 97 ++ [98 + (k % 24).toNat, ([97, 48, 122] : List Nat).getD (k / 24 % 3).toNat 0] ++ List.replicate (6 - (c / 2 % 7).toNat) 97).length = 8 := by
      simp
      omega
    refine ⟨nameB_mk (by rw [hl]; omega) (by rw [hl]; omega) ?_ ?_, by rw [hl]; omega⟩
    · cases hp : (c / 2 % 7).toNat with
      | zero => exact e1
      | succ n => rfl
    · intro x hx
      simp only [List.mem_append, List.mem_cons, List.not_mem_nil, or_false, List.mem_replicate] at hx
      rcases hx with (hx | rfl | rfl) | hx
      · rw [hx.2]; rfl
      · rw [e1]; rfl
      · exact e2
      · rw [hx.2]; rfl
theorem nameBy_inj {c : Int} {i j : Nat} (hi : i < 72) (hj : j < 72) (h : nameBy i c = nameBy j c) : i = j := by
  have h2 : ∀ a, a < 3 → ∀ b, b < 3 → ([97, 48, 122] : List Nat).getD a 0 = ([97, 48, 122] : List Nat).getD b 0 → a = b := by decide
  have key : 98 + ((i : Int) % 24).toNat = 98 + ((j : Int) % 24).toNat ∧ ([97, 48, 122] : List Nat).getD ((i : Int) / 24 % 3).toNat 0 = ([97, 48, 122] : List Nat).getD ((j : Int) / 24 % 3).toNat 0 := by
    unfold nameBy at h
    split at h
    · have := List.append_cancel_left h
      simp only [List.cons.injEq] at this
      exact ⟨this.1, this.2.1⟩
    · rw [List.append_assoc, List.append_assoc] at h
      have := List.append_cancel_left h
      simp only [List.cons_append, List.nil_append, List.cons.injEq] at this
      exact ⟨this.1, this.2.1⟩
  have := h2 _ (by omega) _ (by omega) key.2
  omega
/-! sorting names -/
theorem leD_nm (x y : List Nat) : leD (.str x) (.str y) = !decide (y < x) := rfl
def sortN (l : List (List Nat)) : List (List Nat) := l.mergeSort fun x y => !decide (y < x)
theorem sort_nm (l : List (List Nat)) : sortD (nm l) = some (nm (sortN l)) := by
  have hk : okSort (nm l) = true := by
    unfold okSort
    rw [Bool.and_eq_true, Bool.and_eq_true, Bool.or_eq_true]
    refine ⟨⟨flat_strs l, ?_⟩, .inr ?_⟩
    · refine List.all_eq_true.mpr fun x hx => List.all_eq_true.mpr fun y hy => ?_
      obtain ⟨a, _, rfl⟩ := List.mem_map.mp hx
      obtain ⟨b, _, rfl⟩ := List.mem_map.mp hy
      rfl
    · refine List.all_eq_true.mpr fun x hx => ?_
      obtain ⟨a, _, rfl⟩ := List.mem_map.mp hx
      rfl
  unfold sortD
  rw [if_pos hk]
  unfold sortN nm
  rw [List.map_mergeSort]
  intro a _ b _
  rfl
theorem sort_perm (l : List (List Nat)) : (sortN l).Perm l := List.mergeSort_perm _ _
theorem lt_tri (x y : List Nat) (h1 : ¬ x < y) (h2 : ¬ y < x) : x = y := by
  exact List.le_antisymm (List.not_lt.mp h2) (List.not_lt.mp h1)
theorem sort_lt {l : List (List Nat)} (hn : l.Nodup) : (sortN l).Pairwise fun x y => x < y := by
  have hs : (sortN l).Pairwise fun x y => (!decide (y < x)) = true := by
    refine List.pairwise_mergeSort (fun a b c h1 h2 => ?_) (fun a b => ?_) l
    · simp only [Bool.not_eq_true', decide_eq_false_iff_not, List.not_lt] at h1 h2 ⊢
      exact List.le_trans h1 h2
    · simp only [Bool.or_eq_true, Bool.not_eq_true', decide_eq_false_iff_not, List.not_lt]
      exact List.le_total a b
  have hd : (sortN l).Nodup := (sort_perm l).nodup_iff.mpr hn
  refine (List.Pairwise.and hs hd).imp fun {x y} ⟨h1, h2⟩ => ?_
  simp only [Bool.not_eq_true', decide_eq_false_iff_not] at h1
  by_cases h : x < y
  · exact h
  · exact absurd (lt_tri x y h h1) h2
def manyOf (c : Int) : Nat := (if c / 6 % 6 = 1 then 21 + c / 36 % 2 else 2 + c % 6).toNat
def namesOf (c : Int) : List (List Nat) := sortN ((List.range (manyOf c)).map fun i => nameBy (i : Nat) (c / 6))
theorem made_nodup {n : Nat} {c : Int} (hn : n ≤ 72) : ((List.range n).map fun i => nameBy (i : Nat) c).Nodup := by
  refine List.pairwise_map.mpr ((List.nodup_range (n := n)).imp_of_mem fun {i j} hi hj ne e => ne ?_)
  rw [List.mem_range] at hi hj
  exact nameBy_inj (by omega) (by omega) e
theorem many_bd (c : Int) : 2 ≤ manyOf c ∧ manyOf c ≤ 22 := by
  unfold manyOf
  split <;> omega
theorem names_ok (c : Int) : Names (namesOf c) := by
  have hb := many_bd c
  have hp := sort_perm ((List.range (manyOf c)).map fun i => nameBy (i : Nat) (c / 6))
  have hl : (namesOf c).length = manyOf c := by
    unfold namesOf
    rw [hp.length_eq, List.length_map, List.length_range]
  refine ⟨fun x hx => ?_, by omega, by omega, sort_lt (made_nodup (by omega))⟩
  obtain ⟨i, _, rfl⟩ := List.mem_map.mp (hp.mem_iff.mp hx)
  exact (nameBy_name _ _).1
theorem p_names_by {f : Nat} {c : Int} (hB : ∀ k c, C f [.int k, .int c] st = .ok (.str (nameBy k c)) st) : runF C ⟨1, 3, b__law_names_by f⟩ [.int c] st = .ok (.lst (nm (namesOf c))) st := by
  have hb := many_bd c
  have fin : ∀ m : Int, m = manyOf c → evi C (.rng1 (.w 1)) [.va (.int c), .va (.int m), .un] st = .ok (rngD 0 (manyOf c), .none) st := fun m hm => by
    have r0 : ev C (.w 1) [.va (.int c), .va (.int m), .un] st = .ok (.int (manyOf c)) st := by simp [runF, qev1, qev2, qev3, qev4, qev5, qev6, qev7, qev8, qev9, qev10, qev11, qev12, qev13, qev14, qev15, qev16, qev17, qev18, qev19, qev20, qev21, qevs1, qevs2, qevo1, qevo2, qevi1, qevi4, qexec1, qexec2, qexec3, qexec4, qexec5, qexec6, qexec7, qexec8, qexec9, qexec10, qexec11, qexec12, qexec13, qexec14, qexec15, qexec16, qexec17, qexec18, qexecs1, qexecs2, Res.bind, Res.go, lift, liftS, binD, cmpD, truth_bl, truth_int, truth_str, dr_non, dr_bl, dr_int, dr_str, dr_tup, dr_lst, dr_fn, bltD, lenD, isiD, slcD, seqD, bindD, wipeD, srcOf, sameAt, SL, Nat.reduceLeDiff, eq_int, eq_str, eq_bl, List.map_cons, List.map_nil, List.length_cons, List.length_nil, List.cons_append, List.nil_append, List.append_nil, List.getElem?_cons_zero, List.getElem?_cons_succ, List.set_cons_zero, List.set_cons_succ, List.replicate_succ, List.replicate_zero, Option.some.injEq, Option.map_some, Option.bind_some, Nat.reduceAdd, Nat.reduceSub, if_true, if_false, Bool.not_true, Bool.not_false, Bool.and_true, Bool.true_and, Bool.false_eq_true, reduceIte, Nat.zero_add, hm]
    exact evi_0n r0 (by omega)
  have r2 : rngD 0 (manyOf c) = (List.range (manyOf c)).map fun i : Nat => D.int (0 + (i : Int)) := rfl
  have es := sort_nm ((List.range (manyOf c)).map fun i => nameBy (i : Nat) (c / 6))
  have em : nm ((List.range (manyOf c)).map fun i => nameBy (i : Nat) (c / 6)) = (List.range (manyOf c)).map fun i => D.str (nameBy (i : Nat) (c / 6)) := by
    unfold nm
    rw [List.map_map]
    rfl
  rw [show namesOf c = sortN ((List.range (manyOf c)).map fun i => nameBy (i : Nat) (c / 6)) from rfl]
  generalize ((List.range (manyOf c)).map fun i => nameBy (i : Nat) (c / 6)) = L at *
  by_cases h1 : c / 6 % 6 = 1
  · have hm : 21 + c / 36 % 2 = manyOf c := by
      unfold manyOf
      rw [if_pos h1]
      omega
    have r1 := fin _ hm
    simp [b__law_names_by, runF, qev1, qev2, qev3, qev4, qev5, qev6, qev7, qev8, qev9, qev10, qev11, qev12, qev13, qev14, qev15, qev16, qev17, qev18, qev19, qev20, qev21, qevs1, qevs2, qevo1, qevo2, qevi1, qevi4, qexec1, qexec2, qexec3, qexec4, qexec5, qexec6, qexec7, qexec8, qexec9, qexec10, qexec11, qexec12, qexec13, qexec14, qexec15, qexec16, qexec17, qexec18, qexecs1, qexecs2, Res.bind, Res.go, lift, liftS, binD, cmpD, truth_bl, truth_int, truth_str, dr_non, dr_bl, dr_int, dr_str, dr_tup, dr_lst, dr_fn, bltD, lenD, isiD, slcD, seqD, bindD, wipeD, srcOf, sameAt, SL, Nat.reduceLeDiff, eq_int, eq_str, eq_bl, List.map_cons, List.map_nil, List.length_cons, List.length_nil, List.cons_append, List.nil_append, List.append_nil, List.getElem?_cons_zero, List.getElem?_cons_succ, List.set_cons_zero, List.set_cons_succ, List.replicate_succ, List.replicate_zero, Option.some.injEq, Option.map_some, Option.bind_some, Nat.reduceAdd, Nat.reduceSub, if_true, if_false, Bool.not_true, Bool.not_false, Bool.and_true, Bool.true_and, Bool.false_eq_true, reduceIte, Nat.zero_add, h1, r1, r2]
    rw [comp_map (fun i : Nat => D.int (i : Int)) (fun i => D.str (nameBy (i : Nat) (c / 6))) rfl]
    · rw [← em]
      simp [runF, qev1, qev2, qev3, qev4, qev5, qev6, qev7, qev8, qev9, qev10, qev11, qev12, qev13, qev14, qev15, qev16, qev17, qev18, qev19, qev20, qev21, qevs1, qevs2, qevo1, qevo2, qevi1, qevi4, qexec1, qexec2, qexec3, qexec4, qexec5, qexec6, qexec7, qexec8, qexec9, qexec10, qexec11, qexec12, qexec13, qexec14, qexec15, qexec16, qexec17, qexec18, qexecs1, qexecs2, Res.bind, Res.go, lift, liftS, binD, cmpD, truth_bl, truth_int, truth_str, dr_non, dr_bl, dr_int, dr_str, dr_tup, dr_lst, dr_fn, bltD, lenD, isiD, slcD, seqD, bindD, wipeD, srcOf, sameAt, SL, Nat.reduceLeDiff, eq_int, eq_str, eq_bl, List.map_cons, List.map_nil, List.length_cons, List.length_nil, List.cons_append, List.nil_append, List.append_nil, List.getElem?_cons_zero, List.getElem?_cons_succ, List.set_cons_zero, List.set_cons_succ, List.replicate_succ, List.replicate_zero, Option.some.injEq, Option.map_some, Option.bind_some, Nat.reduceAdd, Nat.reduceSub, if_true, if_false, Bool.not_true, Bool.not_false, Bool.and_true, Bool.true_and, Bool.false_eq_true, reduceIte, Nat.zero_add, es]
    · intro i hi
      exact ⟨_, rfl, qev3 .., by simp [runF, qev1, qev2, qev3, qev4, qev5, qev6, qev7, qev8, qev9, qev10, qev11, qev12, qev13, qev14, qev15, qev16, qev17, qev18, qev19, qev20, qev21, qevs1, qevs2, qevo1, qevo2, qevi1, qevi4, qexec1, qexec2, qexec3, qexec4, qexec5, qexec6, qexec7, qexec8, qexec9, qexec10, qexec11, qexec12, qexec13, qexec14, qexec15, qexec16, qexec17, qexec18, qexecs1, qexecs2, Res.bind, Res.go, lift, liftS, binD, cmpD, truth_bl, truth_int, truth_str, dr_non, dr_bl, dr_int, dr_str, dr_tup, dr_lst, dr_fn, bltD, lenD, isiD, slcD, seqD, bindD, wipeD, srcOf, sameAt, SL, Nat.reduceLeDiff, eq_int, eq_str, eq_bl, List.map_cons, List.map_nil, List.length_cons, List.length_nil, List.cons_append, List.nil_append, List.append_nil, List.getElem?_cons_zero, List.getElem?_cons_succ, List.set_cons_zero, List.set_cons_succ, List.replicate_succ, List.replicate_zero, Option.some.injEq, Option.map_some, Option.bind_some, Nat.reduceAdd, Nat.reduceSub, if_true, if_false, Bool.not_true, Bool.not_false, Bool.and_true, Bool.true_and, Bool.false_eq_true, reduceIte, Nat.zero_add, hB]⟩
  · have hm : 2 + c % 6 = manyOf c := by
      unfold manyOf
      rw [if_neg h1]
      omega
    have r1 := fin _ hm
    simp [b__law_names_by, runF, qev1, qev2, qev3, qev4, qev5, qev6, qev7, qev8, qev9, qev10, qev11, qev12, qev13, qev14, qev15, qev16, qev17, qev18, qev19, qev20, qev21, qevs1, qevs2, qevo1, qevo2, qevi1, qevi4, qexec1, qexec2, qexec3, qexec4, qexec5, qexec6, qexec7, qexec8, qexec9, qexec10, qexec11, qexec12, qexec13, qexec14, qexec15, qexec16, qexec17, qexec18, qexecs1, qexecs2, Res.bind, Res.go, lift, liftS, binD, cmpD, truth_bl, truth_int, truth_str, dr_non, dr_bl, dr_int, dr_str, dr_tup, dr_lst, dr_fn, bltD, lenD, isiD, slcD, seqD, bindD, wipeD, srcOf, sameAt, SL, Nat.reduceLeDiff, eq_int, eq_str, eq_bl, List.map_cons, List.map_nil, List.length_cons, List.length_nil, List.cons_append, List.nil_append, List.append_nil, List.getElem?_cons_zero, List.getElem?_cons_succ, List.set_cons_zero, List.set_cons_succ, List.replicate_succ, List.replicate_zero, Option.some.injEq, Option.map_some, Option.bind_some, Nat.reduceAdd, Nat.reduceSub, if_true, if_false, Bool.not_true, Bool.not_false, Bool.and_true, Bool.true_and, Bool.false_eq_true, reduceIte, Nat.zero_add, h1, r1, r2]
    rw [comp_map (fun i : Nat => D.int (i : Int)) (fun i => D.str (nameBy (i : Nat) (c / 6))) rfl]
    · rw [← em]
      simp [runF, qev1, qev2, qev3, qev4, qev5, qev6, qev7, qev8, qev9, qev10, qev11, qev12, qev13, qev14, qev15, qev16, qev17, qev18, qev19, qev20, qev21, qevs1, qevs2, qevo1, qevo2, qevi1, qevi4, qexec1, qexec2, qexec3, qexec4, qexec5, qexec6, qexec7, qexec8, qexec9, qexec10, qexec11, qexec12, qexec13, qexec14, qexec15, qexec16, qexec17, qexec18, qexecs1, qexecs2, Res.bind, Res.go, lift, liftS, binD, cmpD, truth_bl, truth_int, truth_str, dr_non, dr_bl, dr_int, dr_str, dr_tup, dr_lst, dr_fn, bltD, lenD, isiD, slcD, seqD, bindD, wipeD, srcOf, sameAt, SL, Nat.reduceLeDiff, eq_int, eq_str, eq_bl, List.map_cons, List.map_nil, List.length_cons, List.length_nil, List.cons_append, List.nil_append, List.append_nil, List.getElem?_cons_zero, List.getElem?_cons_succ, List.set_cons_zero, List.set_cons_succ, List.replicate_succ, List.replicate_zero, Option.some.injEq, Option.map_some, Option.bind_some, Nat.reduceAdd, Nat.reduceSub, if_true, if_false, Bool.not_true, Bool.not_false, Bool.and_true, Bool.true_and, Bool.false_eq_true, reduceIte, Nat.zero_add, es]
    · intro i hi
      exact ⟨_, rfl, qev3 .., by simp [runF, qev1, qev2, qev3, qev4, qev5, qev6, qev7, qev8, qev9, qev10, qev11, qev12, qev13, qev14, qev15, qev16, qev17, qev18, qev19, qev20, qev21, qevs1, qevs2, qevo1, qevo2, qevi1, qevi4, qexec1, qexec2, qexec3, qexec4, qexec5, qexec6, qexec7, qexec8, qexec9, qexec10, qexec11, qexec12, qexec13, qexec14, qexec15, qexec16, qexec17, qexec18, qexecs1, qexecs2, Res.bind, Res.go, lift, liftS, binD, cmpD, truth_bl, truth_int, truth_str, dr_non, dr_bl, dr_int, dr_str, dr_tup, dr_lst, dr_fn, bltD, lenD, isiD, slcD, seqD, bindD, wipeD, srcOf, sameAt, SL, Nat.reduceLeDiff, eq_int, eq_str, eq_bl, List.map_cons, List.map_nil, List.length_cons, List.length_nil, List.cons_append, List.nil_append, List.append_nil, List.getElem?_cons_zero, List.getElem?_cons_succ, List.set_cons_zero, List.set_cons_succ, List.replicate_succ, List.replicate_zero, Option.some.injEq, Option.map_some, Option.bind_some, Nat.reduceAdd, Nat.reduceSub, if_true, if_false, Bool.not_true, Bool.not_false, Bool.and_true, Bool.true_and, Bool.false_eq_true, reduceIte, Nat.zero_add, hB]⟩
end
end Cal
/-! plain lemmas: the law -/
namespace Cal
section
variable {C : CallF} {st : Sto}
def b_law (f__law_names_by : Nat) (f__law_cell_at : Nat) (f__law_mixed : Nat) (f_is_name : Nat) (f__law_is_name : Nat) (f__law_letter_by : Nat) (f__law_altered : Nat) (f_is_letter : Nat) (f__law_due : Nat) (f__law_name_by : Nat) : ISs := (.cons (.set 1 (.call f__law_names_by (.cons (.call f__law_cell_at (.cons (.v 0) (.cons (.k (.int 0)) .nil))) .nil))) (.cons (.forr [2] (.seq (.slc (.w 1) .no (.so (.k (.int 3))))) (.cons (.set 3 (.call f__law_mixed (.cons (.call f__law_cell_at (.cons (.v 0) (.cons (.k (.int 1)) .nil))) (.cons (.k (.int 1)) (.cons (.blt .len (.cons (.w 2) .nil)) .nil))))) (.cons (.set 4 (.idx (.k (.str [32, 33, 45, 46, 47, 48, 49, 50, 51, 52, 53, 54, 55, 56, 57, 58, 64, 65, 90, 91, 95, 97, 98, 99, 120, 121, 122, 123, 126])) (.call f__law_mixed (.cons (.call f__law_cell_at (.cons (.v 0) (.cons (.k (.int 1)) .nil))) (.cons (.k (.int 2)) (.cons (.k (.int 29)) .nil)))))) (.cons (.set 5 (.bin .add (.bin .add (.slc (.w 2) .no (.so (.w 3))) (.w 4)) (.slc (.w 2) (.so (.bin .add (.w 3) (.call f__law_mixed (.cons (.call f__law_cell_at (.cons (.v 0) (.cons (.k (.int 1)) .nil))) (.cons (.k (.int 3)) (.cons (.k (.int 2)) .nil)))))) .no))) (.cons (.ifs (.orv (.cmp .isnot (.call f_is_name (.cons (.v 2) .nil)) (.k (.bl true))) (.cmp .isnot (.call f_is_name (.cons (.k (.str [])) .nil)) (.k (.bl false)))) (.cons (.ret (.k (.bl false))) .nil) .nil) (.cons (.set 6 (.call f_is_name (.cons (.v 5) .nil))) (.cons (.ifs (.orv (.notv (.isi (.w 6) .bool)) (.cmp .ne (.w 6) (.call f__law_is_name (.cons (.v 5) .nil)))) (.cons (.ret (.k (.bl false))) .nil) .nil) .nil))))))) (.cons (.forr [7] (.seq (.bin .add (.lst (.cons (.call f__law_cell_at (.cons (.v 0) (.cons (.k (.int 2)) .nil))) .nil)) (.slc (.w 0) (.so (.k (.int 3))) (.so (.k (.int 16)))))) (.cons (.set 8 (.call f__law_letter_by (.cons (.v 7) (.cons (.call f__law_cell_at (.cons (.v 0) (.cons (.k (.int 1)) .nil))) (.cons (.v 1) .nil))))) (.cons (.ifs (.cmp .eq (.bin .mod (.bin .fdiv (.w 7) (.k (.int 3))) (.k (.int 8))) (.k (.int 1))) (.cons (.set 8 (.tup (.cons (.k (.str [111, 102, 102])) (.cons (.idx (.w 8) (.k (.int 1))) (.cons (.idx (.w 8) (.k (.int 2))) (.cons (.bin .add (.k (.int 1)) (.bin .mod (.bin .fdiv (.w 7) (.k (.int 24))) (.k (.int 3)))) .nil)))))) .nil) .nil) (.cons (.ifs (.cmp .gt (.bin .mod (.w 7) (.k (.int 3))) (.k (.int 0))) (.cons (.set 8 (.call f__law_altered (.cons (.v 8) (.cons (.v 1) (.cons (.v 7) .nil))))) .nil) .nil) (.cons (.set 6 (.call f_is_letter (.cons (.v 8) .nil))) (.cons (.ifs (.orv (.notv (.isi (.w 6) .bool)) (.cmp .ne (.w 6) (.call f__law_due (.cons (.v 8) .nil)))) (.cons (.ret (.k (.bl false))) .nil) .nil) .nil)))))) (.cons (.set 9 (.bin .mod (.call f__law_cell_at (.cons (.v 0) (.cons (.k (.int 1)) .nil))) (.bin .pow (.k (.int 10)) (.k (.int 60))))) (.cons (.set 10 (.blt .sorted (.cons (.comp (.rng1 (.k (.int 22))) [11] (.k (.bl true)) (.call f__law_name_by (.cons (.v 11) (.cons (.v 9) .nil))) [11]) .nil))) (.cons (.forr [12] (.seq (.lst (.cons (.k (.int 19)) (.cons (.k (.int 20)) (.cons (.k (.int 21)) (.cons (.k (.int 22)) .nil)))))) (.cons (.set 13 (.tup (.cons (.k (.str [98, 105, 100])) (.cons (.k (.str [110, 111, 98, 111, 100, 121])) (.cons (.k (.int 3)) (.cons (.k (.int 1)) (.cons (.v 9) (.cons (.bin .add (.w 9) (.k (.int 1))) (.cons (.blt .tuple (.cons (.slc (.w 10) .no (.so (.w 12))) .nil)) .nil))))))))) (.cons (.set 14 (.tup (.cons (.k (.str [99, 108, 111, 115, 101])) (.cons (.k (.str [110, 111, 98, 111, 100, 121])) (.cons (.k (.int 3)) (.cons (.k (.int 1)) (.cons (.blt .tuple (.cons (.slc (.w 10) (.so (.bin .sub (.k (.int 22)) (.w 12))) .no) .nil)) .nil))))))) (.cons (.ifs (.cmp .ne (.lst (.cons (.call f_is_letter (.cons (.v 13) .nil)) (.cons (.call f_is_letter (.cons (.v 14) .nil)) .nil))) (.lst (.cons (.cmp .lt (.w 12) (.k (.int 21))) (.cons (.cmp .lt (.w 12) (.k (.int 21))) .nil)))) (.cons (.ret (.k (.bl false))) .nil) .nil) .nil)))) (.cons (.ret (.cmp .is (.call f_is_letter (.cons (.tup .nil) .nil)) (.k (.bl false)))) .nil)))))))
def lb1 (f__law_cell_at : Nat) (f__law_mixed : Nat) (f_is_name : Nat) (f__law_is_name : Nat) : ISs := (.cons (.set 3 (.call f__law_mixed (.cons (.call f__law_cell_at (.cons (.v 0) (.cons (.k (.int 1)) .nil))) (.cons (.k (.int 1)) (.cons (.blt .len (.cons (.w 2) .nil)) .nil))))) (.cons (.set 4 (.idx (.k (.str [32, 33, 45, 46, 47, 48, 49, 50, 51, 52, 53, 54, 55, 56, 57, 58, 64, 65, 90, 91, 95, 97, 98, 99, 120, 121, 122, 123, 126])) (.call f__law_mixed (.cons (.call f__law_cell_at (.cons (.v 0) (.cons (.k (.int 1)) .nil))) (.cons (.k (.int 2)) (.cons (.k (.int 29)) .nil)))))) (.cons (.set 5 (.bin .add (.bin .add (.slc (.w 2) .no (.so (.w 3))) (.w 4)) (.slc (.w 2) (.so (.bin .add (.w 3) (.call f__law_mixed (.cons (.call f__law_cell_at (.cons (.v 0) (.cons (.k (.int 1)) .nil))) (.cons (.k (.int 3)) (.cons (.k (.int 2)) .nil)))))) .no))) (.cons (.ifs (.orv (.cmp .isnot (.call f_is_name (.cons (.v 2) .nil)) (.k (.bl true))) (.cmp .isnot (.call f_is_name (.cons (.k (.str [])) .nil)) (.k (.bl false)))) (.cons (.ret (.k (.bl false))) .nil) .nil) (.cons (.set 6 (.call f_is_name (.cons (.v 5) .nil))) (.cons (.ifs (.orv (.notv (.isi (.w 6) .bool)) (.cmp .ne (.w 6) (.call f__law_is_name (.cons (.v 5) .nil)))) (.cons (.ret (.k (.bl false))) .nil) .nil) .nil))))))
def lb2 (f__law_cell_at : Nat) (f__law_letter_by : Nat) (f__law_altered : Nat) (f_is_letter : Nat) (f__law_due : Nat) : ISs := (.cons (.set 8 (.call f__law_letter_by (.cons (.v 7) (.cons (.call f__law_cell_at (.cons (.v 0) (.cons (.k (.int 1)) .nil))) (.cons (.v 1) .nil))))) (.cons (.ifs (.cmp .eq (.bin .mod (.bin .fdiv (.w 7) (.k (.int 3))) (.k (.int 8))) (.k (.int 1))) (.cons (.set 8 (.tup (.cons (.k (.str [111, 102, 102])) (.cons (.idx (.w 8) (.k (.int 1))) (.cons (.idx (.w 8) (.k (.int 2))) (.cons (.bin .add (.k (.int 1)) (.bin .mod (.bin .fdiv (.w 7) (.k (.int 24))) (.k (.int 3)))) .nil)))))) .nil) .nil) (.cons (.ifs (.cmp .gt (.bin .mod (.w 7) (.k (.int 3))) (.k (.int 0))) (.cons (.set 8 (.call f__law_altered (.cons (.v 8) (.cons (.v 1) (.cons (.v 7) .nil))))) .nil) .nil) (.cons (.set 6 (.call f_is_letter (.cons (.v 8) .nil))) (.cons (.ifs (.orv (.notv (.isi (.w 6) .bool)) (.cmp .ne (.w 6) (.call f__law_due (.cons (.v 8) .nil)))) (.cons (.ret (.k (.bl false))) .nil) .nil) .nil)))))
def lb3 (f_is_letter : Nat) : ISs := (.cons (.set 13 (.tup (.cons (.k (.str [98, 105, 100])) (.cons (.k (.str [110, 111, 98, 111, 100, 121])) (.cons (.k (.int 3)) (.cons (.k (.int 1)) (.cons (.v 9) (.cons (.bin .add (.w 9) (.k (.int 1))) (.cons (.blt .tuple (.cons (.slc (.w 10) .no (.so (.w 12))) .nil)) .nil))))))))) (.cons (.set 14 (.tup (.cons (.k (.str [99, 108, 111, 115, 101])) (.cons (.k (.str [110, 111, 98, 111, 100, 121])) (.cons (.k (.int 3)) (.cons (.k (.int 1)) (.cons (.blt .tuple (.cons (.slc (.w 10) (.so (.bin .sub (.k (.int 22)) (.w 12))) .no) .nil)) .nil))))))) (.cons (.ifs (.cmp .ne (.lst (.cons (.call f_is_letter (.cons (.v 13) .nil)) (.cons (.call f_is_letter (.cons (.v 14) .nil)) .nil))) (.lst (.cons (.cmp .lt (.w 12) (.k (.int 21))) (.cons (.cmp .lt (.w 12) (.k (.int 21))) .nil)))) (.cons (.ret (.k (.bl false))) .nil) .nil) .nil)))
structure LawC (C : CallF) (ns : List Int) (f_nb f_cell f_mixed f_in f_lin f_lb f_alt f_il f_due f_nameby : Nat) (st : Sto) : Prop where
  nb : ∀ c, C f_nb [.int c] st = .ok (.lst (nm (namesOf c))) st
  cell : ∀ i, 0 ≤ i → C f_cell [.lst (ns.map D.int), .int i] st = .ok (.int (cellI ns i)) st
  mx : MixOk C f_mixed st
  isn : ∀ s, C f_in [.str s] st = .ok (.bl (nameB s)) st
  lin : ∀ d, flatD 10 d = true → C f_lin [d] st = .ok (.bl (handB d)) st
  lb : ∀ names c s, Names names → ∃ ds, C f_lb [.int c, .int s, .lst (nm names)] st = .ok (.tup ds) st ∧ LetOk names ds
  alt : ∀ names ds c, Names names → LetOk names ds → ∃ es, C f_alt [.tup ds, .lst (nm names), .int c] st = .ok (.tup es) st ∧ ∀ d ∈ es, flatD 3 d = true
  il : ∀ ds, (∀ d ∈ ds, flatD 10 d = true) → C f_il [.tup ds] st = .ok (.bl (letterB ds)) st
  due : ∀ ds, (∀ d ∈ ds, flatD 10 d = true) → C f_due [.tup ds] st = .ok (.bl (letterB ds)) st
  nby : ∀ k c, C f_nameby [.int k, .int c] st = .ok (.str (nameBy k c)) st
abbrev SGN : List Nat := [32, 33, 45, 46, 47, 48, 49, 50, 51, 52, 53, 54, 55, 56, 57, 58, 64, 65, 90, 91, 95, 97, 98, 99, 120, 121, 122, 123, 126]
variable {ns : List Int} {f_nb f_cell f_mixed f_in f_lin f_lb f_alt f_il f_due f_nameby : Nat}
theorem p_loop1 (H : LawC C ns f_nb f_cell f_mixed f_in f_lin f_lb f_alt f_il f_due f_nameby st) {names : List (List Nat)} (N : Names names) {t : Env} (ys : List (List Nat)) (hy : ∀ y ∈ ys, y ∈ names) (x2 x3 x4 x5 x6 : Sl) :
    ∃ y2 y3 y4 y5 y6, forGo (execs C (lb1 f_cell f_mixed f_in f_lin)) (sameAt .none st) [2] (ys.map D.str) (.va (.lst (ns.map D.int)) :: .va (.lst (nm names)) :: x2 :: x3 :: x4 :: x5 :: x6 :: t) st = .nx (.va (.lst (ns.map D.int)) :: .va (.lst (nm names)) :: y2 :: y3 :: y4 :: y5 :: y6 :: t) st := by
  obtain ⟨env1, ⟨y2, y3, y4, y5, y6, rfl⟩, he⟩ := for_all (st := st) (fb := execs C (lb1 f_cell f_mixed f_in f_lin)) (chk := sameAt .none st) (tg := [2]) (fun env => ∃ y2 y3 y4 y5 y6, env = .va (.lst (ns.map D.int)) :: .va (.lst (nm names)) :: y2 :: y3 :: y4 :: y5 :: y6 :: t) D.str rfl ys (fun y hyy env he => by
    obtain ⟨y2, y3, y4, y5, y6, rfl⟩ := he
    refine ⟨_, rfl, ?_⟩
    have hn := N.1 y (hy y hyy)
    have l8 := name_len hn
    have l0 : 0 < y.length := by
      cases y with
      | nil => simp [nameB] at hn
      | cons _ _ => simp
    have c1 := H.cell 1 (by omega)
    generalize cellI ns 1 = c at *
    have m1 := H.mx c 1 y.length (by omega) (by omega) (by omega)
    have m2 := H.mx c 2 29 (by omega) (by omega) (by omega)
    have m3 := H.mx c 3 2 (by omega) (by omega) (by omega)
    have b2 := mixed_bd c 2 (m := 29) (by omega)
    obtain ⟨w, hw⟩ : ∃ w, idxD (.str SGN) (.int (mixedI c 2 29)) = some (.str [w]) := ⟨_, idx_str b2.1 (by simpa using b2.2)⟩
    have i1 := H.isn y
    have i2 := H.isn []
    have q1 : ∀ v, (cutD y none (some v)).length + 1 ≤ 16777216 := fun v => by
      have := cut_len (xs := y) (lo := none) (hi := some v)
      omega
    have q2 : ∀ v lo hi, (cutD y none (some v)).length + 1 + (cutD y lo hi).length ≤ 16777216 := fun v lo hi => by
      have := cut_len (xs := y) (lo := none) (hi := some v)
      have := cut_len (xs := y) (lo := lo) (hi := hi)
      omega
    have q3 : ∀ v lo hi, (cutD y none (some v)).length + ((cutD y lo hi).length + 1) ≤ 16777216 := fun v lo hi => by
      have := q2 v lo hi
      omega
    have i3 := fun s => H.isn s
    have i4 := fun s => H.lin (.str s) rfl
    have n0 : nameB [] = false := rfl
    simp [lb1, runF, qev1, qev2, qev3, qev4, qev5, qev6, qev7, qev8, qev9, qev10, qev11, qev12, qev13, qev14, qev15, qev16, qev17, qev18, qev19, qev20, qev21, qevs1, qevs2, qevo1, qevo2, qevi1, qevi4, qexec1, qexec2, qexec3, qexec4, qexec5, qexec6, qexec7, qexec8, qexec9, qexec10, qexec11, qexec12, qexec13, qexec14, qexec15, qexec16, qexec17, qexec18, qexecs1, qexecs2, Res.bind, Res.go, lift, liftS, binD, cmpD, truth_bl, truth_int, truth_str, dr_non, dr_bl, dr_int, dr_str, dr_tup, dr_lst, dr_fn, bltD, lenD, isiD, slcD, seqD, bindD, wipeD, srcOf, sameAt, SL, Nat.reduceLeDiff, eq_int, eq_str, eq_bl, List.map_cons, List.map_nil, List.length_cons, List.length_nil, List.cons_append, List.nil_append, List.append_nil, List.getElem?_cons_zero, List.getElem?_cons_succ, List.set_cons_zero, List.set_cons_succ, List.replicate_succ, List.replicate_zero, Option.some.injEq, Option.map_some, Option.bind_some, Nat.reduceAdd, Nat.reduceSub, if_true, if_false, Bool.not_true, Bool.not_false, Bool.and_true, Bool.true_and, Bool.false_eq_true, reduceIte, Nat.zero_add, c1, m1, m2, m3, hw, i3, i4, hn, n0, q1, q2, q3, handB]) (.va (.lst (ns.map D.int)) :: .va (.lst (nm names)) :: x2 :: x3 :: x4 :: x5 :: x6 :: t) ⟨x2, x3, x4, x5, x6, rfl⟩
  exact ⟨y2, y3, y4, y5, y6, he⟩
theorem p_loop2 (H : LawC C ns f_nb f_cell f_mixed f_in f_lin f_lb f_alt f_il f_due f_nameby st) {names : List (List Nat)} (N : Names names) {t : Env} (ys : List Int) (x2 x3 x4 x5 x6 x7 x8 : Sl) :
    ∃ y6 y7 y8, forGo (execs C (lb2 f_cell f_lb f_alt f_il f_due)) (sameAt .none st) [7] (ys.map D.int) (.va (.lst (ns.map D.int)) :: .va (.lst (nm names)) :: x2 :: x3 :: x4 :: x5 :: x6 :: x7 :: x8 :: t) st = .nx (.va (.lst (ns.map D.int)) :: .va (.lst (nm names)) :: x2 :: x3 :: x4 :: x5 :: y6 :: y7 :: y8 :: t) st := by
  obtain ⟨env1, ⟨y6, y7, y8, rfl⟩, he⟩ := for_all (st := st) (fb := execs C (lb2 f_cell f_lb f_alt f_il f_due)) (chk := sameAt .none st) (tg := [7]) (fun env => ∃ y6 y7 y8, env = .va (.lst (ns.map D.int)) :: .va (.lst (nm names)) :: x2 :: x3 :: x4 :: x5 :: y6 :: y7 :: y8 :: t) D.int rfl ys (fun y hyy env he => by
    obtain ⟨y6, y7, y8, rfl⟩ := he
    refine ⟨_, rfl, ?_⟩
    have c1 := H.cell 1 (by omega)
    generalize cellI ns 1 = c at *
    obtain ⟨ds, l1, L⟩ := H.lb names y c N
    have L2' : ∃ es, (if y / 3 % 8 = 1 then Res.ok (D.tup es) st else Res.ok (D.tup ds) st) = Res.ok (D.tup es) st := ⟨ds, by split <;> rfl⟩
    obtain ⟨k, a, n, tt, r, e, ha, sm, hr, hb⟩ := L.ex
    have sa : a.length ≤ 16 := Nat.le_trans (name_len (N.1 a ha)) (by omega)
    have j1 : idxD (.tup ds) (.int 1) = some (.str a) := by rw [e]; exact ix1
    have j2 : idxD (.tup ds) (.int 2) = some (.int n) := by rw [e]; exact ix2
    have sn : Small (.int n) := sm (.int n) (by rw [e]; simp)
    have LO : LetOk names [.str [111, 102, 102], .str a, .int n, .int (1 + y / 24 % 3)] := by
      refine ⟨_, a, n, _, [], rfl, ha, ?_, by simp, fun e => by simp at e⟩
      intro d hd
      simp only [List.mem_cons, List.not_mem_nil, or_false] at hd
      rcases hd with rfl | rfl | rfl | rfl
      · exact (show 3 ≤ 16 by omega)
      · exact sa
      · exact sn
      · exact ⟨by omega, by omega⟩
    have fin : ∀ es, LetOk names es → (∀ d ∈ es, flatD 10 d = true) := fun es l d hd => by
      obtain ⟨_, _, _, _, _, _, _, sm, _, _⟩ := l.ex
      exact flat_le (small_flat (sm d hd)) (by omega)
    by_cases h8 : y / 3 % 8 = 1
    · by_cases h3 : 0 < y % 3
      · obtain ⟨es, a1, a2⟩ := H.alt names _ y N LO
        have f1 := H.il es fun d hd => flat_le (a2 d hd) (by omega)
        have f2 := H.due es fun d hd => flat_le (a2 d hd) (by omega)
        simp [lb2, runF, qev1, qev2, qev3, qev4, qev5, qev6, qev7, qev8, qev9, qev10, qev11, qev12, qev13, qev14, qev15, qev16, qev17, qev18, qev19, qev20, qev21, qevs1, qevs2, qevo1, qevo2, qevi1, qevi4, qexec1, qexec2, qexec3, qexec4, qexec5, qexec6, qexec7, qexec8, qexec9, qexec10, qexec11, qexec12, qexec13, qexec14, qexec15, qexec16, qexec17, qexec18, qexecs1, qexecs2, Res.bind, Res.go, lift, liftS, binD, cmpD, truth_bl, truth_int, truth_str, dr_non, dr_bl, dr_int, dr_str, dr_tup, dr_lst, dr_fn, bltD, lenD, isiD, slcD, seqD, bindD, wipeD, srcOf, sameAt, SL, Nat.reduceLeDiff, eq_int, eq_str, eq_bl, List.map_cons, List.map_nil, List.length_cons, List.length_nil, List.cons_append, List.nil_append, List.append_nil, List.getElem?_cons_zero, List.getElem?_cons_succ, List.set_cons_zero, List.set_cons_succ, List.replicate_succ, List.replicate_zero, Option.some.injEq, Option.map_some, Option.bind_some, Nat.reduceAdd, Nat.reduceSub, if_true, if_false, Bool.not_true, Bool.not_false, Bool.and_true, Bool.true_and, Bool.false_eq_true, reduceIte, Nat.zero_add, c1, l1, j1, j2, h8, h3, a1, f1, f2]
      · have f1 := H.il _ (fin _ LO)
        have f2 := H.due _ (fin _ LO)
        simp [lb2, runF, qev1, qev2, qev3, qev4, qev5, qev6, qev7, qev8, qev9, qev10, qev11, qev12, qev13, qev14, qev15, qev16, qev17, qev18, qev19, qev20, qev21, qevs1, qevs2, qevo1, qevo2, qevi1, qevi4, qexec1, qexec2, qexec3, qexec4, qexec5, qexec6, qexec7, qexec8, qexec9, qexec10, qexec11, qexec12, qexec13, qexec14, qexec15, qexec16, qexec17, qexec18, qexecs1, qexecs2, Res.bind, Res.go, lift, liftS, binD, cmpD, truth_bl, truth_int, truth_str, dr_non, dr_bl, dr_int, dr_str, dr_tup, dr_lst, dr_fn, bltD, lenD, isiD, slcD, seqD, bindD, wipeD, srcOf, sameAt, SL, Nat.reduceLeDiff, eq_int, eq_str, eq_bl, List.map_cons, List.map_nil, List.length_cons, List.length_nil, List.cons_append, List.nil_append, List.append_nil, List.getElem?_cons_zero, List.getElem?_cons_succ, List.set_cons_zero, List.set_cons_succ, List.replicate_succ, List.replicate_zero, Option.some.injEq, Option.map_some, Option.bind_some, Nat.reduceAdd, Nat.reduceSub, if_true, if_false, Bool.not_true, Bool.not_false, Bool.and_true, Bool.true_and, Bool.false_eq_true, reduceIte, Nat.zero_add, c1, l1, j1, j2, h8, h3, f1, f2]
    · by_cases h3 : 0 < y % 3
      · obtain ⟨es, a1, a2⟩ := H.alt names _ y N L
        have f1 := H.il es fun d hd => flat_le (a2 d hd) (by omega)
        have f2 := H.due es fun d hd => flat_le (a2 d hd) (by omega)
        simp [lb2, runF, qev1, qev2, qev3, qev4, qev5, qev6, qev7, qev8, qev9, qev10, qev11, qev12, qev13, qev14, qev15, qev16, qev17, qev18, qev19, qev20, qev21, qevs1, qevs2, qevo1, qevo2, qevi1, qevi4, qexec1, qexec2, qexec3, qexec4, qexec5, qexec6, qexec7, qexec8, qexec9, qexec10, qexec11, qexec12, qexec13, qexec14, qexec15, qexec16, qexec17, qexec18, qexecs1, qexecs2, Res.bind, Res.go, lift, liftS, binD, cmpD, truth_bl, truth_int, truth_str, dr_non, dr_bl, dr_int, dr_str, dr_tup, dr_lst, dr_fn, bltD, lenD, isiD, slcD, seqD, bindD, wipeD, srcOf, sameAt, SL, Nat.reduceLeDiff, eq_int, eq_str, eq_bl, List.map_cons, List.map_nil, List.length_cons, List.length_nil, List.cons_append, List.nil_append, List.append_nil, List.getElem?_cons_zero, List.getElem?_cons_succ, List.set_cons_zero, List.set_cons_succ, List.replicate_succ, List.replicate_zero, Option.some.injEq, Option.map_some, Option.bind_some, Nat.reduceAdd, Nat.reduceSub, if_true, if_false, Bool.not_true, Bool.not_false, Bool.and_true, Bool.true_and, Bool.false_eq_true, reduceIte, Nat.zero_add, c1, l1, j1, j2, h8, h3, a1, f1, f2]
      · have f1 := H.il _ (fin _ L)
        have f2 := H.due _ (fin _ L)
        simp [lb2, runF, qev1, qev2, qev3, qev4, qev5, qev6, qev7, qev8, qev9, qev10, qev11, qev12, qev13, qev14, qev15, qev16, qev17, qev18, qev19, qev20, qev21, qevs1, qevs2, qevo1, qevo2, qevi1, qevi4, qexec1, qexec2, qexec3, qexec4, qexec5, qexec6, qexec7, qexec8, qexec9, qexec10, qexec11, qexec12, qexec13, qexec14, qexec15, qexec16, qexec17, qexec18, qexecs1, qexecs2, Res.bind, Res.go, lift, liftS, binD, cmpD, truth_bl, truth_int, truth_str, dr_non, dr_bl, dr_int, dr_str, dr_tup, dr_lst, dr_fn, bltD, lenD, isiD, slcD, seqD, bindD, wipeD, srcOf, sameAt, SL, Nat.reduceLeDiff, eq_int, eq_str, eq_bl, List.map_cons, List.map_nil, List.length_cons, List.length_nil, List.cons_append, List.nil_append, List.append_nil, List.getElem?_cons_zero, List.getElem?_cons_succ, List.set_cons_zero, List.set_cons_succ, List.replicate_succ, List.replicate_zero, Option.some.injEq, Option.map_some, Option.bind_some, Nat.reduceAdd, Nat.reduceSub, if_true, if_false, Bool.not_true, Bool.not_false, Bool.and_true, Bool.true_and, Bool.false_eq_true, reduceIte, Nat.zero_add, c1, l1, j1, j2, h8, h3, f1, f2]) (.va (.lst (ns.map D.int)) :: .va (.lst (nm names)) :: x2 :: x3 :: x4 :: x5 :: x6 :: x7 :: x8 :: t) ⟨x6, x7, x8, rfl⟩
  exact ⟨y6, y7, y8, he⟩
/-! the last loop: 22 names, all apart -/
theorem nobody_name : nameB [110, 111, 98, 111, 100, 121] = true := by decide
theorem hands_of {l : List (List Nat)} {a : List Nat} {q : Int} (h1 : ∀ x ∈ l, nameB x = true ∧ x ≠ a) (h2 : l.Pairwise fun x y => x < y) (hq : q ≤ l.length) : handsB (.tup (nm l)) (.str a) q = decide (l.length ≤ 20) := by
  have e1 : (nm l).all (fun h => handB h && !eqD h (.str a)) = true := by
    refine List.all_eq_true.mpr fun d hd => ?_
    obtain ⟨x, hx, rfl⟩ := List.mem_map.mp hd
    show (nameB x && !(x == a)) = true
    rw [(h1 x hx).1]
    simpa using (h1 x hx).2
  have e2 : adjB ((nm l).map strOf) = true := by
    have : (nm l).map strOf = l := by
      rw [List.map_map]
      exact List.map_id'' (f := strOf ∘ D.str) (fun _ => rfl) l
    rw [this, adjB_rng]
    refine List.all_eq_true.mpr fun i hi => ?_
    rw [List.mem_range] at hi
    rw [decide_eq_true_eq, List.getD_eq_getElem?_getD, List.getD_eq_getElem?_getD, List.getElem?_eq_getElem (by omega), List.getElem?_eq_getElem (by omega)]
    exact List.pairwise_iff_getElem.mp h2 i (i + 1) (by omega) (by omega) (by omega)
  have hlen : (nm l).length = l.length := List.length_map ..
  unfold handsB
  simp only [e1, e2, hlen, decide_eq_true hq, Bool.true_and, Bool.and_true]
def someN (far : Int) : List (List Nat) := sortN ((List.range 22).map fun i => nameBy (i : Nat) far)
theorem someN_ok (far : Int) : (someN far).length = 22 ∧ (∀ x ∈ someN far, nameB x = true ∧ x ≠ [110, 111, 98, 111, 100, 121]) ∧ (someN far).Pairwise fun x y => x < y := by
  have hp := sort_perm ((List.range 22).map fun i => nameBy (i : Nat) far)
  refine ⟨by unfold someN; rw [hp.length_eq, List.length_map, List.length_range], fun x hx => ?_, sort_lt (made_nodup (by omega))⟩
  obtain ⟨i, _, rfl⟩ := List.mem_map.mp (hp.mem_iff.mp hx)
  refine ⟨(nameBy_name _ _).1, fun e => (nameBy_name i far).2 ?_⟩
  rw [e]
  rfl
theorem bid_letter {far : Int} {l : List (List Nat)} (h1 : ∀ x ∈ l, nameB x = true ∧ x ≠ [110, 111, 98, 111, 100, 121]) (h2 : l.Pairwise fun x y => x < y) (h3 : 1 ≤ l.length) :
    letterB [.str [98, 105, 100], .str [110, 111, 98, 111, 100, 121], .int 3, .int 1, .int far, .int (far + 1), .tup (nm l)] = decide (l.length ≤ 20) := by
  have e := hands_of (q := 1) h1 h2 (by omega)
  have e0 : eqD (.str [98, 105, 100]) (.str [98, 105, 100]) = true := rfl
  have lt : far < far + 1 := by omega
  simp [letterB, handB, nobody_name, numB, e0, bidB, wholeB, ltI, lt, e]
theorem close_letter {l : List (List Nat)} (h1 : ∀ x ∈ l, nameB x = true ∧ x ≠ [110, 111, 98, 111, 100, 121]) (h2 : l.Pairwise fun x y => x < y) :
    letterB [.str [99, 108, 111, 115, 101], .str [110, 111, 98, 111, 100, 121], .int 3, .int 1, .tup (nm l)] = decide (l.length ≤ 20) := by
  have e := hands_of (q := 0) h1 h2 (by omega)
  have e0 : eqD (.str [99, 108, 111, 115, 101]) (.str [98, 105, 100]) = false := rfl
  have e1 : eqD (.str [99, 108, 111, 115, 101]) (.str [111, 102, 102]) = false := rfl
  have e2 : eqD (.str [99, 108, 111, 115, 101]) (.str [99, 108, 111, 115, 101]) = true := rfl
  simp [letterB, handB, nobody_name, numB, e0, e1, e2, e]
theorem p_loop3 (H : LawC C ns f_nb f_cell f_mixed f_in f_lin f_lb f_alt f_il f_due f_nameby st) {far : Int} {x0 x1 x2 x3 x4 x5 x6 x7 x8 x11 x12 x13 x14 : Sl} :
    ∃ y12 y13 y14, forGo (execs C (lb3 f_il)) (sameAt .none st) [12] ([19, 20, 21, 22].map D.int) [x0, x1, x2, x3, x4, x5, x6, x7, x8, .va (.int far), .va (.lst (nm (someN far))), x11, x12, x13, x14] st =
      .nx [x0, x1, x2, x3, x4, x5, x6, x7, x8, .va (.int far), .va (.lst (nm (someN far))), x11, y12, y13, y14] st := by
  obtain ⟨hl, h1, h2⟩ := someN_ok far
  generalize someN far = L at *
  obtain ⟨env1, ⟨y12, y13, y14, rfl⟩, he⟩ := for_all (st := st) (fb := execs C (lb3 f_il)) (chk := sameAt .none st) (tg := [12]) (fun env => ∃ y12 y13 y14, env = [x0, x1, x2, x3, x4, x5, x6, x7, x8, .va (.int far), .va (.lst (nm L)), x11, y12, y13, y14]) D.int rfl [19, 20, 21, 22] (fun y hyy env he => by
    obtain ⟨y12, y13, y14, rfl⟩ := he
    refine ⟨_, rfl, ?_⟩
    have hy : 19 ≤ y ∧ y ≤ 22 := by
      simp only [List.mem_cons, List.not_mem_nil, or_false] at hyy
      omega
    have c1 : cutD (nm L) none (some y) = nm (L.take y.toNat) := by
      unfold nm
      rw [cut_hi _ (by omega), ← List.map_take]
    have c2 : cutD (nm L) (some (22 - y)) none = nm (L.drop (22 - y).toNat) := by
      unfold nm
      rw [cut_lo _ (by omega), ← List.map_drop]
    have l1 : (L.take y.toNat).length = y.toNat := by rw [List.length_take]; omega
    have l2 : (L.drop (22 - y).toNat).length = y.toNat := by rw [List.length_drop]; omega
    have fl : ∀ l : List (List Nat), flatD 10 (.tup (nm l)) = true := fun l => flat_nm
    have d1 : C f_il [.tup [.str [98, 105, 100], .str [110, 111, 98, 111, 100, 121], .int 3, .int 1, .int far, .int (far + 1), .tup (nm (L.take y.toNat))]] st = .ok (.bl (decide (y < 21))) st := by
      rw [H.il _ (by
        intro d hd
        simp only [List.mem_cons, List.not_mem_nil, or_false] at hd
        rcases hd with rfl | rfl | rfl | rfl | rfl | rfl | rfl <;> first | rfl | exact fl _)]
      rw [bid_letter (fun x hx => h1 x (List.mem_of_mem_take hx)) (h2.sublist (List.take_sublist _ _)) (by omega), l1]
      congr 2
      simp only [decide_eq_decide]
      omega
    have d2 : C f_il [.tup [.str [99, 108, 111, 115, 101], .str [110, 111, 98, 111, 100, 121], .int 3, .int 1, .tup (nm (L.drop (22 - y).toNat))]] st = .ok (.bl (decide (y < 21))) st := by
      rw [H.il _ (by
        intro d hd
        simp only [List.mem_cons, List.not_mem_nil, or_false] at hd
        rcases hd with rfl | rfl | rfl | rfl | rfl <;> first | rfl | exact fl _)]
      rw [close_letter (fun x hx => h1 x (List.mem_of_mem_drop hx)) (h2.sublist (List.drop_sublist _ _)), l2]
      congr 2
      simp only [decide_eq_decide]
      omega
    have oe : opEq (.lst [.bl (decide (y < 21)), .bl (decide (y < 21))]) (.lst [.bl (decide (y < 21)), .bl (decide (y < 21))]) = some true := by
      cases decide (y < 21) <;> rfl
    generalize nm (L.take y.toNat) = T1 at c1 d1
    generalize nm (L.drop (22 - y).toNat) = T2 at c2 d2
    generalize nm L = LL at *
    simp [lb3, runF, qev1, qev2, qev3, qev4, qev5, qev6, qev7, qev8, qev9, qev10, qev11, qev12, qev13, qev14, qev15, qev16, qev17, qev18, qev19, qev20, qev21, qevs1, qevs2, qevo1, qevo2, qevi1, qevi4, qexec1, qexec2, qexec3, qexec4, qexec5, qexec6, qexec7, qexec8, qexec9, qexec10, qexec11, qexec12, qexec13, qexec14, qexec15, qexec16, qexec17, qexec18, qexecs1, qexecs2, Res.bind, Res.go, lift, liftS, binD, cmpD, truth_bl, truth_int, truth_str, dr_non, dr_bl, dr_int, dr_str, dr_tup, dr_lst, dr_fn, bltD, lenD, isiD, slcD, seqD, bindD, wipeD, srcOf, sameAt, SL, Nat.reduceLeDiff, eq_int, eq_str, eq_bl, List.map_cons, List.map_nil, List.length_cons, List.length_nil, List.cons_append, List.nil_append, List.append_nil, List.getElem?_cons_zero, List.getElem?_cons_succ, List.set_cons_zero, List.set_cons_succ, List.replicate_succ, List.replicate_zero, Option.some.injEq, Option.map_some, Option.bind_some, Nat.reduceAdd, Nat.reduceSub, if_true, if_false, Bool.not_true, Bool.not_false, Bool.and_true, Bool.true_and, Bool.false_eq_true, reduceIte, Nat.zero_add, c1, c2, d1, d2, oe]) [x0, x1, x2, x3, x4, x5, x6, x7, x8, .va (.int far), .va (.lst (nm L)), x11, x12, x13, x14] ⟨x12, x13, x14, rfl⟩
  exact ⟨y12, y13, y14, he⟩
end
end Cal
/-! plain lemmas: the law -/
namespace Cal
section
variable {C : CallF} {st : Sto}
theorem cut_map {α β : Type} (f : α → β) (xs : List α) (lo hi : Option Int) : cutD (xs.map f) lo hi = (cutD xs lo hi).map f := by
  unfold cutD
  rw [List.length_map, List.map_take, List.map_drop]
variable {ns : List Int} {f_nb f_cell f_mixed f_in f_lin f_lb f_alt f_il f_due f_nameby : Nat}
theorem p_law (H : LawC C ns f_nb f_cell f_mixed f_in f_lin f_lb f_alt f_il f_due f_nameby st) (hl : ns.length ≤ 63) :
    runF C ⟨1, 15, b_law f_nb f_cell f_mixed f_in f_lin f_lb f_alt f_il f_due f_nameby⟩ [.lst (ns.map D.int)] st = .ok (.bl true) st := by
  have N := names_ok (cellI ns 0)
  have e0 := H.cell 0 (by omega)
  have e1 := H.cell 1 (by omega)
  have e2 := H.cell 2 (by omega)
  have en := H.nb (cellI ns 0)
  generalize namesOf (cellI ns 0) = names at *
  obtain ⟨a2, a3, a4, a5, a6, h1⟩ := p_loop1 H N (t := [.un, .un, .un, .un, .un, .un, .un, .un]) (names.take 3) (fun y hy => List.mem_of_mem_take hy) .un .un .un .un .un
  have q1 : cutD (nm names) none (some 3) = (names.take 3).map D.str := by
    unfold nm
    rw [cut_map, cut_hi _ (by omega)]
    rfl
  generalize (names.take 3).map D.str = I1 at h1 q1
  obtain ⟨b6, b7, b8, h2⟩ := p_loop2 H N (t := [.un, .un, .un, .un, .un, .un]) (cellI ns 2 :: cutD ns (some 3) (some 16)) a2 a3 a4 a5 a6 .un .un
  have q2 : cutD (ns.map D.int) (some 3) (some 16) = (cutD ns (some 3) (some 16)).map D.int := cut_map ..
  have l2 : ((cutD ns (some 3) (some 16)).map D.int).length + 1 ≤ 16777216 := by
    have := cut_len (xs := ns) (lo := some 3) (hi := some 16)
    rw [List.length_map]
    omega
  rw [List.map_cons] at h2
  generalize (cutD ns (some 3) (some 16)).map D.int = I2 at h2 q2 l2
  have l2' : 1 + I2.length ≤ 16777216 := by omega
  have hq : cellI ns 1 % 1000000000000000000000000000000000000000000000000000000000000 = cellI ns 1 % 10 ^ 60 := rfl
  generalize hf : cellI ns 1 % 1000000000000000000000000000000000000000000000000000000000000 = far at *
  obtain ⟨c12, c13, c14, h3⟩ := p_loop3 H (far := far) (x0 := .va (.lst (ns.map D.int))) (x1 := .va (.lst (nm names))) (x2 := a2) (x3 := a3) (x4 := a4) (x5 := a5) (x6 := b6) (x7 := b7) (x8 := b8) (x11 := .un) (x12 := .un) (x13 := .un) (x14 := .un)
  have r0 : ev C (.k (.int 22)) [.va (.lst (ns.map D.int)), .va (.lst (nm names)), a2, a3, a4, a5, b6, b7, b8, .va (.int far), .un, .un, .un, .un, .un] st = .ok (.int ((22 : Nat) : Int)) st := ev_one
  have r1 := evi_0n r0 (by omega)
  have r2 : rngD 0 22 = (List.range 22).map fun i : Nat => D.int (0 + (i : Int)) := rfl
  have es := sort_nm ((List.range 22).map fun i => nameBy (i : Nat) far)
  have em : nm ((List.range 22).map fun i => nameBy (i : Nat) far) = (List.range 22).map fun i => D.str (nameBy (i : Nat) far) := by
    unfold nm
    rw [List.map_map]
    rfl
  rw [show sortN ((List.range 22).map fun i => nameBy (i : Nat) far) = someN far from rfl] at es
  have ei : C f_il [.tup []] st = .ok (.bl false) st := H.il [] (fun d hd => by simp at hd)
  generalize nm ((List.range 22).map fun i => nameBy (i : Nat) far) = L at es em
  generalize hLL : List.map D.int ns = NS at *
  generalize nm names = NM at *
  generalize nm (someN far) = SM at *
  simp only [lb1] at h1
  simp only [lb2] at h2
  simp only [lb3, List.map_cons, List.map_nil] at h3
  simp [b_law, runF, qev1, qev2, qev3, qev4, qev5, qev6, qev7, qev8, qev9, qev10, qev11, qev12, qev13, qev14, qev15, qev16, qev17, qev18, qev19, qev20, qev21, qevs1, qevs2, qevo1, qevo2, qevi1, qevi4, qexec1, qexec2, qexec3, qexec4, qexec5, qexec6, qexec7, qexec8, qexec9, qexec10, qexec11, qexec12, qexec13, qexec14, qexec15, qexec16, qexec17, qexec18, qexecs1, qexecs2, Res.bind, Res.go, lift, liftS, binD, cmpD, truth_bl, truth_int, truth_str, dr_non, dr_bl, dr_int, dr_str, dr_tup, dr_lst, dr_fn, bltD, lenD, isiD, slcD, seqD, bindD, wipeD, srcOf, sameAt, SL, Nat.reduceLeDiff, eq_int, eq_str, eq_bl, List.map_cons, List.map_nil, List.length_cons, List.length_nil, List.cons_append, List.nil_append, List.append_nil, List.getElem?_cons_zero, List.getElem?_cons_succ, List.set_cons_zero, List.set_cons_succ, List.replicate_succ, List.replicate_zero, Option.some.injEq, Option.map_some, Option.bind_some, Nat.reduceAdd, Nat.reduceSub, if_true, if_false, Bool.not_true, Bool.not_false, Bool.and_true, Bool.true_and, Bool.false_eq_true, reduceIte, Nat.zero_add, e0, e1, e2, en, q1, h1, q2, l2, l2', h2, hf, r1]
  rw [r2, comp_map (fun i : Nat => D.int (0 + (i : Int))) (fun i => D.str (nameBy (i : Nat) far)) rfl]
  · rw [← em]
    simp [runF, qev1, qev2, qev3, qev4, qev5, qev6, qev7, qev8, qev9, qev10, qev11, qev12, qev13, qev14, qev15, qev16, qev17, qev18, qev19, qev20, qev21, qevs1, qevs2, qevo1, qevo2, qevi1, qevi4, qexec1, qexec2, qexec3, qexec4, qexec5, qexec6, qexec7, qexec8, qexec9, qexec10, qexec11, qexec12, qexec13, qexec14, qexec15, qexec16, qexec17, qexec18, qexecs1, qexecs2, Res.bind, Res.go, lift, liftS, binD, cmpD, truth_bl, truth_int, truth_str, dr_non, dr_bl, dr_int, dr_str, dr_tup, dr_lst, dr_fn, bltD, lenD, isiD, slcD, seqD, bindD, wipeD, srcOf, sameAt, SL, Nat.reduceLeDiff, eq_int, eq_str, eq_bl, List.map_cons, List.map_nil, List.length_cons, List.length_nil, List.cons_append, List.nil_append, List.append_nil, List.getElem?_cons_zero, List.getElem?_cons_succ, List.set_cons_zero, List.set_cons_succ, List.replicate_succ, List.replicate_zero, Option.some.injEq, Option.map_some, Option.bind_some, Nat.reduceAdd, Nat.reduceSub, if_true, if_false, Bool.not_true, Bool.not_false, Bool.and_true, Bool.true_and, Bool.false_eq_true, reduceIte, Nat.zero_add, es, h3, ei]
  · intro i hi
    exact ⟨_, rfl, qev3 .., by simp [runF, qev1, qev2, qev3, qev4, qev5, qev6, qev7, qev8, qev9, qev10, qev11, qev12, qev13, qev14, qev15, qev16, qev17, qev18, qev19, qev20, qev21, qevs1, qevs2, qevo1, qevo2, qevi1, qevi4, qexec1, qexec2, qexec3, qexec4, qexec5, qexec6, qexec7, qexec8, qexec9, qexec10, qexec11, qexec12, qexec13, qexec14, qexec15, qexec16, qexec17, qexec18, qexecs1, qexecs2, Res.bind, Res.go, lift, liftS, binD, cmpD, truth_bl, truth_int, truth_str, dr_non, dr_bl, dr_int, dr_str, dr_tup, dr_lst, dr_fn, bltD, lenD, isiD, slcD, seqD, bindD, wipeD, srcOf, sameAt, SL, Nat.reduceLeDiff, eq_int, eq_str, eq_bl, List.map_cons, List.map_nil, List.length_cons, List.length_nil, List.cons_append, List.nil_append, List.append_nil, List.getElem?_cons_zero, List.getElem?_cons_succ, List.set_cons_zero, List.set_cons_succ, List.replicate_succ, List.replicate_zero, Option.some.injEq, Option.map_some, Option.bind_some, Nat.reduceAdd, Nat.reduceSub, if_true, if_false, Bool.not_true, Bool.not_false, Bool.and_true, Bool.true_and, Bool.false_eq_true, reduceIte, Nat.zero_add, H.nby]⟩
end
end Cal
namespace Cal
open PySem L2 PySem.Spec PyProof.Rows
abbrev topS (i : Nat) : Stmt := PySem.Challenge.pw_hourhouse_k61_names_and_letters.main.body.getD i (.Pass ⟨0, 0, 0, 0⟩)
def tb : Tb := ⟨[("is_name", 1), ("is_number", 2), ("is_whole", 1), ("is_hand", 1), ("are_hands", 3), ("is_bid", 1), ("is_answer", 1), ("is_letter", 1), ("_law_cell_at", 2), ("_law_mixed", 3), ("_law_name_by", 2), ("_law_names_by", 1), ("_law_some", 5), ("_law_key", 5), ("_law_bid_of", 5), ("_law_close_of", 5), ("_law_answer_of", 6), ("_law_letter_by", 3), ("_law_is_name", 1), ("_law_whole", 1), ("_law_are_hands", 3), ("_law_due", 1), ("_law_strange", 4), ("_law_altered", 3), ("law", 1)], [("LETTERS", .str [97, 98, 99, 100, 101, 102, 103, 104, 105, 106, 107, 108, 109, 110, 111, 112, 113, 114, 115, 116, 117, 118, 119, 120, 121, 122]), ("FIGURES", .str [48, 49, 50, 51, 52, 53, 54, 55, 56, 57]), ("MOST_SIGNS", .int 8), ("MOST_HANDS", .int 20)]⟩
abbrev n0 : List Str := ["text", "sign"]
abbrev n1 : List Str := ["thing", "least"]
abbrev n2 : List Str := ["thing"]
abbrev n3 : List Str := ["thing"]
abbrev n4 : List Str := ["thing", "asker", "least", "hand", "one", "other"]
abbrev n5 : List Str := ["letter"]
abbrev n6 : List Str := ["letter"]
abbrev n7 : List Str := ["letter"]
abbrev n8 : List Str := ["script", "k"]
abbrev n9 : List Str := ["cell", "k", "many", "made"]
abbrev n10 : List Str := ["k", "cell", "one", "other", "place"]
abbrev n11 : List Str := ["cell", "many", "k"]
abbrev n12 : List Str := ["names", "asker", "seed", "k", "least", "others", "name", "found", "at"]
abbrev n13 : List Str := ["seed", "names", "asker", "number", "turn", "key"]
abbrev n14 : List Str := ["seed", "names", "asker", "number", "turn", "key", "begin", "end"]
abbrev n15 : List Str := ["seed", "names", "asker", "number", "turn", "key", "hands"]
abbrev n16 : List Str := ["seed", "names", "asker", "number", "turn", "cell", "others", "name", "hand", "again", "key"]
abbrev n17 : List Str := ["cell", "seed", "names", "asker", "number", "turn", "way"]
abbrev n18 : List Str := ["text", "figures", "sign"]
abbrev n19 : List Str := ["found"]
abbrev n20 : List Str := ["hands", "asker", "least", "hand", "k"]
abbrev n21 : List Str := ["letter", "spans", "good"]
abbrev n22 : List Str := ["part", "letter", "names", "cell", "way", "some", "others", "name", "made"]
abbrev n23 : List Str := ["letter", "names", "cell", "at", "way", "hands", "made"]
abbrev n24 : List Str := ["script", "names", "name", "at", "sign", "other", "found", "cell", "letter", "far", "some", "k", "many", "bid", "close"]
theorem c0 : cmps tb n0 [] [] 16 ⟨defScope (topS 4), fun _ => true⟩ 9 (defBody (topS 4)) = some b_is_name := by decide +kernel
theorem s0 : FnScope n0 ["text"] (defScope (topS 4)) := ⟨rfl, rfl, rfl, by decide +kernel, rfl, by decide +kernel, by decide +kernel⟩
theorem c1 : cmps tb n1 [] [] 16 ⟨defScope (topS 7), fun _ => true⟩ 9 (defBody (topS 7)) = some b_is_number := by decide +kernel
theorem s1 : FnScope n1 ["thing", "least"] (defScope (topS 7)) := ⟨rfl, rfl, rfl, by decide +kernel, rfl, by decide +kernel, by decide +kernel⟩
theorem c2 : cmps tb n2 [] [] 16 ⟨defScope (topS 8), fun _ => true⟩ 9 (defBody (topS 8)) = some b_is_whole := by decide +kernel
theorem s2 : FnScope n2 ["thing"] (defScope (topS 8)) := ⟨rfl, rfl, rfl, by decide +kernel, rfl, by decide +kernel, by decide +kernel⟩
theorem c3 : cmps tb n3 [] [] 16 ⟨defScope (topS 9), fun _ => true⟩ 9 (defBody (topS 9)) = some (b_is_hand 0) := by decide +kernel
theorem s3 : FnScope n3 ["thing"] (defScope (topS 9)) := ⟨rfl, rfl, rfl, by decide +kernel, rfl, by decide +kernel, by decide +kernel⟩
theorem c4 : cmps tb n4 [] [] 16 ⟨defScope (topS 10), fun _ => true⟩ 9 (defBody (topS 10)) = some (b_are_hands 3) := by decide +kernel
theorem s4 : FnScope n4 ["thing", "asker", "least"] (defScope (topS 10)) := ⟨rfl, rfl, rfl, by decide +kernel, rfl, by decide +kernel, by decide +kernel⟩
theorem c5 : cmps tb n5 [] [] 16 ⟨defScope (topS 11), fun _ => true⟩ 9 (defBody (topS 11)) = some (b_is_bid 2 4) := by decide +kernel
theorem s5 : FnScope n5 ["letter"] (defScope (topS 11)) := ⟨rfl, rfl, rfl, by decide +kernel, rfl, by decide +kernel, by decide +kernel⟩
theorem c6 : cmps tb n6 [] [] 16 ⟨defScope (topS 12), fun _ => true⟩ 9 (defBody (topS 12)) = some (b_is_answer 3 1) := by decide +kernel
theorem s6 : FnScope n6 ["letter"] (defScope (topS 12)) := ⟨rfl, rfl, rfl, by decide +kernel, rfl, by decide +kernel, by decide +kernel⟩
theorem c7 : cmps tb n7 [] [] 16 ⟨defScope (topS 13), fun _ => true⟩ 9 (defBody (topS 13)) = some (b_is_letter 3 1 5 4 6) := by decide +kernel
theorem s7 : FnScope n7 ["letter"] (defScope (topS 13)) := ⟨rfl, rfl, rfl, by decide +kernel, rfl, by decide +kernel, by decide +kernel⟩
theorem c8 : cmps tb n8 [] [] 16 ⟨defScope (topS 15), fun _ => true⟩ 9 (defBody (topS 15)) = some b__law_cell_at := by decide +kernel
theorem s8 : FnScope n8 ["script", "k"] (defScope (topS 15)) := ⟨rfl, rfl, rfl, by decide +kernel, rfl, by decide +kernel, by decide +kernel⟩
theorem c9 : cmps tb n9 [] [] 16 ⟨defScope (topS 16), fun _ => true⟩ 9 (defBody (topS 16)) = some b__law_mixed := by decide +kernel
theorem s9 : FnScope n9 ["cell", "k", "many"] (defScope (topS 16)) := ⟨rfl, rfl, rfl, by decide +kernel, rfl, by decide +kernel, by decide +kernel⟩
theorem c10 : cmps tb n10 [] [] 16 ⟨defScope (topS 17), fun _ => true⟩ 9 (defBody (topS 17)) = some b__law_name_by := by decide +kernel
theorem s10 : FnScope n10 ["k", "cell"] (defScope (topS 17)) := ⟨rfl, rfl, rfl, by decide +kernel, rfl, by decide +kernel, by decide +kernel⟩
theorem c11 : cmps tb n11 [] [] 16 ⟨defScope (topS 18), fun _ => true⟩ 9 (defBody (topS 18)) = some (b__law_names_by 10) := by decide +kernel
theorem s11 : FnScope n11 ["cell"] (defScope (topS 18)) := ⟨rfl, rfl, rfl, by decide +kernel, rfl, by decide +kernel, by decide +kernel⟩
theorem c12 : cmps tb n12 [] [] 16 ⟨defScope (topS 19), fun _ => true⟩ 9 (defBody (topS 19)) = some (b__law_some 9) := by decide +kernel
theorem s12 : FnScope n12 ["names", "asker", "seed", "k", "least"] (defScope (topS 19)) := ⟨rfl, rfl, rfl, by decide +kernel, rfl, by decide +kernel, by decide +kernel⟩
theorem c13 : cmps tb n13 [] [] 16 ⟨defScope (topS 20), fun _ => true⟩ 9 (defBody (topS 20)) = some b__law_key := by decide +kernel
theorem s13 : FnScope n13 ["seed", "names", "asker", "number", "turn"] (defScope (topS 20)) := ⟨rfl, rfl, rfl, by decide +kernel, rfl, by decide +kernel, by decide +kernel⟩
theorem c14 : cmps tb n14 [] [] 16 ⟨defScope (topS 21), fun _ => true⟩ 9 (defBody (topS 21)) = some (b__law_bid_of 13 9 12) := by decide +kernel
theorem s14 : FnScope n14 ["seed", "names", "asker", "number", "turn"] (defScope (topS 21)) := ⟨rfl, rfl, rfl, by decide +kernel, rfl, by decide +kernel, by decide +kernel⟩
theorem c15 : cmps tb n15 [] [] 16 ⟨defScope (topS 22), fun _ => true⟩ 9 (defBody (topS 22)) = some (b__law_close_of 13 12 9) := by decide +kernel
theorem s15 : FnScope n15 ["seed", "names", "asker", "number", "turn"] (defScope (topS 22)) := ⟨rfl, rfl, rfl, by decide +kernel, rfl, by decide +kernel, by decide +kernel⟩
theorem c16 : cmps tb n16 [] [] 16 ⟨defScope (topS 23), fun _ => true⟩ 9 (defBody (topS 23)) = some (b__law_answer_of 9 13) := by decide +kernel
theorem s16 : FnScope n16 ["seed", "names", "asker", "number", "turn", "cell"] (defScope (topS 23)) := ⟨rfl, rfl, rfl, by decide +kernel, rfl, by decide +kernel, by decide +kernel⟩
theorem c17 : cmps tb n17 [] [] 16 ⟨defScope (topS 24), fun _ => true⟩ 9 (defBody (topS 24)) = some (b__law_letter_by 9 14 15 16) := by decide +kernel
theorem s17 : FnScope n17 ["cell", "seed", "names"] (defScope (topS 24)) := ⟨rfl, rfl, rfl, by decide +kernel, rfl, by decide +kernel, by decide +kernel⟩
theorem c18 : cmps tb n18 [] [] 16 ⟨defScope (topS 25), fun _ => true⟩ 9 (defBody (topS 25)) = some b__law_is_name := by decide +kernel
theorem s18 : FnScope n18 ["text"] (defScope (topS 25)) := ⟨rfl, rfl, rfl, by decide +kernel, rfl, by decide +kernel, by decide +kernel⟩
theorem c19 : cmps tb n19 [] [] 16 ⟨defScope (topS 26), fun _ => true⟩ 9 (defBody (topS 26)) = some b__law_whole := by decide +kernel
theorem s19 : FnScope n19 ["found"] (defScope (topS 26)) := ⟨rfl, rfl, rfl, by decide +kernel, rfl, by decide +kernel, by decide +kernel⟩
theorem c20 : cmps tb n20 [] [] 16 ⟨defScope (topS 27), fun _ => true⟩ 9 (defBody (topS 27)) = some (b__law_are_hands 18) := by decide +kernel
theorem s20 : FnScope n20 ["hands", "asker", "least"] (defScope (topS 27)) := ⟨rfl, rfl, rfl, by decide +kernel, rfl, by decide +kernel, by decide +kernel⟩
theorem c21 : cmps tb n21 [] [] 16 ⟨defScope (topS 28), fun _ => true⟩ 9 (defBody (topS 28)) = some (b__law_due 18 19 20) := by decide +kernel
theorem s21 : FnScope n21 ["letter"] (defScope (topS 28)) := ⟨rfl, rfl, rfl, by decide +kernel, rfl, by decide +kernel, by decide +kernel⟩
theorem c22 : cmps tb n22 [5] [] 16 ⟨defScope (topS 29), fun _ => true⟩ 9 (defBody (topS 29)) = some (b__law_strange 9 19) := by decide +kernel
theorem s22 : FnScope n22 ["part", "letter", "names", "cell"] (defScope (topS 29)) := ⟨rfl, rfl, rfl, by decide +kernel, rfl, by decide +kernel, by decide +kernel⟩
theorem c23 : cmps tb n23 [] [] 16 ⟨defScope (topS 30), fun _ => true⟩ 9 (defBody (topS 30)) = some (b__law_altered 9 22) := by decide +kernel
theorem s23 : FnScope n23 ["letter", "names", "cell"] (defScope (topS 30)) := ⟨rfl, rfl, rfl, by decide +kernel, rfl, by decide +kernel, by decide +kernel⟩
theorem c24 : cmps tb n24 [] [] 16 ⟨defScope (topS 31), fun _ => true⟩ 9 (defBody (topS 31)) = some (b_law 11 8 9 0 18 17 23 7 21 10) := by decide +kernel
theorem s24 : FnScope n24 ["script"] (defScope (topS 31)) := ⟨rfl, rfl, rfl, by decide +kernel, rfl, by decide +kernel, by decide +kernel⟩
def fds : List FD := [⟨1, 2, b_is_name⟩, ⟨2, 2, b_is_number⟩, ⟨1, 1, b_is_whole⟩, ⟨1, 1, (b_is_hand 0)⟩, ⟨3, 6, (b_are_hands 3)⟩, ⟨1, 1, (b_is_bid 2 4)⟩, ⟨1, 1, (b_is_answer 3 1)⟩, ⟨1, 1, (b_is_letter 3 1 5 4 6)⟩, ⟨2, 2, b__law_cell_at⟩, ⟨3, 4, b__law_mixed⟩, ⟨2, 5, b__law_name_by⟩, ⟨1, 3, (b__law_names_by 10)⟩, ⟨5, 9, (b__law_some 9)⟩, ⟨5, 6, b__law_key⟩, ⟨5, 8, (b__law_bid_of 13 9 12)⟩, ⟨5, 7, (b__law_close_of 13 12 9)⟩, ⟨6, 11, (b__law_answer_of 9 13)⟩, ⟨3, 7, (b__law_letter_by 9 14 15 16)⟩, ⟨1, 3, b__law_is_name⟩, ⟨1, 1, b__law_whole⟩, ⟨3, 5, (b__law_are_hands 18)⟩, ⟨1, 3, (b__law_due 18 19 20)⟩, ⟨4, 9, (b__law_strange 9 19)⟩, ⟨3, 7, (b__law_altered 9 22)⟩, ⟨1, 15, (b_law 11 8 9 0 18 17 23 7 21 10)⟩]
/-- where the defs stand -/
abbrev gp (K : PySem.W.Frag) (l : List Addr) : Gp := ⟨K, fun i => l.getD i 0⟩
/-! the defs, one by one -/
section
variable {st : Sto}
theorem k_is_name (k : Nat) (s : List Nat) : callK fds (k + 1) 0 [.str s] st = .ok (.bl (nameB s)) st := p_is_name (C := callK fds k)
theorem k_is_number (k : Nat) (d : D) (l : Int) (h : flatD 10 d = true) : callK fds (k + 1) 1 [d, .int l] st = .ok (.bl (numB d l)) st := p_is_number (C := callK fds k) h
theorem k_is_whole (k : Nat) (d : D) (h : flatD 10 d = true) : callK fds (k + 1) 2 [d] st = .ok (.bl (wholeB d)) st := p_is_whole (C := callK fds k) h
theorem k_is_hand (k : Nat) (d : D) (h : flatD 10 d = true) : callK fds (k + 2) 3 [d] st = .ok (.bl (handB d)) st := p_is_hand (C := callK fds (k + 1)) (f := 0) (fun s => k_is_name k s) h
theorem k_are_hands (k : Nat) (d a : D) (l : Int) (h : flatD 10 d = true) (ha : flatD 10 a = true) : callK fds (k + 3) 4 [d, a, .int l] st = .ok (.bl (handsB d a l)) st := p_are_hands (C := callK fds (k + 2)) (f := 3) (fun d => k_is_hand k d) h ha
theorem k_is_bid (k : Nat) (ds : List D) (h : ∀ d ∈ ds, flatD 10 d = true) : callK fds (k + 4) 5 [.tup ds] st = .ok (.bl (bidB ds)) st := p_is_bid (C := callK fds (k + 3)) (fw := 2) (fh := 4) (fun d => k_is_whole (k + 2) d) (fun d a l => k_are_hands k d a l) h
theorem k_is_answer (k : Nat) (ds : List D) (h : ∀ d ∈ ds, flatD 10 d = true) : callK fds (k + 3) 6 [.tup ds] st = .ok (.bl (answerB ds)) st := p_is_answer (C := callK fds (k + 2)) (fh := 3) (fn := 1) (fun d => k_is_hand k d) (fun d l => k_is_number (k + 1) d l) h
theorem k_is_letter (k : Nat) (ds : List D) (h : ∀ d ∈ ds, flatD 10 d = true) : callK fds (k + 5) 7 [.tup ds] st = .ok (.bl (letterB ds)) st :=
  p_is_letter (C := callK fds (k + 4)) (fh := 3) (fn := 1) (fb := 5) (fhs := 4) (fa := 6) (fun d => k_is_hand (k + 2) d) (fun d l => k_is_number (k + 3) d l) (fun ds => k_is_bid k ds) (fun d a l => k_are_hands (k + 1) d a l) (fun ds => k_is_answer (k + 1) ds) h
theorem k_cell (k : Nat) (ns : List Int) (i : Int) (h : 0 ≤ i) : callK fds (k + 1) 8 [.lst (ns.map D.int), .int i] st = .ok (.int (cellI ns i)) st := p_cell_at (C := callK fds k) h
theorem k_mixed (k : Nat) : MixOk (callK fds (k + 1)) 9 st := fun a x m h1 h2 h3 => p_mixed (C := callK fds k) h1 h2 h3
theorem k_name_by (k : Nat) (x c : Int) : callK fds (k + 1) 10 [.int x, .int c] st = .ok (.str (nameBy x c)) st := p_name_by (C := callK fds k)
theorem k_names_by (k : Nat) (c : Int) : callK fds (k + 2) 11 [.int c] st = .ok (.lst (nm (namesOf c))) st := p_names_by (C := callK fds (k + 1)) (f := 10) (fun x c => k_name_by k x c)
theorem k_some (k : Nat) (names : List (List Nat)) (N : Names names) : SomeOk (callK fds (k + 2)) 12 names st := fun a s x l h1 h2 => p_some (C := callK fds (k + 1)) (f := 9) (k_mixed k) h1 h2 (Nat.le_trans N.2.1 (by omega))
theorem k_key (k : Nat) (names : List (List Nat)) : KeyOk (callK fds (k + 1)) 13 names st := fun a s n t h => p_key (C := callK fds k) h
theorem k_bid_of (k : Nat) (names : List (List Nat)) (N : Names names) : MakeOk (callK fds (k + 3)) 14 names st := fun a s n t h hn ht => p_bid_of (C := callK fds (k + 2)) (fk := 13) (fm := 9) (fs := 12) (k_key (k + 1) names) (k_mixed (k + 1)) (k_some k names N) N h hn ht
theorem k_close_of (k : Nat) (names : List (List Nat)) (N : Names names) : MakeOk (callK fds (k + 3)) 15 names st := fun a s n t h hn ht => p_close_of (C := callK fds (k + 2)) (fk := 13) (fm := 9) (fs := 12) (k_key (k + 1) names) (k_mixed (k + 1)) (k_some k names N) N h hn ht
theorem k_answer_of (k : Nat) (names : List (List Nat)) (N : Names names) : MakeOk6 (callK fds (k + 2)) 16 names st := fun a s n t c h hn ht => p_answer_of (C := callK fds (k + 1)) (fk := 13) (fm := 9) (k_key k names) (k_mixed k) N h hn ht
theorem k_letter_by (k : Nat) (names : List (List Nat)) (c s : Int) (N : Names names) : ∃ ds, callK fds (k + 4) 17 [.int c, .int s, .lst (nm names)] st = .ok (.tup ds) st ∧ LetOk names ds :=
  p_letter_by (C := callK fds (k + 3)) (fm := 9) (fb := 14) (fc := 15) (fa := 16) (k_mixed (k + 2)) (k_bid_of k names N) (k_close_of k names N) (k_answer_of (k + 1) names N) N
theorem k_law_is_name (k : Nat) (d : D) (h : flatD 10 d = true) : callK fds (k + 1) 18 [d] st = .ok (.bl (handB d)) st := p_law_is_name (C := callK fds k) h
theorem k_law_whole (k : Nat) (d : D) (h : flatD 10 d = true) : callK fds (k + 1) 19 [d] st = .ok (.bl (wholeB d)) st := p_law_whole (C := callK fds k) h
theorem k_law_are_hands (k : Nat) (d a : D) (l : Int) (h : flatD 10 d = true) (ha : flatD 10 a = true) : callK fds (k + 2) 20 [d, a, .int l] st = .ok (.bl (handsB d a l)) st := p_law_are_hands (C := callK fds (k + 1)) (f := 18) (fun d => k_law_is_name k d) h ha
theorem k_law_due (k : Nat) (ds : List D) (h : ∀ d ∈ ds, flatD 10 d = true) : callK fds (k + 3) 21 [.tup ds] st = .ok (.bl (letterB ds)) st :=
  p_law_due (C := callK fds (k + 2)) (fn := 18) (fw := 19) (fhs := 20) (fun d => k_law_is_name (k + 1) d) (fun d => k_law_whole (k + 1) d) (fun d a l => k_law_are_hands k d a l) h
theorem k_strange (k : Nat) (names : List (List Nat)) (N : Names names) : StrOk (callK fds (k + 2)) 22 names st := fun p x a r c hp ha => p_strange (C := callK fds (k + 1)) (fm := 9) (fw := 19) (k_mixed k) (fun d => k_law_whole k d) N hp ha
theorem k_altered (k : Nat) (names : List (List Nat)) (ds : List D) (c : Int) (N : Names names) (L : LetOk names ds) : ∃ es, callK fds (k + 3) 23 [.tup ds, .lst (nm names), .int c] st = .ok (.tup es) st ∧ ∀ d ∈ es, flatD 3 d = true :=
  p_altered (C := callK fds (k + 2)) (fm := 9) (fs := 22) (k_mixed (k + 1)) (k_strange k names N) N L
end
theorem law_plain (ns : List Int) (hl : ns.length ≤ 63) : ∃ st, callK fds 12 24 [.lst (ns.map D.int)] [] = .ok (.bl true) st :=
  ⟨[], p_law (C := callK fds 11) (f_nb := 11) (f_cell := 8) (f_mixed := 9) (f_in := 0) (f_lin := 18) (f_lb := 17) (f_alt := 23) (f_il := 7) (f_due := 21) (f_nameby := 10)
    ⟨fun c => k_names_by 9 c, fun i h => k_cell 10 ns i h, k_mixed 10, fun s => k_is_name 10 s, fun d h => k_law_is_name 10 d h, fun names c s N => k_letter_by 7 names c s N, fun names ds c N L => k_altered 8 names ds c N L, fun ds h => k_is_letter 6 ds h, fun ds h => k_law_due 8 ds h, fun k c => k_name_by 10 k c⟩ hl⟩
theorem all_mk {l : PySem.W.OpenLaw} {w : World} {K : PySem.W.Frag} {h : Heap} {mg : Str → Option Value} {fa f0 f1 f2 f3 f4 f5 f6 f7 f8 f9 f10 f11 f12 f13 f14 f15 f16 f17 f18 f19 f20 f21 f22 f23 f24 : Addr} (X : K.In h) (G : h.Ns mainGlobals mg) (hfa : mg "law" = some (.ref fa))
    {od0 an0 : Option Addr} {sl0 : Array (Option Value)} {oc0 kV0 dc0 pm0 cd0 ct0 : Value}
    (ua0 : PySem.W.nsIn K mainGlobals "is_name" = some (some (.ref f0))) (ul0 : K.lookup f0 = some ⟨oc0, od0, .func (PySem.W.fnOf "is_name" "is_name" (defArgs (topS 4)) (defBody (topS 4)) (defScope (topS 4)) .none kV0 dc0 pm0 an0 cd0 ct0), sl0⟩) (ud0 : PySem.W.codeIn K cd0 "is_name" = true) (ue0 : PySem.W.keepIn K (.ref f0) = true)
    {od1 an1 : Option Addr} {sl1 : Array (Option Value)} {oc1 kV1 dc1 pm1 cd1 ct1 : Value}
    (ua1 : PySem.W.nsIn K mainGlobals "is_number" = some (some (.ref f1))) (ul1 : K.lookup f1 = some ⟨oc1, od1, .func (PySem.W.fnOf "is_number" "is_number" (defArgs (topS 7)) (defBody (topS 7)) (defScope (topS 7)) .none kV1 dc1 pm1 an1 cd1 ct1), sl1⟩) (ud1 : PySem.W.codeIn K cd1 "is_number" = true) (ue1 : PySem.W.keepIn K (.ref f1) = true)
    {od2 an2 : Option Addr} {sl2 : Array (Option Value)} {oc2 kV2 dc2 pm2 cd2 ct2 : Value}
    (ua2 : PySem.W.nsIn K mainGlobals "is_whole" = some (some (.ref f2))) (ul2 : K.lookup f2 = some ⟨oc2, od2, .func (PySem.W.fnOf "is_whole" "is_whole" (defArgs (topS 8)) (defBody (topS 8)) (defScope (topS 8)) .none kV2 dc2 pm2 an2 cd2 ct2), sl2⟩) (ud2 : PySem.W.codeIn K cd2 "is_whole" = true) (ue2 : PySem.W.keepIn K (.ref f2) = true)
    {od3 an3 : Option Addr} {sl3 : Array (Option Value)} {oc3 kV3 dc3 pm3 cd3 ct3 : Value}
    (ua3 : PySem.W.nsIn K mainGlobals "is_hand" = some (some (.ref f3))) (ul3 : K.lookup f3 = some ⟨oc3, od3, .func (PySem.W.fnOf "is_hand" "is_hand" (defArgs (topS 9)) (defBody (topS 9)) (defScope (topS 9)) .none kV3 dc3 pm3 an3 cd3 ct3), sl3⟩) (ud3 : PySem.W.codeIn K cd3 "is_hand" = true) (ue3 : PySem.W.keepIn K (.ref f3) = true)
    {od4 an4 : Option Addr} {sl4 : Array (Option Value)} {oc4 kV4 dc4 pm4 cd4 ct4 : Value}
    (ua4 : PySem.W.nsIn K mainGlobals "are_hands" = some (some (.ref f4))) (ul4 : K.lookup f4 = some ⟨oc4, od4, .func (PySem.W.fnOf "are_hands" "are_hands" (defArgs (topS 10)) (defBody (topS 10)) (defScope (topS 10)) .none kV4 dc4 pm4 an4 cd4 ct4), sl4⟩) (ud4 : PySem.W.codeIn K cd4 "are_hands" = true) (ue4 : PySem.W.keepIn K (.ref f4) = true)
    {od5 an5 : Option Addr} {sl5 : Array (Option Value)} {oc5 kV5 dc5 pm5 cd5 ct5 : Value}
    (ua5 : PySem.W.nsIn K mainGlobals "is_bid" = some (some (.ref f5))) (ul5 : K.lookup f5 = some ⟨oc5, od5, .func (PySem.W.fnOf "is_bid" "is_bid" (defArgs (topS 11)) (defBody (topS 11)) (defScope (topS 11)) .none kV5 dc5 pm5 an5 cd5 ct5), sl5⟩) (ud5 : PySem.W.codeIn K cd5 "is_bid" = true) (ue5 : PySem.W.keepIn K (.ref f5) = true)
    {od6 an6 : Option Addr} {sl6 : Array (Option Value)} {oc6 kV6 dc6 pm6 cd6 ct6 : Value}
    (ua6 : PySem.W.nsIn K mainGlobals "is_answer" = some (some (.ref f6))) (ul6 : K.lookup f6 = some ⟨oc6, od6, .func (PySem.W.fnOf "is_answer" "is_answer" (defArgs (topS 12)) (defBody (topS 12)) (defScope (topS 12)) .none kV6 dc6 pm6 an6 cd6 ct6), sl6⟩) (ud6 : PySem.W.codeIn K cd6 "is_answer" = true) (ue6 : PySem.W.keepIn K (.ref f6) = true)
    {od7 an7 : Option Addr} {sl7 : Array (Option Value)} {oc7 kV7 dc7 pm7 cd7 ct7 : Value}
    (ua7 : PySem.W.nsIn K mainGlobals "is_letter" = some (some (.ref f7))) (ul7 : K.lookup f7 = some ⟨oc7, od7, .func (PySem.W.fnOf "is_letter" "is_letter" (defArgs (topS 13)) (defBody (topS 13)) (defScope (topS 13)) .none kV7 dc7 pm7 an7 cd7 ct7), sl7⟩) (ud7 : PySem.W.codeIn K cd7 "is_letter" = true) (ue7 : PySem.W.keepIn K (.ref f7) = true)
    {od8 an8 : Option Addr} {sl8 : Array (Option Value)} {oc8 kV8 dc8 pm8 cd8 ct8 : Value}
    (ua8 : PySem.W.nsIn K mainGlobals "_law_cell_at" = some (some (.ref f8))) (ul8 : K.lookup f8 = some ⟨oc8, od8, .func (PySem.W.fnOf "_law_cell_at" "_law_cell_at" (defArgs (topS 15)) (defBody (topS 15)) (defScope (topS 15)) .none kV8 dc8 pm8 an8 cd8 ct8), sl8⟩) (ud8 : PySem.W.codeIn K cd8 "_law_cell_at" = true) (ue8 : PySem.W.keepIn K (.ref f8) = true)
    {od9 an9 : Option Addr} {sl9 : Array (Option Value)} {oc9 kV9 dc9 pm9 cd9 ct9 : Value}
    (ua9 : PySem.W.nsIn K mainGlobals "_law_mixed" = some (some (.ref f9))) (ul9 : K.lookup f9 = some ⟨oc9, od9, .func (PySem.W.fnOf "_law_mixed" "_law_mixed" (defArgs (topS 16)) (defBody (topS 16)) (defScope (topS 16)) .none kV9 dc9 pm9 an9 cd9 ct9), sl9⟩) (ud9 : PySem.W.codeIn K cd9 "_law_mixed" = true) (ue9 : PySem.W.keepIn K (.ref f9) = true)
    {od10 an10 : Option Addr} {sl10 : Array (Option Value)} {oc10 kV10 dc10 pm10 cd10 ct10 : Value}
    (ua10 : PySem.W.nsIn K mainGlobals "_law_name_by" = some (some (.ref f10))) (ul10 : K.lookup f10 = some ⟨oc10, od10, .func (PySem.W.fnOf "_law_name_by" "_law_name_by" (defArgs (topS 17)) (defBody (topS 17)) (defScope (topS 17)) .none kV10 dc10 pm10 an10 cd10 ct10), sl10⟩) (ud10 : PySem.W.codeIn K cd10 "_law_name_by" = true) (ue10 : PySem.W.keepIn K (.ref f10) = true)
    {od11 an11 : Option Addr} {sl11 : Array (Option Value)} {oc11 kV11 dc11 pm11 cd11 ct11 : Value}
    (ua11 : PySem.W.nsIn K mainGlobals "_law_names_by" = some (some (.ref f11))) (ul11 : K.lookup f11 = some ⟨oc11, od11, .func (PySem.W.fnOf "_law_names_by" "_law_names_by" (defArgs (topS 18)) (defBody (topS 18)) (defScope (topS 18)) .none kV11 dc11 pm11 an11 cd11 ct11), sl11⟩) (ud11 : PySem.W.codeIn K cd11 "_law_names_by" = true) (ue11 : PySem.W.keepIn K (.ref f11) = true)
    {od12 an12 : Option Addr} {sl12 : Array (Option Value)} {oc12 kV12 dc12 pm12 cd12 ct12 : Value}
    (ua12 : PySem.W.nsIn K mainGlobals "_law_some" = some (some (.ref f12))) (ul12 : K.lookup f12 = some ⟨oc12, od12, .func (PySem.W.fnOf "_law_some" "_law_some" (defArgs (topS 19)) (defBody (topS 19)) (defScope (topS 19)) .none kV12 dc12 pm12 an12 cd12 ct12), sl12⟩) (ud12 : PySem.W.codeIn K cd12 "_law_some" = true) (ue12 : PySem.W.keepIn K (.ref f12) = true)
    {od13 an13 : Option Addr} {sl13 : Array (Option Value)} {oc13 kV13 dc13 pm13 cd13 ct13 : Value}
    (ua13 : PySem.W.nsIn K mainGlobals "_law_key" = some (some (.ref f13))) (ul13 : K.lookup f13 = some ⟨oc13, od13, .func (PySem.W.fnOf "_law_key" "_law_key" (defArgs (topS 20)) (defBody (topS 20)) (defScope (topS 20)) .none kV13 dc13 pm13 an13 cd13 ct13), sl13⟩) (ud13 : PySem.W.codeIn K cd13 "_law_key" = true) (ue13 : PySem.W.keepIn K (.ref f13) = true)
    {od14 an14 : Option Addr} {sl14 : Array (Option Value)} {oc14 kV14 dc14 pm14 cd14 ct14 : Value}
    (ua14 : PySem.W.nsIn K mainGlobals "_law_bid_of" = some (some (.ref f14))) (ul14 : K.lookup f14 = some ⟨oc14, od14, .func (PySem.W.fnOf "_law_bid_of" "_law_bid_of" (defArgs (topS 21)) (defBody (topS 21)) (defScope (topS 21)) .none kV14 dc14 pm14 an14 cd14 ct14), sl14⟩) (ud14 : PySem.W.codeIn K cd14 "_law_bid_of" = true) (ue14 : PySem.W.keepIn K (.ref f14) = true)
    {od15 an15 : Option Addr} {sl15 : Array (Option Value)} {oc15 kV15 dc15 pm15 cd15 ct15 : Value}
    (ua15 : PySem.W.nsIn K mainGlobals "_law_close_of" = some (some (.ref f15))) (ul15 : K.lookup f15 = some ⟨oc15, od15, .func (PySem.W.fnOf "_law_close_of" "_law_close_of" (defArgs (topS 22)) (defBody (topS 22)) (defScope (topS 22)) .none kV15 dc15 pm15 an15 cd15 ct15), sl15⟩) (ud15 : PySem.W.codeIn K cd15 "_law_close_of" = true) (ue15 : PySem.W.keepIn K (.ref f15) = true)
    {od16 an16 : Option Addr} {sl16 : Array (Option Value)} {oc16 kV16 dc16 pm16 cd16 ct16 : Value}
    (ua16 : PySem.W.nsIn K mainGlobals "_law_answer_of" = some (some (.ref f16))) (ul16 : K.lookup f16 = some ⟨oc16, od16, .func (PySem.W.fnOf "_law_answer_of" "_law_answer_of" (defArgs (topS 23)) (defBody (topS 23)) (defScope (topS 23)) .none kV16 dc16 pm16 an16 cd16 ct16), sl16⟩) (ud16 : PySem.W.codeIn K cd16 "_law_answer_of" = true) (ue16 : PySem.W.keepIn K (.ref f16) = true)
    {od17 an17 : Option Addr} {sl17 : Array (Option Value)} {oc17 kV17 dc17 pm17 cd17 ct17 : Value}
    (ua17 : PySem.W.nsIn K mainGlobals "_law_letter_by" = some (some (.ref f17))) (ul17 : K.lookup f17 = some ⟨oc17, od17, .func (PySem.W.fnOf "_law_letter_by" "_law_letter_by" (defArgs (topS 24)) (defBody (topS 24)) (defScope (topS 24)) .none kV17 dc17 pm17 an17 cd17 ct17), sl17⟩) (ud17 : PySem.W.codeIn K cd17 "_law_letter_by" = true) (ue17 : PySem.W.keepIn K (.ref f17) = true)
    {od18 an18 : Option Addr} {sl18 : Array (Option Value)} {oc18 kV18 dc18 pm18 cd18 ct18 : Value}
    (ua18 : PySem.W.nsIn K mainGlobals "_law_is_name" = some (some (.ref f18))) (ul18 : K.lookup f18 = some ⟨oc18, od18, .func (PySem.W.fnOf "_law_is_name" "_law_is_name" (defArgs (topS 25)) (defBody (topS 25)) (defScope (topS 25)) .none kV18 dc18 pm18 an18 cd18 ct18), sl18⟩) (ud18 : PySem.W.codeIn K cd18 "_law_is_name" = true) (ue18 : PySem.W.keepIn K (.ref f18) = true)
    {od19 an19 : Option Addr} {sl19 : Array (Option Value)} {oc19 kV19 dc19 pm19 cd19 ct19 : Value}
    (ua19 : PySem.W.nsIn K mainGlobals "_law_whole" = some (some (.ref f19))) (ul19 : K.lookup f19 = some ⟨oc19, od19, .func (PySem.W.fnOf "_law_whole" "_law_whole" (defArgs (topS 26)) (defBody (topS 26)) (defScope (topS 26)) .none kV19 dc19 pm19 an19 cd19 ct19), sl19⟩) (ud19 : PySem.W.codeIn K cd19 "_law_whole" = true) (ue19 : PySem.W.keepIn K (.ref f19) = true)
    {od20 an20 : Option Addr} {sl20 : Array (Option Value)} {oc20 kV20 dc20 pm20 cd20 ct20 : Value}
    (ua20 : PySem.W.nsIn K mainGlobals "_law_are_hands" = some (some (.ref f20))) (ul20 : K.lookup f20 = some ⟨oc20, od20, .func (PySem.W.fnOf "_law_are_hands" "_law_are_hands" (defArgs (topS 27)) (defBody (topS 27)) (defScope (topS 27)) .none kV20 dc20 pm20 an20 cd20 ct20), sl20⟩) (ud20 : PySem.W.codeIn K cd20 "_law_are_hands" = true) (ue20 : PySem.W.keepIn K (.ref f20) = true)
    {od21 an21 : Option Addr} {sl21 : Array (Option Value)} {oc21 kV21 dc21 pm21 cd21 ct21 : Value}
    (ua21 : PySem.W.nsIn K mainGlobals "_law_due" = some (some (.ref f21))) (ul21 : K.lookup f21 = some ⟨oc21, od21, .func (PySem.W.fnOf "_law_due" "_law_due" (defArgs (topS 28)) (defBody (topS 28)) (defScope (topS 28)) .none kV21 dc21 pm21 an21 cd21 ct21), sl21⟩) (ud21 : PySem.W.codeIn K cd21 "_law_due" = true) (ue21 : PySem.W.keepIn K (.ref f21) = true)
    {od22 an22 : Option Addr} {sl22 : Array (Option Value)} {oc22 kV22 dc22 pm22 cd22 ct22 : Value}
    (ua22 : PySem.W.nsIn K mainGlobals "_law_strange" = some (some (.ref f22))) (ul22 : K.lookup f22 = some ⟨oc22, od22, .func (PySem.W.fnOf "_law_strange" "_law_strange" (defArgs (topS 29)) (defBody (topS 29)) (defScope (topS 29)) .none kV22 dc22 pm22 an22 cd22 ct22), sl22⟩) (ud22 : PySem.W.codeIn K cd22 "_law_strange" = true) (ue22 : PySem.W.keepIn K (.ref f22) = true)
    {od23 an23 : Option Addr} {sl23 : Array (Option Value)} {oc23 kV23 dc23 pm23 cd23 ct23 : Value}
    (ua23 : PySem.W.nsIn K mainGlobals "_law_altered" = some (some (.ref f23))) (ul23 : K.lookup f23 = some ⟨oc23, od23, .func (PySem.W.fnOf "_law_altered" "_law_altered" (defArgs (topS 30)) (defBody (topS 30)) (defScope (topS 30)) .none kV23 dc23 pm23 an23 cd23 ct23), sl23⟩) (ud23 : PySem.W.codeIn K cd23 "_law_altered" = true) (ue23 : PySem.W.keepIn K (.ref f23) = true)
    {od24 an24 : Option Addr} {sl24 : Array (Option Value)} {oc24 kV24 dc24 pm24 cd24 ct24 : Value}
    (ua24 : PySem.W.nsIn K mainGlobals "law" = some (some (.ref f24))) (ul24 : K.lookup f24 = some ⟨oc24, od24, .func (PySem.W.fnOf "law" "law" (defArgs (topS 31)) (defBody (topS 31)) (defScope (topS 31)) .none kV24 dc24 pm24 an24 cd24 ct24), sl24⟩) (ud24 : PySem.W.codeIn K cd24 "law" = true) (ue24 : PySem.W.keepIn K (.ref f24) = true)
    {t0 : Tok} (ug0 : PySem.W.nsIn K mainGlobals "LETTERS" = some (some (.str (Str.ofString "abcdefghijklmnopqrstuvwxyz") t0)))
    {t1 : Tok} (ug1 : PySem.W.nsIn K mainGlobals "FIGURES" = some (some (.str (Str.ofString "0123456789") t1)))
    {t2 : Tok} (ug2 : PySem.W.nsIn K mainGlobals "MOST_SIGNS" = some (some (.int (8) t2)))
    {t3 : Tok} (ug3 : PySem.W.nsIn K mainGlobals "MOST_HANDS" = some (some (.int (20) t3)))
    (uz0 : PySem.W.nsIn K mainGlobals "len" = some none)
    (uz1 : PySem.W.nsIn K mainGlobals "all" = some none)
    (uz2 : PySem.W.nsIn K mainGlobals "any" = some none)
    (uz3 : PySem.W.nsIn K mainGlobals "sum" = some none)
    (uz4 : PySem.W.nsIn K mainGlobals "sorted" = some none)
    (uz5 : PySem.W.nsIn K mainGlobals "tuple" = some none)
    (uz6 : PySem.W.nsIn K mainGlobals "list" = some none)
    (uz7 : PySem.W.nsIn K mainGlobals "min" = some none)
    (uz8 : PySem.W.nsIn K mainGlobals "max" = some none)
    (uz9 : PySem.W.nsIn K mainGlobals "str" = some none)
    (uz10 : PySem.W.nsIn K mainGlobals "int" = some none)
    (uz11 : PySem.W.nsIn K mainGlobals "abs" = some none)
    (uz12 : PySem.W.nsIn K mainGlobals "isinstance" = some none)
    (uz13 : PySem.W.nsIn K mainGlobals "range" = some none)
    (uz14 : PySem.W.nsIn K mainGlobals "zip" = some none)
    (uz15 : PySem.W.nsIn K mainGlobals "bool" = some none)
    (unl : noLst K = true) :
    ∃ fd : FuncData, (∀ (s : Shared) (v : Value), BindsTo s fd ⟨[v], []⟩ [("script", v)]) ∧ ∀ base : Heap, K.In base → base.Ns mainGlobals mg → FnOk l.prog w K mg base CX0 12 fa fd ["script"] (spLaw K 63) := by
  have e := hfa.symm.trans (PySem.W.mg_of X G ua24)
  obtain rfl : f24 = fa := by cases e; rfl
  have F0 := fun_mk (st := topS 4) ul0 ud0 ue0
  have B0 := F0.binds (ps := ["text"]) fun _ _ _ _ _ _ us hl => match us, hl with | [_], _ => rfl
  have F1 := fun_mk (st := topS 7) ul1 ud1 ue1
  have B1 := F1.binds (ps := ["thing", "least"]) fun _ _ _ _ _ _ us hl => match us, hl with | [_, _], _ => rfl
  have F2 := fun_mk (st := topS 8) ul2 ud2 ue2
  have B2 := F2.binds (ps := ["thing"]) fun _ _ _ _ _ _ us hl => match us, hl with | [_], _ => rfl
  have F3 := fun_mk (st := topS 9) ul3 ud3 ue3
  have B3 := F3.binds (ps := ["thing"]) fun _ _ _ _ _ _ us hl => match us, hl with | [_], _ => rfl
  have F4 := fun_mk (st := topS 10) ul4 ud4 ue4
  have B4 := F4.binds (ps := ["thing", "asker", "least"]) fun _ _ _ _ _ _ us hl => match us, hl with | [_, _, _], _ => rfl
  have F5 := fun_mk (st := topS 11) ul5 ud5 ue5
  have B5 := F5.binds (ps := ["letter"]) fun _ _ _ _ _ _ us hl => match us, hl with | [_], _ => rfl
  have F6 := fun_mk (st := topS 12) ul6 ud6 ue6
  have B6 := F6.binds (ps := ["letter"]) fun _ _ _ _ _ _ us hl => match us, hl with | [_], _ => rfl
  have F7 := fun_mk (st := topS 13) ul7 ud7 ue7
  have B7 := F7.binds (ps := ["letter"]) fun _ _ _ _ _ _ us hl => match us, hl with | [_], _ => rfl
  have F8 := fun_mk (st := topS 15) ul8 ud8 ue8
  have B8 := F8.binds (ps := ["script", "k"]) fun _ _ _ _ _ _ us hl => match us, hl with | [_, _], _ => rfl
  have F9 := fun_mk (st := topS 16) ul9 ud9 ue9
  have B9 := F9.binds (ps := ["cell", "k", "many"]) fun _ _ _ _ _ _ us hl => match us, hl with | [_, _, _], _ => rfl
  have F10 := fun_mk (st := topS 17) ul10 ud10 ue10
  have B10 := F10.binds (ps := ["k", "cell"]) fun _ _ _ _ _ _ us hl => match us, hl with | [_, _], _ => rfl
  have F11 := fun_mk (st := topS 18) ul11 ud11 ue11
  have B11 := F11.binds (ps := ["cell"]) fun _ _ _ _ _ _ us hl => match us, hl with | [_], _ => rfl
  have F12 := fun_mk (st := topS 19) ul12 ud12 ue12
  have B12 := F12.binds (ps := ["names", "asker", "seed", "k", "least"]) fun _ _ _ _ _ _ us hl => match us, hl with | [_, _, _, _, _], _ => rfl
  have F13 := fun_mk (st := topS 20) ul13 ud13 ue13
  have B13 := F13.binds (ps := ["seed", "names", "asker", "number", "turn"]) fun _ _ _ _ _ _ us hl => match us, hl with | [_, _, _, _, _], _ => rfl
  have F14 := fun_mk (st := topS 21) ul14 ud14 ue14
  have B14 := F14.binds (ps := ["seed", "names", "asker", "number", "turn"]) fun _ _ _ _ _ _ us hl => match us, hl with | [_, _, _, _, _], _ => rfl
  have F15 := fun_mk (st := topS 22) ul15 ud15 ue15
  have B15 := F15.binds (ps := ["seed", "names", "asker", "number", "turn"]) fun _ _ _ _ _ _ us hl => match us, hl with | [_, _, _, _, _], _ => rfl
  have F16 := fun_mk (st := topS 23) ul16 ud16 ue16
  have B16 := F16.binds (ps := ["seed", "names", "asker", "number", "turn", "cell"]) fun _ _ _ _ _ _ us hl => match us, hl with | [_, _, _, _, _, _], _ => rfl
  have F17 := fun_mk (st := topS 24) ul17 ud17 ue17
  have B17 := F17.binds (ps := ["cell", "seed", "names"]) fun _ _ _ _ _ _ us hl => match us, hl with | [_, _, _], _ => rfl
  have F18 := fun_mk (st := topS 25) ul18 ud18 ue18
  have B18 := F18.binds (ps := ["text"]) fun _ _ _ _ _ _ us hl => match us, hl with | [_], _ => rfl
  have F19 := fun_mk (st := topS 26) ul19 ud19 ue19
  have B19 := F19.binds (ps := ["found"]) fun _ _ _ _ _ _ us hl => match us, hl with | [_], _ => rfl
  have F20 := fun_mk (st := topS 27) ul20 ud20 ue20
  have B20 := F20.binds (ps := ["hands", "asker", "least"]) fun _ _ _ _ _ _ us hl => match us, hl with | [_, _, _], _ => rfl
  have F21 := fun_mk (st := topS 28) ul21 ud21 ue21
  have B21 := F21.binds (ps := ["letter"]) fun _ _ _ _ _ _ us hl => match us, hl with | [_], _ => rfl
  have F22 := fun_mk (st := topS 29) ul22 ud22 ue22
  have B22 := F22.binds (ps := ["part", "letter", "names", "cell"]) fun _ _ _ _ _ _ us hl => match us, hl with | [_, _, _, _], _ => rfl
  have F23 := fun_mk (st := topS 30) ul23 ud23 ue23
  have B23 := F23.binds (ps := ["letter", "names", "cell"]) fun _ _ _ _ _ _ us hl => match us, hl with | [_, _, _], _ => rfl
  have F24 := fun_mk (st := topS 31) ul24 ud24 ue24
  have B24 := F24.binds (ps := ["script"]) fun _ _ _ _ _ _ us hl => match us, hl with | [_], _ => rfl
  have t : TopOk (gp K [f0, f1, f2, f3, f4, f5, f6, f7, f8, f9, f10, f11, f12, f13, f14, f15, f16, f17, f18, f19, f20, f21, f22, f23, f24]) tb K mg fds := top_mk rfl
    ⟨⟨rfl, ⟨"is_name", topS 4, _, n0, _, [], [], 16, 9, F0, s0, rfl, rfl, B0, c0⟩, PySem.W.mg_of X G ua0⟩, ⟨rfl, ⟨"is_number", topS 7, _, n1, _, [], [], 16, 9, F1, s1, rfl, rfl, B1, c1⟩, PySem.W.mg_of X G ua1⟩, ⟨rfl, ⟨"is_whole", topS 8, _, n2, _, [], [], 16, 9, F2, s2, rfl, rfl, B2, c2⟩, PySem.W.mg_of X G ua2⟩, ⟨rfl, ⟨"is_hand", topS 9, _, n3, _, [], [], 16, 9, F3, s3, rfl, rfl, B3, c3⟩, PySem.W.mg_of X G ua3⟩, ⟨rfl, ⟨"are_hands", topS 10, _, n4, _, [], [], 16, 9, F4, s4, rfl, rfl, B4, c4⟩, PySem.W.mg_of X G ua4⟩, ⟨rfl, ⟨"is_bid", topS 11, _, n5, _, [], [], 16, 9, F5, s5, rfl, rfl, B5, c5⟩, PySem.W.mg_of X G ua5⟩, ⟨rfl, ⟨"is_answer", topS 12, _, n6, _, [], [], 16, 9, F6, s6, rfl, rfl, B6, c6⟩, PySem.W.mg_of X G ua6⟩, ⟨rfl, ⟨"is_letter", topS 13, _, n7, _, [], [], 16, 9, F7, s7, rfl, rfl, B7, c7⟩, PySem.W.mg_of X G ua7⟩, ⟨rfl, ⟨"_law_cell_at", topS 15, _, n8, _, [], [], 16, 9, F8, s8, rfl, rfl, B8, c8⟩, PySem.W.mg_of X G ua8⟩, ⟨rfl, ⟨"_law_mixed", topS 16, _, n9, _, [], [], 16, 9, F9, s9, rfl, rfl, B9, c9⟩, PySem.W.mg_of X G ua9⟩, ⟨rfl, ⟨"_law_name_by", topS 17, _, n10, _, [], [], 16, 9, F10, s10, rfl, rfl, B10, c10⟩, PySem.W.mg_of X G ua10⟩, ⟨rfl, ⟨"_law_names_by", topS 18, _, n11, _, [], [], 16, 9, F11, s11, rfl, rfl, B11, c11⟩, PySem.W.mg_of X G ua11⟩, ⟨rfl, ⟨"_law_some", topS 19, _, n12, _, [], [], 16, 9, F12, s12, rfl, rfl, B12, c12⟩, PySem.W.mg_of X G ua12⟩, ⟨rfl, ⟨"_law_key", topS 20, _, n13, _, [], [], 16, 9, F13, s13, rfl, rfl, B13, c13⟩, PySem.W.mg_of X G ua13⟩, ⟨rfl, ⟨"_law_bid_of", topS 21, _, n14, _, [], [], 16, 9, F14, s14, rfl, rfl, B14, c14⟩, PySem.W.mg_of X G ua14⟩, ⟨rfl, ⟨"_law_close_of", topS 22, _, n15, _, [], [], 16, 9, F15, s15, rfl, rfl, B15, c15⟩, PySem.W.mg_of X G ua15⟩, ⟨rfl, ⟨"_law_answer_of", topS 23, _, n16, _, [], [], 16, 9, F16, s16, rfl, rfl, B16, c16⟩, PySem.W.mg_of X G ua16⟩, ⟨rfl, ⟨"_law_letter_by", topS 24, _, n17, _, [], [], 16, 9, F17, s17, rfl, rfl, B17, c17⟩, PySem.W.mg_of X G ua17⟩, ⟨rfl, ⟨"_law_is_name", topS 25, _, n18, _, [], [], 16, 9, F18, s18, rfl, rfl, B18, c18⟩, PySem.W.mg_of X G ua18⟩, ⟨rfl, ⟨"_law_whole", topS 26, _, n19, _, [], [], 16, 9, F19, s19, rfl, rfl, B19, c19⟩, PySem.W.mg_of X G ua19⟩, ⟨rfl, ⟨"_law_are_hands", topS 27, _, n20, _, [], [], 16, 9, F20, s20, rfl, rfl, B20, c20⟩, PySem.W.mg_of X G ua20⟩, ⟨rfl, ⟨"_law_due", topS 28, _, n21, _, [], [], 16, 9, F21, s21, rfl, rfl, B21, c21⟩, PySem.W.mg_of X G ua21⟩, ⟨rfl, ⟨"_law_strange", topS 29, _, n22, _, [5], [], 16, 9, F22, s22, rfl, rfl, B22, c22⟩, PySem.W.mg_of X G ua22⟩, ⟨rfl, ⟨"_law_altered", topS 30, _, n23, _, [], [], 16, 9, F23, s23, rfl, rfl, B23, c23⟩, PySem.W.mg_of X G ua23⟩, ⟨rfl, ⟨"law", topS 31, _, n24, _, [], [], 16, 9, F24, s24, rfl, rfl, B24, c24⟩, PySem.W.mg_of X G ua24⟩, trivial⟩
    ⟨cst_str (PySem.W.mg_of X G ug0) (by decide +kernel) (by decide), cst_str (PySem.W.mg_of X G ug1) (by decide +kernel) (by decide), cst_int (PySem.W.mg_of X G ug2), cst_int (PySem.W.mg_of X G ug3), trivial⟩
    ⟨PySem.W.mg_none_of X G uz0, PySem.W.mg_none_of X G uz1, PySem.W.mg_none_of X G uz2, PySem.W.mg_none_of X G uz3, PySem.W.mg_none_of X G uz4, PySem.W.mg_none_of X G uz5, PySem.W.mg_none_of X G uz6, PySem.W.mg_none_of X G uz7, PySem.W.mg_none_of X G uz8, PySem.W.mg_none_of X G uz9, PySem.W.mg_none_of X G uz10, PySem.W.mg_none_of X G uz11, PySem.W.mg_none_of X G uz12, PySem.W.mg_none_of X G uz13, PySem.W.mg_none_of X G uz14, PySem.W.mg_none_of X G uz15, trivial⟩
  refine ⟨PySem.W.fnOf "law" "law" (defArgs (topS 31)) (defBody (topS 31)) (defScope (topS 31)) .none kV24 dc24 pm24 an24 cd24 ct24, fun s v => .of_eq rfl, fun base _ _ => ?_⟩
  exact ok_law (G := gp K [f0, f1, f2, f3, f4, f5, f6, f7, f8, f9, f10, f11, f12, f13, f14, f15, f16, f17, f18, f19, f20, f21, f22, f23, f24]) (i := 24) rfl unl (one_ok t (all_ok t 11) (i := 24) rfl F24 s24 rfl rfl c24) law_plain
end Cal
open PySem PySem.W PyProof.Rows
set_option maxRecDepth 100000 in
set_option maxHeartbeats 0 in
theorem PySem.Challenge.cw_hourhouse_k61_names_and_letters_holds : PySem.Challenge.rw_hourhouse_k61_names_and_letters.Holds := by
  w_on; o_law; k_head; (case hw => w_witness2)
  k_fill
  refine L2.walk_of (l := PySem.Challenge.rw_hourhouse_k61_names_and_letters) (n := 63) (k := 12) (x := "script") (CX := fun _ => L2.CX0) (sp := fun w => Cal.spLaw _ 63) rfl (by decide) rfl ⟨rfl, by decide, by decide⟩ (fun w h Y => PySem.W.kIn_of Y) ?F (fun _ _ a ns hl ho hS => ⟨a, ns, rfl, hl, ho, hS, fun _ => rfl⟩) (fun _ _ _ _ _ h => h)
  case F =>
    intro w mg fa h KX G hmg
    refine' Cal.all_mk KX G hmg ?ua0 ?ul0 ?ud0 ?ue0 ?ua1 ?ul1 ?ud1 ?ue1 ?ua2 ?ul2 ?ud2 ?ue2 ?ua3 ?ul3 ?ud3 ?ue3 ?ua4 ?ul4 ?ud4 ?ue4 ?ua5 ?ul5 ?ud5 ?ue5 ?ua6 ?ul6 ?ud6 ?ue6 ?ua7 ?ul7 ?ud7 ?ue7 ?ua8 ?ul8 ?ud8 ?ue8 ?ua9 ?ul9 ?ud9 ?ue9 ?ua10 ?ul10 ?ud10 ?ue10 ?ua11 ?ul11 ?ud11 ?ue11 ?ua12 ?ul12 ?ud12 ?ue12 ?ua13 ?ul13 ?ud13 ?ue13 ?ua14 ?ul14 ?ud14 ?ue14 ?ua15 ?ul15 ?ud15 ?ue15 ?ua16 ?ul16 ?ud16 ?ue16 ?ua17 ?ul17 ?ud17 ?ue17 ?ua18 ?ul18 ?ud18 ?ue18 ?ua19 ?ul19 ?ud19 ?ue19 ?ua20 ?ul20 ?ud20 ?ue20 ?ua21 ?ul21 ?ud21 ?ue21 ?ua22 ?ul22 ?ud22 ?ue22 ?ua23 ?ul23 ?ud23 ?ue23 ?ua24 ?ul24 ?ud24 ?ue24 ?ug0 ?ug1 ?ug2 ?ug3 ?uz0 ?uz1 ?uz2 ?uz3 ?uz4 ?uz5 ?uz6 ?uz7 ?uz8 ?uz9 ?uz10 ?uz11 ?uz12 ?uz13 ?uz14 ?uz15 ?unl
    (case ua0 => k_is); (case ul0 => k_is); (case ud0 => k_is); (case ue0 => k_is); (case ua1 => k_is); (case ul1 => k_is); (case ud1 => k_is); (case ue1 => k_is); (case ua2 => k_is); (case ul2 => k_is); (case ud2 => k_is); (case ue2 => k_is); (case ua3 => k_is); (case ul3 => k_is); (case ud3 => k_is); (case ue3 => k_is); (case ua4 => k_is); (case ul4 => k_is); (case ud4 => k_is); (case ue4 => k_is); (case ua5 => k_is); (case ul5 => k_is); (case ud5 => k_is); (case ue5 => k_is); (case ua6 => k_is); (case ul6 => k_is); (case ud6 => k_is); (case ue6 => k_is); (case ua7 => k_is); (case ul7 => k_is); (case ud7 => k_is); (case ue7 => k_is); (case ua8 => k_is); (case ul8 => k_is); (case ud8 => k_is); (case ue8 => k_is); (case ua9 => k_is); (case ul9 => k_is); (case ud9 => k_is); (case ue9 => k_is); (case ua10 => k_is); (case ul10 => k_is); (case ud10 => k_is); (case ue10 => k_is); (case ua11 => k_is); (case ul11 => k_is); (case ud11 => k_is); (case ue11 => k_is); (case ua12 => k_is); (case ul12 => k_is); (case ud12 => k_is); (case ue12 => k_is); (case ua13 => k_is); (case ul13 => k_is); (case ud13 => k_is); (case ue13 => k_is); (case ua14 => k_is); (case ul14 => k_is); (case ud14 => k_is); (case ue14 => k_is); (case ua15 => k_is); (case ul15 => k_is); (case ud15 => k_is); (case ue15 => k_is); (case ua16 => k_is); (case ul16 => k_is); (case ud16 => k_is); (case ue16 => k_is); (case ua17 => k_is); (case ul17 => k_is); (case ud17 => k_is); (case ue17 => k_is); (case ua18 => k_is); (case ul18 => k_is); (case ud18 => k_is); (case ue18 => k_is); (case ua19 => k_is); (case ul19 => k_is); (case ud19 => k_is); (case ue19 => k_is); (case ua20 => k_is); (case ul20 => k_is); (case ud20 => k_is); (case ue20 => k_is); (case ua21 => k_is); (case ul21 => k_is); (case ud21 => k_is); (case ue21 => k_is); (case ua22 => k_is); (case ul22 => k_is); (case ud22 => k_is); (case ue22 => k_is); (case ua23 => k_is); (case ul23 => k_is); (case ud23 => k_is); (case ue23 => k_is); (case ua24 => k_is); (case ul24 => k_is); (case ud24 => k_is); (case ue24 => k_is); (case ug0 => k_is); (case ug1 => k_is); (case ug2 => k_is); (case ug3 => k_is); (case uz0 => k_is); (case uz1 => k_is); (case uz2 => k_is); (case uz3 => k_is); (case uz4 => k_is); (case uz5 => k_is); (case uz6 => k_is); (case uz7 => k_is); (case uz8 => k_is); (case uz9 => k_is); (case uz10 => k_is); (case uz11 => k_is); (case uz12 => k_is); (case uz13 => k_is); (case uz14 => k_is); (case uz15 => k_is)
    case unl => with_unfolding_all rfl
