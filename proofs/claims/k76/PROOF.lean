import PyProof.Rows.All
import Wide.All
import OpenK.AllK
import Wide.FinOn
import HandS.ForMost
import HandS.Wide
import HandS.Deep
import HandS.TryOnly
import HandS.Style
import HandS.IsInst
import HandS.TupAny
import HandS.Walk
import HandS.Star
import HandS.Dict
import HandS.Zip
import HandS.Iter
import KE.GoesEnum
import HandS.Exc
import HandS.Ends
import PySem.Challenge.RW_nextbylast_k76_whole_main_powers_or_a_st
set_option Elab.async false
set_option linter.all false
set_option maxRecDepth 100000
/-! text: VLang -/
section

/-! VLang: a small language of values: its texts, its data, what they come to. -/
namespace VL
open PySem PySem.Spec PyProof.Rows L2

/-- who owns a list or a dict: fz: nobody changes it; own: the holder alone; br i, bc i: it is the root of the slot i, stands within it -/
inductive Tag where
  | fz | own | br (i : Nat) | bc (i : Nat)
  deriving DecidableEq

inductive D where
  | non | bl (b : Bool) | int (i : Int) | str (s : Str)
  | lst (t : Tag) (xs : List D)
  | tup (xs : List D)
  | dk (t : Tag) (ks : List Key) (vs : List D)
  | strm

inductive Res (α : Type) where
  | ok (a : α)
  | stuck

@[simp] def Res.bind {α β : Type} : Res α → (α → Res β) → Res β
  | .ok a, f => f a
  | .stuck, _ => .stuck
instance : Monad Res where
  pure := .ok
  bind := Res.bind
@[simp] theorem ok_bind {α β : Type} (a : α) (f : α → Res β) : (Res.ok a >>= f) = f a := rfl
@[simp] theorem stuck_bind {α β : Type} (f : α → Res β) : (Res.stuck >>= f) = Res.stuck := rfl
@[simp] theorem pure_ok {α : Type} (a : α) : (pure a : Res α) = .ok a := rfl
theorem bind_ok {α β : Type} {x : Res α} {f : α → Res β} {b : β} (h : (x >>= f) = .ok b) : ∃ a, x = .ok a ∧ f a = .ok b := by
  cases x with
  | ok a => exact ⟨a, rfl, h⟩
  | stuck => cases h

mutual
def D.ma (f : Tag → Tag) : D → D
  | .lst t xs => .lst (f t) (D.mas f xs)
  | .tup xs => .tup (D.mas f xs)
  | .dk t ks vs => .dk (f t) ks (D.mas f vs)
  | .non => .non | .bl b => .bl b | .int i => .int i | .str s => .str s | .strm => .strm
def D.mas (f : Tag → Tag) : List D → List D
  | [] => []
  | x :: xs => D.ma f x :: D.mas f xs
end
mutual
def D.any (p : Tag → Bool) : D → Bool
  | .lst t xs => p t || D.anys p xs
  | .tup xs => D.anys p xs
  | .dk t _ vs => p t || D.anys p vs
  | .non => false | .bl _ => false | .int _ => false | .str _ => false | .strm => false
def D.anys (p : Tag → Bool) : List D → Bool
  | [] => false
  | x :: xs => D.any p x || D.anys p xs
end
mutual
/-- the data without the tags (what is no plain data: a dict, which no comparison takes) -/
def D.erase : D → PyData
  | .non => .none | .bl b => .bool b | .int i => .int i | .str s => .str s
  | .lst _ xs => .list (D.erases xs)
  | .tup xs => .tuple (D.erases xs)
  | .dk _ _ _ => .dict []
  | .strm => .dict []
def D.erases : List D → List PyData
  | [] => []
  | x :: xs => D.erase x :: D.erases xs
end

/-- read off the slot i -/
def Tag.rr (i : Nat) : Tag → Tag | .own => .br i | t => t
def Tag.rc (i : Nat) : Tag → Tag | .own => .bc i | t => t
def D.rd (i : Nat) : D → D
  | .lst t xs => .lst (t.rr i) (D.mas (Tag.rc i) xs)
  | .tup xs => .tup (D.mas (Tag.rc i) xs)
  | .dk t ks vs => .dk (t.rr i) ks (D.mas (Tag.rc i) vs)
  | d => d
def D.fz (d : D) : D := d.ma fun _ => .fz
/-- all but the root -/
def D.fzC : D → D
  | .lst .own xs => .lst .own (D.mas (fun _ => .fz) xs)
  | .dk .own ks vs => .dk .own ks (D.mas (fun _ => .fz) vs)
  | d => d.fz
def Tag.isB : Tag → Bool | .br _ => true | .bc _ => true | _ => false
def Tag.isOwn : Tag → Bool | .own => true | _ => false
def Tag.isFz : Tag → Bool | .fz => true | _ => false
def Tag.un : Tag → Tag | .br _ => .fz | .bc _ => .fz | t => t
abbrev VEnv := List (Option D)
def settle1 (ds : List D) (i : Nat) : Option D → Option D
  | some x => if D.anys (fun t => decide (t = .br i)) ds then some x.fz else if D.anys (fun t => decide (t = .bc i)) ds then some x.fzC else some x
  | none => none
def settleE (ds : List D) (ρ : VEnv) : VEnv := ρ.mapIdx (settle1 ds)
/-- what some things borrow is nobody's from now on -/
def settle (ds : List D) (ρ : VEnv) : VEnv := if D.anys Tag.isB ds then settleE ds ρ else ρ

def has (ds : List D) (t : Tag) : Bool := D.anys (fun u => decide (u = t)) ds
def at0 (ρ : VEnv) (i : Nat) : Option D := (ρ[i]?).getD none
/-- the draws' own state -/
structure Strm where
  cells : List Int
  cur : Int
  cnt : Int
  mix : Int
structure VS where
  ρ : VEnv
  st : Option Strm

/-! ### operations on data -/
inductive Op where | add | sub | mul | fdiv | mod | pow
  deriving DecidableEq
inductive Cm where | eq | ne | lt | le | gt | ge | isN | notN | in_ | notIn
  deriving DecidableEq
inductive Bi where | len | list | tuple | int | abs | min2 | max2 | min1 | max1 | sum | any | all | repr | dictP
  deriving DecidableEq
inductive Ty where | int | bool | str | list | tuple | dict | non
  deriving DecidableEq

def small (i : Int) : Bool := decide (-(2 ^ 64) < i) && decide (i < 2 ^ 64)
def mulOk (i j : Int) : Bool := small i || small j || decide (i.natAbs.log2 + j.natAbs.log2 < 1000000)
def divOk (j : Int) : Bool := decide (0 < j) && (decide (j < 2 ^ 64) || decide (j.natAbs.log2 < 9000))
def maxLen : Nat := 16777216
def noOwns (xs : List D) : Bool := !D.anys Tag.isOwn xs

def guardR {α : Type} (b : Bool) (a : α) : Res α := if b then .ok a else .stuck
@[simp] theorem guard_t {α : Type} (a : α) : guardR true a = .ok a := rfl
@[simp] theorem guard_f {α : Type} (a : α) : guardR false a = .stuck := rfl
theorem guard_ok {α : Type} {b : Bool} {a x : α} (h : guardR b a = .ok x) : b = true ∧ x = a := by
  cases b with
  | true => exact ⟨rfl, by cases h; rfl⟩
  | false => cases h

def binD : Op → D → D → Res D
  | .add, .int i, .int j => .ok (.int (i + j))
  | .sub, .int i, .int j => .ok (.int (i - j))
  | .mul, .int i, .int j => guardR (mulOk i j) (.int (i * j))
  | .fdiv, .int i, .int j => guardR (divOk j) (.int (i / j))
  | .mod, .int i, .int j => guardR (decide (0 < j)) (.int (i % j))
  | .pow, .int i, .int j => guardR (decide (0 ≤ j) && decide (j ≤ 100) && small i) (.int (i ^ j.toNat))
  | .add, .lst _ xs, .lst _ ys => guardR (decide (xs.length + ys.length ≤ maxLen)) (.lst .own (xs ++ ys))
  | .mul, .lst _ xs, .int k => guardR (decide (-(2 ^ 62) ≤ k) && decide (k < 2 ^ 62) && decide (xs.length * k.toNat ≤ maxLen) && noOwns xs) (.lst .own (List.replicate k.toNat xs).flatten)
  | .add, .tup xs, .tup ys => guardR (decide (xs.length + ys.length ≤ maxLen) && !xs.isEmpty && !ys.isEmpty) (.tup (xs ++ ys))
  | _, _, _ => .stuck

def D.key : D → Option Key
  | .int i => some (.inl i)
  | .str s => some (.inr s)
  | _ => none
def look (k : Key) : List Key → List D → Option D
  | k' :: ks, v :: vs => if k' = k then some v else look k ks vs
  | _, _ => none
def putK {α : Type} (k : Key) (x : α) : List Key → List α → List Key × List α
  | k' :: ks, v :: vs => if k' = k then (k' :: ks, x :: vs) else let r := putK k x ks vs; (k' :: r.1, v :: r.2)
  | _, _ => ([k], [x])

def flatD : D → Bool | .non => true | .bl _ => true | .int _ => true | .str _ => true | _ => false
def isIntD : D → Bool | .int _ => true | _ => false
def isNonD : D → Bool | .non => true | _ => false
def isBlD : D → Bool | .bl _ => true | _ => false
def intD : D → Int | .int i => i | _ => 0
def blD : D → Bool | .bl b => b | _ => false

def eqD (d e : D) : Res Bool := guardR (SeqAt.shaped d.erase && SeqAt.shaped e.erase) (PyData.eqv d.erase e.erase)
def isStrD : D → Bool | .str _ => true | _ => false
def strD : D → Str | .str s => s | _ => ""
/-- in a tuple of ints, or of texts -/
def inT (d : D) (xs : List D) : Res Bool := if isStrD d then guardR (xs.all isStrD) (xs.any fun x => decide (strD x = strD d)) else guardR (isIntD d && xs.all isIntD) (xs.any fun x => decide (intD x = intD d))
def inD (d : D) : D → Res Bool
  | .lst _ xs => guardR (SeqAt.shaped d.erase && SeqAt.shaped (.list (D.erases xs))) ((D.erases xs).any fun z => PyData.eqv z d.erase)
  | .tup xs => inT d xs
  | .dk _ ks _ => match d.key with
    | some k => .ok (ks.any fun k' => decide (k' = k))
    | none => .stuck
  | _ => .stuck
def cmpD : Cm → D → D → Res Bool
  | .eq, .str a, .str b => .ok (decide (a = b))
  | .ne, .str a, .str b => .ok (!decide (a = b))
  | .eq, d, e => eqD d e
  | .ne, d, e => eqD d e >>= fun b => .ok (!b)
  | .lt, .int i, .int j => .ok (decide (i < j))
  | .le, .int i, .int j => .ok (decide (i ≤ j))
  | .gt, .int i, .int j => .ok (decide (j < i))
  | .ge, .int i, .int j => .ok (decide (j ≤ i))
  | .isN, d, .non => .ok (isNonD d)
  | .notN, d, .non => .ok (!isNonD d)
  | .in_, d, e => inD d e
  | .notIn, d, e => inD d e >>= fun b => .ok (!b)
  | _, _, _ => .stuck
def truD : D → Res Bool
  | .non => .ok false
  | .bl b => .ok b
  | .int i => .ok (i != 0)
  | .lst _ xs => .ok (!xs.isEmpty)
  | .tup xs => .ok (!xs.isEmpty)
  | .dk _ ks _ => .ok (!ks.isEmpty)
  | _ => .stuck
def ixD : D → D → Res D
  | .lst _ xs, .int i => match atI xs i with
    | some x => .ok x
    | none => .stuck
  | .tup xs, .int i => match atI xs i with
    | some x => .ok x
    | none => .stuck
  | .dk _ ks vs, d => match d.key with
    | some k => match look k ks vs with
      | some x => .ok x
      | none => .stuck
    | none => .stuck
  | _, _ => .stuck
def cutD (xs : List D) (lo hi : Option Int) : List D := (xs.drop (HT.sIx xs.length 0 lo)).take (HT.sIx xs.length xs.length hi - HT.sIx xs.length 0 lo)
def slD : D → Option Int → Option Int → Res D
  | .lst _ xs, lo, hi => .ok (.lst .own (cutD xs lo hi))
  | .tup xs, lo, hi => .ok (.tup (cutD xs lo hi))
  | _, _, _ => .stuck
def revD : D → Res D
  | .lst _ xs => .ok (.lst .own xs.reverse)
  | .tup xs => .ok (.tup xs.reverse)
  | _ => .stuck

def lenD : D → Res Int
  | .lst _ xs => .ok xs.length
  | .tup xs => .ok xs.length
  | _ => .stuck
def reprOk (d : PyData) : Bool := PyData.layable0 d && PyData.showable d && !PyData.hasDict d && Nat.ble (PyData.shown d).length maxLen
def cntK (k : Key) : List Key → Nat
  | [] => 0
  | k' :: ks => if k' = k then cntK k ks + 1 else cntK k ks
def pairK : D → Option (Key × D)
  | .tup [k, v] => if flatD v then (k.key).map fun k => (k, v) else none
  | _ => none
/-- pairs of a key and a flat thing, put into a dict in turn -/
def mergeD (ks : List Key) (vs : List D) : List D → Option (List Key × List D)
  | [] => some (ks, vs)
  | p :: ps => match pairK p with
    | some kv => if cntK kv.1 ks ≤ 1 then mergeD (putK kv.1 kv.2 ks vs).1 (putK kv.1 kv.2 ks vs).2 ps else none
    | none => none
def keyD : Key → D
  | .inl i => .int i
  | .inr s => .str s
def biD : Bi → List D → Res D
  | .len, [d] => lenD d >>= fun n => .ok (.int n)
  | .list, [.lst _ xs] => .ok (.lst .own xs)
  | .list, [.tup xs] => .ok (.lst .own xs)
  | .tuple, [.lst _ xs] => .ok (.tup xs)
  | .tuple, [.tup xs] => .ok (.tup xs)
  | .int, [.int i] => .ok (.int i)
  | .abs, [.int i] => .ok (.int (if i < 0 then -i else i))
  | .min2, [.int i, .int j] => .ok (.int (if j < i then j else i))
  | .max2, [.int i, .int j] => .ok (.int (if j > i then j else i))
  | .sum, [.lst _ xs] => guardR (xs.all isIntD) (.int (xs.map intD).sum)
  | .any, [.lst _ xs] => guardR (xs.all isBlD) (.bl ((xs.map blD).any id))
  | .all, [.lst _ xs] => guardR (xs.all isBlD) (.bl ((xs.map blD).all id))
  | .repr, [.lst _ xs] => guardR (reprOk (.list (D.erases xs))) (.str (PyData.shown (.list (D.erases xs))))
  | .repr, [.tup xs] => guardR (reprOk (.tuple (D.erases xs))) (.str (PyData.shown (.tuple (D.erases xs))))
  | .repr, [.non] => .ok (.str "None")
  | .repr, [.bl b] => .ok (.str (if b then "True" else "False"))
  | .repr, [.int i] => guardR (decide (i.natAbs.log2 < 1920)) (.str (toString i))
  | .repr, [.str x] => guardR (Nat.ble (reprText x).length maxLen) (.str (reprText x))
  | .repr, [.dk _ [] []] => .ok (.str (PyData.shown (.dict [])))
  | .dictP, [.lst _ xs] => match mergeD [] [] xs with
    | some r => .ok (.dk .own r.1 r.2)
    | none => .stuck
  | _, _ => .stuck
def tyD : D → Ty → Res Bool
  | .int _, t => .ok (decide (t = .int))
  | .bl _, t => .ok (decide (t = .bool) || decide (t = .int))
  | .str _, t => .ok (decide (t = .str))
  | .non, t => .ok (decide (t = .non))
  | .lst _ _, t => .ok (decide (t = .list))
  | .tup _, t => .ok (decide (t = .tuple))
  | .dk _ _ _, t => .ok (decide (t = .dict))
  | .strm, _ => .stuck
def tysD (d : D) : List Ty → Res Bool
  | [] => .ok false
  | t :: ts => tyD d t >>= fun b => if b then .ok true else tysD d ts

/-! ### the texts -/
inductive VG where
  | nm (i : Nat) | nil | cons (g gs : VG)
inductive VE where
  | bad
  | name (i : Nat)
  | non | bl (b : Bool) | int (i : Int) | str (s : Str)
  | bin (op : Op) (a b : VE)
  | neg (a : VE)
  | not_ (t : VE) | and_ (a b : VE) | or_ (a b : VE)
  | cmp (c : Cm) (a b : VE)
  | chain (k k' : Cm) (a b c : VE)
  | emp (own : List Nat) (i : Nat)
  | ife (t a b : VE)
  | nil | cons (a as : VE) | star (a as : VE)
  | lst (as : VE) | tup (as : VE) | dnew
  | ix (a i : VE)
  | sl (a lo hi : VE)
  | rev (a : VE)
  | comp (own : List Nat) (g : VG) (it ifs elt : VE)
  | call (f : Nat) (as : VE)
  | callK (f : Nat) (as ks : VE) (np : Nat) (names : List Str) (perm : List Nat)
  | bi (b : Bi) (as : VE)
  | isi (a : VE) (ts : List Ty)
  | rng1 (a : VE) | rng2 (a b : VE) | zip (a b : VE) | enum (a : VE) | keys (a : VE)

/-- ranges -/
def rangeD (lo hi : Int) : List D := (List.range (hi - lo).toNat).map fun k => .int (lo + (k : Nat))
def rngOk (i : Int) : Bool := decide (-(2 ^ 62) ≤ i) && decide (i < 2 ^ 62)
def rngD : D → D → Res (List D)
  | .int i, .int j => guardR (rngOk i && rngOk j && decide ((j - i).toNat ≤ maxLen)) (rangeD i j)
  | _, _ => .stuck
def seqD : D → Res (List D)
  | .lst _ xs => .ok xs
  | .tup xs => .ok xs
  | _ => .stuck
/-- two things that are walked together: two lists, two tuples -/
def seq2 : D → D → Res (List D × List D)
  | .lst _ xs, .lst _ ys => .ok (xs, ys)
  | .tup xs, .tup ys => .ok (xs, ys)
  | _, _ => .stuck
def seqL : D → Res (List D)
  | .lst _ xs => .ok xs
  | _ => .stuck
def zipD : List D → List D → List D
  | x :: xs, y :: ys => .tup [x, y] :: zipD xs ys
  | _, _ => []
def enumD (n : Int) : List D → List D
  | [] => []
  | x :: xs => .tup [.int n, x] :: enumD (n + 1) xs

mutual
/-- a value goes to a target (nothing borrowed, nothing owned by another) -/
def asgG : VG → D → VEnv → Res VEnv
  | .nm i, d, ρ => guardR (decide (i < ρ.length)) (ρ.set i (some d))
  | .nil, d, ρ => seqD d >>= fun xs => match xs with
    | [] => .ok ρ
    | _ => .stuck
  | .cons g gs, d, ρ => seqD d >>= fun xs => match xs with
    | x :: xs => asgG g x ρ >>= fun ρ => asgC gs xs ρ
    | [] => .stuck
def asgC : VG → List D → VEnv → Res VEnv
  | .nil, xs, ρ => match xs with
    | [] => .ok ρ
    | _ => .stuck
  | .cons g gs, xs, ρ => match xs with
    | x :: xs => asgG g x ρ >>= fun ρ => asgC gs xs ρ
    | [] => .stuck
  | .nm _, _, _ => .stuck
end

/-- the slots of a target -/
def VG.slots : VG → List Nat
  | .nm i => [i]
  | .nil => []
  | .cons g gs => g.slots ++ gs.slots

abbrev Calls := Nat → List D → Option Strm → Res (D × Option Strm)

def wipeV (ρ : VEnv) : List Nat → VEnv
  | [] => ρ
  | v :: vs => (wipeV ρ vs).set v none
/-- the slots vs as they were -/
def backV (ρ0 ρ : VEnv) : List Nat → VEnv
  | [] => ρ
  | v :: vs => (backV ρ0 ρ vs).set v ((ρ0[v]?).getD none)
def parked (ρ : VEnv) (vs : List Nat) : Bool := vs.all fun v => match ρ[v]? with
  | some (some d) => !d.any Tag.isOwn
  | some none => true
  | none => false

def unB (ds : List D) : List D := D.mas Tag.un ds
/-- what a call takes: the callee sees all of it as nobody's -/
def callF (Φ : Calls) (f : Nat) (all ds : List D) (s : VS) : Res (D × VS) :=
  Φ f (D.mas (fun _ => .fz) ds) s.st >>= fun r => .ok (r.1, ⟨if r.1.any Tag.isFz then settle all s.ρ else s.ρ, r.2⟩)

def permL (ds : List D) : List Nat → Option (List D)
  | [] => some []
  | i :: is => match ds[i]?, permL ds is with
    | some d, some r => some (d :: r)
    | _, _ => none

/-- the turns of a comprehension -/
def compGo (bind : D → VS → Res VS) (test : VS → Res (Bool × VS)) (elt : VS → Res (D × VS)) : List D → VS → Res (List D × VS)
  | [], s => .ok ([], s)
  | x :: xs, s => bind x s >>= fun s1 => test s1 >>= fun b => if b.1 then elt b.2 >>= fun y => compGo bind test elt xs y.2 >>= fun r => .ok (y.1 :: r.1, r.2) else compGo bind test elt xs b.2

/-- a text's ways to be read: as a value, as arguments, as a test, as a part of a slice, as a comprehension's tests, as what is walked -/
structure Modes where
  E : VS → Res (D × VS)
  L : VS → Res (List D × VS)
  T : VS → Res (Bool × VS)
  P : VS → Res (Option Int × VS)
  F : VS → Res (Bool × VS)
  I : VS → Res ((List D × List D) × VS)
def tOf (E : VS → Res (D × VS)) (s : VS) : Res (Bool × VS) := E s >>= fun x => truD x.1 >>= fun b => .ok (b, x.2)
def pOf (E : VS → Res (D × VS)) (s : VS) : Res (Option Int × VS) := E s >>= fun x => match x.1 with
  | .int i => .ok (some i, x.2)
  | _ => .stuck
def iOf (E : VS → Res (D × VS)) (s : VS) : Res ((List D × List D) × VS) := E s >>= fun x => seqD x.1 >>= fun xs => .ok ((xs, [x.1]), x.2)
def Modes.of (E : VS → Res (D × VS)) : Modes := ⟨E, fun _ => .stuck, tOf E, pOf E, tOf E, iOf E⟩
def Modes.ofT (T : VS → Res (Bool × VS)) (E : VS → Res (D × VS)) : Modes := ⟨E, fun _ => .stuck, T, pOf E, T, iOf E⟩
def Modes.ofL (L : VS → Res (List D × VS)) : Modes := ⟨fun _ => .stuck, L, fun _ => .stuck, fun _ => .stuck, fun _ => .stuck, fun _ => .stuck⟩
def Modes.ofI (I : VS → Res ((List D × List D) × VS)) : Modes := ⟨fun _ => .stuck, fun _ => .stuck, fun _ => .stuck, fun _ => .stuck, fun _ => .stuck, I⟩
def notT (a : VS → Res (Bool × VS)) (s : VS) : Res (Bool × VS) := a s >>= fun b => .ok (!b.1, b.2)
def andT (a b : VS → Res (Bool × VS)) (s : VS) : Res (Bool × VS) := a s >>= fun x => if x.1 then b x.2 else .ok (false, x.2)
def orT (a b : VS → Res (Bool × VS)) (s : VS) : Res (Bool × VS) := a s >>= fun x => if x.1 then .ok (true, x.2) else b x.2
def eOfT (a : VS → Res (Bool × VS)) (s : VS) : Res (D × VS) := a s >>= fun b => .ok (.bl b.1, b.2)
def blOnly (a : VS → Res (D × VS)) (s : VS) : Res (Bool × VS) := a s >>= fun x => match x.1 with
  | .bl b => .ok (b, x.2)
  | _ => .stuck
def binM (op : Op) (a b : VS → Res (D × VS)) (s : VS) : Res (D × VS) := a s >>= fun x => b x.2 >>= fun y => binD op x.1 y.1 >>= fun d => .ok (d, y.2)
def cmpM (c : Cm) (a b : VS → Res (D × VS)) (s : VS) : Res (D × VS) := a s >>= fun x => b x.2 >>= fun y => cmpD c x.1 y.1 >>= fun d => .ok (.bl d, y.2)
def chainM (k k' : Cm) (a b c : VS → Res (D × VS)) (s : VS) : Res (D × VS) := a s >>= fun x => b x.2 >>= fun y => cmpD k x.1 y.1 >>= fun d => if d = true then c y.2 >>= fun z => cmpD k' y.1 z.1 >>= fun d' => .ok (.bl d', z.2) else .ok (.bl false, y.2)
def nameM (i : Nat) (s : VS) : Res (D × VS) := match s.ρ[i]? with
  | some (some d) => .ok (d.rd i, s)
  | _ => .stuck
/-- [.. for k in x], x an empty dict -/
def empM (i : Nat) (s : VS) : Res (D × VS) := match s.ρ[i]? with
  | some (some (.dk _ [] [])) => .ok (.lst .own [], s)
  | _ => .stuck
def negM (a : VS → Res (D × VS)) (s : VS) : Res (D × VS) := a s >>= fun x => match x.1 with
  | .int i => .ok (.int (-i), x.2)
  | _ => .stuck
def ifeM (t : VS → Res (Bool × VS)) (a b : VS → Res (D × VS)) (s : VS) : Res (D × VS) := t s >>= fun x => if x.1 then a x.2 else b x.2
def lstM (l : VS → Res (List D × VS)) (s : VS) : Res (D × VS) := l s >>= fun x => guardR (decide (x.1.length ≤ maxLen)) (.lst .own x.1, x.2)
def tupM (l : VS → Res (List D × VS)) (s : VS) : Res (D × VS) := l s >>= fun x => guardR (decide (x.1.length ≤ maxLen)) (.tup x.1, x.2)
def ixM (a b : VS → Res (D × VS)) (s : VS) : Res (D × VS) := a s >>= fun x => b x.2 >>= fun y => ixD x.1 y.1 >>= fun d => .ok (d, y.2)
def slM (a : VS → Res (D × VS)) (lo hi : VS → Res (Option Int × VS)) (s : VS) : Res (D × VS) := a s >>= fun x => lo x.2 >>= fun l => hi l.2 >>= fun h => slD x.1 l.1 h.1 >>= fun d => .ok (d, h.2)
def revM (a : VS → Res (D × VS)) (s : VS) : Res (D × VS) := a s >>= fun x => revD x.1 >>= fun d => .ok (d, x.2)
def compM (own : List Nat) (g : VG) (it : VS → Res ((List D × List D) × VS)) (ifs : VS → Res (Bool × VS)) (elt : VS → Res (D × VS)) (s : VS) : Res (D × VS) :=
  it s >>= fun x => if parked x.2.ρ own then
    compGo (fun d s => asgG g d (wipeV s.ρ own) >>= fun ρ => .ok ⟨ρ, s.st⟩) ifs (fun s => elt s >>= fun y => .ok (y.1.ma Tag.un, ⟨settle [y.1] y.2.ρ, y.2.st⟩)) (D.mas (fun _ => .fz) x.1.1)
      ⟨settle x.1.1 x.2.ρ, x.2.st⟩ >>= fun r => guardR (decide (r.1.length ≤ maxLen)) (.lst .own r.1, ⟨backV x.2.ρ r.2.ρ own, r.2.st⟩)
  else .stuck
def callM (Φ : Calls) (f : Nat) (l : VS → Res (List D × VS)) (s : VS) : Res (D × VS) := l s >>= fun x => callF Φ f x.1 x.1 x.2
def callKM (Φ : Calls) (f : Nat) (np nk : Nat) (l k : VS → Res (List D × VS)) (perm : List Nat) (s : VS) : Res (D × VS) := l s >>= fun x => k x.2 >>= fun y =>
  if x.1.length = np ∧ y.1.length = nk then (match permL (x.1 ++ y.1) perm with
    | some ds => callF Φ f (x.1 ++ y.1) ds y.2
    | none => .stuck) else .stuck
def biM (b : Bi) (l : VS → Res (List D × VS)) (s : VS) : Res (D × VS) := l s >>= fun x => biD b x.1 >>= fun d => .ok (d, x.2)
def isiM (a : VS → Res (D × VS)) (ts : List Ty) (s : VS) : Res (D × VS) := a s >>= fun x => tysD x.1 ts >>= fun b => .ok (.bl b, x.2)
def consM (a : VS → Res (D × VS)) (l : VS → Res (List D × VS)) (s : VS) : Res (List D × VS) := a s >>= fun x => l x.2 >>= fun y => .ok (x.1 :: y.1, y.2)
def starM (a : VS → Res (D × VS)) (l : VS → Res (List D × VS)) (s : VS) : Res (List D × VS) := a s >>= fun x => seqD x.1 >>= fun xs => l x.2 >>= fun y => .ok (xs ++ y.1, y.2)
def rng1M (a : VS → Res (D × VS)) (s : VS) : Res ((List D × List D) × VS) := a s >>= fun x => rngD (.int 0) x.1 >>= fun ds => .ok ((ds, []), x.2)
def rng2M (a b : VS → Res (D × VS)) (s : VS) : Res ((List D × List D) × VS) := a s >>= fun x => b x.2 >>= fun y => rngD x.1 y.1 >>= fun ds => .ok ((ds, []), y.2)
def zipM (a b : VS → Res (D × VS)) (s : VS) : Res ((List D × List D) × VS) := a s >>= fun x => b x.2 >>= fun y => seq2 x.1 y.1 >>= fun z => .ok ((zipD z.1 z.2, [x.1, y.1]), y.2)
def enumM (a : VS → Res (D × VS)) (s : VS) : Res ((List D × List D) × VS) := a s >>= fun x => seqD x.1 >>= fun xs => .ok ((enumD 0 xs, [x.1]), x.2)

/-- the keys of a new dict -/
def keysM (a : VS → Res (D × VS)) (s : VS) : Res ((List D × List D) × VS) := a s >>= fun x => match x.1 with
  | .dk .own ks vs => .ok ((ks.map keyD, [x.1]), x.2)
  | _ => .stuck
def ev (Φ : Calls) : VE → Modes
  | .bad => .of fun _ => .stuck
  | .name i => .of (nameM i)
  | .non => .of fun s => .ok (.non, s)
  | .bl b => .of fun s => .ok (.bl b, s)
  | .int i => .of fun s => .ok (.int i, s)
  | .str x => .of fun s => .ok (.str x, s)
  | .bin op a b => .of (binM op (ev Φ a).E (ev Φ b).E)
  | .neg a => .of (negM (ev Φ a).E)
  | .not_ t => .ofT (notT (ev Φ t).T) (eOfT (notT (blOnly (ev Φ t).E)))
  | .and_ a b => .ofT (andT (ev Φ a).T (ev Φ b).T) (eOfT (andT (blOnly (ev Φ a).E) (blOnly (ev Φ b).E)))
  | .or_ a b => .ofT (orT (ev Φ a).T (ev Φ b).T) (eOfT (orT (blOnly (ev Φ a).E) (blOnly (ev Φ b).E)))
  | .cmp c a b => .of (cmpM c (ev Φ a).E (ev Φ b).E)
  | .emp _ i => .of (empM i)
  | .chain k k' a b c => .of (chainM k k' (ev Φ a).E (ev Φ b).E (ev Φ c).E)
  | .ife t a b => .of (ifeM (ev Φ t).T (ev Φ a).E (ev Φ b).E)
  | .nil => ⟨fun _ => .stuck, fun s => .ok ([], s), fun _ => .stuck, fun s => .ok (none, s), fun s => .ok (true, s), fun _ => .stuck⟩
  | .cons a as => .ofL (consM (ev Φ a).E (ev Φ as).L)
  | .star a as => .ofL (starM (ev Φ a).E (ev Φ as).L)
  | .lst as => .of (lstM (ev Φ as).L)
  | .tup as => .of (tupM (ev Φ as).L)
  | .dnew => .of fun s => .ok (.dk .own [] [], s)
  | .ix a i => .of (ixM (ev Φ a).E (ev Φ i).E)
  | .sl a lo hi => .of (slM (ev Φ a).E (ev Φ lo).P (ev Φ hi).P)
  | .rev a => .of (revM (ev Φ a).E)
  | .comp own g it ifs elt => .of (compM own g (ev Φ it).I (ev Φ ifs).F (ev Φ elt).E)
  | .call f as => .of (callM Φ f (ev Φ as).L)
  | .callK f as ks np names perm => .of (callKM Φ f np names.length (ev Φ as).L (ev Φ ks).L perm)
  | .bi b as => .of (biM b (ev Φ as).L)
  | .isi a ts => .of (isiM (ev Φ a).E ts)
  | .rng1 a => .ofI (rng1M (ev Φ a).E)
  | .rng2 a b => .ofI (rng2M (ev Φ a).E (ev Φ b).E)
  | .zip a b => .ofI (zipM (ev Φ a).E (ev Φ b).E)
  | .enum a => .ofI (enumM (ev Φ a).E)
  | .keys a => .ofI (keysM (ev Φ a).E)

/-! ### statements -/
inductive VB where
  | bad | pass | doc
  | seq (a b : VB)
  | asg (g : VG) (e : VE)
  | if_ (c : VE) (a b : VB)
  | for_ (g : VG) (it : VE) (b : VB)
  | while_ (c : VE) (b : VB)
  | ret (e : VE) | retN | retC (c : VE) (i : Nat)
  | ex (e : VE)
  | app (i : Nat) (e : VE) | ext (i : Nat) (e : VE) | appx (i : Nat) (k : Int) (x : Str)
  | setix (dk : Bool) (i : Nat) (k e : VE)
  | par2 (i j : Nat) (as : VE) | par3 (i j l : Nat) (as : VE)
  | cont
inductive Fl where
  | nx (s : VS) | ct (s : VS) | rt (d : D) (st : Option Strm)

/-- a thing is stored: what it borrows is settled -/
def storeG (g : VG) (d : D) (s : VS) : Res VS := asgG g (d.ma Tag.un) (settle [d] s.ρ) >>= fun ρ => .ok ⟨ρ, s.st⟩
/-- what a def hands back: its own slots' things go with it -/
def mvO (i : Nat) (xs : List D) (ρ : VEnv) : Option D :=
  match at0 ρ i with
  | some (.lst .own ys) => if has xs (.br i) || has xs (.bc i) then none else some (.lst .own ys)
  | some (.dk .own ks ys) => if has xs (.br i) || has xs (.bc i) then none else some (.dk .own ks ys)
  | _ => none
def rootB : D → Option Nat | .lst (.br i) _ => some i | .dk (.br i) _ _ => some i | _ => none
def out1 (x : D) (xs : List D) (ρ : VEnv) : D × VEnv :=
  match rootB x with
  | some i => (match mvO i xs ρ with
    | some y => (y, ρ.set i none)
    | none => (x.ma Tag.un, settle [x] ρ))
  | none => (x.ma Tag.un, settle [x] ρ)
def outL : List D → VEnv → List D
  | [], _ => []
  | x :: xs, ρ => (out1 x xs ρ).1 :: outL xs (out1 x xs ρ).2
def outD : D → VEnv → D
  | .tup xs, ρ => .tup (outL xs ρ)
  | .lst .own xs, ρ => .lst .own (outL xs ρ)
  | x, ρ => (out1 x [] ρ).1
def appV (i : Nat) (d : D) (s : VS) : Res VS :=
  match at0 (settle [d] s.ρ) i with
  | some (.lst .own xs) => guardR (decide (xs.length < maxLen)) ⟨(settle [d] s.ρ).set i (some (.lst .own (xs ++ [d.ma Tag.un]))), s.st⟩
  | _ => .stuck
def extV (i : Nat) (d : D) (s : VS) : Res VS :=
  match at0 (settle [d] s.ρ) i, d with
  | some (.lst .own xs), .lst _ ys => guardR (decide (xs.length + ys.length ≤ maxLen)) ⟨(settle [d] s.ρ).set i (some (.lst .own (xs ++ D.mas Tag.un ys))), s.st⟩
  | _, _ => .stuck
def setV (dk : Bool) (i : Nat) (k d : D) (s : VS) : Res VS :=
  match at0 (settle [d] s.ρ) i with
  | some (.lst .own xs) => if dk then .stuck else (match k with
    | .int n => (match ixN xs.length n with
      | some j => .ok ⟨(settle [d] s.ρ).set i (some (.lst .own (xs.set j (d.ma Tag.un)))), s.st⟩
      | none => .stuck)
    | _ => .stuck)
  | some (.dk .own ks vs) => if !dk then .stuck else (match k.key with
    | some key => guardR (decide (ks.length < maxLen) && decide (cntK key ks ≤ 1)) ⟨(settle [d] s.ρ).set i (some (.dk .own (putK key (d.ma Tag.un) ks vs).1 (putK key (d.ma Tag.un) ks vs).2)), s.st⟩
    | none => .stuck)
  | _ => .stuck
/-- x[k].append(a text), x's own list, or tuple, of own lists -/
def appxL (k : Int) (x : Str) (xs : List D) : Option (List D) := match ixN xs.length k with
  | some j => match xs[j]? with
    | some (.lst .own ys) => if ys.length < maxLen then some (xs.set j (.lst .own (ys ++ [.str x]))) else none
    | _ => none
  | none => none
def appxM (i : Nat) (k : Int) (x : Str) (s : VS) : Res Fl := match at0 s.ρ i with
  | some (.lst .own xs) => (match appxL k x xs with
    | some ys => .ok (.nx ⟨s.ρ.set i (some (.lst .own ys)), s.st⟩)
    | none => .stuck)
  | some (.tup xs) => (match appxL k x xs with
    | some ys => .ok (.nx ⟨s.ρ.set i (some (.tup ys)), s.st⟩)
    | none => .stuck)
  | _ => .stuck
/-- return x if c else tuple(x), x a list of the slot i -/
def retcM (c : VS → Res (Bool × VS)) (i : Nat) (s : VS) : Res Fl := c s >>= fun b => match at0 b.2.ρ i with
  | some (.lst .own xs) => .ok (.rt (if b.1 = true then .lst .own xs else .tup xs) b.2.st)
  | _ => .stuck
def isLst : Option D → Bool | some (.lst _ _) => true | _ => false
def forGo (bind : D → VS → Res VS) (body : VS → Res Fl) : List D → VS → Res Fl
  | [], s => .ok (.nx s)
  | x :: xs, s => bind x s >>= fun s1 => body s1 >>= fun r => match r with
    | .nx s2 => forGo bind body xs s2
    | .ct s2 => forGo bind body xs s2
    | .rt d st => .ok (.rt d st)
def whileGo (test : VS → Res (Bool × VS)) (body : VS → Res Fl) : Nat → VS → Res Fl
  | 0, _ => .stuck
  | n + 1, s => test s >>= fun b => if b.1 then body b.2 >>= fun r => (match r with
      | .nx s2 => whileGo test body n s2
      | .ct s2 => whileGo test body n s2
      | .rt d st => .ok (.rt d st)) else .ok (.nx b.2)

def seqM (a b : VS → Res Fl) (s : VS) : Res Fl := a s >>= fun r => match r with
  | .nx s => b s
  | r => .ok r
def asgM (g : VG) (e : VS → Res (D × VS)) (s : VS) : Res Fl := e s >>= fun x => storeG g x.1 x.2 >>= fun s => .ok (.nx s)
def ifM (c : VS → Res (Bool × VS)) (a b : VS → Res Fl) (s : VS) : Res Fl := c s >>= fun x => if x.1 then a x.2 else b x.2
def forM (g : VG) (it : VS → Res ((List D × List D) × VS)) (b : VS → Res Fl) (s : VS) : Res Fl := it s >>= fun x =>
  forGo (fun d s => asgG g d s.ρ >>= fun ρ => .ok ⟨ρ, s.st⟩) b (D.mas (fun _ => .fz) x.1.1) ⟨settle (x.1.2 ++ x.1.1) x.2.ρ, x.2.st⟩
/-- a, b = x, y: no tuple is made -/
def par2M (i j : Nat) (l : VS → Res (List D × VS)) (s : VS) : Res Fl := l s >>= fun x => asgC (.cons (.nm i) (.cons (.nm j) .nil)) (D.mas Tag.un x.1) (settle x.1 x.2.ρ) >>= fun ρ => .ok (.nx ⟨ρ, x.2.st⟩)
def par3M (i j k : Nat) (l : VS → Res (List D × VS)) (s : VS) : Res Fl := l s >>= fun x => asgC (.cons (.nm i) (.cons (.nm j) (.cons (.nm k) .nil))) (D.mas Tag.un x.1) (settle x.1 x.2.ρ) >>= fun ρ => .ok (.nx ⟨ρ, x.2.st⟩)
def appM (i : Nat) (e : VS → Res (D × VS)) (s : VS) : Res Fl := if isLst (at0 s.ρ i) then e s >>= fun x => appV i x.1 x.2 >>= fun s => .ok (.nx s) else .stuck
def extM (i : Nat) (e : VS → Res (D × VS)) (s : VS) : Res Fl := if isLst (at0 s.ρ i) then e s >>= fun x => extV i x.1 x.2 >>= fun s => .ok (.nx s) else .stuck
def setM (dk : Bool) (i : Nat) (k e : VS → Res (D × VS)) (s : VS) : Res Fl := e s >>= fun x => if (at0 x.2.ρ i).isSome then k x.2 >>= fun y => setV dk i y.1 x.1 y.2 >>= fun s => .ok (.nx s) else .stuck
def retM (e : VS → Res (D × VS)) (s : VS) : Res Fl := e s >>= fun x => .ok (.rt (outD x.1 x.2.ρ) x.2.st)
def exM (e : VS → Res (D × VS)) (s : VS) : Res Fl := e s >>= fun x => .ok (.nx x.2)
def exec (Φ : Calls) (W : Nat) : VB → VS → Res Fl
  | .bad, _ => .stuck
  | .pass, s => .ok (.nx s)
  | .doc, s => .ok (.nx s)
  | .seq a b, s => seqM (exec Φ W a) (exec Φ W b) s
  | .asg g e, s => asgM g (ev Φ e).E s
  | .if_ c a b, s => ifM (ev Φ c).T (exec Φ W a) (exec Φ W b) s
  | .for_ g it b, s => forM g (ev Φ it).I (exec Φ W b) s
  | .while_ c b, s => whileGo (ev Φ c).T (exec Φ W b) W s
  | .ret e, s => retM (ev Φ e).E s
  | .retN, s => .ok (.rt .non s.st)
  | .retC c i, s => retcM (ev Φ c).T i s
  | .ex e, s => exM (ev Φ e).E s
  | .par2 i j as, s => par2M i j (ev Φ as).L s
  | .par3 i j l as, s => par3M i j l (ev Φ as).L s
  | .app i e, s => appM i (ev Φ e).E s
  | .ext i e, s => extM i (ev Φ e).E s
  | .appx i k x, s => appxM i k x s
  | .setix dk i k e, s => setM dk i (ev Φ k).E (ev Φ e).E s
  | .cont, s => .ok (.ct s)
end VL
end

/-! text: VRep -/
section

/-! VRep: how data stand in the abstract heap. -/
namespace VL
open PySem PySem.Spec PyProof.Rows L2

abbrev TB := Tag → Addr → Prop
def Own (B : TB) (t : Tag) (a : Addr) (q fp : List Addr) : Prop := (t = .own ∧ fp = a :: q) ∨ (t ≠ .own ∧ B t a ∧ fp = q)
mutual
/-- v shows d; fp: the lists and dicts that are its own -/
def Rep (z : Option Addr) (B : TB) (H : Hp) : D → V → List Addr → Prop
  | .non, v, fp => v = .non ∧ fp = []
  | .bl b, v, fp => v = .bl b ∧ fp = []
  | .int i, v, fp => v = .int i ∧ fp = []
  | .str x, v, fp => v = .str x ∧ fp = []
  | .strm, v, fp => (∃ a, z = some a ∧ v = .ref a) ∧ fp = []
  | .lst t xs, v, fp => ∃ a vs q, v = .ref a ∧ H a = some (.lst vs) ∧ vs.length ≤ sizeLine ∧ Reps z B H xs vs q ∧ Own B t a q fp
  | .tup xs, v, fp => ∃ a vs, v = .ref a ∧ H a = some (.tup vs) ∧ vs.length ≤ sizeLine ∧ Reps z B H xs vs fp
  | .dk t ks xs, v, fp => ∃ a vs q, v = .ref a ∧ H a = some (.dK (ks.zip vs)) ∧ ks.length = vs.length ∧ vs.length ≤ sizeLine ∧ Reps z B H xs vs q ∧ Own B t a q fp
def Reps (z : Option Addr) (B : TB) (H : Hp) : List D → List V → List Addr → Prop
  | [], vs, fp => vs = [] ∧ fp = []
  | d :: ds, vs, fp => ∃ v w p q, vs = v :: w ∧ fp = p ++ q ∧ Rep z B H d v p ∧ Reps z B H ds w q
end
def mutO : HO → Bool
  | .lst _ => true
  | .dK _ => true
  | .frz _ _ => true
  | _ => false

section
variable {z : Option Addr} {B B' : TB} {H H' : Hp}
theorem Own.own {a : Addr} {q fp : List Addr} (h : Own B .own a q fp) : fp = a :: q := by
  rcases h with ⟨_, e⟩ | ⟨n, _⟩
  · exact e
  · exact absurd rfl n
theorem Own.not {t : Tag} {a : Addr} {q fp : List Addr} (h : Own B t a q fp) (n : t ≠ .own) : B t a ∧ fp = q := by
  rcases h with ⟨e, _⟩ | ⟨_, h⟩
  · exact absurd e n
  · exact h
theorem Own.sub {t : Tag} {a : Addr} {q fp : List Addr} (h : Own B t a q fp) : ∀ b ∈ q, b ∈ fp := fun b hb => by
  rcases h with ⟨_, e⟩ | ⟨_, _, e⟩
  · rw [e]; exact List.mem_cons_of_mem _ hb
  · rw [e]; exact hb
theorem Own.mem {t : Tag} {a : Addr} {q fp : List Addr} (h : Own B t a q fp) : ∀ b ∈ fp, b = a ∨ b ∈ q := fun b hb => by
  rcases h with ⟨_, e⟩ | ⟨_, _, e⟩
  · rw [e] at hb; exact List.mem_cons.mp hb
  · rw [e] at hb; exact .inr hb

theorem Reps.length : ∀ {ds : List D} {vs : List V} {fp : List Addr}, Reps z B H ds vs fp → vs.length = ds.length
  | [], _, _, h => by rw [h.1]; rfl
  | _ :: ds, _, _, h => by
    obtain ⟨v, w, p, q, e, _, _, r⟩ := h
    rw [e, List.length_cons, List.length_cons, Reps.length r]
theorem Reps.one {d : D} {v : V} {fp : List Addr} (h : Rep z B H d v fp) : Reps z B H [d] [v] fp := ⟨v, [], fp, [], rfl, by simp, h, rfl, rfl⟩
theorem Reps.cons {d : D} {ds : List D} {v : V} {vs : List V} {p q : List Addr} (h : Rep z B H d v p) (r : Reps z B H ds vs q) : Reps z B H (d :: ds) (v :: vs) (p ++ q) := ⟨v, vs, p, q, rfl, rfl, h, r⟩
theorem Reps.nil : Reps z B H [] [] [] := ⟨rfl, rfl⟩
theorem Reps.append : ∀ {xs ys : List D} {vs ws : List V} {p q : List Addr}, Reps z B H xs vs p → Reps z B H ys ws q → Reps z B H (xs ++ ys) (vs ++ ws) (p ++ q)
  | [], _, _, _, _, _, h, r => by rw [h.1, h.2]; exact r
  | _ :: _, _, _, _, _, _, h, r => by
    obtain ⟨v, w, p', q', e1, e2, h1, h2⟩ := h
    exact ⟨v, _, p', _, by rw [e1]; rfl, by rw [e2, List.append_assoc], h1, Reps.append h2 r⟩
theorem Reps.split : ∀ {xs ys : List D} {us : List V} {fp : List Addr}, Reps z B H (xs ++ ys) us fp → ∃ vs ws p q, us = vs ++ ws ∧ fp = p ++ q ∧ Reps z B H xs vs p ∧ Reps z B H ys ws q
  | [], _, us, fp, h => ⟨[], us, [], fp, rfl, rfl, ⟨rfl, rfl⟩, h⟩
  | _ :: _, _, _, _, h => by
    obtain ⟨v, w, p, q, e1, e2, h1, h2⟩ := h
    obtain ⟨vs, ws, p', q', e3, e4, h3, h4⟩ := Reps.split h2
    exact ⟨v :: vs, ws, p ++ p', q', by rw [e1, e3]; rfl, by rw [e2, e4, List.append_assoc], ⟨v, vs, p, p', rfl, rfl, h1, h3⟩, h4⟩

mutual
/-- the heap grows, what a tag says widens -/
theorem Rep.mono (h2 : ∀ t a o, B t a → H a = some o → H' a = some o) (h3 : ∀ a xs, H a = some (.tup xs) → H' a = some (.tup xs)) (hB : ∀ t a, B t a → B' t a) :
    ∀ (d : D) {v : V} {fp : List Addr}, (∀ a o, a ∈ fp → H a = some o → H' a = some o) → Rep z B H d v fp → Rep z B' H' d v fp
  | .non, _, _, _, h => h
  | .bl _, _, _, _, h => h
  | .int _, _, _, _, h => h
  | .str _, _, _, _, h => h
  | .strm, _, _, _, h => h
  | .lst t xs, v, fp, h1, h => by
    obtain ⟨a, vs, q, e, ha, hl, hr, ho⟩ := h
    refine ⟨a, vs, q, e, ?_, hl, Reps.mono h2 h3 hB xs (fun b o hb => h1 b o (ho.sub b hb)) hr, ?_⟩
    · rcases ho with ⟨_, e⟩ | ⟨_, hb, _⟩
      · exact h1 a _ (by rw [e]; exact List.mem_cons_self) ha
      · exact h2 _ a _ hb ha
    · rcases ho with ho | ⟨n, hb, e⟩
      · exact .inl ho
      · exact .inr ⟨n, hB _ _ hb, e⟩
  | .tup xs, v, fp, h1, h => by
    obtain ⟨a, vs, e, ha, hl, hr⟩ := h
    exact ⟨a, vs, e, h3 a vs ha, hl, Reps.mono h2 h3 hB xs h1 hr⟩
  | .dk t ks xs, v, fp, h1, h => by
    obtain ⟨a, vs, q, e, ha, hk, hl, hr, ho⟩ := h
    refine ⟨a, vs, q, e, ?_, hk, hl, Reps.mono h2 h3 hB xs (fun b o hb => h1 b o (ho.sub b hb)) hr, ?_⟩
    · rcases ho with ⟨_, e⟩ | ⟨_, hb, _⟩
      · exact h1 a _ (by rw [e]; exact List.mem_cons_self) ha
      · exact h2 _ a _ hb ha
    · rcases ho with ho | ⟨n, hb, e⟩
      · exact .inl ho
      · exact .inr ⟨n, hB _ _ hb, e⟩
theorem Reps.mono (h2 : ∀ t a o, B t a → H a = some o → H' a = some o) (h3 : ∀ a xs, H a = some (.tup xs) → H' a = some (.tup xs)) (hB : ∀ t a, B t a → B' t a) :
    ∀ (ds : List D) {vs : List V} {fp : List Addr}, (∀ a o, a ∈ fp → H a = some o → H' a = some o) → Reps z B H ds vs fp → Reps z B' H' ds vs fp
  | [], _, _, _, h => h
  | d :: ds, _, _, h1, h => by
    obtain ⟨v, w, p, q, e1, e2, hd, hr⟩ := h
    subst e2
    exact ⟨v, w, p, q, e1, rfl, Rep.mono h2 h3 hB d (fun b o hb => h1 b o (List.mem_append_left _ hb)) hd, Reps.mono h2 h3 hB ds (fun b o hb => h1 b o (List.mem_append_right _ hb)) hr⟩
end

mutual
/-- the tags are turned -/
theorem Rep.tags (f : Tag → Tag) (hf : ∀ t, f t = .own → t = .own) : ∀ (d : D) {v : V} {fp : List Addr}, (∀ t a, d.any (fun u => decide (u = t)) = true → t ≠ .own → B t a → B' (f t) a) → (f .own ≠ .own → ∀ a ∈ fp, B' (f .own) a) →
    Rep z B H d v fp → Rep z B' H (d.ma f) v (if f .own = .own then fp else [])
  | .non, v, fp, _, _, h => by obtain ⟨e1, e2⟩ := h; exact ⟨e1, by rw [e2]; split <;> rfl⟩
  | .bl _, v, fp, _, _, h => by obtain ⟨e1, e2⟩ := h; exact ⟨e1, by rw [e2]; split <;> rfl⟩
  | .int _, v, fp, _, _, h => by obtain ⟨e1, e2⟩ := h; exact ⟨e1, by rw [e2]; split <;> rfl⟩
  | .str _, v, fp, _, _, h => by obtain ⟨e1, e2⟩ := h; exact ⟨e1, by rw [e2]; split <;> rfl⟩
  | .strm, v, fp, _, _, h => by obtain ⟨e1, e2⟩ := h; exact ⟨e1, by rw [e2]; split <;> rfl⟩
  | .tup xs, v, fp, hB, hO, h => by
    obtain ⟨a, vs, e, ha, hl, hr⟩ := h
    exact ⟨a, vs, e, ha, hl, Reps.tags f hf xs hB hO hr⟩
  | .lst t xs, v, fp, hB, hO, h => by
    obtain ⟨a, vs, q, e, ha, hl, hr, ho⟩ := h
    refine ⟨a, vs, _, e, ha, hl, Reps.tags f hf xs (fun t' b ht => hB t' b (by simp only [D.any, Bool.or_eq_true]; exact .inr ht)) (fun n b hb => hO n b (ho.sub b hb)) hr, ?_⟩
    rcases ho with ⟨rfl, rfl⟩ | ⟨n, hb, rfl⟩
    · by_cases c : f .own = .own
      · rw [if_pos c, if_pos c]; exact .inl ⟨c, rfl⟩
      · rw [if_neg c, if_neg c]; exact .inr ⟨c, hO c a List.mem_cons_self, rfl⟩
    · exact .inr ⟨fun c => n (hf t c), hB t a (by simp [D.any]) n hb, rfl⟩
  | .dk t ks xs, v, fp, hB, hO, h => by
    obtain ⟨a, vs, q, e, ha, hk, hl, hr, ho⟩ := h
    refine ⟨a, vs, _, e, ha, hk, hl, Reps.tags f hf xs (fun t' b ht => hB t' b (by simp only [D.any, Bool.or_eq_true]; exact .inr ht)) (fun n b hb => hO n b (ho.sub b hb)) hr, ?_⟩
    rcases ho with ⟨rfl, rfl⟩ | ⟨n, hb, rfl⟩
    · by_cases c : f .own = .own
      · rw [if_pos c, if_pos c]; exact .inl ⟨c, rfl⟩
      · rw [if_neg c, if_neg c]; exact .inr ⟨c, hO c a List.mem_cons_self, rfl⟩
    · exact .inr ⟨fun c => n (hf t c), hB t a (by simp [D.any]) n hb, rfl⟩
theorem Reps.tags (f : Tag → Tag) (hf : ∀ t, f t = .own → t = .own) : ∀ (ds : List D) {vs : List V} {fp : List Addr}, (∀ t a, D.anys (fun u => decide (u = t)) ds = true → t ≠ .own → B t a → B' (f t) a) → (f .own ≠ .own → ∀ a ∈ fp, B' (f .own) a) →
    Reps z B H ds vs fp → Reps z B' H (D.mas f ds) vs (if f .own = .own then fp else [])
  | [], vs, fp, _, _, h => by obtain ⟨e1, e2⟩ := h; exact ⟨e1, by rw [e2]; split <;> rfl⟩
  | d :: ds, vs, fp, hB, hO, h => by
    obtain ⟨v, w, p, q, e1, e2, hd, hr⟩ := h
    subst e2
    refine ⟨v, w, _, _, e1, ?_, Rep.tags f hf d (fun t a ht => hB t a (by simp only [D.anys, Bool.or_eq_true]; exact .inl ht)) (fun n b hb => hO n b (List.mem_append_left _ hb)) hd,
      Reps.tags f hf ds (fun t a ht => hB t a (by simp only [D.anys, Bool.or_eq_true]; exact .inr ht)) (fun n b hb => hO n b (List.mem_append_right _ hb)) hr⟩
    split <;> rfl
end

mutual
theorem Rep.live : ∀ (d : D) {v : V} {fp : List Addr}, Rep z B H d v fp → ∀ a ∈ fp, ∃ o, H a = some o ∧ mutO o = true
  | .non, _, _, h, a, ha => by rw [h.2] at ha; cases ha
  | .bl _, _, _, h, a, ha => by rw [h.2] at ha; cases ha
  | .int _, _, _, h, a, ha => by rw [h.2] at ha; cases ha
  | .str _, _, _, h, a, ha => by rw [h.2] at ha; cases ha
  | .strm, _, _, h, a, ha => by rw [h.2] at ha; cases ha
  | .tup xs, _, _, h, a, ha => by
    obtain ⟨b, vs, e, hb, hl, hr⟩ := h
    exact Reps.live xs hr a ha
  | .lst t xs, _, _, h, a, ha => by
    obtain ⟨b, vs, q, e, hb, hl, hr, ho⟩ := h
    rcases ho.mem a ha with rfl | ha
    · exact ⟨_, hb, rfl⟩
    · exact Reps.live xs hr a ha
  | .dk t ks xs, _, _, h, a, ha => by
    obtain ⟨b, vs, q, e, hb, hk, hl, hr, ho⟩ := h
    rcases ho.mem a ha with rfl | ha
    · exact ⟨_, hb, rfl⟩
    · exact Reps.live xs hr a ha
theorem Reps.live : ∀ (ds : List D) {vs : List V} {fp : List Addr}, Reps z B H ds vs fp → ∀ a ∈ fp, ∃ o, H a = some o ∧ mutO o = true
  | [], _, _, h, a, ha => by rw [h.2] at ha; cases ha
  | d :: ds, _, _, h, a, ha => by
    obtain ⟨v, w, p, q, e1, e2, hd, hr⟩ := h
    rw [e2] at ha
    rcases List.mem_append.mp ha with ha | ha
    · exact Rep.live d hd a ha
    · exact Reps.live ds hr a ha
end
mutual
theorem Rep.noOwn : ∀ (d : D) {v : V} {fp : List Addr}, d.any Tag.isOwn = false → Rep z B H d v fp → fp = []
  | .non, _, _, _, h => h.2
  | .bl _, _, _, _, h => h.2
  | .int _, _, _, _, h => h.2
  | .str _, _, _, _, h => h.2
  | .strm, _, _, _, h => h.2
  | .tup xs, _, _, n, h => by
    obtain ⟨b, vs, e, hb, hl, hr⟩ := h
    exact Reps.noOwn xs n hr
  | .lst t xs, _, _, n, h => by
    obtain ⟨b, vs, q, e, hb, hl, hr, ho⟩ := h
    simp only [D.any, Bool.or_eq_false_iff] at n
    have hq := Reps.noOwn xs n.2 hr
    rcases ho with ⟨e, _⟩ | ⟨_, _, e⟩
    · rw [e] at n; exact absurd n.1 (by decide)
    · rw [e, hq]
  | .dk t ks xs, _, _, n, h => by
    obtain ⟨b, vs, q, e, hb, hk, hl, hr, ho⟩ := h
    simp only [D.any, Bool.or_eq_false_iff] at n
    have hq := Reps.noOwn xs n.2 hr
    rcases ho with ⟨e, _⟩ | ⟨_, _, e⟩
    · rw [e] at n; exact absurd n.1 (by decide)
    · rw [e, hq]
theorem Reps.noOwn : ∀ (ds : List D) {vs : List V} {fp : List Addr}, D.anys Tag.isOwn ds = false → Reps z B H ds vs fp → fp = []
  | [], _, _, _, h => h.2
  | d :: ds, _, _, n, h => by
    obtain ⟨v, w, p, q, e1, e2, hd, hr⟩ := h
    simp only [D.anys, Bool.or_eq_false_iff] at n
    rw [e2, Rep.noOwn d n.1 hd, Reps.noOwn ds n.2 hr]; rfl
end
theorem Reps.get : ∀ {ds : List D} {vs : List V} {fp : List Addr} {i : Nat} {d : D}, Reps z B H ds vs fp → ds[i]? = some d → ∃ v p, vs[i]? = some v ∧ Rep z B H d v p ∧ p.Sublist fp
  | [], _, _, _, _, _, e => by simp at e
  | x :: ds, _, _, 0, d, h, e => by
    obtain ⟨v, w, p, q, e1, e2, hd, hr⟩ := h
    have e' : x = d := by simpa using e
    subst e'
    exact ⟨v, p, by rw [e1]; rfl, hd, by rw [e2]; exact List.sublist_append_left p q⟩
  | x :: ds, _, _, i + 1, d, h, e => by
    obtain ⟨v, w, p, q, e1, e2, hd, hr⟩ := h
    obtain ⟨v', p', h1, h2, h3⟩ := Reps.get hr (i := i) (d := d) (by simpa using e)
    exact ⟨v', p', by rw [e1]; simpa using h1, h2, by rw [e2]; exact h3.trans (List.sublist_append_right p q)⟩
theorem Reps.take {ds : List D} {vs : List V} {fp : List Addr} (n : Nat) (h : Reps z B H ds vs fp) : ∃ p, Reps z B H (ds.take n) (vs.take n) p ∧ p.Sublist fp := by
  rw [← List.take_append_drop n ds] at h
  obtain ⟨ws, us, p, q, e1, e2, h1, h2⟩ := h.split
  have hl := h1.length
  refine ⟨p, ?_, by rw [e2]; exact List.sublist_append_left p q⟩
  have : vs.take n = ws := by
    rw [e1]
    have h3 := h2.length
    rw [List.length_take] at hl
    rw [List.length_drop] at h3
    by_cases c : n ≤ ds.length
    · rw [List.take_left' (by omega)]
    · have : us = [] := List.length_eq_zero_iff.mp (by omega)
      rw [this, List.append_nil, List.take_of_length_le (by omega)]
  rw [this]; exact h1
theorem Reps.drop {ds : List D} {vs : List V} {fp : List Addr} (n : Nat) (h : Reps z B H ds vs fp) : ∃ p, Reps z B H (ds.drop n) (vs.drop n) p ∧ p.Sublist fp := by
  rw [← List.take_append_drop n ds] at h
  obtain ⟨ws, us, p, q, e1, e2, h1, h2⟩ := h.split
  have hl := h1.length
  refine ⟨q, ?_, by rw [e2]; exact List.sublist_append_right p q⟩
  have : vs.drop n = us := by
    rw [e1]
    have h3 := h2.length
    rw [List.length_take] at hl
    rw [List.length_drop] at h3
    by_cases c : n ≤ ds.length
    · rw [List.drop_left' (by omega)]
    · have : us = [] := List.length_eq_zero_iff.mp (by omega)
      rw [this, List.append_nil, List.drop_of_length_le (by omega)]
  rw [this]; exact h2
theorem Reps.reverse : ∀ {ds : List D} {vs : List V} {fp : List Addr}, Reps z B H ds vs fp → ∃ p, Reps z B H ds.reverse vs.reverse p ∧ p.Perm fp
  | [], _, _, h => by rw [h.1, h.2]; exact ⟨[], ⟨rfl, rfl⟩, .nil⟩
  | x :: ds, _, _, h => by
    obtain ⟨v, w, p, q, e1, e2, hd, hr⟩ := h
    obtain ⟨p', h1, h2⟩ := Reps.reverse hr
    refine ⟨p' ++ p, ?_, ?_⟩
    · rw [List.reverse_cons, e1, List.reverse_cons]
      exact h1.append (.one hd)
    · rw [e2]; exact (h2.append_right p).trans List.perm_append_comm
theorem Reps.rep {ds : List D} {vs : List V} (h : Reps z B H ds vs []) : ∀ k : Nat, Reps z B H (List.replicate k ds).flatten (List.replicate k vs).flatten []
  | 0 => ⟨rfl, rfl⟩
  | k + 1 => by
    rw [List.replicate_succ, List.flatten_cons, List.replicate_succ, List.flatten_cons]
    exact h.append (h.rep k)
theorem Reps.set : ∀ {ds : List D} {vs : List V} {fp : List Addr} {d : D} {v : V} {f : List Addr} (i : Nat), Reps z B H ds vs fp → Rep z B H d v f → i < ds.length →
    ∃ p, Reps z B H (ds.set i d) (vs.set i v) p ∧ (∀ a ∈ p, a ∈ fp ∨ a ∈ f) ∧ (fp.Nodup → f.Nodup → (∀ a ∈ f, a ∉ fp) → p.Nodup)
  | [], _, _, _, _, _, _, _, _, hi => by simp at hi
  | x :: ds, _, _, d, v, f, 0, h, hd, _ => by
    obtain ⟨v', w, p, q, e1, e2, hx, hr⟩ := h
    refine ⟨f ++ q, ?_, fun a ha => ?_, fun n1 n2 n3 => ?_⟩
    · rw [e1]; exact Reps.cons hd hr
    · rw [e2]
      rcases List.mem_append.mp ha with ha | ha
      · exact .inr ha
      · exact .inl (List.mem_append_right _ ha)
    · rw [e2] at n1 n3
      rw [List.nodup_append] at n1 ⊢
      exact ⟨n2, n1.2.1, fun a ha b hb e => n3 a ha (List.mem_append_right _ (e ▸ hb))⟩
  | x :: ds, _, _, d, v, f, i + 1, h, hd, hi => by
    obtain ⟨v', w, p, q, e1, e2, hx, hr⟩ := h
    obtain ⟨p', h1, h2, h3⟩ := Reps.set i hr hd (by simpa using hi)
    refine ⟨p ++ p', ?_, fun a ha => ?_, fun n1 n2 n3 => ?_⟩
    · rw [e1]; exact Reps.cons hx h1
    · rw [e2]
      rcases List.mem_append.mp ha with ha | ha
      · exact .inl (List.mem_append_left _ ha)
      · rcases h2 a ha with z | z
        · exact .inl (List.mem_append_right _ z)
        · exact .inr z
    · rw [e2] at n1 n3
      rw [List.nodup_append] at n1 ⊢
      refine ⟨n1.1, h3 n1.2.1 n2 (fun a ha hq => n3 a ha (List.mem_append_right _ hq)), fun a ha b hb e => ?_⟩
      rcases h2 b hb with z | z
      · exact n1.2.2 a ha b z e
      · exact n3 b z (List.mem_append_left _ (e ▸ ha))
theorem Reps.erase : ∀ {ds : List D} {vs : List V} {fp : List Addr} (i : Nat), Reps z B H ds vs fp → ∃ p, Reps z B H (ds.eraseIdx i) (vs.eraseIdx i) p ∧ p.Sublist fp
  | [], _, _, i, h => by rw [h.1, h.2]; exact ⟨[], ⟨rfl, rfl⟩, List.Sublist.refl _⟩
  | x :: ds, _, _, 0, h => by
    obtain ⟨v', w, p, q, e1, e2, hx, hr⟩ := h
    exact ⟨q, by rw [e1]; exact hr, by rw [e2]; exact List.sublist_append_right p q⟩
  | x :: ds, _, _, i + 1, h => by
    obtain ⟨v', w, p, q, e1, e2, hx, hr⟩ := h
    obtain ⟨p', h1, h2⟩ := Reps.erase i hr
    exact ⟨p ++ p', by rw [e1]; exact Reps.cons hx h1, by rw [e2]; exact (List.append_sublist_append_left p).mpr h2⟩
theorem Reps.ints : ∀ {ds : List D} {vs : List V} {fp : List Addr}, ds.all isIntD = true → Reps z B H ds vs fp → vs = (ds.map intD).map V.int
  | [], _, _, _, h => by rw [h.1]; rfl
  | x :: ds, _, _, n, h => by
    obtain ⟨v', w, p, q, e1, e2, hx, hr⟩ := h
    rw [List.all_cons, Bool.and_eq_true] at n
    rw [e1, Reps.ints n.2 hr]
    cases x with
    | int i => rw [hx.1]; rfl
    | _ => exact absurd n.1 (by simp [isIntD])
theorem Reps.bls : ∀ {ds : List D} {vs : List V} {fp : List Addr}, ds.all isBlD = true → Reps z B H ds vs fp → vs = (ds.map blD).map V.bl
  | [], _, _, _, h => by rw [h.1]; rfl
  | x :: ds, _, _, n, h => by
    obtain ⟨v', w, p, q, e1, e2, hx, hr⟩ := h
    rw [List.all_cons, Bool.and_eq_true] at n
    rw [e1, Reps.bls n.2 hr]
    cases x with
    | bl i => rw [hx.1]; rfl
    | _ => exact absurd n.1 (by simp [isBlD])
mutual
theorem Rep.dp (K : PySem.W.Frag) : ∀ (d : D) {v : V} {fp : List Addr}, d.erase.canLay0 = true → Rep z B H d v fp → Dp K H v d.erase
  | .non, _, _, _, h => by rw [h.1]; exact .non
  | .bl b, _, _, _, h => by rw [h.1]; exact .bl b
  | .int i, _, _, _, h => by rw [h.1]; exact .int i
  | .str x, _, _, _, h => by rw [h.1]; exact .str x
  | .strm, _, _, n, _ => by simp [D.erase, PyData.canLay0] at n
  | .dk _ _ _, _, _, n, _ => by simp [D.erase, PyData.canLay0] at n
  | .lst t xs, _, _, n, h => by
    obtain ⟨b, vs, q, e, hb, hl, hr, ho⟩ := h
    rw [e]
    exact .lst (SqL.of hb) (Reps.dp K xs (by simpa [D.erase, PyData.canLay0] using n) hr)
  | .tup xs, _, _, n, h => by
    obtain ⟨b, vs, e, hb, hl, hr⟩ := h
    rw [e]
    exact .tup (SqT.of hb) (Reps.dp K xs (by simpa [D.erase, PyData.canLay0] using n) hr)
theorem Reps.dp (K : PySem.W.Frag) : ∀ (ds : List D) {vs : List V} {fp : List Addr}, PyData.canLayAll0 (D.erases ds) = true → Reps z B H ds vs fp → DpAll K H vs (D.erases ds)
  | [], _, _, _, h => by rw [h.1]; exact .nil
  | d :: ds, _, _, n, h => by
    obtain ⟨v, w, p, q, e1, e2, hd, hr⟩ := h
    simp only [D.erases, PyData.canLayAll0, Bool.and_eq_true] at n
    rw [e1]
    exact .cons (Rep.dp K d n.1 hd) (Reps.dp K ds n.2 hr)
end
end
end VL
end

/-! text: VStep -/
section
set_option autoImplicit false
/-! VStep: a frame's slots over the heap, and what a step keeps. -/
namespace VL
open PySem PySem.Spec PyProof.Rows L2

/-- F: what nobody changes; O i: what the slot i owns; z: the draws' list and its cells -/
structure Wd where
  F : Addr → Prop
  O : Nat → List Addr
  z : Option (Addr × Addr)
def Wd.za (w : Wd) : Option Addr := w.z.map (·.1)
def zs (z : Option (Addr × Addr)) (a : Addr) : Prop := ∃ s c, z = some (s, c) ∧ (a = s ∨ a = c)
def BF (F : Addr → Prop) : TB := fun t a => t = .fz ∧ F a
def childO : Option D → List Addr → List Addr
  | some (.lst .own _), o => o.tail
  | some (.dk .own _ _), o => o.tail
  | _, o => o
def parkO : Option D → List Addr → List Addr
  | some (.lst .own _), o => o.take 1
  | some (.dk .own _ _), o => o.take 1
  | _, _ => []
/-- the slot holds no list or dict of its own -/
def nOwn : Option D → Bool
  | some (.lst .own _) => false
  | some (.dk .own _ _) => false
  | _ => true
def BW (w : Wd) (ρ : VEnv) : TB
  | .fz, a => w.F a
  | .own, _ => False
  | .br i, a => (w.F a ∧ nOwn (at0 ρ i) = true) ∨ (w.O i).head? = some a
  | .bc i, a => w.F a ∨ a ∈ childO (at0 ρ i) (w.O i)
def inO (w : Wd) (a : Addr) : Prop := ∃ i, a ∈ w.O i
def StrmOk (z : Option (Addr × Addr)) (H : Hp) : Option Strm → Prop
  | none => z = none
  | some st => ∃ s c, z = some (s, c) ∧ s ≠ c ∧ H s = some (.lst [.ref c, .int st.cur, .int st.cnt, .int st.mix]) ∧ H c = some (.lst (st.cells.map V.int))

structure SRel (w : Wd) (σ : L2.St) (H : Hp) (s : VS) : Prop where
  len : σ.length = s.ρ.length
  slot : ∀ i d, s.ρ[i]? = some (some d) → ∃ v, σ[i]? = some (some v) ∧ Rep w.za (BF w.F) H d v (w.O i)
  nd : ∀ i, (w.O i).Nodup
  dj : ∀ i j a, a ∈ w.O i → a ∈ w.O j → i = j
  oF : ∀ i a, a ∈ w.O i → ¬ w.F a
  oM : ∀ i a, a ∈ w.O i → ∃ o, H a = some o ∧ mutO o = true
  fM : ∀ a, w.F a → ∃ o, H a = some o ∧ mutO o = true
  strm : StrmOk w.z H s.st
  zF : ∀ a, zs w.z a → ¬ w.F a ∧ ∀ i, a ∉ w.O i

theorem childO_sub {d : Option D} {o : List Addr} {a : Addr} (h : a ∈ childO d o) : a ∈ o := by
  unfold childO at h
  split at h
  · exact List.mem_of_mem_tail h
  · exact List.mem_of_mem_tail h
  · exact h
theorem parkO_sub {d : Option D} {o : List Addr} {a : Addr} (h : a ∈ parkO d o) : a ∈ o := by
  unfold parkO at h
  split at h
  · exact List.mem_of_mem_take h
  · exact List.mem_of_mem_take h
  · cases h
theorem parkO_nodup {d : Option D} {o : List Addr} (h : o.Nodup) : (parkO d o).Nodup := by
  unfold parkO
  split
  · exact h.sublist (List.take_sublist _ _)
  · exact h.sublist (List.take_sublist _ _)
  · exact List.nodup_nil
theorem park_child {d : Option D} {o : List Addr} {a : Addr} (n : o.Nodup) (h1 : a ∈ parkO d o) (h2 : a ∈ childO d o) : False := by
  have key : ∀ o : List Addr, o.Nodup → a ∈ o.take 1 → a ∈ o.tail → False := fun o n h1 h2 => by
    cases o with
    | nil => cases h2
    | cons x r =>
      have e : a = x := by simpa using h1
      subst e
      exact (List.nodup_cons.mp n).1 h2
  unfold parkO at h1
  unfold childO at h2
  split at h1
  · exact key o n h1 h2
  · exact key o n h1 h2
  · cases h1
theorem park_or {d : Option D} {o : List Addr} {a : Addr} (h : a ∈ o) : a ∈ parkO d o ∨ a ∈ childO d o := by
  have key : ∀ o : List Addr, a ∈ o → a ∈ o.take 1 ∨ a ∈ o.tail := fun o h => by
    cases o with
    | nil => cases h
    | cons x r =>
      rcases List.mem_cons.mp h with e | h
      · exact .inl (by simp [e])
      · exact .inr h
  unfold parkO childO
  split
  · exact key o h
  · exact key o h
  · exact .inr h

section
variable {w w' w1 w2 : Wd} {σ : L2.St} {H H' H0 H1 H2 : Hp} {s s' s1 s2 : VS}
theorem SRel.zlive (r : SRel w σ H s) : ∀ a, zs w.z a → ∃ vs, H a = some (.lst vs) := fun a ⟨p, c, e, h⟩ => by
  have q := r.strm
  cases hs : s.st with
  | none => rw [hs] at q; rw [show w.z = none from q] at e; cases e
  | some st =>
    rw [hs] at q
    obtain ⟨p', c', e', _, h1, h2⟩ := q
    rw [e] at e'; cases e'
    rcases h with rfl | rfl
    · exact ⟨_, h1⟩
    · exact ⟨_, h2⟩
theorem SRel.bLive (r : SRel w σ H s) {t : Tag} {a : Addr} (h : BW w s.ρ t a) : (∃ o, H a = some o ∧ mutO o = true) ∧ ¬ zs w.z a := by
  have f : w.F a → (∃ o, H a = some o ∧ mutO o = true) ∧ ¬ zs w.z a := fun h => ⟨r.fM a h, fun z => (r.zF a z).1 h⟩
  have o : ∀ i, a ∈ w.O i → (∃ o, H a = some o ∧ mutO o = true) ∧ ¬ zs w.z a := fun i h => ⟨r.oM i a h, fun z => (r.zF a z).2 i h⟩
  cases t with
  | fz => exact f h
  | own => exact h.elim
  | br i => rcases h with h | h; exact f h.1; exact o i (List.mem_of_mem_head? h)
  | bc i => rcases h with h | h; exact f h; exact o i (childO_sub h)
theorem SRel.fresh (r : SRel w σ H s) {p : Addr} (hp : H p = none) : ¬ w.F p ∧ ¬ inO w p ∧ ¬ zs w.z p := by
  refine ⟨fun h => ?_, fun h => ?_, fun h => ?_⟩
  · obtain ⟨o, e, _⟩ := r.fM p h
    rw [hp] at e; cases e
  · obtain ⟨i, h⟩ := h
    obtain ⟨o, e, _⟩ := r.oM i p h
    rw [hp] at e; cases e
  · obtain ⟨o, e⟩ := r.zlive p h
    rw [hp] at e; cases e

structure Step (w : Wd) (H : Hp) (s : VS) (σ : L2.St) (w' : Wd) (H' : Hp) (s' : VS) : Prop where
  rel : SRel w' σ H' s'
  len : s'.ρ.length = s.ρ.length
  fM : ∀ a, w.F a → w'.F a
  bM : ∀ t a, BW w s.ρ t a → BW w' s'.ρ t a
  new : ∀ a, w'.F a ∨ inO w' a → w.F a ∨ inO w a ∨ H a = none
  ext : ∀ a o, H a = some o → ¬ zs w.z a → H' a = some o
  zE : w'.z = w.z
theorem Step.refl (r : SRel w σ H s) : Step w H s σ w H s := ⟨r, rfl, fun _ h => h, fun _ _ h => h, fun a h => h.elim .inl fun h => .inr (.inl h), fun _ _ h _ => h, rfl⟩
theorem Step.none (st : Step w H s σ w' H' s') (r : SRel w σ H s) {a : Addr} (h : H' a = Option.none) : H a = Option.none := by
  cases e : H a with
  | none => rfl
  | some o =>
    by_cases c : zs w.z a
    · obtain ⟨vs, q⟩ := st.rel.zlive a (by rw [st.zE]; exact c)
      rw [h] at q; cases q
    · rw [st.ext a o e c] at h; cases h
theorem Step.trans (r : SRel w σ H s) (a : Step w H s σ w1 H1 s1) (b : Step w1 H1 s1 σ w2 H2 s2) : Step w H s σ w2 H2 s2 where
  rel := b.rel
  len := b.len.trans a.len
  fM := fun x h => b.fM x (a.fM x h)
  bM := fun t x h => b.bM t x (a.bM t x h)
  new := fun x h => by
    rcases b.new x h with h | h | h
    · exact a.new x (.inl h)
    · exact a.new x (.inr h)
    · exact .inr (.inr (a.none r h))
  ext := fun x o e n => b.ext x o (a.ext x o e n) (by rw [a.zE]; exact n)
  zE := b.zE.trans a.zE
/-- a new object beside all -/
theorem SRel.laid (r : SRel w σ H s) (ext : ∀ a o, H a = some o → H' a = some o) : SRel w σ H' s := by
  refine ⟨r.len, fun i d e => ?_, r.nd, r.dj, r.oF, fun i a h => ?_, fun a h => ?_, ?_, r.zF⟩
  · obtain ⟨v, h1, h2⟩ := r.slot i d e
    exact ⟨v, h1, Rep.mono (fun t a o _ => ext a o) (fun a xs => ext a _) (fun t a h => h) d (fun a o _ => ext a o) h2⟩
  · obtain ⟨o, h1, h2⟩ := r.oM i a h; exact ⟨o, ext a o h1, h2⟩
  · obtain ⟨o, h1, h2⟩ := r.fM a h; exact ⟨o, ext a o h1, h2⟩
  · have q := r.strm
    cases hs : s.st with
    | none => rw [hs] at q; exact q
    | some st =>
      rw [hs] at q
      obtain ⟨p, c, e, n, h1, h2⟩ := q
      exact ⟨p, c, e, n, ext _ _ h1, ext _ _ h2⟩
theorem Step.laid (r : SRel w σ H s) (ext : ∀ a o, H a = some o → H' a = some o) : Step w H s σ w H' s :=
  ⟨r.laid ext, rfl, fun _ h => h, fun _ _ h => h, fun a h => h.elim .inl fun h => .inr (.inl h), fun a o h _ => ext a o h, rfl⟩
theorem ext_upd {p : Addr} {o : HO} (hp : H p = none) : ∀ a u, H a = some u → upd H p o a = some u := fun a u e => by rw [upd_ne (ne_of_none e hp)]; exact e

/-- things in hand, made since H0 where they are their own -/
structure TV (w : Wd) (H : Hp) (s : VS) (H0 : Hp) (ds : List D) (vs : List V) (fp : List Addr) : Prop where
  rep : Reps w.za (BW w s.ρ) H ds vs fp
  nd : fp.Nodup
  fr : ∀ a ∈ fp, H0 a = none ∧ ¬ w.F a ∧ ¬ inO w a ∧ ¬ zs w.z a
structure TV1 (w : Wd) (H : Hp) (s : VS) (H0 : Hp) (d : D) (v : V) (fp : List Addr) : Prop where
  rep : Rep w.za (BW w s.ρ) H d v fp
  nd : fp.Nodup
  fr : ∀ a ∈ fp, H0 a = none ∧ ¬ w.F a ∧ ¬ inO w a ∧ ¬ zs w.z a
theorem TV1.tv {d : D} {v : V} {fp : List Addr} (t : TV1 w H s H0 d v fp) : TV w H s H0 [d] [v] fp := ⟨.one t.rep, t.nd, t.fr⟩
theorem TV.nil : TV w H s H0 [] [] [] := ⟨.nil, List.nodup_nil, fun _ h => by cases h⟩
theorem TV1.plain {d : D} {v : V} (h : Rep w.za (BW w s.ρ) H d v []) : TV1 w H s H0 d v [] := ⟨h, List.nodup_nil, fun _ h => by cases h⟩
theorem Step.reps (r : SRel w σ H s) (st : Step w H s σ w' H' s') {ds : List D} {vs : List V} {fp : List Addr} (h : Reps w.za (BW w s.ρ) H ds vs fp) (hz : ∀ a ∈ fp, ¬ zs w.z a) : Reps w'.za (BW w' s'.ρ) H' ds vs fp := by
  rw [show w'.za = w.za by unfold Wd.za; rw [st.zE]]
  refine Reps.mono (fun t a o hb e => st.ext a o e (r.bLive hb).2) (fun a xs e => ?_) st.bM ds (fun a o hf e => st.ext a o e (hz a hf)) h
  refine st.ext a _ e fun z => ?_
  obtain ⟨vs, q⟩ := r.zlive a z
  rw [e] at q; cases q
theorem TV.step (r : SRel w σ H s) (st : Step w H s σ w' H' s') {ds : List D} {vs : List V} {fp : List Addr} (t : TV w H s H0 ds vs fp) : TV w' H' s' H0 ds vs fp := by
  refine ⟨st.reps r t.rep fun a h => (t.fr a h).2.2.2, t.nd, fun a h => ?_⟩
  obtain ⟨h1, h2, h3, h4⟩ := t.fr a h
  obtain ⟨o, e, _⟩ := Reps.live ds t.rep a h
  have no : ¬ (w'.F a ∨ inO w' a) := fun q => by
    rcases st.new a q with q | q | q
    · exact h2 q
    · exact h3 q
    · rw [e] at q; cases q
  exact ⟨h1, fun q => no (.inl q), fun q => no (.inr q), by rw [st.zE]; exact h4⟩
theorem TV.cat (r0 : SRel w σ H s) (st0 : Step w H s σ w1 H1 s1) (st : Step w1 H1 s1 σ w2 H2 s2) {ds es : List D} {vs us : List V} {fp fq : List Addr} (t : TV w1 H1 s1 H ds vs fp) (u : TV w2 H2 s2 H1 es us fq) : TV w2 H2 s2 H (ds ++ es) (vs ++ us) (fp ++ fq) := by
  have t2 := t.step st0.rel st
  refine ⟨t2.rep.append u.rep, ?_, fun a h => ?_⟩
  · rw [List.nodup_append]
    refine ⟨t.nd, u.nd, fun a ha b hb e => ?_⟩
    subst e
    obtain ⟨o, q, _⟩ := Reps.live ds t.rep a ha
    rw [(u.fr a hb).1] at q; cases q
  · rcases List.mem_append.mp h with h | h
    · exact t2.fr a h
    · exact ⟨st0.none r0 (u.fr a h).1, (u.fr a h).2⟩
theorem TV1.cons (r0 : SRel w σ H s) (st0 : Step w H s σ w1 H1 s1) (st : Step w1 H1 s1 σ w2 H2 s2) {d : D} {es : List D} {v : V} {us : List V} {fp fq : List Addr} (t : TV1 w1 H1 s1 H d v fp) (u : TV w2 H2 s2 H1 es us fq) : TV w2 H2 s2 H (d :: es) (v :: us) (fp ++ fq) :=
  TV.cat r0 st0 st t.tv u
theorem TV.fresh0 (r0 : SRel w σ H s) (st0 : Step w H s σ w1 H1 s1) {ds : List D} {vs : List V} {fp : List Addr} (u : TV w2 H2 s2 H1 ds vs fp) : TV w2 H2 s2 H ds vs fp :=
  ⟨u.rep, u.nd, fun a h => ⟨st0.none r0 (u.fr a h).1, (u.fr a h).2⟩⟩
theorem TV1.fresh0 (r0 : SRel w σ H s) (st0 : Step w H s σ w1 H1 s1) {d : D} {v : V} {fp : List Addr} (u : TV1 w2 H2 s2 H1 d v fp) : TV1 w2 H2 s2 H d v fp :=
  ⟨u.rep, u.nd, fun a h => ⟨st0.none r0 (u.fr a h).1, (u.fr a h).2⟩⟩
/-- what is made of things in hand -/
theorem TV.make (r : SRel w σ H s) {ds : List D} {vs : List V} {fp : List Addr} (t : TV w H s H0 ds vs fp) (n0 : ∀ a, H a = none → H0 a = none) {H' : Hp} (ext : ∀ a o, H a = some o → H' a = some o) {d : D} {v : V} {fq : List Addr}
    (h : Rep w.za (BW w s.ρ) H' d v fq) (nd : fq.Nodup) (sub : ∀ a ∈ fq, a ∈ fp ∨ H a = none) : TV1 w H' s H0 d v fq := by
  refine ⟨h, nd, fun a ha => ?_⟩
  rcases sub a ha with q | q
  · exact t.fr a q
  · obtain ⟨f1, f2, f3⟩ := r.fresh q
    exact ⟨n0 a q, f1, f2, f3⟩
end

/-! ### settling -/
def settleO (ds : List D) (ρ : VEnv) (O : Nat → List Addr) (i : Nat) : List Addr :=
  if has ds (.br i) then [] else if has ds (.bc i) then parkO (at0 ρ i) (O i) else O i
def settleW (w : Wd) (ds : List D) (ρ : VEnv) : Wd :=
  ⟨fun a => w.F a ∨ ∃ i, (has ds (.br i) = true ∧ a ∈ w.O i) ∨ (has ds (.bc i) = true ∧ a ∈ childO (at0 ρ i) (w.O i)), settleO ds ρ w.O, w.z⟩
theorem at0_eq {ρ : VEnv} {i : Nat} {d : D} (h : ρ[i]? = some (some d)) : at0 ρ i = some d := by unfold at0; rw [h]; rfl
theorem settleE_get (ds : List D) (ρ : VEnv) (i : Nat) : (settleE ds ρ)[i]? = (ρ[i]?).map (settle1 ds i) := by
  unfold settleE
  rw [List.getElem?_mapIdx]
theorem at0_settleE (ds : List D) (ρ : VEnv) (i : Nat) : at0 (settleE ds ρ) i = settle1 ds i (at0 ρ i) := by
  unfold at0
  rw [settleE_get]
  cases ρ[i]? with
  | none => rfl
  | some o => rfl
theorem settle1_some (ds : List D) (i : Nat) (x : D) : settle1 ds i (some x) = if has ds (.br i) = true then some x.fz else if has ds (.bc i) = true then some x.fzC else some x := rfl
theorem fz_root (d : D) : ∀ t xs, d.fz = .lst t xs → t = .fz := fun t xs h => by
  cases d with
  | lst t' xs' => unfold D.fz D.ma at h; cases h; rfl
  | _ => unfold D.fz D.ma at h; cases h
section
variable {w : Wd} {σ : L2.St} {H : Hp} {ρ : VEnv} {st : Option Strm}
theorem rep_fz {z : Option Addr} {B B' : TB} {d : D} {v : V} {fp : List Addr} (h : Rep z B H d v fp) (h1 : ∀ t a, t ≠ .own → B t a → B' .fz a) (h2 : ∀ a ∈ fp, B' .fz a) : Rep z B' H d.fz v [] :=
  Rep.tags (fun _ => .fz) (fun t e => by cases e) d (fun t a _ n hb => h1 t a n hb) (fun _ => h2) h
theorem reps_fz {z : Option Addr} {B B' : TB} {ds : List D} {vs : List V} {fp : List Addr} (h : Reps z B H ds vs fp) (h1 : ∀ t a, t ≠ .own → B t a → B' .fz a) (h2 : ∀ a ∈ fp, B' .fz a) : Reps z B' H (D.mas (fun _ => .fz) ds) vs [] :=
  Reps.tags (fun _ => .fz) (fun t e => by cases e) ds (fun t a _ n hb => h1 t a n hb) (fun _ => h2) h
/-- all but the root frozen -/
theorem rep_fzC {z : Option Addr} {F F' : Addr → Prop} {d : D} {v : V} {o : List Addr} (h : Rep z (BF F) H d v o) (h1 : ∀ a, F a → F' a) (h2 : ∀ a ∈ childO (some d) o, F' a) : Rep z (BF F') H d.fzC v (parkO (some d) o) := by
  have hB : ∀ t a, t ≠ Tag.own → BF F t a → BF F' .fz a := fun t a _ hb => ⟨rfl, h1 a hb.2⟩
  cases d with
  | lst t xs =>
    obtain ⟨a, vs, q, e, ha, hl, hr, ho⟩ := h
    cases t with
    | own =>
      have e2 := ho.own
      subst e2
      exact ⟨a, vs, [], e, ha, hl, reps_fz hr hB fun b hb => ⟨rfl, h2 b hb⟩, .inl ⟨rfl, rfl⟩⟩
    | _ => exact rep_fz (d := .lst _ xs) ⟨a, vs, q, e, ha, hl, hr, ho⟩ hB fun b hb => ⟨rfl, h2 b hb⟩
  | dk t ks xs =>
    obtain ⟨a, vs, q, e, ha, hk, hl, hr, ho⟩ := h
    cases t with
    | own =>
      have e2 := ho.own
      subst e2
      exact ⟨a, vs, [], e, ha, hk, hl, reps_fz hr hB fun b hb => ⟨rfl, h2 b hb⟩, .inl ⟨rfl, rfl⟩⟩
    | _ => exact rep_fz (d := .dk _ ks xs) ⟨a, vs, q, e, ha, hk, hl, hr, ho⟩ hB fun b hb => ⟨rfl, h2 b hb⟩
  | _ => exact rep_fz h hB fun b hb => ⟨rfl, h2 b hb⟩
theorem nOwn_fz (x : D) : nOwn (some x.fz) = true := by cases x <;> rfl
theorem nOwn_settle1 {ds : List D} {i : Nat} {o : Option D} (h : nOwn o = true) : nOwn (settle1 ds i o) = true := by
  cases o with
  | none => rfl
  | some x =>
    rw [settle1_some]
    split
    · exact nOwn_fz x
    · split
      · cases x with
        | lst t xs => cases t <;> first | rfl | cases h
        | dk t ks xs => cases t <;> first | rfl | cases h
        | _ => rfl
      · exact h
theorem childO_nOwn {d : Option D} {o : List Addr} (h : nOwn d = true) : childO d o = o := by
  unfold childO
  split
  · cases h
  · cases h
  · rfl
theorem parkO_own {d : Option D} {o : List Addr} (h : nOwn d = false) : parkO d o = o.take 1 := by
  unfold parkO
  split
  · rfl
  · rfl
  · rename_i h1 h2
    exfalso
    cases d with
    | none => cases h
    | some x =>
      cases x with
      | lst t xs => cases t <;> first | exact h1 _ rfl | cases h
      | dk t ks xs => cases t <;> first | exact h2 _ _ rfl | cases h
      | _ => cases h
theorem settleE_ok (ds : List D) (r : SRel w σ H ⟨ρ, st⟩) : Step w H ⟨ρ, st⟩ σ (settleW w ds ρ) H ⟨settleE ds ρ, st⟩ := by
  have subO : ∀ i a, a ∈ settleO ds ρ w.O i → a ∈ w.O i := fun i a h => by
    unfold settleO at h
    split at h
    · cases h
    · split at h
      · exact parkO_sub h
      · exact h
  have isB : ∀ (t : Tag) (a : Addr), t ≠ .own → BF w.F t a → BF (settleW w ds ρ).F .fz a := fun t a _ hb => ⟨rfl, .inl hb.2⟩
  refine ⟨⟨?_, fun i d e => ?_, fun i => ?_, fun i j a h1 h2 => r.dj i j a (subO i a h1) (subO j a h2), fun i a h f => ?_, fun i a h => r.oM i a (subO i a h), fun a h => ?_, r.strm, fun a h => ⟨fun f => ?_, fun i f => (r.zF a h).2 i (subO i a f)⟩⟩, ?_, fun a h => .inl h, fun t a h => ?_, fun a h => ?_, fun a o h _ => h, rfl⟩
  · show σ.length = (settleE ds ρ).length
    unfold settleE
    rw [List.length_mapIdx]; exact r.len
  · have e' : (settleE ds ρ)[i]? = some (some d) := e
    rw [settleE_get] at e'
    cases hρ : ρ[i]? with
    | none => rw [hρ] at e'; cases e'
    | some o =>
      rw [hρ] at e'
      cases o with
      | none => cases e'
      | some x =>
        have e2 : settle1 ds i (some x) = some d := by simpa using e'
        obtain ⟨v, hv, hrep⟩ := r.slot i x hρ
        refine ⟨v, hv, ?_⟩
        show Rep w.za (BF (settleW w ds ρ).F) H d v (settleO ds ρ w.O i)
        rw [settle1_some] at e2
        unfold settleO
        by_cases c1 : has ds (.br i) = true
        · rw [if_pos c1]
          rw [if_pos c1] at e2
          cases e2
          exact rep_fz hrep isB fun a ha => ⟨rfl, .inr ⟨i, .inl ⟨c1, ha⟩⟩⟩
        · rw [if_neg c1]
          rw [if_neg c1] at e2
          by_cases c2 : has ds (.bc i) = true
          · rw [if_pos c2]
            rw [if_pos c2] at e2
            cases e2
            rw [at0_eq hρ]
            exact rep_fzC hrep (fun a h => .inl h) fun a ha => .inr ⟨i, .inr ⟨c2, by rw [at0_eq hρ]; exact ha⟩⟩
          · rw [if_neg c2]
            rw [if_neg c2] at e2
            cases e2
            exact Rep.mono (fun t a o _ h => h) (fun a xs h => h) (fun t a hb => ⟨hb.1, .inl hb.2⟩) _ (fun a o _ h => h) hrep
  · show (settleO ds ρ w.O i).Nodup
    unfold settleO
    split
    · exact List.nodup_nil
    · split
      · exact parkO_nodup (r.nd i)
      · exact r.nd i
  · rcases f with f | ⟨j, f⟩
    · exact r.oF i a (subO i a h) f
    · have hj : a ∈ w.O j := f.elim (·.2) fun q => childO_sub q.2
      have e := r.dj i j a (subO i a h) hj
      subst e
      have h' : a ∈ settleO ds ρ w.O i := h
      unfold settleO at h'
      split at h'
      · cases h'
      · rename_i c1
        rcases f with f | f
        · exact c1 f.1
        · rw [if_pos f.1] at h'
          exact park_child (r.nd i) h' f.2
  · rcases h with h | ⟨i, h⟩
    · exact r.fM a h
    · exact r.oM i a (h.elim (·.2) fun q => childO_sub q.2)
  · rcases f with f | ⟨i, f⟩
    · exact (r.zF a h).1 f
    · exact (r.zF a h).2 i (f.elim (·.2) fun q => childO_sub q.2)
  · show (settleE ds ρ).length = ρ.length
    unfold settleE
    rw [List.length_mapIdx]
  · cases t with
    | fz => exact .inl h
    | own => exact h.elim
    | br i =>
      rcases h with h | h
      · refine .inl ⟨.inl h.1, ?_⟩
        show nOwn (at0 (settleE ds ρ) i) = true
        rw [at0_settleE]
        exact nOwn_settle1 h.2
      · by_cases c1 : has ds (.br i) = true
        · refine .inl ⟨.inr ⟨i, .inl ⟨c1, List.mem_of_mem_head? h⟩⟩, ?_⟩
          show nOwn (at0 (settleE ds ρ) i) = true
          rw [at0_settleE]
          cases at0 ρ i with
          | none => rfl
          | some x => rw [settle1_some, if_pos c1]; exact nOwn_fz x
        · by_cases c2 : has ds (.bc i) = true
          · cases cn : nOwn (at0 ρ i) with
            | true =>
              refine .inl ⟨.inr ⟨i, .inr ⟨c2, ?_⟩⟩, ?_⟩
              · rw [childO_nOwn cn]
                exact List.mem_of_mem_head? h
              · show nOwn (at0 (settleE ds ρ) i) = true
                rw [at0_settleE]
                exact nOwn_settle1 cn
            | false =>
              refine .inr ?_
              show (settleO ds ρ w.O i).head? = some a
              unfold settleO
              rw [if_neg c1, if_pos c2, parkO_own cn]
              cases hO : w.O i with
              | nil => rw [hO] at h; cases h
              | cons y r => rw [hO] at h; exact h
          · refine .inr ?_
            show (settleO ds ρ w.O i).head? = some a
            unfold settleO
            rw [if_neg c1, if_neg c2]
            exact h
    | bc i =>
      rcases h with h | h
      · exact .inl (.inl h)
      · show (settleW w ds ρ).F a ∨ a ∈ childO (at0 (settleE ds ρ) i) (settleO ds ρ w.O i)
        by_cases c1 : has ds (.br i) = true
        · exact .inl (.inr ⟨i, .inl ⟨c1, childO_sub h⟩⟩)
        · by_cases c2 : has ds (.bc i) = true
          · exact .inl (.inr ⟨i, .inr ⟨c2, h⟩⟩)
          · refine .inr ?_
            rw [at0_settleE]
            unfold settleO
            rw [if_neg c1, if_neg c2]
            have e : settle1 ds i (at0 ρ i) = at0 ρ i := by
              cases at0 ρ i with
              | none => rfl
              | some x =>
                rw [settle1_some, if_neg c1, if_neg c2]
            rw [e]; exact h
  · rcases h with (h | ⟨i, h⟩) | ⟨i, h⟩
    · exact .inl h
    · exact .inr (.inl ⟨i, h.elim (·.2) fun q => childO_sub q.2⟩)
    · exact .inr (.inl ⟨i, subO i a h⟩)
mutual
theorem any_imp {p q : Tag → Bool} (imp : ∀ u, q u = true → p u = true) : ∀ (d : D), D.any q d = true → D.any p d = true
  | .non, h => by cases h
  | .bl _, h => by cases h
  | .int _, h => by cases h
  | .str _, h => by cases h
  | .strm, h => by cases h
  | .tup xs, h => anys_imp imp xs h
  | .lst t xs, h => by
    simp only [D.any, Bool.or_eq_true] at h ⊢
    rcases h with h | h
    · exact .inl (imp t h)
    · exact .inr (anys_imp imp xs h)
  | .dk t ks xs, h => by
    simp only [D.any, Bool.or_eq_true] at h ⊢
    rcases h with h | h
    · exact .inl (imp t h)
    · exact .inr (anys_imp imp xs h)
theorem anys_imp {p q : Tag → Bool} (imp : ∀ u, q u = true → p u = true) : ∀ (ds : List D), D.anys q ds = true → D.anys p ds = true
  | [], h => by cases h
  | d :: ds, h => by
    simp only [D.anys, Bool.or_eq_true] at h ⊢
    rcases h with h | h
    · exact .inl (any_imp imp d h)
    · exact .inr (anys_imp imp ds h)
end
theorem has_any {ds : List D} {t : Tag} {p : Tag → Bool} (hp : p t = true) (h : has ds t = true) : D.anys p ds = true :=
  anys_imp (fun u e => by rw [of_decide_eq_true e]; exact hp) ds h
/-- what things borrow is settled; they themselves are nobody's then -/
theorem settle_ok (ds : List D) (r : SRel w σ H ⟨ρ, st⟩) : ∃ w', Step w H ⟨ρ, st⟩ σ w' H ⟨settle ds ρ, st⟩ ∧ ∀ t a, has ds t = true → t ≠ .own → BW w ρ t a → BW w' (settle ds ρ) t.un a := by
  unfold settle
  by_cases c : D.anys Tag.isB ds = true
  · rw [if_pos c]
    refine ⟨_, settleE_ok ds r, fun t a ht n hb => ?_⟩
    cases t with
    | fz => exact .inl hb
    | own => exact absurd rfl n
    | br i =>
      rcases hb with hb | hb
      · exact .inl hb.1
      · exact .inr ⟨i, .inl ⟨ht, List.mem_of_mem_head? hb⟩⟩
    | bc i =>
      rcases hb with hb | hb
      · exact .inl hb
      · exact .inr ⟨i, .inr ⟨ht, hb⟩⟩
  · rw [if_neg c]
    refine ⟨w, Step.refl r, fun t a ht n hb => ?_⟩
    cases t with
    | fz => exact hb
    | own => exact absurd rfl n
    | br i => exact absurd (has_any (t := .br i) (p := Tag.isB) rfl ht) c
    | bc i => exact absurd (has_any (t := .bc i) (p := Tag.isB) rfl ht) c
end
end VL
end

/-! text: VPrim -/
section
set_option autoImplicit false
/-! VPrim: the operations on data are the model's. -/
namespace VL
open PySem PySem.Spec PyProof.Rows L2

section
variable {z : Option Addr} {B : TB} {H H' : Hp}
theorem Rep.ext (h : ∀ a o, H a = some o → H' a = some o) {d : D} {v : V} {fp : List Addr} (r : Rep z B H d v fp) : Rep z B H' d v fp :=
  Rep.mono (fun _ a o _ => h a o) (fun a xs => h a _) (fun _ _ x => x) d (fun a o _ => h a o) r
theorem Reps.ext (h : ∀ a o, H a = some o → H' a = some o) {ds : List D} {vs : List V} {fp : List Addr} (r : Reps z B H ds vs fp) : Reps z B H' ds vs fp :=
  Reps.mono (fun _ a o _ => h a o) (fun a xs => h a _) (fun _ _ x => x) ds (fun a o _ => h a o) r
/-- what is wanted of a made value -/
def Fin (z : Option Addr) (B : TB) (H : Hp) (fp : List Addr) (d : D) (Q : VK) : Prop :=
  ∀ (v : V) (H' : Hp) (fq : List Addr), (∀ a o, H a = some o → H' a = some o) → Rep z B H' d v fq → fq.Nodup → (∀ a ∈ fq, a ∈ fp ∨ H a = none) → Q v H'
variable {fp : List Addr} {Q : VK}
theorem Fin.same {d : D} {v : V} {fq : List Addr} (k : Fin z B H fp d Q) (r : Rep z B H d v fq) (n : fq.Nodup) (s : ∀ a ∈ fq, a ∈ fp) : Q v H := k v H fq (fun _ _ h => h) r n fun a h => .inl (s a h)
theorem Fin.plain {d : D} {v : V} (k : Fin z B H fp d Q) (r : Rep z B H d v []) : Q v H := k.same r List.nodup_nil fun a h => by cases h
theorem Fin.int {i : Int} (k : Fin z B H fp (.int i) Q) : Q (.int i) H := k.plain ⟨rfl, rfl⟩
theorem Fin.bl {b : Bool} (k : Fin z B H fp (.bl b) Q) : Q (.bl b) H := k.plain ⟨rfl, rfl⟩
/-- a new list of things in hand -/
theorem Fin.lst {xs : List D} {vs : List V} {q : List Addr} (k : Fin z B H fp (.lst .own xs) Q) (r : Reps z B H xs vs q) (n : q.Nodup) (s : ∀ a ∈ q, a ∈ fp) (hl : vs.length ≤ sizeLine) (lv : ∀ a ∈ q, H a ≠ none) : ∀ p, H p = none → Q (.ref p) (upd H p (.lst vs)) := fun p hp => by
  refine k _ _ (p :: q) (ext_upd hp) ⟨p, vs, q, rfl, upd_same, hl, r.ext (ext_upd hp), .inl ⟨rfl, rfl⟩⟩ ?_ fun a ha => ?_
  · exact List.nodup_cons.mpr ⟨fun h => lv p h hp, n⟩
  · rcases List.mem_cons.mp ha with e | ha
    · rw [e]; exact .inr hp
    · exact .inl (s a ha)
theorem Fin.tup {xs : List D} {vs : List V} {q : List Addr} (k : Fin z B H fp (.tup xs) Q) (r : Reps z B H xs vs q) (n : q.Nodup) (s : ∀ a ∈ q, a ∈ fp) (hl : vs.length ≤ sizeLine) : ∀ p, H p = none → Q (.ref p) (upd H p (.tup vs)) := fun p hp => by
  exact k _ _ q (ext_upd hp) ⟨p, vs, rfl, upd_same, hl, r.ext (ext_upd hp)⟩ n fun a ha => .inl (s a ha)
theorem live_ne {xs : List D} {vs : List V} {q : List Addr} (r : Reps z B H xs vs q) : ∀ a ∈ q, H a ≠ none := fun a ha e => by
  obtain ⟨o, h, _⟩ := Reps.live xs r a ha
  rw [e] at h; cases h
theorem maxLen_eq : maxLen = sizeLine := by rw [sizeLine_eq]; rfl

/-! ### binary operations -/
def opP : Op → Operator | .add => .Add | .sub => .Sub | .mul => .Mult | .fdiv => .FloorDiv | .mod => .Mod | .pow => .Pow
def rBin (K : PySem.W.Frag) : Op → R2
  | .add => fun x y H Q => rI0 (fun i j => .int (i + j)) x y H Q ∨ rCat x y H Q ∨ rCatT K x y H Q
  | .sub => rI0 fun i j => .int (i - j)
  | .mul => fun x y H Q => rI CMul (fun i j => .int (i * j)) x y H Q ∨ rI CMulW (fun i j => .int (i * j)) x y H Q ∨ rRep x y H Q
  | .fdiv => rI CDivW fun i j => .int (i / j)
  | .mod => rI (fun _ j => 0 < j) fun i j => .int (i % j)
  | .pow => rI CPow fun i j => .int (i ^ j.toNat)
theorem op_bin {X : Cx} (op : Op) : OpR X (binaryOp (opP op)) (rBin X.K op) := by
  cases op with
  | add => exact op_add.or (op_cat.or op_catT)
  | sub => exact op_sub
  | mul => exact op_mul.or (op_mulW.or op_rep)
  | fdiv => exact op_fdivW
  | mod => exact op_mod
  | pow => exact op_pow
theorem rep_int {i : Int} {v : V} {p : List Addr} (r : Rep z B H (.int i) v p) : v = .int i ∧ p = [] := r
theorem small_ok {i : Int} (h : small i = true) : -(2 ^ 64) < i ∧ i < 2 ^ 64 := by
  unfold small at h
  rw [Bool.and_eq_true, decide_eq_true_eq, decide_eq_true_eq] at h
  exact h
theorem mulOk_ok {i j : Int} (h : mulOk i j = true) : CMul i j ∨ CMulW i j := by
  unfold mulOk at h
  rw [Bool.or_eq_true, Bool.or_eq_true, decide_eq_true_eq] at h
  rcases h with (h | h) | h
  · exact .inl (.inl (small_ok h))
  · exact .inl (.inr (small_ok h))
  · exact .inr h
theorem divOk_ok {i j : Int} (h : divOk j = true) : CDivW i j := by
  unfold divOk at h
  rw [Bool.and_eq_true, Bool.or_eq_true, decide_eq_true_eq, decide_eq_true_eq, decide_eq_true_eq] at h
  refine ⟨h.1, ?_⟩
  rcases h.2 with h2 | h2
  · have h3 : j.natAbs < 2 ^ 64 := by have := h.1; omega
    exact Nat.lt_trans (PySem.Flt.log2_lt_of (by decide) h3) (by decide)
  · exact h2
theorem bin_ok {K : PySem.W.Frag} {op : Op} {d1 d2 d : D} (h : binD op d1 d2 = .ok d) {v1 v2 : V} {p q : List Addr} (r1 : Rep z B H d1 v1 p) (r2 : Rep z B H d2 v2 q) (nd : (p ++ q).Nodup) (k : Fin z B H (p ++ q) d Q) : rBin K op v1 v2 H Q := by
  unfold binD at h
  split at h
  · cases h; obtain ⟨e1, _⟩ := r1; obtain ⟨e2, _⟩ := r2
    exact .inl ⟨_, _, e1, e2, k.int⟩
  · cases h; obtain ⟨e1, _⟩ := r1; obtain ⟨e2, _⟩ := r2
    exact ⟨_, _, e1, e2, k.int⟩
  · obtain ⟨c, rfl⟩ := guard_ok h
    obtain ⟨e1, _⟩ := r1; obtain ⟨e2, _⟩ := r2
    rcases mulOk_ok c with c | c
    · exact .inl ⟨_, _, e1, e2, c, k.int⟩
    · exact .inr (.inl ⟨_, _, e1, e2, c, k.int⟩)
  · obtain ⟨c, rfl⟩ := guard_ok h
    obtain ⟨e1, _⟩ := r1; obtain ⟨e2, _⟩ := r2
    exact ⟨_, _, e1, e2, divOk_ok c, k.int⟩
  · obtain ⟨c, rfl⟩ := guard_ok h
    obtain ⟨e1, _⟩ := r1; obtain ⟨e2, _⟩ := r2
    exact ⟨_, _, e1, e2, of_decide_eq_true c, k.int⟩
  · obtain ⟨c, rfl⟩ := guard_ok h
    obtain ⟨e1, _⟩ := r1; obtain ⟨e2, _⟩ := r2
    rw [Bool.and_eq_true, Bool.and_eq_true, decide_eq_true_eq, decide_eq_true_eq] at c
    have s := small_ok c.2
    refine ⟨_, _, e1, e2, ⟨c.1.1, by omega, by omega⟩, k.int⟩
  · obtain ⟨c, rfl⟩ := guard_ok h
    rename_i xs _ ys
    obtain ⟨a, vs, qa, e1, ha, hl, hr, ho⟩ := r1
    obtain ⟨b, ws, qb, e2, hb, hl2, hr2, ho2⟩ := r2
    have c' : xs.length + ys.length ≤ maxLen := of_decide_eq_true c
    rw [maxLen_eq] at c'
    have l1 := hr.length; have l2 := hr2.length
    refine .inr (.inl ⟨a, b, vs, ws, e1, e2, ha, hb, by omega, ?_⟩)
    have ra := hr.append hr2
    have nd' : (qa ++ qb).Nodup := by
      rw [List.nodup_append] at nd ⊢
      have s1 : qa.Sublist p := by
        rcases ho with ⟨_, e⟩ | ⟨_, _, e⟩ <;> rw [e]
        · exact List.sublist_cons_self _ _
        · exact List.Sublist.refl _
      have s2 : qb.Sublist q := by
        rcases ho2 with ⟨_, e⟩ | ⟨_, _, e⟩ <;> rw [e]
        · exact List.sublist_cons_self _ _
        · exact List.Sublist.refl _
      exact ⟨nd.1.sublist s1, nd.2.1.sublist s2, fun x hx y hy => nd.2.2 x (s1.subset hx) y (s2.subset hy)⟩
    refine k.lst ra nd' (fun x hx => ?_) (by rw [List.length_append]; omega) (live_ne ra)
    rcases List.mem_append.mp hx with hx | hx
    · exact List.mem_append_left _ (ho.sub x hx)
    · exact List.mem_append_right _ (ho2.sub x hx)
  · obtain ⟨c, rfl⟩ := guard_ok h
    rename_i _ xs n
    rw [Bool.and_eq_true, Bool.and_eq_true, Bool.and_eq_true, decide_eq_true_eq, decide_eq_true_eq, decide_eq_true_eq] at c
    obtain ⟨⟨⟨c1, c2⟩, c3⟩, c4⟩ := c
    obtain ⟨a, vs, qa, e1, ha, hl, hr, ho⟩ := r1
    obtain ⟨e2, _⟩ := r2
    have l1 := hr.length
    have hq : qa = [] := Reps.noOwn xs (by unfold noOwns at c4; simpa using c4) hr
    subst hq
    rw [maxLen_eq] at c3
    refine .inr (.inr ⟨a, n, vs, e1, e2, ha, by omega, by omega, by rw [l1]; exact c3, ?_⟩)
    have rr := hr.rep n.toNat
    refine k.lst rr List.nodup_nil (fun x hx => by cases hx) ?_ (live_ne rr)
    have := rr.length
    rw [this, List.length_flatten, List.map_replicate, List.sum_replicate_nat, Nat.mul_comm]
    exact c3
  · obtain ⟨c, rfl⟩ := guard_ok h
    rename_i xs ys
    rw [Bool.and_eq_true, Bool.and_eq_true, decide_eq_true_eq] at c
    obtain ⟨⟨c1, c2⟩, c3⟩ := c
    obtain ⟨a, vs, e1, ha, hl, hr⟩ := r1
    obtain ⟨b, ws, e2, hb, hl2, hr2⟩ := r2
    rw [maxLen_eq] at c1
    have l1 := hr.length; have l2 := hr2.length
    have n1 : vs ≠ [] := fun e => by rw [e] at l1; cases xs with | nil => cases c2 | cons _ _ => cases l1
    have n2 : ws ≠ [] := fun e => by rw [e] at l2; cases ys with | nil => cases c3 | cons _ _ => cases l2
    refine .inr (.inr ⟨a, b, vs, ws, e1, e2, .of ha, .of hb, n1, by omega, fun e => absurd e n2, fun _ => ?_⟩)
    exact k.tup (hr.append hr2) nd (fun x hx => hx) (by rw [List.length_append]; omega)
  · cases h
end
end VL
end

/-! text: VPut -/
section
set_option autoImplicit false
/-! VPut: a key put into a dict. -/
namespace VL
open PySem PySem.Spec PyProof.Rows L2

section
variable {α β : Type} {k : Key}
theorem putK_keys {x : α} {y : β} : ∀ {ks : List Key} {as : List α} {bs : List β}, as.length = bs.length → (putK k x ks as).1 = (putK k y ks bs).1
  | [], as, bs, h => by unfold putK; rfl
  | k' :: ks, [], [], h => by unfold putK; rfl
  | k' :: ks, a :: as, b :: bs, h => by
    unfold putK
    split
    · rfl
    · show k' :: _ = k' :: _
      rw [putK_keys (by simpa using h)]
  | k' :: ks, [], b :: bs, h => by cases h
  | k' :: ks, a :: as, [], h => by cases h
theorem putK_len {x : α} : ∀ {ks : List Key} {as : List α}, ks.length = as.length → (putK k x ks as).1.length = (putK k x ks as).2.length ∧ (putK k x ks as).2.length ≤ as.length + 1
  | [], [], h => by unfold putK; exact ⟨rfl, Nat.le_refl _⟩
  | k' :: ks, a :: as, h => by
    unfold putK
    split
    · exact ⟨by simpa using h, Nat.le_succ _⟩
    · obtain ⟨h1, h2⟩ := putK_len (x := x) (ks := ks) (as := as) (by simpa using h)
      exact ⟨by show _ + 1 = _ + 1; rw [h1], Nat.succ_le_succ h2⟩
  | [], a :: as, h => by cases h
  | k' :: ks, [], h => by cases h
end
theorem putK_app {k : Key} {v : V} : ∀ {ks : List Key} {vs : List V}, ks.length = vs.length → (ks.any fun k' => decide (k' = k)) = false → putK k v ks vs = (ks ++ [k], vs ++ [v])
  | [], [], _, _ => rfl
  | k' :: ks, v' :: vs, h, hn => by
    rw [List.any_cons, Bool.or_eq_false_iff] at hn
    unfold putK
    rw [if_neg (of_decide_eq_false hn.1), putK_app (by simpa using h) hn.2]
    rfl
  | [], _ :: _, h, _ => by cases h
  | _ :: _, [], h, _ => by cases h
theorem zip_any {k : Key} : ∀ {ks : List Key} {vs : List V}, ks.length = vs.length → ((ks.zip vs).any fun kv => decide (kv.1 = k)) = ks.any fun k' => decide (k' = k)
  | [], [], _ => rfl
  | k' :: ks, v' :: vs, h => by
    rw [List.zip_cons_cons, List.any_cons, List.any_cons, zip_any (by simpa using h)]
  | [], _ :: _, h => by cases h
  | _ :: _, [], h => by cases h
theorem zip_same {k : Key} {v : V} : ∀ {ks : List Key} {vs : List V}, (ks.any fun k' => decide (k' = k)) = false → (ks.zip vs).map (fun kv => if kv.1 = k then (kv.1, v) else kv) = ks.zip vs
  | [], _, _ => rfl
  | _ :: _, [], _ => rfl
  | k' :: ks, v' :: vs, hn => by
    rw [List.any_cons, Bool.or_eq_false_iff] at hn
    rw [List.zip_cons_cons, List.map_cons, zip_same hn.2, if_neg (of_decide_eq_false hn.1)]
theorem count_any {k : Key} : ∀ {ks : List Key}, cntK k ks = 0 → (ks.any fun k' => decide (k' = k)) = false
  | [], _ => rfl
  | k' :: ks, h => by
    unfold cntK at h
    by_cases e : k' = k
    · rw [if_pos e] at h; omega
    · rw [if_neg e] at h
      rw [List.any_cons, count_any h, decide_eq_false e]; rfl
theorem putK_set {k : Key} {v : V} : ∀ {ks : List Key} {vs : List V}, ks.length = vs.length → (ks.any fun k' => decide (k' = k)) = true → cntK k ks ≤ 1 → (ks.zip vs).map (fun kv => if kv.1 = k then (kv.1, v) else kv) = (putK k v ks vs).1.zip (putK k v ks vs).2
  | [], [], _, h, _ => by cases h
  | k' :: ks, v' :: vs, h, hn, hc => by
    unfold putK
    by_cases e : k' = k
    · subst e
      unfold cntK at hc
      rw [if_pos rfl] at hc
      rw [if_pos rfl, List.zip_cons_cons, List.map_cons, List.zip_cons_cons, zip_same (count_any (by omega)), if_pos rfl]
    · rw [if_neg e, List.zip_cons_cons, List.map_cons, if_neg e]
      show _ = (k' :: _).zip (v' :: _)
      rw [List.zip_cons_cons]
      unfold cntK at hc
      rw [if_neg e] at hc
      rw [List.any_cons, decide_eq_false e, Bool.false_or] at hn
      rw [putK_set (by simpa using h) hn hc]
  | [], _ :: _, h, _, _ => by cases h
  | _ :: _, [], h, _, _ => by cases h
theorem putK_eq {k : Key} {v : V} {ks : List Key} {vs : List V} (h : ks.length = vs.length) (hc : cntK k ks ≤ 1) : L2.putK (ks.zip vs) k v = (putK k v ks vs).1.zip (putK k v ks vs).2 := by
  unfold L2.putK
  rw [zip_any h]
  cases hn : ks.any fun k' => decide (k' = k) with
  | true => rw [if_pos rfl]; exact putK_set h hn hc
  | false =>
    rw [if_neg (by simp), putK_app h hn]
    show _ = (ks ++ [k]).zip (vs ++ [v])
    rw [List.zip_append h]
    rfl
theorem put_reps {z : Option Addr} {B : TB} {H : Hp} {k : Key} {d : D} {v : V} {p : List Addr} (r : Rep z B H d v p) : ∀ {ks : List Key} {ds : List D} {vs : List V} {q : List Addr}, ks.length = ds.length → Reps z B H ds vs q →
    ∃ q', Reps z B H (putK k d ks ds).2 (putK k v ks vs).2 q' ∧ (∀ a ∈ q', a ∈ q ∨ a ∈ p) ∧ ((q ++ p).Nodup → q'.Nodup)
  | [], [], vs, q, h, rr => by
    unfold putK
    exact ⟨p, Reps.one r, fun a h => .inr h, fun n => (List.nodup_append.mp n).2.1⟩
  | k' :: ks, d' :: ds, vs, q, h, rr => by
    obtain ⟨v', w, p1, p2, e1, e2, h1, h2⟩ := rr
    subst e1 e2
    unfold putK
    by_cases c : k' = k
    · rw [if_pos c, if_pos c]
      refine ⟨p ++ p2, Reps.cons r h2, fun a ha => ?_, fun n => ?_⟩
      · rcases List.mem_append.mp ha with h | h
        · exact .inr h
        · exact .inl (List.mem_append_right _ h)
      · simp only [List.nodup_append, List.mem_append] at n ⊢
        exact ⟨n.2.1, n.1.2.1, fun a ha b hb e => n.2.2 b (.inr hb) a ha e.symm⟩
    · rw [if_neg c, if_neg c]
      obtain ⟨q', g1, g2, g3⟩ := put_reps r (k := k) (by simpa using h) h2
      refine ⟨p1 ++ q', Reps.cons h1 g1, fun a ha => ?_, fun n => ?_⟩
      · rcases List.mem_append.mp ha with h | h
        · exact .inl (List.mem_append_left _ h)
        · exact (g2 a h).imp (List.mem_append_right _) id
      · simp only [List.nodup_append, List.mem_append] at n g3 ⊢
        refine ⟨n.1.1, g3 ⟨n.1.2.1, n.2.1, fun a ha b hb => n.2.2 a (.inr ha) b hb⟩, fun a ha b hb => ?_⟩
        rcases g2 b hb with hb | hb
        · exact n.1.2.2 a ha b hb
        · exact n.2.2 a (.inl ha) b hb
  | [], _ :: _, vs, q, h, rr => by cases h
  | _ :: _, [], vs, q, h, rr => by cases h
theorem flat_fp {z : Option Addr} {B : TB} {H : Hp} {d : D} {v : V} {p : List Addr} (h : flatD d = true) (r : Rep z B H d v p) : p = [] := by
  cases d <;> first | exact r.2 | cases h
theorem pair_of {d : D} {kv : Key × D} (h : pairK d = some kv) : ∃ x, d = .tup [x, kv.2] ∧ x.key = some kv.1 ∧ flatD kv.2 = true := by
  unfold pairK at h
  split at h
  · rename_i k v
    split at h
    · rename_i c
      cases e : k.key with
      | none => rw [e] at h; cases h
      | some key =>
        rw [e] at h
        cases h
        exact ⟨k, rfl, e, c⟩
    · cases h
  · cases h
theorem key_rep0 {z : Option Addr} {B : TB} {H : Hp} {d : D} {v : V} {p : List Addr} {k : Key} (r : Rep z B H d v p) (h : d.key = some k) : v = kV k ∧ p = [] := by
  cases d with
  | int i => cases h; exact r
  | str x => cases h; exact r
  | _ => cases h
/-- a list of pairs, put into a dict in turn -/
theorem merge_ok {z : Option Addr} {B : TB} {H : Hp} {K : PySem.W.Frag} : ∀ {xs : List D} {us : List V} {fp : List Addr} {ks : List Key} {ds : List D} {ws : List V} {r : List Key × List D}, Reps z B H xs us fp → ks.length = ds.length → Reps z B H ds ws [] → mergeD ks ds xs = some r →
    ∃ (ps : List Addr) (kvs : List (Key × V)) (w2 : List V), us = ps.map V.ref ∧ Paired (fun p kv => SqT K H p [kV kv.1, kv.2]) ps kvs ∧ mergeK (ks.zip ws) kvs = r.1.zip w2 ∧ r.1.length = w2.length ∧ w2.length ≤ ws.length + xs.length ∧ Reps z B H r.2 w2 [] ∧ r.1.length = r.2.length
  | [], us, fp, ks, ds, ws, r, h, hl, h2, e => by
    unfold mergeD at e
    cases e
    exact ⟨[], [], ws, h.1, .nil, rfl, hl.trans h2.length.symm, Nat.le_add_right _ _, h2, hl⟩
  | x :: xs, us, fp, ks, ds, ws, r, h, hl, h2, e => by
    obtain ⟨v, w, p1, p2, e1, e2, r1, r2⟩ := h
    subst e1 e2
    unfold mergeD at e
    cases hp : pairK x with
    | none => rw [hp] at e; cases e
    | some kv =>
      rw [hp] at e
      have e : (if cntK kv.1 ks ≤ 1 then mergeD (putK kv.1 kv.2 ks ds).1 (putK kv.1 kv.2 ks ds).2 xs else none) = some r := e
      split at e
      · rename_i hc
        obtain ⟨y, ex, hk, hf⟩ := pair_of hp
        subst ex
        obtain ⟨a, vs, ev, ha, hz, rr⟩ := r1
        obtain ⟨v1, w1, q1, q2, e3, e4, g1, g2⟩ := rr
        obtain ⟨v2, w3, q3, q4, e5, e6, g3, g4⟩ := g2
        obtain ⟨e7, e8⟩ := g4
        obtain ⟨ek, _⟩ := key_rep0 g1 hk
        have ef := flat_fp hf g3
        subst e7 ek e5 e3 ev ef
        have hlw : ks.length = ws.length := hl.trans h2.length.symm
        obtain ⟨q', s1, s2, s3⟩ := put_reps (k := kv.1) g3 hl h2
        have q0 : q' = [] := List.eq_nil_iff_forall_not_mem.mpr fun b hb => by rcases s2 b hb with h | h <;> cases h
        subst q0
        obtain ⟨l1, l2⟩ := putK_len (k := kv.1) (x := kv.2) hl
        obtain ⟨l3, l4⟩ := putK_len (k := kv.1) (x := v2) hlw
        obtain ⟨ps, kvs, w2, t1, t2, t3, t4, t5, t6, t7⟩ := merge_ok (K := K) r2 l1 s1 e
        refine ⟨a :: ps, (kv.1, v2) :: kvs, w2, by rw [t1]; rfl, .cons (.of ha) t2, ?_, t4, by simp only [List.length_cons]; omega, t6, t7⟩
        show mergeK (L2.putK (ks.zip ws) kv.1 v2) kvs = _
        rw [putK_eq hlw hc]
        have : (putK kv.1 v2 ks ws).1 = (putK kv.1 kv.2 ks ds).1 := putK_keys h2.length
        rw [this]
        exact t3
      · cases e
end VL
end

/-! text: VPrim2 -/
section
set_option autoImplicit false
/-! VPrim2: comparisons, items, slices, built-ins. -/
namespace VL
open PySem PySem.Spec PyProof.Rows L2

section
variable {z : Option Addr} {B : TB} {H H' : Hp} {fp : List Addr} {Q : VK}
/-! ### dicts -/
theorem zip_val : ∀ {ks : List Key} {xs : List D} {vs : List V} {q : List Addr} {k : Key}, ks.length = vs.length → Reps z B H xs vs q →
    (look k ks xs = none → valV (ks.zip vs) k = none) ∧ (∀ d, look k ks xs = some d → ∃ v p, valV (ks.zip vs) k = some v ∧ Rep z B H d v p ∧ p.Sublist q)
  | [], xs, vs, q, k, _, r => ⟨fun _ => rfl, fun d h => by unfold look at h; cases h⟩
  | k' :: ks, [], vs, q, k, hl, r => by rw [r.1] at hl; cases hl
  | k' :: ks, x :: xs, vs, q, k, hl, r => by
    obtain ⟨v, w, p, q', e1, e2, h1, h2⟩ := r
    subst e1 e2
    have ih := zip_val (k := k) (by simpa using hl) h2
    by_cases c : k' = k
    · refine ⟨fun h => ?_, fun d h => ?_⟩
      · unfold look at h
        rw [if_pos c] at h; cases h
      · unfold look at h
        rw [if_pos c] at h; cases h
        exact ⟨v, p, valV_pos (p := (k', v)) c, h1, List.sublist_append_left _ _⟩
    · refine ⟨fun h => ?_, fun d h => ?_⟩
      · unfold look at h
        rw [if_neg c] at h
        exact (valV_neg (p := (k', v)) c).trans (ih.1 h)
      · unfold look at h
        rw [if_neg c] at h
        obtain ⟨v', p', e, r', s⟩ := ih.2 d h
        exact ⟨v', p', (valV_neg (p := (k', v)) c).trans e, r', s.trans (List.sublist_append_right _ _)⟩
theorem zip_some {k : Key} : ∀ {ks : List Key} {vs : List V}, ks.length = vs.length → (valV (ks.zip vs) k).isSome = ks.any fun k' => decide (k' = k)
  | [], [], _ => rfl
  | [], _ :: _, h => by cases h
  | _ :: _, [], h => by cases h
  | k' :: ks, v :: vs, h => by
    have ih := zip_some (k := k) (ks := ks) (vs := vs) (by simpa using h)
    show (valV ((k', v) :: ks.zip vs) k).isSome = _
    rw [List.any_cons]
    by_cases c : k' = k
    · rw [valV_pos (p := (k', v)) c, decide_eq_true c]; rfl
    · rw [valV_neg (p := (k', v)) c, ih, decide_eq_false c]; rfl
theorem key_rep {d : D} {v : V} {p : List Addr} {k : Key} (r : Rep z B H d v p) (h : d.key = some k) : v = kV k := by
  cases d with
  | int i => cases h; exact r.1
  | str x => cases h; exact r.1
  | _ => cases h

/-! ### comparisons -/
def cmP : Cm → CmpOp | .eq => .Eq | .ne => .NotEq | .lt => .Lt | .le => .LtE | .gt => .Gt | .ge => .GtE | .isN => .Is | .notN => .IsNot | .in_ => .In | .notIn => .NotIn
def rDIn (neg : Bool) : R2 := fun x y H Q => ∃ a o, y = .ref a ∧ DGet H a x o ∧ Q (.bl (if neg then !o.isSome else o.isSome)) H
theorem op_dIn {X : Cx} (hu : X.A.units + 1 < cLine) : OpR X (compareOp .In) (rDIn false) := by
  intro pins s σ H x y v u Q I rx ry h
  obtain ⟨a, o, rfl, g, q⟩ := h
  obtain rfl : u = Value.ref a := ry
  exact d_in hu I g rx fun s' I' => ⟨.bl o.isSome, H, I', rfl, q⟩
theorem op_dNotIn {X : Cx} (hu : X.A.units + 1 < cLine) : OpR X (compareOp .NotIn) (rDIn true) := by
  intro pins s σ H x y v u Q I rx ry h
  obtain ⟨a, o, rfl, g, q⟩ := h
  obtain rfl : u = Value.ref a := ry
  exact d_notIn hu I g rx fun s' I' => ⟨.bl (!o.isSome), H, I', rfl, q⟩
def rCmp (K : PySem.W.Frag) : Cm → R2
  | .eq => fun x y H Q => rEqD K x y H Q ∨ rEq x y H Q
  | .ne => fun x y H Q => rNeD K x y H Q ∨ rNe x y H Q
  | .lt => rI0 fun i j => .bl (decide (i < j))
  | .le => rI0 fun i j => .bl (decide (i ≤ j))
  | .gt => rI0 fun i j => .bl (decide (j < i))
  | .ge => rI0 fun i j => .bl (decide (j ≤ i))
  | .isN => fun x y H Q => y = .non ∧ Q (.bl (decide (x = .non))) H
  | .notN => fun x y H Q => y = .non ∧ Q (.bl (!decide (x = .non))) H
  | .in_ => fun x y H Q => rInD K x y H Q ∨ rIn K false x y H Q ∨ rDIn false x y H Q
  | .notIn => fun x y H Q => rNotInD K x y H Q ∨ rIn K true x y H Q ∨ rDIn true x y H Q
theorem op_cmp {X : Cx} (hu : X.A.units + 65 < cLine) (c : Cm) : OpR X (compareOp (cmP c)) (rCmp X.K c) := by
  cases c with
  | eq => exact (op_eqD (by omega)).or op_eq
  | ne => exact (op_neD (by omega)).or op_ne
  | lt => exact op_lt
  | le => exact op_le
  | gt => exact op_gt
  | ge => exact op_ge
  | isN => exact op_isN
  | notN => exact op_notN
  | in_ => exact (op_inD hu).or (op_in_seq.or (op_dIn (by omega)))
  | notIn => exact (op_notInD hu).or (op_notIn_seq.or (op_dNotIn (by omega)))
theorem shaped_lay {d : PyData} (h : SeqAt.shaped d = true) : d.canLay0 = true := by
  unfold SeqAt.shaped at h
  rw [Bool.and_eq_true] at h
  exact h.1
theorem rep_non {d : D} {v : V} {p : List Addr} (r : Rep z B H d v p) : decide (v = .non) = isNonD d := by
  cases d with
  | non => rw [show v = .non from r.1]; rfl
  | bl b => rw [show v = .bl b from r.1]; rfl
  | int i => rw [show v = .int i from r.1]; rfl
  | str x => rw [show v = .str x from r.1]; rfl
  | strm => obtain ⟨⟨a, _, e⟩, _⟩ := r; rw [e]; rfl
  | lst t xs => obtain ⟨a, vs, q, e, _⟩ := r; rw [e]; rfl
  | tup xs => obtain ⟨a, vs, e, _⟩ := r; rw [e]; rfl
  | dk t ks xs => obtain ⟨a, vs, q, e, _⟩ := r; rw [e]; rfl
theorem flat_ints : ∀ (ns : List Int), (ns.map V.int).all flatV = true
  | [] => rfl
  | n :: ns => by rw [List.map_cons, List.all_cons, flat_ints ns]; rfl
theorem inV_ints (i : Int) : ∀ (xs : List D), inV (.int i) ((xs.map intD).map V.int) = xs.any fun x => decide (intD x = i)
  | [] => rfl
  | x :: xs => by
    show (eqV (.int (intD x)) (.int i) || inV (.int i) ((xs.map intD).map V.int)) = _
    rw [inV_ints i xs, List.any_cons]
    congr 1
theorem flat_strs : ∀ (ns : List Str), (ns.map V.str).all flatV = true
  | [] => rfl
  | n :: ns => by rw [List.map_cons, List.all_cons, flat_strs ns]; rfl
theorem inV_strs (i : Str) : ∀ (xs : List D), inV (.str i) ((xs.map strD).map V.str) = xs.any fun x => decide (strD x = i)
  | [] => rfl
  | x :: xs => by
    show (eqV (.str (strD x)) (.str i) || inV (.str i) ((xs.map strD).map V.str)) = _
    rw [inV_strs i xs, List.any_cons]
    congr 1
theorem reps_strs : ∀ {xs : List D} {vs : List V} {q : List Addr}, xs.all isStrD = true → Reps z B H xs vs q → vs = (xs.map strD).map V.str
  | [], vs, q, _, r => by
    have : vs = [] := List.eq_nil_of_length_eq_zero (Reps.length r)
    subst this; rfl
  | x :: xs, vs, q, h, r => by
    rw [List.all_cons, Bool.and_eq_true] at h
    obtain ⟨v, w, p1, q1, e1, e2, h1, h2⟩ := r
    have := reps_strs h.2 h2
    subst this e1
    cases x <;> first | (cases h.1; done) | skip
    rw [h1.1]; rfl
theorem in_ok {K : PySem.W.Frag} {d1 d2 : D} {b : Bool} (h : inD d1 d2 = .ok b) {v1 v2 : V} {p q : List Addr} (r1 : Rep z B H d1 v1 p) (r2 : Rep z B H d2 v2 q) (neg : Bool) (k : Q (.bl (if neg then !b else b)) H) :
    if neg then rCmp K .notIn v1 v2 H Q else rCmp K .in_ v1 v2 H Q := by
  unfold inD at h
  split at h
  · obtain ⟨c, rfl⟩ := guard_ok h
    rw [Bool.and_eq_true] at c
    rename_i t xs
    have e1 := Rep.dp K d1 (shaped_lay c.1) r1
    have e2 := Rep.dp K (.lst t xs) (by have := shaped_lay c.2; simpa [D.erase] using this) r2
    cases neg with
    | false => exact .inl ⟨_, D.erases xs, e1, by simpa [D.erase] using e2, c.1, c.2, k⟩
    | true => exact .inl ⟨_, D.erases xs, e1, by simpa [D.erase] using e2, c.1, c.2, k⟩
  · unfold inT at h
    split at h
    · rename_i xs hstr
      obtain ⟨c, rfl⟩ := guard_ok h
      obtain ⟨a, vs, e, ha, hl, hr⟩ := r2
      have hi := reps_strs c hr
      cases d1 with
      | str i =>
        obtain ⟨e1, _⟩ := r1
        subst e1
        have iv : inV (.str i) vs = xs.any fun x => decide (strD x = strD (.str i)) := by rw [hi]; exact inV_strs i xs
        have fl : vs.all flatV = true := by rw [hi]; exact flat_strs _
        cases neg with
        | false => exact .inr (.inl ⟨a, vs, e, .inr (.of ha), rfl, fl, by show Q (.bl (inV (.str i) vs)) H; rw [iv]; exact k⟩)
        | true => exact .inr (.inl ⟨a, vs, e, .inr (.of ha), rfl, fl, by show Q (.bl (!inV (.str i) vs)) H; rw [iv]; exact k⟩)
      | _ => cases hstr
    obtain ⟨c, rfl⟩ := guard_ok h
    rw [Bool.and_eq_true] at c
    rename_i xs _
    obtain ⟨a, vs, e, ha, hl, hr⟩ := r2
    have hi := Reps.ints c.2 hr
    cases d1 with
    | int i =>
      obtain ⟨e1, _⟩ := r1
      subst e1
      have iv : inV (.int i) vs = xs.any fun x => decide (intD x = intD (.int i)) := by rw [hi]; exact inV_ints i xs
      have fl : vs.all flatV = true := by rw [hi]; exact flat_ints _
      cases neg with
      | false => exact .inr (.inl ⟨a, vs, e, .inr (.of ha), rfl, fl, by show Q (.bl (inV (.int i) vs)) H; rw [iv]; exact k⟩)
      | true => exact .inr (.inl ⟨a, vs, e, .inr (.of ha), rfl, fl, by show Q (.bl (!inV (.int i) vs)) H; rw [iv]; exact k⟩)
    | _ => exact absurd c.1 (by simp [isIntD])
  · rename_i t ks xs
    split at h
    · rename_i key hk
      cases h
      obtain ⟨a, vs, q', e, ha, hkl, hl, hr, ho⟩ := r2
      have ev := key_rep r1 hk
      have g : DGet H a v1 (valV (ks.zip vs) key) := by rw [ev]; exact DGet.k ha
      have es := zip_some (k := key) hkl
      cases neg with
      | false => exact .inr (.inr ⟨a, _, e, g, by show Q (.bl (valV (ks.zip vs) key).isSome) H; rw [es]; exact k⟩)
      | true => exact .inr (.inr ⟨a, _, e, g, by show Q (.bl (!(valV (ks.zip vs) key).isSome)) H; rw [es]; exact k⟩)
    · cases h
  · cases h
theorem cmp_ok {K : PySem.W.Frag} {c : Cm} {d1 d2 : D} {b : Bool} (h : cmpD c d1 d2 = .ok b) {v1 v2 : V} {p q : List Addr} (r1 : Rep z B H d1 v1 p) (r2 : Rep z B H d2 v2 q) (k : Q (.bl b) H) : rCmp K c v1 v2 H Q := by
  have eqs : ∀ b', eqD d1 d2 = .ok b' → ∃ x y, Dp K H v1 x ∧ Dp K H v2 y ∧ SeqAt.shaped x = true ∧ SeqAt.shaped y = true ∧ PyData.eqv x y = b' := fun b' e => by
    obtain ⟨c, e⟩ := guard_ok e
    rw [Bool.and_eq_true] at c
    exact ⟨_, _, Rep.dp K d1 (shaped_lay c.1) r1, Rep.dp K d2 (shaped_lay c.2) r2, c.1, c.2, e.symm⟩
  have seq1 : ∀ a b : Str, decide (V.str a = V.str b) = decide (a = b) := fun a b => by
    by_cases e : a = b
    · rw [decide_eq_true e, decide_eq_true (congrArg V.str e)]
    · rw [decide_eq_false e, decide_eq_false fun z => e (V.str.inj z)]
  unfold cmpD at h
  split at h
  · cases h
    rw [r1.1, r2.1]
    exact .inr ⟨rfl, by rw [seq1]; exact k⟩
  · cases h
    rw [r1.1, r2.1]
    exact .inr ⟨rfl, by rw [seq1]; exact k⟩
  · obtain ⟨x, y, h1, h2, h3, h4, h5⟩ := eqs _ h
    exact .inl ⟨x, y, h1, h2, h3, h4, by rw [h5]; exact k⟩
  · obtain ⟨b', e, h⟩ := bind_ok h
    cases h
    obtain ⟨x, y, h1, h2, h3, h4, h5⟩ := eqs _ e
    exact .inl ⟨x, y, h1, h2, h3, h4, by rw [h5]; exact k⟩
  · cases h; exact ⟨_, _, r1.1, r2.1, k⟩
  · cases h; exact ⟨_, _, r1.1, r2.1, k⟩
  · cases h; exact ⟨_, _, r1.1, r2.1, k⟩
  · cases h; exact ⟨_, _, r1.1, r2.1, k⟩
  · cases h
    refine ⟨r2.1, ?_⟩
    rw [rep_non r1]; exact k
  · cases h
    refine ⟨r2.1, ?_⟩
    rw [rep_non r1]; exact k
  · exact in_ok (K := K) h r1 r2 false k
  · obtain ⟨b', e, h⟩ := bind_ok h
    cases h
    exact in_ok (K := K) e r1 r2 true k
  · cases h

/-! ### items -/
def rDGet : R2 := fun x y H Q => ∃ a v, x = .ref a ∧ DGet H a y (some v) ∧ Q v H
theorem ix_dict {X : Cx} (hu : X.A.units + 1 < cLine) : IxR X rDGet := by
  intro value slice pins s σ H x y v u Q I rx ry h hs
  obtain ⟨a, w, rfl, g, q⟩ := h
  obtain rfl : v = Value.ref a := rx
  exact tail_any (dict_typeIs I g) PySem.F.slot_dict_getitem.lookup (d_getItem hu I g ry fun w' s' I' rw' => ⟨w, H, I', rw', q⟩) hs
def rIxD (K : PySem.W.Frag) : R2 := fun x y H Q => rIxL K x y H Q ∨ rIxT K x y H Q ∨ rDGet x y H Q
theorem ix_any {X : Cx} (hu : X.A.units + 1 < cLine) : IxR X (rIxD X.K) := ix_list.or (ix_tup.or (ix_dict hu))
theorem atI_rep {xs : List D} {vs : List V} {q : List Addr} {i : Int} {d : D} (r : Reps z B H xs vs q) (h : atI xs i = some d) : ∃ v p, atI vs i = some v ∧ Rep z B H d v p ∧ p.Sublist q := by
  unfold atI at h ⊢
  rw [r.length]
  cases e : ixN xs.length i with
  | none => rw [e] at h; cases h
  | some j =>
    rw [e] at h
    obtain ⟨v, p, h1, h2, h3⟩ := r.get (i := j) (d := d) h
    exact ⟨v, p, h1, h2, h3⟩
theorem own_sub {t : Tag} {a : Addr} {q p : List Addr} (ho : Own B t a q p) : q.Sublist p := by
  rcases ho with ⟨_, e⟩ | ⟨_, _, e⟩ <;> rw [e]
  · exact List.sublist_cons_self _ _
  · exact List.Sublist.refl _
theorem ix_ok {K : PySem.W.Frag} {d1 d2 d : D} (h : ixD d1 d2 = .ok d) {v1 v2 : V} {p q : List Addr} (r1 : Rep z B H d1 v1 p) (r2 : Rep z B H d2 v2 q) (nd : p.Nodup) (k : Fin z B H p d Q) : rIxD K v1 v2 H Q := by
  unfold ixD at h
  split at h
  · split at h
    · rename_i e
      cases h
      obtain ⟨a, vs, q', e1, ha, hl, hr, ho⟩ := r1
      obtain ⟨v, p', h1, h2, h3⟩ := atI_rep hr e
      have s := h3.trans (own_sub ho)
      exact .inl ⟨a, vs, _, v, e1, r2.1, .of ha, h1, k.same h2 (nd.sublist s) fun x hx => s.subset hx⟩
    · cases h
  · split at h
    · rename_i e
      cases h
      obtain ⟨a, vs, e1, ha, hl, hr⟩ := r1
      obtain ⟨v, p', h1, h2, h3⟩ := atI_rep hr e
      exact .inr (.inl ⟨a, vs, _, v, e1, r2.1, .of ha, h1, k.same h2 (nd.sublist h3) fun x hx => h3.subset hx⟩)
    · cases h
  · split at h
    · rename_i key hk
      split at h
      · rename_i e
        cases h
        obtain ⟨a, vs, q', e1, ha, hkl, hl, hr, ho⟩ := r1
        obtain ⟨v, p', h1, h2, h3⟩ := (zip_val hkl hr).2 _ e
        have s := h3.trans (own_sub ho)
        refine .inr (.inr ⟨a, v, e1, ?_, k.same h2 (nd.sublist s) fun x hx => s.subset hx⟩)
        rw [key_rep r2 hk, ← h1]
        exact DGet.k ha
      · cases h
    · cases h
  · cases h

/-! ### slices -/
theorem cut_rep {xs : List D} {vs : List V} {q : List Addr} (lo hi : Option Int) (r : Reps z B H xs vs q) : ∃ p, Reps z B H (cutD xs lo hi) (cutV vs lo hi) p ∧ p.Sublist q := by
  obtain ⟨p1, h1, s1⟩ := r.drop (HT.sIx xs.length 0 lo)
  obtain ⟨p2, h2, s2⟩ := h1.take (HT.sIx xs.length xs.length hi - HT.sIx xs.length 0 lo)
  refine ⟨p2, ?_, s2.trans s1⟩
  unfold cutD cutV
  rw [r.length]
  exact h2
def rSl (K : PySem.W.Frag) : V → Option Int → Option Int → Hp → VK → Prop := fun x lo hi H Q => rSlL K x lo hi H Q ∨ rSlA K x lo hi H Q
theorem sl_ok {K : PySem.W.Frag} {d1 d : D} {lo hi : Option Int} (h : slD d1 lo hi = .ok d) {v1 : V} {p : List Addr} (r1 : Rep z B H d1 v1 p) (nd : p.Nodup) (k : Fin z B H p d Q) : rSl K v1 lo hi H Q := by
  unfold slD at h
  split at h
  · cases h
    obtain ⟨a, vs, q', e1, ha, hl, hr, ho⟩ := r1
    obtain ⟨p', h1, h2⟩ := cut_rep lo hi hr
    have s := h2.trans (own_sub ho)
    exact .inl ⟨a, vs, e1, .of ha, k.lst h1 (nd.sublist s) (fun x hx => s.subset hx) (Nat.le_trans (cutV_length _ _ _) hl) (live_ne h1)⟩
  · cases h
    have r0 := r1
    obtain ⟨a, vs, e1, ha, hl, hr⟩ := r1
    obtain ⟨p', h1, s⟩ := cut_rep lo hi hr
    refine .inr ⟨a, vs, e1, .of ha, fun hw => ?_, fun _ => k.tup h1 (nd.sublist s) (fun x hx => s.subset hx) (Nat.le_trans (cutV_length _ _ _) hl)⟩
    rename_i xs
    have e : cutD xs lo hi = xs := by
      unfold cutD
      have hlen := hr.length
      rw [hlen] at hw
      rw [hw.1, hw.2, List.drop_zero, Nat.sub_zero, List.take_length]
    rw [e] at k
    subst e1
    exact k.same r0 nd fun x hx => hx
  · cases h
theorem rev_okL {K : PySem.W.Frag} {t : Tag} {xs : List D} {v1 : V} {p : List Addr} (r1 : Rep z B H (.lst t xs) v1 p) (nd : p.Nodup) (k : Fin z B H p (.lst .own xs.reverse) Q) :
    ∃ a xs, v1 = .ref a ∧ SqL K H a xs ∧ ∀ p, H p = none → Q (.ref p) (upd H p (.lst xs.reverse)) := by
  obtain ⟨a, vs, q', e1, ha, hl, hr, ho⟩ := r1
  obtain ⟨p', h1, h2⟩ := hr.reverse
  have n' : p'.Nodup := h2.nodup_iff.mpr (nd.sublist (own_sub ho))
  exact ⟨a, vs, e1, .of ha, k.lst h1 n' (fun x hx => (own_sub ho).subset (h2.mem_iff.mp hx)) (by rw [List.length_reverse]; exact hl) (live_ne h1)⟩
theorem rev_okT {K : PySem.W.Frag} {xs : List D} {v1 : V} {p : List Addr} (r1 : Rep z B H (.tup xs) v1 p) (nd : p.Nodup) (k : Fin z B H p (.tup xs.reverse) Q) :
    ∃ a xs, v1 = .ref a ∧ SqT K H a xs ∧ ∀ p, H p = none → Q (.ref p) (upd H p (.tup xs.reverse)) := by
  obtain ⟨a, vs, e1, ha, hl, hr⟩ := r1
  obtain ⟨p', h1, h2⟩ := hr.reverse
  exact ⟨a, vs, e1, .of ha, k.tup h1 (h2.nodup_iff.mpr nd) (fun x hx => h2.mem_iff.mp hx) (by rw [List.length_reverse]; exact hl)⟩

/-! ### truth -/
theorem tru_okD {K : PySem.W.Frag} {d : D} {b : Bool} (h : truD d = .ok b) {v : V} {p : List Addr} (r : Rep z B H d v p) : TruV K v H b := by
  have em : ∀ {xs : List D} {vs : List V} {q : List Addr}, Reps z B H xs vs q → xs.isEmpty = vs.isEmpty := fun {xs vs q} r => by
    have := r.length
    cases xs with
    | nil => cases vs with
      | nil => rfl
      | cons _ _ => cases this
    | cons _ _ => cases vs with
      | nil => cases this
      | cons _ _ => rfl
  unfold truD at h
  split at h
  · cases h; rw [r.1]; exact rfl
  · cases h; rw [r.1]; exact rfl
  · cases h; rw [r.1]; exact rfl
  · cases h
    obtain ⟨a, vs, q', e1, ha, hl, hr, ho⟩ := r
    rw [e1]
    exact .inl ⟨vs, .of ha, by rw [em hr]⟩
  · cases h
    obtain ⟨a, vs, e1, ha, hl, hr⟩ := r
    rw [e1]
    exact .inr (.inl ⟨vs, .of ha, by rw [em hr]⟩)
  · cases h
    rename_i ks xs
    obtain ⟨a, vs, q', e1, ha, hk, hl, hr, ho⟩ := r
    rw [e1]
    refine .inr (.inr ⟨_, ha, ?_⟩)
    cases ks with
    | nil => rfl
    | cons _ _ => cases vs with
      | nil => cases hk
      | cons _ _ => rfl
  · cases h

/-! ### built-ins -/
def biN : Bi → Str × Value
  | .len => ("len", .builtin "len") | .list => ("list", .type "list") | .tuple => ("tuple", .type "tuple") | .int => ("int", .type "int") | .abs => ("abs", .builtin "abs")
  | .min2 => ("min", .builtin "min") | .max2 => ("max", .builtin "max") | .min1 => ("min", .builtin "min") | .max1 => ("max", .builtin "max")
  | .repr => ("repr", .builtin "repr") | .dictP => ("dict", .type "dict")
  | .sum => ("sum", .builtin "sum") | .any => ("any", .builtin "any") | .all => ("all", .builtin "all")
def rRepr (K : PySem.W.Frag) : List V → Hp → VK → Prop := fun xs H Q => (∃ p d, xs = [.ref p] ∧ Dp K H (.ref p) d ∧ reprOk d = true ∧ Q (.str (PyData.shown d)) H) ∨ (xs = [.non] ∧ Q (.str "None") H) ∨ (∃ b : Bool, xs = [.bl b] ∧ Q (.str (if b then "True" else "False")) H) ∨ (∃ i : Int, xs = [.int i] ∧ i.natAbs.log2 < 1920 ∧ Q (.str (toString i)) H) ∨ (∃ x, xs = [.str x] ∧ (reprText x).length ≤ sizeLine ∧ Q (.str (reprText x)) H) ∨ (∃ p, xs = [.ref p] ∧ H p = some (.dK []) ∧ Q (.str (PyData.shown (.dict []))) H)
def rDictP (K : PySem.W.Frag) : List V → Hp → VK → Prop := fun xs H Q => ∃ (a : Addr) (ps : List Addr) (kvs : List (Key × V)), xs = [.ref a] ∧ SqL K H a (ps.map V.ref) ∧ Paired (fun p kv => SqT K H p [kV kv.1, kv.2]) ps kvs ∧ ∀ p, H p = none → Q (.ref p) (upd H p (.dK (mergeK [] kvs)))
theorem cr_repr {X : Cx} (hgs : X.A.guards = some []) (hu : X.A.units + 65 < cLine) : CallR X (.builtin "repr") (rRepr X.K) := by
  intro pins s σ H xs us Q I r h
  rcases h with h | ⟨rfl, q⟩ | ⟨b, rfl, q⟩ | ⟨i, rfl, hz, q⟩ | ⟨x, rfl, hz, q⟩ | ⟨p, rfl, hp, q⟩
  rotate_left
  · obtain ⟨u, rfl, ru⟩ := vals1 r
    cases ru
    exact PySem.P.repr_of_none ⟨.str "None", H, I.tok _, ⟨_, rfl⟩, q⟩
  · obtain ⟨u, rfl, ru⟩ := vals1 r
    cases ru
    exact PySem.P.repr_of_bool ⟨.str (if b then "True" else "False"), H, I.tok _, ⟨_, rfl⟩, q⟩
  · obtain ⟨u, rfl, t, rfl⟩ := vals1 r
    exact PySem.P.repr_of_int hz ⟨.str _, H, I.tok _, ⟨_, rfl⟩, q⟩
  · obtain ⟨u, rfl, t, rfl⟩ := vals1 r
    exact PySem.P.repr_of_str ⟨.str _, H, I.tok _, ⟨_, rfl⟩, q⟩ hz
  · obtain ⟨u, rfl, ru⟩ := vals1 r
    obtain rfl : u = Value.ref p := ru
    obtain ⟨hz, hS, vs, rk, m⟩ : ([] : List (Key × V)).length ≤ sizeLine ∧ (p == sysModules) = false ∧ ∃ vs, KV [] vs ∧ s.heap.DictOf (mixKind X.prog X.w) p vs := I.hok p _ hp
    cases rk
    obtain ⟨o, es, ep, g1, g2, g3, g4, g5, g6⟩ := m
    have hes : es.toList = [] := by cases h : es.toList with | nil => rfl | cons a l => rw [h] at g5; cases g5
    have hr : Reads s.heap (.ref p) (.dict []) [p] := by
      have := Reads.dict (h := s.heap) (kvs := []) (as := []) (bs := []) g1 g2.1 g3 (by rw [hes]; exact .nil) (by rw [hes]; exact .nil)
      exact this
    exact repr_of_reads' hr (by decide) (fun _ => by
      intro e
      rw [List.mem_singleton.mp e] at hS
      simp at hS) hgs (by simp [PyData.depth, PyData.depthKv]; omega) (fun _ _ e => e) (fun h' u tk hk => ⟨.str _, H, I.kept hk, ⟨u, rfl⟩, q⟩) (by decide +kernel)
  obtain ⟨p, d, rfl, hd, ho, q⟩ := h
  obtain ⟨u, rfl, ru⟩ := vals1 r
  obtain rfl : u = Value.ref p := ru
  obtain ⟨as, hr⟩ := Dp.reads I d _ _ hd (show RelV (.ref p) (.ref p) from rfl)
  unfold reprOk at ho
  rw [Bool.and_eq_true, Bool.and_eq_true, Bool.and_eq_true] at ho
  obtain ⟨⟨⟨h1, h2⟩, h3⟩, h4⟩ := ho
  have dp : PyData.depth d ≤ 64 := by
    have h1' : (PyData.canLay0 d && decide (PyData.depth d ≤ 64) && decide (PyData.weight d ≤ 2 ^ 20)) = true := h1
    simp only [Bool.and_eq_true, decide_eq_true_eq] at h1'
    exact h1'.1.2
  have nd : PyData.hasDict d = false := by cases e : PyData.hasDict d with | false => rfl | true => rw [e] at h3; cases h3
  exact repr_of_reads' hr h2 (fun e => by rw [nd] at e; cases e) hgs (by omega) (fun _ _ e => e) (fun h' u tk hk => ⟨.str (PyData.shown d), H, I.kept hk, ⟨u, rfl⟩, q⟩) (by rw [← maxLen_eq]; exact Nat.ble_eq.mp h4)
theorem rep_lay {d : PyData} (h : reprOk d = true) : d.canLay0 = true := by
  unfold reprOk at h
  rw [Bool.and_eq_true, Bool.and_eq_true, Bool.and_eq_true] at h
  have h1 : (PyData.canLay0 d && decide (PyData.depth d ≤ 64) && decide (PyData.weight d ≤ 2 ^ 20)) = true := h.1.1.1
  simp only [Bool.and_eq_true] at h1
  exact h1.1.1
def rBi (K : PySem.W.Frag) : Bi → List V → Hp → VK → Prop
  | .len => fun xs H Q => ∃ x n, xs = [x] ∧ LenV K x H n ∧ Q (.int n) H
  | .list => fun xs H Q => ∃ p ys, xs = [.ref p] ∧ (SqL K H p ys ∨ SqT K H p ys) ∧ ∀ l, H l = none → Q (.ref l) (upd H l (.lst ys))
  | .tuple => fun xs H Q => ∃ p ys, xs = [.ref p] ∧ ((SqL K H p ys ∧ ∀ l, H l = none → Q (.ref l) (upd H l (.tup ys))) ∨ (SqT K H p ys ∧ Q (.ref p) H))
  | .int => fun xs H Q => (∃ i, xs = [.int i] ∧ Q (.int i) H) ∨ ∃ k, xs = [.bl k] ∧ Q (.int (if k then 1 else 0)) H
  | .abs => fun xs H Q => ∃ i, xs = [.int i] ∧ Q (.int (if i < 0 then -i else i)) H
  | .min2 => fun xs H Q => ∃ i j, xs = [.int i, .int j] ∧ Q (.int (if j < i then j else i)) H
  | .max2 => fun xs H Q => ∃ i j, xs = [.int i, .int j] ∧ Q (.int (if j > i then j else i)) H
  | .min1 => fun _ _ _ => False
  | .max1 => fun _ _ _ => False
  | .repr => rRepr K
  | .dictP => rDictP K
  | .sum => rSum K
  | .any => rAny K
  | .all => rAll K
theorem cr_bi {X : Cx} (hc : X.calm = true) (hgs : X.A.guards = some []) (hu : X.A.units + 65 < cLine) (b : Bi) : CallR X (biN b).2 (rBi X.K b) := by
  cases b with
  | len => exact call_len
  | list => exact call_list_of
  | tuple => exact call_tuple_of
  | int => exact call_int1
  | abs => exact call_abs
  | min2 => exact call_min2 hc
  | max2 => exact call_max2 hc
  | min1 => exact fun _ _ _ _ _ _ _ _ _ h => h.elim
  | max1 => exact fun _ _ _ _ _ _ _ _ _ h => h.elim
  | repr => exact cr_repr hgs hu
  | dictP => exact call_dictP hc
  | sum => exact cr_sum hc
  | any => exact cr_any hc
  | all => exact cr_all hc
theorem reps1 {d : D} {vs : List V} {p : List Addr} (r : Reps z B H [d] vs p) : ∃ v, vs = [v] ∧ Rep z B H d v p := by
  obtain ⟨v, w, p1, q1, e1, e2, h1, h2⟩ := r
  obtain ⟨e3, e4⟩ := h2
  subst e3 e4
  rw [List.append_nil] at e2
  subst e2
  exact ⟨v, e1, h1⟩
theorem reps2 {d e : D} {vs : List V} {p : List Addr} (r : Reps z B H [d, e] vs p) : ∃ v u p1 p2, vs = [v, u] ∧ p = p1 ++ p2 ∧ Rep z B H d v p1 ∧ Rep z B H e u p2 := by
  obtain ⟨v, w, p1, q1, e1, e2, h1, h2⟩ := r
  obtain ⟨u, e3, h3⟩ := reps1 h2
  subst e3
  exact ⟨v, u, p1, q1, e1, e2, h1, h3⟩
theorem bi_ok {K : PySem.W.Frag} {b : Bi} {ds : List D} {d : D} (h : biD b ds = .ok d) {vs : List V} {p : List Addr} (r : Reps z B H ds vs p) (nd : p.Nodup) (k : Fin z B H p d Q) : rBi K b vs H Q := by
  unfold biD at h
  split at h
  · obtain ⟨n, e, h⟩ := bind_ok h
    cases h
    obtain ⟨v, ev, rr⟩ := reps1 r
    subst ev
    unfold lenD at e
    split at e
    · cases e
      obtain ⟨a, vs, q', e1, ha, hl, hr, ho⟩ := rr
      subst e1
      refine ⟨_, vs.length, rfl, .inl ⟨vs, .of ha, rfl⟩, ?_⟩
      rw [hr.length]; exact k.int
    · cases e
      obtain ⟨a, vs, e1, ha, hl, hr⟩ := rr
      subst e1
      refine ⟨_, vs.length, rfl, .inr ⟨vs, .of ha, rfl⟩, ?_⟩
      rw [hr.length]; exact k.int
    · cases e
  · cases h
    obtain ⟨v, ev, rr⟩ := reps1 r
    subst ev
    obtain ⟨a, vs, q', e1, ha, hl, hr, ho⟩ := rr
    subst e1
    exact ⟨a, vs, rfl, .inl (.of ha), k.lst hr (nd.sublist (own_sub ho)) (fun x hx => (own_sub ho).subset hx) hl (live_ne hr)⟩
  · cases h
    obtain ⟨v, ev, rr⟩ := reps1 r
    subst ev
    obtain ⟨a, vs, e1, ha, hl, hr⟩ := rr
    subst e1
    exact ⟨a, vs, rfl, .inr (.of ha), k.lst hr nd (fun x hx => hx) hl (live_ne hr)⟩
  · cases h
    obtain ⟨v, ev, rr⟩ := reps1 r
    subst ev
    obtain ⟨a, vs, q', e1, ha, hl, hr, ho⟩ := rr
    subst e1
    exact ⟨a, vs, rfl, .inl ⟨.of ha, k.tup hr (nd.sublist (own_sub ho)) (fun x hx => (own_sub ho).subset hx) hl⟩⟩
  · cases h
    obtain ⟨v, ev, rr⟩ := reps1 r
    subst ev
    have r0 := rr
    obtain ⟨a, vs, e1, ha, hl, hr⟩ := rr
    subst e1
    exact ⟨a, vs, rfl, .inr ⟨.of ha, k.same r0 nd fun x hx => hx⟩⟩
  · cases h
    obtain ⟨v, ev, rr⟩ := reps1 r
    subst ev
    obtain ⟨e, _⟩ := rr
    subst e
    exact .inl ⟨_, rfl, k.int⟩
  · cases h
    obtain ⟨v, ev, rr⟩ := reps1 r
    subst ev
    obtain ⟨e, _⟩ := rr
    subst e
    exact ⟨_, rfl, k.int⟩
  · cases h
    obtain ⟨v, u, p1, p2, ev, _, r1, r2⟩ := reps2 r
    subst ev
    obtain ⟨e1, _⟩ := r1; obtain ⟨e2, _⟩ := r2
    subst e1 e2
    exact ⟨_, _, rfl, k.int⟩
  · cases h
    obtain ⟨v, u, p1, p2, ev, _, r1, r2⟩ := reps2 r
    subst ev
    obtain ⟨e1, _⟩ := r1; obtain ⟨e2, _⟩ := r2
    subst e1 e2
    exact ⟨_, _, rfl, k.int⟩
  · obtain ⟨c, rfl⟩ := guard_ok h
    obtain ⟨v, ev, rr⟩ := reps1 r
    subst ev
    obtain ⟨a, vs, q', e1, ha, hl, hr, ho⟩ := rr
    subst e1
    have e := Reps.ints c hr
    subst e
    exact ⟨a, _, rfl, .of ha, k.int⟩
  · obtain ⟨c, rfl⟩ := guard_ok h
    obtain ⟨v, ev, rr⟩ := reps1 r
    subst ev
    obtain ⟨a, vs, q', e1, ha, hl, hr, ho⟩ := rr
    subst e1
    have e := Reps.bls c hr
    subst e
    exact ⟨a, _, rfl, .of ha, k.bl⟩
  · obtain ⟨c, rfl⟩ := guard_ok h
    obtain ⟨v, ev, rr⟩ := reps1 r
    subst ev
    obtain ⟨a, vs, q', e1, ha, hl, hr, ho⟩ := rr
    subst e1
    have e := Reps.bls c hr
    subst e
    exact ⟨a, _, rfl, .of ha, k.bl⟩
  · obtain ⟨c, rfl⟩ := guard_ok h
    obtain ⟨v, ev, rr⟩ := reps1 r
    subst ev
    rename_i t xs
    obtain ⟨a, vs, q', e1, ha, hl, hr, ho⟩ := rr
    subst e1
    have hs : PyData.canLay0 (.list (D.erases xs)) = true := rep_lay c
    exact .inl ⟨a, .list (D.erases xs), rfl, Rep.dp K (.lst t xs) hs ⟨a, vs, q', rfl, ha, hl, hr, ho⟩, c, k.plain ⟨rfl, rfl⟩⟩
  · obtain ⟨c, rfl⟩ := guard_ok h
    obtain ⟨v, ev, rr⟩ := reps1 r
    subst ev
    rename_i xs
    obtain ⟨a, vs, e1, ha, hl, hr⟩ := rr
    subst e1
    have hs : PyData.canLay0 (.tuple (D.erases xs)) = true := rep_lay c
    exact .inl ⟨a, .tuple (D.erases xs), rfl, Rep.dp K (.tup xs) hs ⟨a, vs, rfl, ha, hl, hr⟩, c, k.plain ⟨rfl, rfl⟩⟩
  · cases h
    obtain ⟨v, ev, rr⟩ := reps1 r
    subst ev
    rw [rr.1]
    exact .inr (.inl ⟨rfl, k.plain ⟨rfl, rfl⟩⟩)
  · cases h
    obtain ⟨v, ev, rr⟩ := reps1 r
    subst ev
    rw [rr.1]
    exact .inr (.inr (.inl ⟨_, rfl, k.plain ⟨rfl, rfl⟩⟩))
  · obtain ⟨c, rfl⟩ := guard_ok h
    obtain ⟨v, ev, rr⟩ := reps1 r
    subst ev
    rw [rr.1]
    exact .inr (.inr (.inr (.inl ⟨_, rfl, of_decide_eq_true c, k.plain ⟨rfl, rfl⟩⟩)))
  · obtain ⟨c, rfl⟩ := guard_ok h
    obtain ⟨v, ev, rr⟩ := reps1 r
    subst ev
    rw [rr.1]
    exact .inr (.inr (.inr (.inr (.inl ⟨_, rfl, by rw [← maxLen_eq]; exact Nat.ble_eq.mp c, k.plain ⟨rfl, rfl⟩⟩))))
  · cases h
    obtain ⟨v, ev, rr⟩ := reps1 r
    subst ev
    obtain ⟨a, vs, q', e1, ha, hk, hl, hr, ho⟩ := rr
    subst e1
    exact .inr (.inr (.inr (.inr (.inr ⟨a, rfl, ha, k.plain ⟨rfl, rfl⟩⟩))))
  · split at h
    · rename_i r0 e0
      cases h
      obtain ⟨v, ev, rr⟩ := reps1 r
      subst ev
      obtain ⟨a, vs, q', e1, ha, hl, hr, ho⟩ := rr
      subst e1
      obtain ⟨ps, kvs, w2, t1, t2, t3, t4, t5, t6, t7⟩ := merge_ok (K := K) hr rfl .nil e0
      refine ⟨a, ps, kvs, rfl, .of (by rw [← t1]; exact ha), t2, fun p hp => ?_⟩
      have t3 : mergeK [] kvs = r0.1.zip w2 := t3
      rw [t3]
      refine k (.ref p) _ [p] (ext_upd hp) ⟨p, w2, [], rfl, upd_same, t4, ?_, t6.ext (ext_upd hp), .inl ⟨rfl, rfl⟩⟩ (by simp) fun b hb => .inr (by rw [List.mem_singleton.mp hb]; exact hp)
      have := hr.length
      have t5 : w2.length ≤ 0 + _ := t5
      omega
    · cases h
  · cases h

/-! ### isinstance -/
def tyN : Ty → String | .int => "int" | .bool => "bool" | .str => "str" | .list => "list" | .tuple => "tuple" | .dict => "dict" | .non => "NoneType"
theorem ty_rep {K : PySem.W.Frag} {d : D} {v : V} {p : List Addr} {t : Ty} {b : Bool} (h : tyD d t = .ok b) (r : Rep z B H d v p) : ∃ u, TyX K H v u ∧ ∀ t' b', tyD d t' = .ok b' → t' ≠ .non → PySem.W.kitOne K u (.type (tyN t')) = some b' := by
  cases d with
  | strm => cases h
  | non => rw [r.1]; exact ⟨_, .base .non, fun t' b' h n => by cases t' <;> first | exact absurd rfl n | (cases h; exact kit_ty (by decide +kernel))⟩
  | bl b => rw [r.1]; exact ⟨_, .base (.bl b), fun t' b' h n => by cases t' <;> first | exact absurd rfl n | (cases h; exact kit_ty (by decide +kernel))⟩
  | int i => rw [r.1]; exact ⟨_, .base (.int i), fun t' b' h n => by cases t' <;> first | exact absurd rfl n | (cases h; exact kit_ty (by decide +kernel))⟩
  | str x => rw [r.1]; exact ⟨_, .base (.str x), fun t' b' h n => by cases t' <;> first | exact absurd rfl n | (cases h; exact kit_ty (by decide +kernel))⟩
  | lst t xs =>
    obtain ⟨a, vs, q', e1, ha, hl, hr, ho⟩ := r
    rw [e1]
    exact ⟨_, .base (.lst ha), fun t' b' h n => by cases t' <;> first | exact absurd rfl n | (cases h; exact kit_ty (by decide +kernel))⟩
  | tup xs =>
    obtain ⟨a, vs, e1, ha, hl, hr⟩ := r
    rw [e1]
    exact ⟨_, .base (.tup ha), fun t' b' h n => by cases t' <;> first | exact absurd rfl n | (cases h; exact kit_ty (by decide +kernel))⟩
  | dk t ks xs =>
    obtain ⟨a, vs, q', e1, ha, hk, hl, hr, ho⟩ := r
    rw [e1]
    exact ⟨_, .base (.dK ha), fun t' b' h n => by cases t' <;> first | exact absurd rfl n | (cases h; exact kit_ty (by decide +kernel))⟩
end
end VL
end

/-! text: VRevT -/
section
set_option autoImplicit false
/-! VRevT: t[::-1], t a tuple. -/
namespace VL
open PySem PySem.Spec PyProof.Rows L2

theorem fm_congr {α β : Type} {f g : α → Option β} : ∀ {l : List α}, (∀ x ∈ l, f x = g x) → l.filterMap f = l.filterMap g
  | [], _ => rfl
  | a :: l, h => by rw [List.filterMap_cons, List.filterMap_cons, h a List.mem_cons_self, fm_congr fun x hx => h x (List.mem_cons_of_mem _ hx)]
theorem pick_back (xs : List Value) : (List.range xs.length).filterMap (fun (k : Nat) => xs.toArray[((xs.length : Int) - 1 + (k : Int) * (-1)).toNat]?) = xs.reverse := by
  have h : ∀ ys : List Value, (List.range ys.length).filterMap (fun (k : Nat) => ys[ys.length - 1 - k]?) = ys.reverse := fun ys => by
    induction ys with
    | nil => rfl
    | cons y ys ih =>
      rw [List.length_cons, List.range_succ, List.filterMap_append, List.reverse_cons]
      congr 1
      · rw [← ih]
        refine fm_congr fun k hk => ?_
        have hk := List.mem_range.mp hk
        rw [show ys.length + 1 - 1 - k = (ys.length - 1 - k) + 1 by omega, List.getElem?_cons_succ]
      · simp
  rw [← h xs]
  refine fm_congr fun k hk => ?_
  have hk := List.mem_range.mp hk
  rw [show ((xs.length : Int) - 1 + (k : Int) * (-1)).toNat = xs.length - 1 - k by omega]
  simp
theorem adj_back (n : Nat) : Builtin.Slice.sliceAdjust none none (-1) (n : Int) = ((n : Int) - 1, -1) := by
  unfold Builtin.Slice.sliceAdjust
  rfl
theorem places_back (n : Nat) : Builtin.Slice.slicePlaces ((n : Int) - 1) (-1) (-1) = n := by
  unfold Builtin.Slice.slicePlaces
  have h1 : ¬ ((-1 : Int) > 0) := by omega
  simp only [h1, if_false]
  split
  · have : ((n : Int) - 1 - -1 - 1) / (- -1) + 1 = n := by rw [show (- -1 : Int) = 1 from rfl, Int.ediv_one]; omega
    rw [this]; rfl
  · have : n = 0 := by omega
    subst this; rfl
section
variable {P : Program} {w : World} {A : Around} {E : Value → Shared → Prop} {st : Shared}
theorem applied_back {sl : Addr} {va vb vc : Value} {n : Nat} {Q : Int × Int × Nat → Shared → Prop} (hs : st.heap.IsSliceOf sl va vb vc) (pa : IsPart va none) (pb : IsPart vb none) (pc : IsPart vc (some (-1)))
    (h : Q ((n : Int) - 1, -1, n) st) : wpAny (model P w) A (Builtin.Slice.sliceApplied (.ref sl) (pure (n : Int))) Q E st := by
  obtain ⟨o, ho, hc, hd⟩ := id hs
  unfold Builtin.Slice.sliceApplied Builtin.Slice.sliceFields
  refine wpAny_bind (wpAny_bind (wpAny_field ho hd (x := va) rfl (wpAny_bind (wpAny_field ho hd (x := vb) rfl (wpAny_bind (wpAny_field ho hd (x := vc) rfl (wpAny_pure ?_)))))))
  refine wpAny_bind (HT.slicePart_ pc ?_)
  show wpAny _ _ (if ((-1 : Int) == 0) = true then _ else _) _ _ st
  rw [if_neg (by decide)]
  refine wpAny_bind (HT.slicePart_ pa (wpAny_bind (HT.slicePart_ pb (wpAny_bind (wpAny_pure ?_)))))
  show wpAny _ _ (match Builtin.Slice.sliceAdjust none none (-1) (n : Int) with | (lo, hi) => pure (lo, (-1 : Int), Builtin.Slice.slicePlaces lo hi (-1))) _ _ st
  rw [adj_back]
  show wpAny _ _ (pure ((n : Int) - 1, (-1 : Int), Builtin.Slice.slicePlaces ((n : Int) - 1) (-1) (-1))) _ _ st
  rw [places_back]
  exact wpAny_pure h
theorem tuple_back {t sl : Addr} {xs : List Value} {va vb vc : Value} {Q : Value → Shared → Prop} (ht : IsTup st.heap t xs.toArray) (hs : st.heap.IsSliceOf sl va vb vc) (pa : IsPart va none) (pb : IsPart vb none) (pc : IsPart vc (some (-1))) (hz : xs.length ≤ sizeLine)
    (h : Q (.ref st.heap.objs.size) { st with heap := st.heap.push { cls := .type "tuple", data := .seq xs.reverse.toArray } }) : wpAny (model P w) A (getItem (.ref t) (.ref sl)) Q E st := by
  have fits : sizeOk (.seq xs.reverse.toArray) := by show xs.reverse.toArray.size ≤ sizeLine; simpa using hz
  obtain ⟨o, ho, hc, hd⟩ := id hs
  have sT : st.TypeIs (.ref sl) "slice" := ⟨o, ho, hc⟩
  unfold getItem
  try with_reducible refine wpAny_holding ?_
  first | refine wpAny_bind (wpAny_pure ?_) | skip
  refine wpAny_bind (wpAny_sequenceKey ht.typeIs (by decide) (wpAny_bind (wpAny_callSpecial?_slot (name := Str.ofString "__getitem__") ht.typeIs PyProof.Rows.slot_tuple_getitem (wpAny_call_entry PyProof.Rows.slot_tuple_getitem ht.typeIs entry_tuple_getitem ?_ (args_tuple_getitem _ _)))))
  show wpAny _ _ (Builtin.Tuple.tupleItemsOf (.ref t) >>= _) _ _ st
  refine wpAny_bind (tupleItemsOf_ ht (wpAny_bind (wpAny_typeOf sT ?_)))
  rw [if_pos (by decide)]
  have sz : xs.toArray.size = xs.length := List.size_toArray ..
  rw [sz]
  refine wpAny_bind (applied_back hs pa pb pc ?_)
  show wpAny _ _ (if (((xs.length : Int) - 1) == 0 && (-1 : Int) == 1 && xs.length == xs.length) = true then _ else _) _ _ st
  have no : ¬ ((((xs.length : Int) - 1) == 0 && (-1 : Int) == 1 && xs.length == xs.length) = true) := by
    have : ((-1 : Int) == 1) = false := by decide
    rw [this]
    simp
  rw [if_neg no]
  show wpAny _ _ (Builtin.Tuple.tupleExact ((List.range xs.length).filterMap fun (k : Nat) => xs.toArray[((xs.length : Int) - 1 + (k : Int) * (-1)).toNat]?).toArray >>= _) _ _ st
  rw [pick_back]
  first
    | exact wpAny_bind (m := Builtin.Tuple.tupleExact _) (wpAny_newObj_type (wpAny_pure ⟨_, rfl, wpAny_pure h⟩) fits)
    | exact wpAny_bind (m := Builtin.Tuple.tupleExact _) (wpAny_newObj_type (wpAny_bind (wpAny_pure (wpAny_pure ⟨_, rfl, wpAny_pure h⟩))) fits)
    | exact wpAny_bind (wpAny_bind (m := Builtin.Tuple.tupleExact _) (wpAny_newObj_type (wpAny_pure (wpAny_pure ⟨_, rfl, wpAny_pure h⟩)) fits))
    | exact wpAny_bind (wpAny_bind (m := Builtin.Tuple.tupleExact _) (wpAny_newObj_type (wpAny_pure ⟨_, rfl, wpAny_pure h⟩) fits))
end
def tRevT (K : PySem.W.Frag) (te : TE) : TE := fun σ H Q => te σ H fun x H1 => ∃ a xs, x = .ref a ∧ SqT K H1 a xs ∧ ∀ p, H1 p = none → Q (.ref p) (upd H1 p (.tup xs.reverse))
theorem pe_revT {X : Cx} {e : PySem.Expr} {te : TE} {k : Nat} {p1 p2 p3 pos : Pos} (he : PE X e te) : PE X (.Subscript e (.Slice none none (some (.UnaryOp .USub (.Constant (.int 1) k p1) p2)) p3) pos) (tRevT X.K te) := by
  refine ⟨fun pins st σ H Q I h => Subscript_ (thn (he.run pins st σ H _ I h) fun v s1 ⟨x, H1, I1, r1, a, xs, ex, hx, q⟩ => ?_)⟩
  subst ex
  obtain rfl : v = Value.ref a := r1
  have step : PO X (some (.UnaryOp .USub (.Constant (.int 1) k p1) p2)) (tPart (tUn (rU fun i => .int (-i)) (tC (.int 1)))) := po_some (pe_un un_neg pe_int)
  refine wpAny_Slice (thn (po_none.run pins s1 σ H1 (fun o H2 => o = none ∧ H2 = H1) I1 ⟨rfl, rfl⟩) fun va s2 ⟨oa, H2, I2, pa, ea, e2⟩ => ?_)
  subst ea e2
  refine thn (po_none.run pins s2 σ H2 (fun o H3 => o = none ∧ H3 = H2) I2 ⟨rfl, rfl⟩) fun vb s3 ⟨ob, H3, I3, pb, eb, e3⟩ => ?_
  subst eb e3
  refine thn (step.run pins s3 σ H3 (fun o H4 => o = some (-1) ∧ H4 = H3) I3 ⟨1, rfl, -1, rfl, rfl, rfl⟩) fun vc s4 ⟨oc, H4, I4, pc, ec, e4⟩ => ?_
  subst ec e4
  have I5 : Inv X pins σ H4 { s4 with heap := s4.heap.push { cls := .type "slice", data := .fields #[va, vb, vc] } } := I4.kept (t' := s4.toks) fun b o q => Heap.get?_push_of_some _ q
  obtain ⟨its, r, ht, hz⟩ := I5.tuple hx
  have hlen := r.length
  show wpAny (model X.prog X.w) X.A (subscriptTail e (.Slice none none (some (.UnaryOp .USub (.Constant (.int 1) k p1) p2)) p3) (.ref a) (.ref s4.heap.objs.size)) (EP X pins σ Q) X.xe { s4 with heap := s4.heap.push { cls := .type "slice", data := .fields #[va, vb, vc] } }
  refine tail_any (ops := [.ref a, .ref s4.heap.objs.size]) ht.typeIs (PyProof.Rows.slot_tuple_getitem.lookup) ?_ (by with_unfolding_all rfl)
  refine tuple_back ht (Heap.IsSliceOf.new _ va vb vc) pa pb pc (by omega) ?_
  exact ⟨.ref _, _, I5.laid (t' := s4.toks) (o := .tup xs.reverse) (fun b o q => Heap.get?_push_of_some _ q) (Nat.le_refl _) ⟨by rw [List.length_reverse]; exact hz, _, r.reverse, ⟨_, Heap.get?_push_size _ rfl, rfl, _, rfl⟩⟩, rfl, q _ (I5.hok.fresh (Nat.le_refl _))⟩
theorem pe_alt {X : Cx} {e : PySem.Expr} {t u : TE} (h : PE X e t) (k : PE X e u) : PE X e (fun σ H Q => t σ H Q ∨ u σ H Q) := ⟨fun pins s σ H Q I q => q.elim (h.run pins s σ H Q I) (k.run pins s σ H Q I)⟩
end VL
end

/-! text: VChk -/
section
set_option autoImplicit false
/-! VChk: does a text of the model's syntax say what a text of VE says? -/
namespace VL
open PySem PySem.Spec PyProof.Rows L2

structure SC where
  N : List Str
  sc : Scope
  fn : Str → Bool
def SC.blk (c : SC) (scope : Scope) : SC := ⟨c.N, relS scope c.sc, fun x => scope.names.lookup x == some .cell⟩
structure Sg where
  name : Str
  ps : List Str
structure KwU where
  f : Nat
  np : Nat
  ks : List Str
  perm : List Nat
  deriving DecidableEq
structure Tb where
  fns : List Sg
  kws : List KwU

def notStar : PySem.Expr → Bool | .Starred _ _ => false | _ => true
def plainT : PySem.Expr → Bool | .UnaryOp .Not _ _ => false | .BoolOp _ _ _ => false | .IfExp _ _ _ _ => false | .Compare _ _ _ _ => false | _ => true
def plainIx : PySem.Expr → Bool | .Slice _ _ _ _ => false | _ => true
def notSet : PySem.Expr → Bool | .Set _ _ _ => false | _ => true
def isTup : PySem.Expr → Bool | .Tuple _ _ _ => true | _ => false
def visB (c : SC) (x : Str) : Bool := match c.sc.names.lookup x with | some .local => true | some .cell => true | some .free => true | _ => false
def locB (c : SC) (x : Str) : Bool := match c.sc.names.lookup x with | some .local => true | some .cell => true | _ => false
def loc1 (c : SC) (x : Str) : Bool := match c.sc.names.lookup x with | some .local => true | _ => false
def globB (c : SC) (x : Str) : Bool := match c.sc.names.lookup x with | some .globalImplicit => true | _ => false
def okName (x : Str) : Bool := !(x == ("__debug__" : Str)) && !(x == ("__classdict__" : Str)) && !(x == ("__name__" : Str))
def nameAt (c : SC) (i : Nat) (x : Str) : Bool := decide (c.N[i]? = some x)

structure CM where
  E : SC → PySem.Expr → Bool
  L : SC → List PySem.Expr → Bool
  K : SC → List Str → List Keyword → Bool
  T : SC → PySem.Expr → Bool
  P : SC → Option PySem.Expr → Bool
  F : SC → List PySem.Expr → Bool
  I : SC → PySem.Expr → PySem.Expr → Bool
def noE : SC → PySem.Expr → Bool := fun _ _ => false
def noL : SC → List PySem.Expr → Bool := fun _ _ => false
def noK : SC → List Str → List Keyword → Bool := fun _ _ _ => false
def noP : SC → Option PySem.Expr → Bool := fun _ _ => false
def noI : SC → PySem.Expr → PySem.Expr → Bool := fun _ _ _ => false
def cT (E : SC → PySem.Expr → Bool) (c : SC) (x : PySem.Expr) : Bool := plainT x && E c x
def cP (E : SC → PySem.Expr → Bool) (c : SC) : Option PySem.Expr → Bool | some x => E c x | none => false
def cF (T : SC → PySem.Expr → Bool) (c : SC) : List PySem.Expr → Bool | [x] => T c x | _ => false
def cI (E : SC → PySem.Expr → Bool) (c : SC) (_ : PySem.Expr) (x : PySem.Expr) : Bool := E c x
def CM.of (E : SC → PySem.Expr → Bool) : CM := ⟨E, noL, noK, cT E, cP E, cF (cT E), cI E⟩
def CM.ofT (T E : SC → PySem.Expr → Bool) : CM := ⟨E, noL, noK, T, cP E, cF T, cI E⟩
def CM.ofL (L : SC → List PySem.Expr → Bool) (K : SC → List Str → List Keyword → Bool) : CM := ⟨noE, L, K, noE, noP, noL, noI⟩
def CM.ofI (I : SC → PySem.Expr → PySem.Expr → Bool) : CM := ⟨noE, noL, noK, noE, noP, noL, I⟩

def chkG (c : SC) : VG → PySem.Expr → Bool
  | .nm i, .Name x _ => nameAt c i x && locB c x && (c.fn x || loc1 c x)
  | .nil, .Tuple es _ _ => es.isEmpty
  | .cons g gs, .Tuple es k p => match es with
    | x :: es => chkG c g x && chkG c gs (.Tuple es k p)
    | [] => false
  | _, _ => false
def cBin (op : Op) (a b : CM) : SC → PySem.Expr → Bool
  | c, .BinOp x o y _ => decide (o = opP op) && a.E c x && b.E c y
  | _, _ => false
def cNeg (a : CM) : SC → PySem.Expr → Bool
  | c, .UnaryOp .USub x _ => a.E c x
  | _, _ => false
def cNotE (a : SC → PySem.Expr → Bool) : SC → PySem.Expr → Bool
  | c, .UnaryOp .Not x _ => a c x
  | _, _ => false
def cBool (op : BoolOp) (a b : SC → PySem.Expr → Bool) : SC → PySem.Expr → Bool
  | c, .BoolOp o [x, y] _ => decide (o = op) && a c x && b c y
  | c, .BoolOp o (x :: y :: w :: r) p => decide (o = op) && a c x && b c (.BoolOp op (y :: w :: r) p)
  | _, _ => false
def cCmp (k : Cm) (a b : CM) : SC → PySem.Expr → Bool
  | c, .Compare x [o] [y] _ => decide (o = cmP k) && notSet y && a.E c x && b.E c y
  | _, _ => false
def cChain (k k' : Cm) (a b e : CM) : SC → PySem.Expr → Bool
  | c, .Compare x [o, o'] [y, z] _ => decide (o = cmP k) && decide (o' = cmP k') && notSet y && notSet z && a.E c x && b.E c y && e.E c z
  | _, _ => false
def cIfe (t a b : CM) : SC → PySem.Expr → Bool
  | c, .IfExp x y w _ => t.T c x && a.E c y && b.E c w
  | _, _ => false
def cLst (a : CM) : SC → PySem.Expr → Bool
  | c, .List es _ => a.L c es
  | _, _ => false
def cTup (a : CM) : SC → PySem.Expr → Bool
  | c, .Tuple es _ _ => a.L c es
  | _, _ => false
def cIx (a b : CM) : SC → PySem.Expr → Bool
  | c, .Subscript x y _ => plainIx y && a.E c x && b.E c y
  | _, _ => false
def cSl (a lo hi : CM) : SC → PySem.Expr → Bool
  | c, .Subscript x (.Slice l h none _) _ => a.E c x && lo.P c l && hi.P c h
  | _, _ => false
def cRev (a : CM) : SC → PySem.Expr → Bool
  | c, .Subscript x (.Slice none none (some (.UnaryOp .USub (.Constant (.int 1) _ _) _)) _) _ => a.E c x
  | _, _ => false
def ownP (c : SC) (own : List Nat) : List (Str × Nat) := own.filterMap fun i => (c.N[i]?).map fun x => (x, i)
def cComp (own : List Nat) (g : VG) (it ifs elt : CM) : SC → PySem.Expr → Bool
  | c, .ListComp e [⟨tg, i, fs, 0⟩] scope _ => decide ((ownP c own).map (·.2) = own) && (g.slots.all fun i => decide (i ∈ own)) && blkC c.N c.sc scope (ownP c own) && notSet i && it.I c tg i && chkG (c.blk scope) g tg && ifs.F (c.blk scope) fs && elt.E (c.blk scope) e
  | _, _ => false
def cEmp (own : List Nat) (i : Nat) : SC → PySem.Expr → Bool
  | c, .ListComp e [⟨tg, .Name y p, fs, 0⟩] scope pos => decide ((ownP c own).map (·.2) = own) && blkC c.N c.sc scope (ownP c own) && (nameAt c i y && visB c y && okName y)
  | _, _ => false
def cCall (T : Tb) (f : Nat) (a : CM) : SC → PySem.Expr → Bool
  | c, .Call (.Name x _) es [] _ => decide ((T.fns[f]?).map (·.name) = some x) && globB c x && okName x && !es.isEmpty && es.all notStar && a.L c es
  | _, _ => false
def isNil : VE → Bool | .nil => true | _ => false
def cCallK (T : Tb) (f : Nat) (n : Bool) (a k : CM) (np : Nat) (ks : List Str) (perm : List Nat) : SC → PySem.Expr → Bool
  | c, .Call (.Name x _) es kws _ => decide ((T.fns[f]?).map (·.name) = some x) && globB c x && okName x && (!es.isEmpty || n) && es.all notStar && decide (⟨f, np, ks, perm⟩ ∈ T.kws) && a.L c es && k.K c ks kws
  | _, _ => false
def cBi (b : Bi) (a : CM) : SC → PySem.Expr → Bool
  | c, .Call (.Name x _) es [] _ => decide (x = (biN b).1) && globB c x && !es.isEmpty && es.all notStar && a.L c es
  | _, _ => false
def tyE : SC → Ty → PySem.Expr → Bool
  | c, t, .Name x _ => decide (t ≠ .non) && decide (x = Str.ofString (tyN t)) && globB c x
  | _, _, _ => false
def tysE (c : SC) : List Ty → List PySem.Expr → Bool
  | [], [] => true
  | t :: ts, x :: xs => tyE c t x && tysE c ts xs
  | _, _ => false
def tyArg (c : SC) : List Ty → PySem.Expr → Bool
  | [t], .Name x p => tyE c t (.Name x p)
  | ts, .Tuple es _ _ => !ts.isEmpty && decide (ts.length ≤ 100) && tysE c ts es
  | _, _ => false
def cIsi (a : CM) (ts : List Ty) : SC → PySem.Expr → Bool
  | c, .Call (.Name x _) [e, t] [] _ => decide (x = ("isinstance" : Str)) && globB c x && notStar e && a.E c e && tyArg c ts t
  | _, _ => false
def cNil : CM := ⟨noE, fun _ es => es.isEmpty, fun _ ks kws => ks.isEmpty && kws.isEmpty, noE, fun _ o => o.isNone, fun _ es => es.isEmpty, noI⟩
def cCons (a as : CM) (c : SC) : List PySem.Expr → Bool
  | x :: xs => notStar x && a.E c x && as.L c xs
  | [] => false
def cConsK (a as : CM) (c : SC) : List Str → List Keyword → Bool
  | k :: ks, kw :: kws => decide (kw.arg = some k) && a.E c kw.value && as.K c ks kws
  | _, _ => false
def cStar (a as : CM) (c : SC) : List PySem.Expr → Bool
  | .Starred x _ :: xs => a.E c x && as.L c xs
  | _ => false
def cRng1 (a : CM) : SC → PySem.Expr → PySem.Expr → Bool
  | c, _, .Call (.Name x _) [e] [] _ => decide (x = ("range" : Str)) && globB c x && notStar e && a.E c e
  | _, _, _ => false
def cRng2 (a b : CM) : SC → PySem.Expr → PySem.Expr → Bool
  | c, _, .Call (.Name x _) [e, e2] [] _ => decide (x = ("range" : Str)) && globB c x && notStar e && notStar e2 && a.E c e && b.E c e2
  | _, _, _ => false
def cZip (a b : CM) : SC → PySem.Expr → PySem.Expr → Bool
  | c, tg, .Call (.Name x _) [e, e2] [] _ => isTup tg && decide (x = ("zip" : Str)) && globB c x && notStar e && notStar e2 && a.E c e && b.E c e2
  | _, _, _ => false
def cKeys (a : CM) : SC → PySem.Expr → PySem.Expr → Bool
  | c, _, x => notSet x && a.E c x
def cEnum (a : CM) : SC → PySem.Expr → PySem.Expr → Bool
  | c, tg, .Call (.Name x _) [e] [] _ => isTup tg && decide (x = ("enumerate" : Str)) && globB c x && notStar e && a.E c e
  | _, _, _ => false

def chk (T : Tb) : VE → CM
  | .bad => ⟨fun _ _ => true, noL, noK, fun _ _ => true, fun _ o => o.isSome, noL, fun _ _ _ => false⟩
  | .name i => .of fun c x => match x with
    | .Name x _ => nameAt c i x && visB c x && okName x
    | _ => false
  | .non => .of fun _ x => match x with
    | .Constant .none _ _ => true
    | _ => false
  | .bl b => .of fun _ x => match x with
    | .Constant (.bool b') _ _ => decide (b' = b)
    | _ => false
  | .int i => .of fun _ x => match x with
    | .Constant (.int j) _ _ => decide (j = i)
    | _ => false
  | .str s => .of fun _ x => match x with
    | .Constant (.str s') _ _ => decide (s' = s)
    | _ => false
  | .bin op a b => .of (cBin op (chk T a) (chk T b))
  | .neg a => .of (cNeg (chk T a))
  | .not_ t => .ofT (cNotE (chk T t).T) (cNotE (chk T t).E)
  | .and_ a b => .ofT (cBool .And (chk T a).T (chk T b).T) (cBool .And (chk T a).E (chk T b).E)
  | .or_ a b => .ofT (cBool .Or (chk T a).T (chk T b).T) (cBool .Or (chk T a).E (chk T b).E)
  | .cmp k a b => .ofT (cCmp k (chk T a) (chk T b)) (cCmp k (chk T a) (chk T b))
  | .emp own i => .of (cEmp own i)
  | .chain k k' a b e => .ofT (cChain k k' (chk T a) (chk T b) (chk T e)) (cChain k k' (chk T a) (chk T b) (chk T e))
  | .ife t a b => .of (cIfe (chk T t) (chk T a) (chk T b))
  | .nil => cNil
  | .cons a as => .ofL (cCons (chk T a) (chk T as)) (cConsK (chk T a) (chk T as))
  | .star a as => .ofL (cStar (chk T a) (chk T as)) noK
  | .lst as => .of (cLst (chk T as))
  | .tup as => .of (cTup (chk T as))
  | .dnew => .of fun _ x => match x with
    | .Dict [] [] _ => true
    | _ => false
  | .ix a i => .of (cIx (chk T a) (chk T i))
  | .sl a lo hi => .of (cSl (chk T a) (chk T lo) (chk T hi))
  | .rev a => .of (cRev (chk T a))
  | .comp own g it ifs elt => .of (cComp own g (chk T it) (chk T ifs) (chk T elt))
  | .call f as => .of (cCall T f (chk T as))
  | .callK f as ks np names perm => .of (cCallK T f (isNil as) (chk T as) (chk T ks) np names perm)
  | .bi b as => .of (cBi b (chk T as))
  | .isi a ts => .of (cIsi (chk T a) ts)
  | .rng1 a => .ofI (cRng1 (chk T a))
  | .rng2 a b => .ofI (cRng2 (chk T a) (chk T b))
  | .zip a b => .ofI (cZip (chk T a) (chk T b))
  | .enum a => .ofI (cEnum (chk T a))
  | .keys a => .ofI (cKeys (chk T a))
end VL
end

/-! text: VGrd -/
section
set_option autoImplicit false
/-! VGrd: promises of defs that are called where no repr is under way (guards = some []). -/
namespace VL
open PySem PySem.Spec PyProof.Rows L2

structure FnG (P : Program) (w : World) (K : PySem.W.Frag) (mg : Str → Option Value) (base : Heap) (CX : CXT) (k : Nat) (f : Addr) (fd : FuncData) (ps : List Str) (sp : Sp) : Prop where
  len : ∀ vs H Q E, sp vs H Q E → vs.length = ps.length
  run : ∀ (A : Around) (gs : A.guards = some []) (outer : List Env) (st : Shared) (H : Hp) (ar : Args) (us : List Value) (vs : List V) (Q : VK) (E : XK), Room k A → Env0 P w K mg base A outer st H → BindsTo st fd ar (ps.zip us) → Vals vs us → sp vs H Q E → codeAny (model P w) A (.call (.ref f) ar) (CR CX outer P w H st Q E) st
section
variable {P : Program} {w : World} {K : PySem.W.Frag} {mg : Str → Option Value} {base : Heap} {CX : CXT} {j k : Nat} {f : Addr} {fd : FuncData} {ps : List Str} {sp sp' : Sp}
theorem _root_.L2.FnOk.fnG (F : FnOk P w K mg base CX k f fd ps sp) : FnG P w K mg base CX k f fd ps sp := ⟨F.len, fun A _ => F.run A⟩
end
section
variable {X : Cx} {CX : CXT} {k : Nat} {f : Addr} {fd : FuncData} {ps ks : List Str} {sp : Sp} {dvs : List V} {ds : List Value} {E : XK} {x : Str} {p pos : Pos} {e : PySem.Expr} {es : List PySem.Expr} {kws : List Keyword} {t tk : TA} {g : List Value → List Value → List Value} {gV : List V → List V → List V}
/-- what a call's end says, in the caller -/
def EndG (X : Cx) (pins : List (Addr × Obj)) (σ : L2.St) (Q : VK) (r : Result) (s2 : Shared) : Prop := match r with
    | .ok (.ret u) => EP X pins σ Q u s2
    | .ok _ => False
    | .error er => X.xe er s2
theorem end_call {pins : List (Addr × Obj)} {σ : L2.St} {H : Hp} {st : Shared} {Q : VK} (hp : Passes CX X E) (I : Inv X pins σ H st) (r : Result) (s2 : Shared) (hc : CR CX X.stack X.prog X.w H st Q E r s2) : EndG X pins σ Q r s2 := by
  match r, hc with
  | .error er, hc => exact hp pins σ H st er s2 I hc
  | .ok (.ret u), hc => exact I.after hc
  | .ok .next, hc => exact hc
  | .ok .brk, hc => exact hc
  | .ok .cont, hc => exact hc
theorem runG {pins : List (Addr × Obj)} {σ : L2.St} {H : Hp} {st : Shared} {Q : VK} {ar : Args} {us : List Value} {vs : List V} (hgu : X.A.guards = some []) (F : FnG X.prog X.w X.K X.mg X.base CX k f fd ps sp) (hr : Room k X.A) (hp : Passes CX X E)
    (I : Inv X pins σ H st) (hb : BindsTo st fd ar (ps.zip us)) (r : Vals vs us) (h : sp vs H Q E) : codeAny (model X.prog X.w) X.A (.call (.ref f) ar) (EndG X pins σ Q) st :=
  codeAny_mono (F.run X.A hgu X.stack st H ar us vs Q E hr I.env0 hb r h) fun r s2 hc => end_call hp I r s2 hc
theorem fnG_pos {pins : List (Addr × Obj)} {σ : L2.St} {H : Hp} {st : Shared} {Q : VK} {us : List Value} {vs : List V} (hgu : X.A.guards = some []) (F : FnG X.prog X.w X.K X.mg X.base CX k f fd ps sp) (hr : Room k X.A) (hb : Binds X.K fd ps []) (hp : Passes CX X E)
    (I : Inv X pins σ H st) (r : Vals vs us) (h : sp vs H Q E) : wpAny (model X.prog X.w) X.A (call (.ref f) us) (EP X pins σ Q) X.xe st := by
  have hl : (us ++ []).length = ps.length := by rw [List.append_nil, ← r.length]; exact F.len _ _ _ _ h
  have b := hb st us I.kIn hl
  rw [List.append_nil] at b
  refine wpAny_call (codeAny_mono (runG hgu F hr hp I b r h) fun o s2 hc => ?_)
  match o, hc with
  | .error _, hc => exact hc
  | .ok (.ret _), hc => exact hc
  | .ok .next, hc => exact False.elim hc
  | .ok .brk, hc => exact False.elim hc
  | .ok .cont, hc => exact False.elim hc
theorem fnG_kw {pins : List (Addr × Obj)} {σ : L2.St} {H : Hp} {st : Shared} {Q : VK} {us ws : List Value} {vs zs : List V} (hgu : X.A.guards = some []) (F : FnG X.prog X.w X.K X.mg X.base CX k f fd ps sp) (hr : Room k X.A) (hb : KBinds X.K fd ps ks g gV) (hp : Passes CX X E)
    (I : Inv X pins σ H st) (r : Vals vs us) (rz : Vals zs ws) (h : sp (gV vs zs) H Q E) : wpAny (model X.prog X.w) X.A (call (.ref f) us (ks.zip ws)) (EP X pins σ Q) X.xe st := by
  have rr := hb.rel r rz
  have hl : (g us ws).length = ps.length := by rw [← rr.length]; exact F.len _ _ _ _ h
  refine wpAny_call (codeAny_mono (runG hgu F hr hp I (hb.to st us ws I.kIn hl) rr h) fun o s2 hc => ?_)
  match o, hc with
  | .error _, hc => exact hc
  | .ok (.ret _), hc => exact hc
  | .ok .next, hc => exact False.elim hc
  | .ok .brk, hc => exact False.elim hc
  | .ok .cont, hc => exact False.elim hc
/-- f(e, ..) -/
theorem pe_callG (hgu : X.A.guards = some []) (F : FnG X.prog X.w X.K X.mg X.base CX k f fd ps sp) (hr : Room k X.A) (hg : Gl X x) (hm : X.mg x = some (.ref f)) (hk : PySem.W.keepIn X.K (.ref f) = true) (hb : Binds X.K fd ps []) (hp : Passes CX X E)
    (ha : PA X (e :: es) t) (hdb : (x == ("__debug__" : Str)) = false) (he : starEach (e :: es) X.env = (false, eval e X.env) :: starEach es X.env) (hpl : (backTo pos (starEach es X.env)).any (·.1) = false) :
    PE X (.Call (.Name x p) (e :: es) [] pos) (fun σ H Q => t σ H fun vs H1 => sp vs H1 Q E) :=
  ⟨fun pins st σ H Q I h => wpAny_Call_Name_kw (ld_glob I hg hm (PySem.W.callWith_K (h₀ := X.base) I.ok.mod.kin hk (thn (ha.run pos pins st σ H _ I h) fun us s1 ⟨vs, H1, I1, r, q⟩ => ⟨I1.kIn, fnG_pos hgu F hr hb hp I1 r q⟩) he hpl) hdb)⟩
/-- f(e, .., k = v, ..) -/
theorem pe_callKG (hgu : X.A.guards = some []) (F : FnG X.prog X.w X.K X.mg X.base CX k f fd ps sp) (hr : Room k X.A) (hg : Gl X x) (hm : X.mg x = some (.ref f)) (hk : PySem.W.keepIn X.K (.ref f) = true) (hb : KBinds X.K fd ps ks g gV) (hp : Passes CX X E)
    (ha : PA X (e :: es) t) (hkw : PK X kws tk) (hall : (backToKw pos (keywordEach kws X.env)).all (·.1.isSome) = true) (hks : (backToKw pos (keywordEach kws X.env)).filterMap (·.1) = ks)
    (hdb : (x == ("__debug__" : Str)) = false) (he : starEach (e :: es) X.env = (false, eval e X.env) :: starEach es X.env)
    (hpl : ((backTo pos (starEach (e :: es) X.env)).any (·.1) || (backToKw pos (keywordEach kws X.env)).any (·.1.isNone)) = false) :
    PE X (.Call (.Name x p) (e :: es) kws pos) (fun σ H Q => t σ H fun vs H1 => tk σ H1 fun zs H2 => sp (gV vs zs) H2 Q E) :=
  ⟨fun pins st σ H Q I h => wpAny_Call_Name_kw (ld_glob I hg hm (PySem.W.callWith_KW (h₀ := X.base) I.ok.mod.kin hk hall (thn (ha.run pos pins st σ H _ I h) fun us s1 ⟨vs, H1, I1, r, q⟩ =>
    thn (hkw.run pos pins s1 σ H1 _ I1 q) fun ws s2 ⟨zs, H2, I2, rz, q2⟩ => ⟨I2.kIn, by rw [hks]; exact fnG_kw hgu F hr hb hp I2 r rz q2⟩) hpl he) hdb)⟩
theorem pe_callK0G (hgu : X.A.guards = some []) (F : FnG X.prog X.w X.K X.mg X.base CX k f fd ps sp) (hr : Room k X.A) (hg : Gl X x) (hm : X.mg x = some (.ref f)) (hk : PySem.W.keepIn X.K (.ref f) = true) (hb : KBinds X.K fd ps ks g gV) (hp : Passes CX X E) (hkw : PK X kws tk)
    (hall : (backToKw pos (keywordEach kws X.env)).all (·.1.isSome) = true) (hks : (backToKw pos (keywordEach kws X.env)).filterMap (·.1) = ks) (hdb : (x == ("__debug__" : Str)) = false)
    (hpl : (backToKw pos (keywordEach kws X.env)).any (·.1.isNone) = false) : PE X (.Call (.Name x p) [] kws pos) (fun σ H Q => tk σ H fun zs H2 => sp (gV [] zs) H2 Q E) :=
  ⟨fun pins st σ H Q I h => wpAny_Call_Name_kw (ld_glob I hg hm (PySem.W.callWith_KW0 (h₀ := X.base) I.ok.mod.kin hk hall (thn (hkw.run pos pins st σ H _ I h) fun ws s2 ⟨zs, H2, I2, rz, q2⟩ => ⟨I2.kIn, by rw [hks]; exact fnG_kw (us := []) hgu F hr hb hp I2 .nil rz q2⟩) (by rw [hpl]; rfl)) hdb)⟩
end
/-- a def's body keeps its promise -/
theorem fn_ofG {CX : CXT} {P : Program} {w : World} {K : PySem.W.Frag} {mg : Str → Option Value} {base : Heap} {k : Nat} {f : Addr} {name qual : Str} {params : Arguments} {body : List PySem.Stmt} {scope : Scope} {dV kV doc pm cdv ct oc : Value} {an od : Option Addr}
    {osl : Array (Option Value)} {N ps : List Str} {sp : Sp} (lk : K.lookup f = some ⟨oc, od, .func (PySem.W.fnOf name qual params body scope dV kV doc pm an cdv ct), osl⟩) (hcd : PySem.W.codeIn K cdv qual = true) (S : FnScope N ps scope)
    (len : ∀ vs H Q E, sp vs H Q E → vs.length = ps.length)
    (hbody : ∀ (A : Around) (outer : List Env) (s : Shared) (H : Hp) (vs : List V) (Q : VK) (E : XK), (A.deeper (envOfC qual scope s.heap.objs.size f cdv)).guards = some [] → Room k (A.deeper (envOfC qual scope s.heap.objs.size f cdv)) → sp vs H Q E →
      ∃ t, PSs (cxOf CX P w K mg base N qual scope f cdv A outer s H E) body t ∧ t { nx := fun _ H' => Q .non H', rt := Q } (L2.start N vs) H) :
    FnG P w K mg base CX (k + 1) f (PySem.W.fnOf name qual params body scope dV kV doc pm an cdv ct) ps sp where
  len := len
  run := fun A gs outer s H ar us vs Q E hr e0 hb rv h => by
    have hlen := len _ _ _ _ h
    have keep : ∀ b o, base.get? b = some o → s.heap.get? b = some o := fun b o e => (e0.bs b o e).1
    have KX := e0.mod.kin.keeps keep
    have kinds : ∀ y ∈ ps.zip us, scope.names.lookup y.1 = some .local ∨ (scope.names.lookup y.1 = some .cell ∧ ((cellsFrom (s.heap.objs.size + 1) scope.names []).lookup y.1).isSome = true) := fun y hy =>
      (S.par y.1 (List.of_mem_zip (a := y.1) (b := y.2) hy).1).imp id fun q => ⟨q, PySem.W.cellsFrom_some _ _ _ (.inl q)⟩
    refine codeAny_call_function hr.depth (KX _ _ lk) rfl S.co S.gen rfl (PySem.W.codeRec_of KX hcd) (hb _ _ _ _ (wpAny_newFunctionEnv_cells S.kind kinds ?_))
    rintro env rfl s1 x
    obtain ⟨t, ht, q⟩ := hbody A outer s H vs Q E gs (hr.deeper _) h
    have I : Inv (cxOf CX P w K mg base N qual scope f cdv A outer s H E) [] (L2.start N vs) H s1 := inv_start S hr.hd e0 hlen rv x
    refine ⟨(e0.mod.nolimit.keeps keep).keeps x.toInCall.keep, codeAny_func (wpAny_mono (ht.run [] s1 (L2.start N vs) H _ I q) (fun fl s' hs => ?_) fun e s' hs => hs)⟩
    match fl, hs with
    | .ret u, ⟨v, σ', H', J, rv, q⟩ => exact ⟨v, H', J.os, J.bare, J.base, J.hok, rv, q⟩
    | .next, ⟨σ', H', J, q⟩ => exact ⟨V.non, H', J.os, J.bare, J.base, J.hok, rfl, q⟩
    | .brk, ⟨_, _, _, q⟩ => exact False.elim q
    | .cont, ⟨_, _, _, q⟩ => exact False.elim q
end VL
end

/-! text: VSnd -/
section
set_option autoImplicit false
/-! VSnd: what a text of VE comes to is what the model's text comes to: expressions. -/
namespace VL
open PySem PySem.Spec PyProof.Rows L2

/-! ### readings -/
def tE (ev : VS → Res (D × VS)) : TE := fun σ H Q => ∃ w s d s', SRel w σ H s ∧ ev s = .ok (d, s') ∧ ∀ v H' w' fp, Step w H s σ w' H' s' → TV1 w' H' s' H d v fp → Q v H'
def tL (ev : VS → Res (List D × VS)) : TA := fun σ H Q => ∃ w s ds s', SRel w σ H s ∧ ev s = .ok (ds, s') ∧ ∀ vs H' w' fp, Step w H s σ w' H' s' → TV w' H' s' H ds vs fp → Q vs H'
def tT (ev : VS → Res (Bool × VS)) : TT := fun σ H Q => ∃ w s b s', SRel w σ H s ∧ ev s = .ok (b, s') ∧ ∀ H' w', Step w H s σ w' H' s' → Q b H'
def tP (ev : VS → Res (Option Int × VS)) : TO := fun σ H Q => ∃ w s o s', SRel w σ H s ∧ ev s = .ok (o, s') ∧ ∀ H' w', Step w H s σ w' H' s' → Q o H'

/-! ### what is walked -/
inductive Elt where
  | one (v : V) | pair (v u : V)
def Elts (z : Option Addr) (B : TB) (H : Hp) : List D → List Elt → List Addr → Prop
  | [], es, fp => es = [] ∧ fp = []
  | d :: ds, es, fp => ∃ e r p q, es = e :: r ∧ fp = p ++ q ∧ (match e with
      | .one v => Rep z B H d v p
      | .pair v u => ∃ x y p1 p2, d = .tup [x, y] ∧ p = p1 ++ p2 ∧ Rep z B H x v p1 ∧ Rep z B H y u p2) ∧ Elts z B H ds r q
def YE (es : List Elt) : Nat → Hp → V → Hp → Prop := fun i H x H' => match es[i]? with
  | some (.one v) => H' = H ∧ x = v
  | some (.pair v u) => ∃ T, x = .ref T ∧ H T = none ∧ H' = upd H T (.tup [v, u])
  | none => True
/-- J walks es while the objects at A stand as they do in H -/
def Walks (J : It) (H : Hp) (es : List Elt) (A : List Addr) : Prop := L2.Walk J es.length (fun H' => ∀ a ∈ A, H' a = H a) (YE es)
/-- the objects at A: tuples, or lists that the sources tell -/
def AOk (w : Wd) (H : Hp) (s : VS) (srcs : List D) (fp : List Addr) (A : List Addr) : Prop := ∀ a ∈ A, (∃ xs, H a = some (.tup xs)) ∨ a ∈ fp ∨ ∃ t, has srcs t = true ∧ t ≠ .own ∧ BW w s.ρ t a
def tI (ev : VS → Res ((List D × List D) × VS)) : TI := fun σ H R => ∃ w s ds srcs s', SRel w σ H s ∧ ev s = .ok ((ds, srcs), s') ∧
  ∀ J H' w' es A fa fp, Step w H s σ w' H' s' → Walks J H' es A → (∀ a ∈ A, H' a ≠ none) → AOk w' H' s' srcs fa A → Elts w'.za (BW w' s'.ρ) H' ds es fp → (fa ++ fp).Nodup →
    (∀ a ∈ fa ++ fp, H a = none ∧ ¬ w'.F a ∧ ¬ inO w' a ∧ ¬ zs w'.z a) → (∀ a ∈ fa ++ fp, ∃ o, H' a = some o ∧ mutO o = true) → R J H'

/-! ### the context -/
def gK (u : KwU) (us ws : List Value) : List Value := if us.length = u.np ∧ ws.length = u.ks.length then u.perm.filterMap fun i => (us ++ ws)[i]? else []
def gKV (u : KwU) (us ws : List V) : List V := if us.length = u.np ∧ ws.length = u.ks.length then u.perm.filterMap fun i => (us ++ ws)[i]? else []
/-- what a def of the table promises -/
def spV (Φ : Calls) (k n : Nat) : Sp := fun vs H Q _ => vs.length = n ∧ ∃ w ds st r st', (∀ i, w.O i = []) ∧ SRel w [] H ⟨[], st⟩ ∧ Reps w.za (BF w.F) H ds vs [] ∧ Φ k ds st = .ok (r, st') ∧
  ∀ v H' w' fp, (∀ i, w'.O i = []) → Step w H ⟨[], st⟩ [] w' H' ⟨[], st'⟩ → Rep w'.za (BF w'.F) H' r v fp → fp.Nodup → (∀ a ∈ fp, H a = none ∧ ¬ w'.F a ∧ ¬ zs w'.z a) → Q v H'
structure FnV (T : Tb) (Φ : Calls) (X : Cx) (k : Nat) (g : Sg) : Prop where
  ar : ∀ ds st r, Φ k ds st = .ok r → ds.length = g.ps.length
  ex : ∃ (f : Addr) (fd : FuncData) (lev : Nat), X.mg g.name = some (.ref f) ∧ PySem.W.keepIn X.K (.ref f) = true ∧ Room lev X.A ∧ FnG X.prog X.w X.K X.mg X.base CX0 lev f fd g.ps (spV Φ k g.ps.length) ∧ Binds X.K fd g.ps [] ∧
    ∀ u ∈ T.kws, u.f = k → KBinds X.K fd g.ps u.ks (gK u) (gKV u)
def builtN : List Str := ["len", "list", "tuple", "int", "abs", "min", "max", "sum", "any", "all", "isinstance", "range", "zip", "enumerate", "bool", "str", "dict", "repr", "sorted"]
structure Good (T : Tb) (Φ : Calls) (X : Cx) (c : SC) : Prop where
  N : X.N = c.N
  sc : X.env.scope = c.sc
  nd : c.N.Nodup
  calm : X.calm = true
  fn : ∀ x, c.fn x = true → X.fn x = true
  hu : X.A.units + 65 < cLine
  gs : X.A.guards = some []
  blt : ∀ x ∈ builtN, X.mg x = none
  fns : ∀ k g, T.fns[k]? = some g → FnV T Φ X k g
structure SM (T : Tb) (Φ : Calls) (m : Modes) (k : CM) : Prop where
  E : ∀ X c, Good T Φ X c → ∀ x, k.E c x = true → PE X x (tE m.E)
  L : ∀ X c, Good T Φ X c → ∀ xs, k.L c xs = true → PA X xs (tL m.L)
  K : ∀ X c, Good T Φ X c → ∀ ks kws, k.K c ks kws = true → PK X kws (tL m.L) ∧ kws.map (·.arg) = ks.map some
  Tt : ∀ X c, Good T Φ X c → ∀ x, k.T c x = true → PT X x (tT m.T)
  P : ∀ X c, Good T Φ X c → ∀ o, k.P c o = true → PO X o (tP m.P)
  F : ∀ X c, Good T Φ X c → ∀ xs, k.F c xs = true → PTs X xs (tT m.F)
  I : ∀ X c, Good T Φ X c → ∀ tg x, k.I c tg x = true → PI X tg x (tI m.I) ∧ notSet x = true

/-! ### weakening a reading -/
theorem _root_.L2.PE.imp {X : Cx} {e : PySem.Expr} {t t' : TE} (h : PE X e t) (i : ∀ σ H Q, t' σ H Q → t σ H Q) : PE X e t' := ⟨fun pins s σ H Q I q => h.run pins s σ H Q I (i σ H Q q)⟩
theorem _root_.L2.PT.imp {X : Cx} {e : PySem.Expr} {t t' : TT} (h : PT X e t) (i : ∀ σ H Q, t' σ H Q → t σ H Q) : PT X e t' := ⟨fun pins s σ H Q I q => h.run pins s σ H Q I (i σ H Q q)⟩
theorem _root_.L2.PA.imp {X : Cx} {e : List PySem.Expr} {t t' : TA} (h : PA X e t) (i : ∀ σ H Q, t' σ H Q → t σ H Q) : PA X e t' := ⟨fun pos pins s σ H Q I q => h.run pos pins s σ H Q I (i σ H Q q)⟩
theorem _root_.L2.PK.imp {X : Cx} {e : List Keyword} {t t' : TA} (h : PK X e t) (i : ∀ σ H Q, t' σ H Q → t σ H Q) : PK X e t' := ⟨fun pos pins s σ H Q I q => h.run pos pins s σ H Q I (i σ H Q q)⟩
theorem PE.none {X : Cx} {e : PySem.Expr} {t : TE} (h : ∀ σ H Q, ¬ t σ H Q) : PE X e t := ⟨fun pins s σ H Q I q => (h σ H Q q).elim⟩
theorem tE_stuck : ∀ σ H Q, ¬ tE (fun _ => .stuck) σ H Q := fun σ H Q ⟨w, s, d, s', _, e, _⟩ => by cases e
theorem tT_stuck : ∀ σ H Q, ¬ tT (fun _ => .stuck) σ H Q := fun σ H Q ⟨w, s, d, s', _, e, _⟩ => by cases e

/-! ### building -/
section
variable {T : Tb} {Φ : Calls}
theorem isTrue_of {x : PySem.Expr} (h : plainT x = true) (env : Env) : ∀ whole, isTrue x env whole = (do let v ← whole; standAt x.pos; holding [v] (truthy v)) := by
  intro whole
  cases x with
  | UnaryOp op a p => cases op <;> first | rfl | cases h
  | BoolOp => cases h
  | IfExp => cases h
  | Compare => cases h
  | _ => rfl
theorem tru_of {m : VS → Res (D × VS)} {K : PySem.W.Frag} : ∀ σ H Q, tT (tOf m) σ H Q → tE m σ H fun x H' => ∃ k, TruV K x H' k ∧ Q k H' := fun σ H Q ⟨w, s, b, s', r, e, q⟩ => by
  obtain ⟨x, e1, e2⟩ := bind_ok e
  obtain ⟨b', e3, e4⟩ := bind_ok e2
  cases e4
  exact ⟨w, s, x.1, x.2, r, e1, fun v H' w' fp st t => ⟨b, tru_okD e3 t.rep, q H' w' st⟩⟩
theorem part_of {m : VS → Res (D × VS)} : ∀ σ H Q, tP (pOf m) σ H Q → tPart (tE m) σ H Q := fun σ H Q ⟨w, s, o, s', r, e, q⟩ => by
  obtain ⟨x, e1, e2⟩ := bind_ok e
  obtain ⟨d, s1⟩ := x
  cases d with
  | int i =>
    cases e2
    exact ⟨w, s, .int i, s1, r, e1, fun v H' w' fp st t => ⟨i, t.rep.1, q H' w' st⟩⟩
  | _ => cases e2
theorem _root_.L2.PO.imp {X : Cx} {o : Option PySem.Expr} {t t' : TO} (h : PO X o t) (i : ∀ σ H Q, t' σ H Q → t σ H Q) : PO X o t' := ⟨fun pins s σ H Q I q => h.run pins s σ H Q I (i σ H Q q)⟩
theorem _root_.L2.PTs.imp {X : Cx} {o : List PySem.Expr} {t t' : TT} (h : PTs X o t) (i : ∀ σ H Q, t' σ H Q → t σ H Q) : PTs X o t' := ⟨fun pins s σ H Q I q => h.run pins s σ H Q I (i σ H Q q)⟩
theorem _root_.L2.PI.imp {X : Cx} {tg o : PySem.Expr} {t t' : TI} (h : PI X tg o t) (i : ∀ σ H Q, t' σ H Q → t σ H Q) : PI X tg o t' := ⟨fun pins s σ H Q I q => h.run pins s σ H Q I (i σ H Q q)⟩
/-- two walks, as one -/
theorem pi_or {X : Cx} {tg l : PySem.Expr} {t1 t2 : TI} (h1 : PI X tg l t1) (h2 : PI X tg l t2) : PI X tg l (fun σ H R => t1 σ H R ∨ t2 σ H R) :=
  ⟨fun pins s σ H R I h => h.elim (h1.run pins s σ H R I) (h2.run pins s σ H R I)⟩
theorem elts_one {z : Option Addr} {B : TB} {H : Hp} : ∀ {ds : List D} {vs : List V} {fp : List Addr}, Reps z B H ds vs fp → Elts z B H ds (vs.map Elt.one) fp
  | [], _, _, h => by rw [h.1, h.2]; exact ⟨rfl, rfl⟩
  | d :: ds, _, _, h => by
    obtain ⟨v, w, p, q, e1, e2, h1, h2⟩ := h
    exact ⟨.one v, w.map Elt.one, p, q, by rw [e1]; rfl, e2, h1, elts_one h2⟩
theorem walk_L {K : PySem.W.Frag} {a : Addr} {vs : List V} {H : Hp} (ha : H a = some (.lst vs)) : Walks (Itl K a) H (vs.map Elt.one) [a] := by
  unfold Walks
  rw [List.length_map]
  refine walk_list.mono (fun H' h => .of ((h a (by simp)).trans ha)) fun i H' x H'' hi h y => ?_
  obtain ⟨e1, e2⟩ := y
  unfold YE
  rw [List.getElem?_map, e2]
  exact ⟨e1, rfl⟩
theorem walk_T {K : PySem.W.Frag} {a : Addr} {vs : List V} {H : Hp} (ha : H a = some (.tup vs)) : Walks (Itt K a) H (vs.map Elt.one) [a] := by
  unfold Walks
  rw [List.length_map]
  refine walk_tup.mono (fun H' h => .of ((h a (by simp)).trans ha)) fun i H' x H'' hi h y => ?_
  obtain ⟨e1, e2⟩ := y
  unfold YE
  rw [List.getElem?_map, e2]
  exact ⟨e1, rfl⟩
theorem has_root {t : Tag} {xs : List D} : has [.lst t xs] t = true := by
  unfold has
  simp [D.anys, D.any]
theorem has_rootK {t : Tag} {ks : List Key} {xs : List D} : has [.dk t ks xs] t = true := by
  unfold has
  simp [D.anys, D.any]
/-- a list or a tuple is walked -/
theorem it_of {m : VS → Res (D × VS)} {K : PySem.W.Frag} : ∀ σ H R, tI (iOf m) σ H R → iList K (tE m) σ H R ∨ iTup K (tE m) σ H R := fun σ H R ⟨w, s, ds, srcs, s', r, e, q⟩ => by
  obtain ⟨x, e1, e2⟩ := bind_ok e
  obtain ⟨xs, e3, e4⟩ := bind_ok e2
  obtain ⟨d, s1⟩ := x
  cases e4
  cases d with
  | lst t ys =>
    cases e3
    refine .inl ⟨w, s, _, _, r, e1, fun v H' w' fp st tv => ?_⟩
    obtain ⟨a, vs, p, ev, ha, hl, hr, ho⟩ := tv.rep
    refine ⟨a, ev, ⟨vs, .of ha⟩, ?_⟩
    have lv : ∀ b ∈ fp, ∃ o, H' b = some o ∧ mutO o = true := Rep.live _ tv.rep
    rcases ho with ⟨et, ep⟩ | ⟨n, hb, ep⟩
    · refine q _ H' w' _ [a] [a] p st (walk_L ha) (fun b hb => by rw [List.mem_singleton.mp hb, ha]; exact fun z => by cases z) (fun b hb => .inr (.inl hb)) (elts_one hr) ?_ (fun b hb => tv.fr b ?_) fun b hb => lv b ?_
      · have := tv.nd; rw [ep] at this; exact this
      · rw [ep]; exact hb
      · rw [ep]; exact hb
    · refine q _ H' w' _ [a] [] p st (walk_L ha) (fun b hb => by rw [List.mem_singleton.mp hb, ha]; exact fun z => by cases z) (fun b hb' => .inr (.inr ⟨t, has_root, n, by rw [List.mem_singleton.mp hb']; exact hb⟩)) (elts_one hr) ?_ (fun b hb => tv.fr b ?_) fun b hb => lv b ?_
      · have := tv.nd; rw [ep] at this; exact this
      · rw [ep]; exact hb
      · rw [ep]; exact hb
  | tup ys =>
    cases e3
    refine .inr ⟨w, s, _, _, r, e1, fun v H' w' fp st tv => ?_⟩
    obtain ⟨a, vs, ev, ha, hl, hr⟩ := tv.rep
    refine ⟨a, ev, ⟨vs, .of ha⟩, ?_⟩
    exact q _ H' w' _ [a] [] fp st (walk_T ha) (fun b hb => by rw [List.mem_singleton.mp hb, ha]; exact fun z => by cases z) (fun b hb => .inl ⟨vs, by rw [List.mem_singleton.mp hb]; exact ha⟩) (elts_one hr) tv.nd (fun b hb => tv.fr b hb) (Rep.live _ tv.rep)
  | _ => cases e3
theorem notSet_of {k : CM} {m : Modes} {X : Cx} {c : SC} {x : PySem.Expr} (h : ∀ X c, Good T Φ X c → ∀ x, k.E c x = true → PE X x (tE m.E)) : True := trivial

theorem SM.of {E : VS → Res (D × VS)} {C : SC → PySem.Expr → Bool} (h : ∀ X c, Good T Φ X c → ∀ x, C c x = true → PE X x (tE E)) (ns : ∀ c x, C c x = true → notSet x = true) : SM T Φ (.of E) (.of C) where
  E := h
  L := fun _ _ _ _ z => by cases z
  K := fun _ _ _ _ _ z => by cases z
  Tt := fun X c g x z => by
    have z' : (plainT x && C c x) = true := z
    rw [Bool.and_eq_true] at z'
    exact (pt_truth (h X c g x z'.2) (isTrue_of z'.1 X.env)).imp tru_of
  P := fun X c g o z => by
    cases o with
    | none => cases z
    | some x => exact (po_some (h X c g x z)).imp part_of
  F := fun X c g xs z => by
    cases xs with
    | nil => cases z
    | cons x r =>
      cases r with
      | cons _ _ => cases z
      | nil =>
        have z' : (plainT x && C c x) = true := z
        rw [Bool.and_eq_true] at z'
        exact pts_one ((pt_truth (h X c g x z'.2) (isTrue_of z'.1 X.env)).imp tru_of)
  I := fun X c g tg x z => ⟨(pi_or (pi_list (h X c g x z)) (pi_tup (h X c g x z))).imp it_of, ns c x z⟩
theorem SM.ofT {E : VS → Res (D × VS)} {Tt : VS → Res (Bool × VS)} {CT C : SC → PySem.Expr → Bool} (h : ∀ X c, Good T Φ X c → ∀ x, C c x = true → PE X x (tE E)) (hT : ∀ X c, Good T Φ X c → ∀ x, CT c x = true → PT X x (tT Tt)) (ns : ∀ c x, C c x = true → notSet x = true) : SM T Φ (.ofT Tt E) (.ofT CT C) where
  E := h
  L := fun _ _ _ _ z => by cases z
  K := fun _ _ _ _ _ z => by cases z
  Tt := hT
  P := fun X c g o z => by
    cases o with
    | none => cases z
    | some x => exact (po_some (h X c g x z)).imp part_of
  F := fun X c g xs z => by
    cases xs with
    | nil => cases z
    | cons x r =>
      cases r with
      | cons _ _ => cases z
      | nil => exact pts_one (hT X c g x z)
  I := fun X c g tg x z => ⟨(pi_or (pi_list (h X c g x z)) (pi_tup (h X c g x z))).imp it_of, ns c x z⟩
end
end VL
end

/-! text: VSnd2 -/
section
set_option autoImplicit false
/-! VSnd2: the constructors of VE, one by one. -/
namespace VL
open PySem PySem.Spec PyProof.Rows L2

section
variable {w w1 w2 : Wd} {σ : L2.St} {H H1 H2 : Hp} {s s1 s2 : VS}
theorem fin_of (r : SRel w σ H s) (st : Step w H s σ w2 H2 s2) {d : D} {Q : VK} {ds : List D} {vs : List V} {fp : List Addr} (t : TV w2 H2 s2 H ds vs fp)
    (q : ∀ v H' w' fp, Step w H s σ w' H' s2 → TV1 w' H' s2 H d v fp → Q v H') : Fin w2.za (BW w2 s2.ρ) H2 fp d Q := fun v H' fq ext rep nd sub =>
  q v H' w2 fq (st.trans r (Step.laid st.rel ext)) (t.make st.rel (fun a h => st.none r h) ext rep nd sub)
theorem TV1.step (r : SRel w σ H s) (st : Step w H s σ w1 H1 s1) {H0 : Hp} {d : D} {v : V} {fp : List Addr} (t : TV1 w H s H0 d v fp) : TV1 w1 H1 s1 H0 d v fp := by
  have z := t.tv.step r st
  obtain ⟨v', e, h⟩ := reps1 z.rep
  cases e
  exact ⟨h, z.nd, z.fr⟩
theorem TV1.of_plain {H0 : Hp} {d : D} {v : V} (h : Rep w.za (BW w s.ρ) H d v []) : TV1 w H s H0 d v [] := ⟨h, List.nodup_nil, fun _ h => by cases h⟩
theorem read_slot {i : Nat} {d : D} (r : SRel w σ H s) (e : s.ρ[i]? = some (some d)) : ∃ v, σ[i]? = some (some v) ∧ Rep w.za (BW w s.ρ) H (d.rd i) v [] := by
  obtain ⟨v, hv, hr⟩ := r.slot i d e
  refine ⟨v, hv, ?_⟩
  have hB : ∀ t a, t ≠ Tag.own → BF w.F t a → BW w s.ρ (Tag.rc i t) a := fun t a n hb => by
    obtain ⟨rfl, h⟩ := hb
    exact h
  have go : ∀ {xs : List D} {vs : List V} {q : List Addr}, Reps w.za (BF w.F) H xs vs q → (∀ a ∈ q, a ∈ childO (some d) (w.O i)) → Reps w.za (BW w s.ρ) H (D.mas (Tag.rc i) xs) vs [] := fun {xs vs q} h hq =>
    Reps.tags (Tag.rc i) (fun t ht => by cases t <;> first | rfl | cases ht) xs (fun t a _ n hb => hB t a n hb) (fun _ a ha => .inr (by rw [at0_eq e]; exact hq a ha)) h
  cases d with
  | non => exact hr.1 ▸ ⟨rfl, rfl⟩
  | bl b => exact hr.1 ▸ ⟨rfl, rfl⟩
  | int b => exact hr.1 ▸ ⟨rfl, rfl⟩
  | str b => exact hr.1 ▸ ⟨rfl, rfl⟩
  | strm => exact ⟨hr.1, rfl⟩
  | tup xs =>
    obtain ⟨a, vs, ev, ha, hl, h⟩ := hr
    exact ⟨a, vs, ev, ha, hl, go h fun a ha => ha⟩
  | lst t xs =>
    obtain ⟨a, vs, q, ev, ha, hl, h, ho⟩ := hr
    rcases ho with ⟨rfl, eO⟩ | ⟨n, hb, eO⟩
    · exact ⟨a, vs, [], ev, ha, hl, go h fun b hb => by show b ∈ (w.O i).tail; rw [eO]; exact hb, .inr ⟨fun z => (by cases z), .inr (by rw [eO]; simp), rfl⟩⟩
    · obtain ⟨rfl, hF⟩ := hb
      exact ⟨a, vs, [], ev, ha, hl, go h fun b hb => by show b ∈ w.O i; rw [eO]; exact hb, .inr ⟨n, hF, rfl⟩⟩
  | dk t ks xs =>
    obtain ⟨a, vs, q, ev, ha, hk, hl, h, ho⟩ := hr
    rcases ho with ⟨rfl, eO⟩ | ⟨n, hb, eO⟩
    · exact ⟨a, vs, [], ev, ha, hk, hl, go h fun b hb => by show b ∈ (w.O i).tail; rw [eO]; exact hb, .inr ⟨fun z => (by cases z), .inr (by rw [eO]; simp), rfl⟩⟩
    · obtain ⟨rfl, hF⟩ := hb
      exact ⟨a, vs, [], ev, ha, hk, hl, go h fun b hb => by show b ∈ w.O i; rw [eO]; exact hb, .inr ⟨n, hF, rfl⟩⟩
end

/-! ### the readings of the parts, put together -/
section
theorem tE_const {d : D} {v : V} (hd : ∀ z B H, Rep z B H d v []) : ∀ σ H Q, tE (fun s => .ok (d, s)) σ H Q → tC v σ H Q := fun σ H Q ⟨w, s, d', s', r, e, q⟩ => by
  cases e
  exact q v H w [] (Step.refl r) (.of_plain (hd _ _ _))
theorem tE_name {i : Nat} : ∀ σ H Q, tE (nameM i) σ H Q → tVar i σ H Q := fun σ H Q ⟨w, s, d', s', r, e, q⟩ => by
  unfold nameM at e
  split at e
  · rename_i d h
    cases e
    obtain ⟨v, hv, hr⟩ := read_slot r h
    exact ⟨v, hv, q v H w [] (Step.refl r) (.of_plain hr)⟩
  · cases e
/-- two in a row -/
theorem tE_two {a b : VS → Res (D × VS)} {f : D → D → Res D} {rr : R2} (hf : ∀ {z : Option Addr} {B : TB} {H : Hp} {Q : VK} {d1 d2 d : D}, f d1 d2 = .ok d → ∀ {v1 v2 : V} {p q : List Addr}, Rep z B H d1 v1 p → Rep z B H d2 v2 q → (p ++ q).Nodup → Fin z B H (p ++ q) d Q → rr v1 v2 H Q) :
    ∀ σ H Q, tE (fun s => a s >>= fun x => b x.2 >>= fun y => f x.1 y.1 >>= fun d => .ok (d, y.2)) σ H Q → tOp rr (tE a) (tE b) σ H Q := fun σ H Q ⟨w, s, d', s', r, e, q⟩ => by
  obtain ⟨x, e1, e⟩ := bind_ok e
  obtain ⟨y, e2, e⟩ := bind_ok e
  obtain ⟨d, e3, e4⟩ := bind_ok e
  cases e4
  refine ⟨w, s, x.1, x.2, r, e1, fun v H1 w1 fp st1 t1 => ⟨w1, x.2, y.1, y.2, st1.rel, e2, fun u H2 w2 fq st2 t2 => ?_⟩⟩
  have tc := TV.cat r st1 st2 t1.tv t2.tv
  exact hf e3 (t1.step st1.rel st2).rep t2.rep tc.nd (fin_of r (st1.trans r st2) tc q)
theorem tE_one {a : VS → Res (D × VS)} {f : D → Res D} {rr : V → Hp → VK → Prop} (hf : ∀ {z : Option Addr} {B : TB} {H : Hp} {Q : VK} {d1 d : D}, f d1 = .ok d → ∀ {v1 : V} {p : List Addr}, Rep z B H d1 v1 p → p.Nodup → Fin z B H p d Q → rr v1 H Q) :
    ∀ σ H Q, tE (fun s => a s >>= fun x => f x.1 >>= fun d => .ok (d, x.2)) σ H Q → tE a σ H fun v H1 => rr v H1 Q := fun σ H Q ⟨w, s, d', s', r, e, q⟩ => by
  obtain ⟨x, e1, e⟩ := bind_ok e
  obtain ⟨d, e3, e4⟩ := bind_ok e
  cases e4
  refine ⟨w, s, x.1, x.2, r, e1, fun v H1 w1 fp st1 t1 => ?_⟩
  exact hf e3 t1.rep t1.nd (fin_of r st1 t1.tv q)
theorem tE_list {l : VS → Res (List D × VS)} {f : List D → Res D} {rr : List V → Hp → VK → Prop} (hf : ∀ {z : Option Addr} {B : TB} {H : Hp} {Q : VK} {ds : List D} {d : D}, f ds = .ok d → ∀ {vs : List V} {p : List Addr}, Reps z B H ds vs p → p.Nodup → Fin z B H p d Q → rr vs H Q) :
    ∀ σ H Q, tE (fun s => l s >>= fun x => f x.1 >>= fun d => .ok (d, x.2)) σ H Q → tL l σ H fun vs H1 => rr vs H1 Q := fun σ H Q ⟨w, s, d', s', r, e, q⟩ => by
  obtain ⟨x, e1, e⟩ := bind_ok e
  obtain ⟨d, e3, e4⟩ := bind_ok e
  cases e4
  refine ⟨w, s, x.1, x.2, r, e1, fun v H1 w1 fp st1 t1 => ?_⟩
  exact hf e3 t1.rep t1.nd (fin_of r st1 t1 q)
theorem tL_nil : ∀ σ H Q, tL (fun s => .ok ([], s)) σ H Q → tNil σ H Q := fun σ H Q ⟨w, s, d', s', r, e, q⟩ => by
  cases e
  exact q [] H w [] (Step.refl r) .nil
theorem tL_cons {a : VS → Res (D × VS)} {l : VS → Res (List D × VS)} : ∀ σ H Q, tL (consM a l) σ H Q → tCons (tE a) (tL l) σ H Q := fun σ H Q ⟨w, s, d', s', r, e, q⟩ => by
  obtain ⟨x, e1, e⟩ := bind_ok e
  obtain ⟨y, e2, e⟩ := bind_ok e
  cases e
  refine ⟨w, s, x.1, x.2, r, e1, fun v H1 w1 fp st1 t1 => ⟨w1, x.2, y.1, y.2, st1.rel, e2, fun u H2 w2 fq st2 t2 => ?_⟩⟩
  exact q _ H2 w2 _ (st1.trans r st2) (TV1.cons r st1 st2 t1 t2)
theorem tL_star {K : PySem.W.Frag} {a : VS → Res (D × VS)} {l : VS → Res (List D × VS)} : ∀ σ H Q, tL (starM a l) σ H Q → StX.tStar K (tE a) (tL l) σ H Q := fun σ H Q ⟨w, s, d', s', r, e, q⟩ => by
  obtain ⟨x, e1, e⟩ := bind_ok e
  obtain ⟨xs, e3, e⟩ := bind_ok e
  obtain ⟨y, e2, e⟩ := bind_ok e
  cases e
  refine ⟨w, s, x.1, x.2, r, e1, fun v H1 w1 fp st1 t1 => ?_⟩
  obtain ⟨d, s1⟩ := x
  have key : ∀ {vs : List V} {fp' : List Addr}, TV w1 H1 s1 H xs vs fp' → tL l σ H1 fun ys H2 => Q (vs ++ ys) H2 := fun {vs fp'} t => ⟨w1, s1, y.1, y.2, st1.rel, e2, fun u H2 w2 fq st2 t2 => q _ H2 w2 _ (st1.trans r st2) (TV.cat r st1 st2 t t2)⟩
  cases d with
  | lst t ys =>
    cases e3
    obtain ⟨b, vs, p, ev, ha, hl, hr, ho⟩ := t1.rep
    exact ⟨b, vs, ev, .inr (.of ha), key ⟨hr, t1.nd.sublist (own_sub ho), fun c hc => t1.fr c ((own_sub ho).subset hc)⟩⟩
  | tup ys =>
    cases e3
    obtain ⟨b, vs, ev, ha, hl, hr⟩ := t1.rep
    exact ⟨b, vs, ev, .inl (.of ha), key ⟨hr, t1.nd, t1.fr⟩⟩
  | _ => cases e3
theorem tT_not {a : VS → Res (Bool × VS)} : ∀ σ H Q, tT (notT a) σ H Q → tNot (tT a) σ H Q := fun σ H Q ⟨w, s, b, s', r, e, q⟩ => by
  obtain ⟨x, e1, e⟩ := bind_ok e
  cases e
  exact ⟨w, s, x.1, x.2, r, e1, fun H1 w1 st => q H1 w1 st⟩
theorem tT_and {a b : VS → Res (Bool × VS)} : ∀ σ H Q, tT (andT a b) σ H Q → tAnd (tT a) (tT b) σ H Q := fun σ H Q ⟨w, s, k, s', r, e, q⟩ => by
  obtain ⟨x, e1, e⟩ := bind_ok e
  refine ⟨w, s, x.1, x.2, r, e1, fun H1 w1 st => ?_⟩
  obtain ⟨c, s1⟩ := x
  cases c with
  | true =>
    rw [if_pos rfl]
    exact ⟨w1, s1, k, s', st.rel, e, fun H2 w2 st2 => q H2 w2 (st.trans r st2)⟩
  | false =>
    cases e
    exact q H1 w1 st
theorem tT_or {a b : VS → Res (Bool × VS)} : ∀ σ H Q, tT (orT a b) σ H Q → tOr (tT a) (tT b) σ H Q := fun σ H Q ⟨w, s, k, s', r, e, q⟩ => by
  obtain ⟨x, e1, e⟩ := bind_ok e
  refine ⟨w, s, x.1, x.2, r, e1, fun H1 w1 st => ?_⟩
  obtain ⟨c, s1⟩ := x
  cases c with
  | false =>
    exact ⟨w1, s1, k, s', st.rel, e, fun H2 w2 st2 => q H2 w2 (st.trans r st2)⟩
  | true =>
    cases e
    exact q H1 w1 st
theorem bl_inv {d : D} {s s' : VS} {b : Bool} (h : (match (d, s).1 with | .bl b => Res.ok (b, (d, s).2) | _ => .stuck) = Res.ok (b, s')) : d = .bl b ∧ s' = s := by
  cases d with
  | bl b' => cases h; exact ⟨rfl, rfl⟩
  | _ => cases h
theorem tV_not {a : VS → Res (D × VS)} : ∀ σ H Q, tE (eOfT (notT (blOnly a))) σ H Q → tNotV (tE a) σ H Q := fun σ H Q ⟨w, s, d, s', r, e, q⟩ => by
  obtain ⟨x, e1, e⟩ := bind_ok e
  cases e
  obtain ⟨y, e2, e1⟩ := bind_ok e1
  cases e1
  obtain ⟨v, e3, e2⟩ := bind_ok e2
  obtain ⟨h1, h2⟩ := bl_inv e2
  obtain ⟨dv, sv⟩ := v
  cases h1
  refine ⟨w, s, _, _, r, e3, fun v H1 w1 fp st t => ⟨y.1, t.rep.1, ?_⟩⟩
  have h2' : y.2 = sv := h2
  subst h2'
  exact q _ H1 w1 [] st (.of_plain ⟨rfl, rfl⟩)
theorem tV_and {a b : VS → Res (D × VS)} : ∀ σ H Q, tE (eOfT (andT (blOnly a) (blOnly b))) σ H Q → tAndV (tE a) (tE b) σ H Q := fun σ H Q ⟨w, s, d, s', r, e, q⟩ => by
  obtain ⟨x, e1, e⟩ := bind_ok e
  cases e
  obtain ⟨y, e2, e1⟩ := bind_ok e1
  obtain ⟨v, e3, e2⟩ := bind_ok e2
  obtain ⟨dv, sv⟩ := v
  obtain ⟨h1, h2⟩ := bl_inv e2
  subst h1
  obtain ⟨y1, y2⟩ := y
  have h2' : y2 = sv := h2
  subst h2'
  refine ⟨w, s, _, _, r, e3, fun v H1 w1 fp st t => ⟨y1, t.rep.1, ?_⟩⟩
  cases y1 with
  | true =>
    rw [if_pos rfl]
    obtain ⟨v2, e4, e5⟩ := bind_ok e1
    obtain ⟨dv2, sv2⟩ := v2
    obtain ⟨x1, x2⟩ := x
    obtain ⟨h1, h2⟩ := bl_inv e5
    subst h1
    have h2' : x2 = sv2 := h2
    subst h2'
    exact ⟨w1, y2, _, _, st.rel, e4, fun u H2 w2 fq st2 t2 => q _ H2 w2 fq (st.trans r st2) (t2.fresh0 r st)⟩
  | false =>
    cases e1
    exact q _ H1 w1 [] st (.of_plain ⟨rfl, rfl⟩)
theorem tV_or {a b : VS → Res (D × VS)} : ∀ σ H Q, tE (eOfT (orT (blOnly a) (blOnly b))) σ H Q → tOrV (tE a) (tE b) σ H Q := fun σ H Q ⟨w, s, d, s', r, e, q⟩ => by
  obtain ⟨x, e1, e⟩ := bind_ok e
  cases e
  obtain ⟨y, e2, e1⟩ := bind_ok e1
  obtain ⟨v, e3, e2⟩ := bind_ok e2
  obtain ⟨dv, sv⟩ := v
  obtain ⟨h1, h2⟩ := bl_inv e2
  subst h1
  obtain ⟨y1, y2⟩ := y
  have h2' : y2 = sv := h2
  subst h2'
  refine ⟨w, s, _, _, r, e3, fun v H1 w1 fp st t => ⟨y1, t.rep.1, ?_⟩⟩
  cases y1 with
  | false =>
    obtain ⟨v2, e4, e5⟩ := bind_ok e1
    obtain ⟨dv2, sv2⟩ := v2
    obtain ⟨x1, x2⟩ := x
    obtain ⟨h1, h2⟩ := bl_inv e5
    subst h1
    have h2' : x2 = sv2 := h2
    subst h2'
    exact ⟨w1, y2, _, _, st.rel, e4, fun u H2 w2 fq st2 t2 => q _ H2 w2 fq (st.trans r st2) (t2.fresh0 r st)⟩
  | true =>
    cases e1
    exact q _ H1 w1 [] st (.of_plain ⟨rfl, rfl⟩)
theorem tE_if {t : VS → Res (Bool × VS)} {a b : VS → Res (D × VS)} : ∀ σ H Q, tE (ifeM t a b) σ H Q → tIf (tT t) (tE a) (tE b) σ H Q := fun σ H Q ⟨w, s, d, s', r, e, q⟩ => by
  obtain ⟨x, e1, e⟩ := bind_ok e
  refine ⟨w, s, x.1, x.2, r, e1, fun H1 w1 st => ?_⟩
  obtain ⟨c, s1⟩ := x
  cases c with
  | true =>
    rw [if_pos rfl]
    exact ⟨w1, s1, _, _, st.rel, e, fun u H2 w2 fq st2 t2 => q _ H2 w2 fq (st.trans r st2) (t2.fresh0 r st)⟩
  | false =>
    exact ⟨w1, s1, _, _, st.rel, e, fun u H2 w2 fq st2 t2 => q _ H2 w2 fq (st.trans r st2) (t2.fresh0 r st)⟩
end
end VL
end

/-! text: VSnd3 -/
section
set_option autoImplicit false
/-! VSnd3: each constructor's text, as the model reads it. -/
namespace VL
open PySem PySem.Spec PyProof.Rows L2

section
variable {T : Tb} {Φ : Calls}
theorem and2 {a b : Bool} (h : (a && b) = true) : a = true ∧ b = true := by simpa using h
theorem gl_of {X : Cx} {c : SC} (g : Good T Φ X c) {x : Str} (h : globB c x = true) : Gl X x := by
  unfold globB at h
  unfold Gl Env.kindOf
  rw [g.sc]
  split at h
  · assumption
  · cases h
theorem vis_of {X : Cx} {c : SC} (g : Good T Φ X c) {x : Str} (h : visB c x = true) : Vis X.env.scope x := by
  unfold visB at h
  unfold Vis
  rw [g.sc]
  split at h
  · exact .inl (by assumption)
  · exact .inr (.inl (by assumption))
  · exact .inr (.inr (by assumption))
  · cases h
theorem loc_of {X : Cx} {c : SC} (g : Good T Φ X c) {x : Str} (h : locB c x = true) : L2.Loc X.env.scope x := by
  unfold locB at h
  unfold L2.Loc
  rw [g.sc]
  split at h
  · exact .inl (by assumption)
  · exact .inr (by assumption)
  · cases h
theorem okName_of {x : Str} (h : okName x = true) : (x == ("__debug__" : Str)) = false ∧ (x == ("__classdict__" : Str)) = false ∧ x ≠ "__name__" := by
  unfold okName at h
  simp only [Bool.and_eq_true, Bool.not_eq_true', beq_eq_false_iff_ne] at h
  obtain ⟨⟨h1, h2⟩, h3⟩ := h
  exact ⟨beq_eq_false_iff_ne.mpr h1, beq_eq_false_iff_ne.mpr h2, h3⟩
theorem star_of {x : PySem.Expr} (h : notStar x = true) (es : List PySem.Expr) (env : Env) : starEach (x :: es) env = (false, eval x env) :: starEach es env := by
  cases x <;> first | rfl | cases h
theorem stars_of : ∀ {es : List PySem.Expr}, es.all notStar = true → ∀ (env : Env) (pos : Pos), (backTo pos (starEach es env)).any (·.1) = false
  | [], _, _, _ => rfl
  | x :: es, h, env, pos => by
    rw [List.all_cons] at h
    obtain ⟨h1, h2⟩ := and2 h
    rw [star_of h1]
    have := stars_of h2 env pos
    unfold backTo at this ⊢
    rw [List.map_cons, List.any_cons]
    simpa using this
theorem mark_of {op : CmpOp} {y : PySem.Expr} (h : notSet y = true) : behindInMarks op y = false := by
  cases y <;> first | rfl | cases h
theorem ix_of {y : PySem.Expr} (h : plainIx y = true) : PlainIx y := by
  intro o i
  cases y <;> first | rfl | cases h

/-! ### names, constants -/
theorem sm_bad : SM T Φ (ev Φ .bad) (chk T .bad) where
  E := fun X c g x _ => PE.none tE_stuck
  L := fun _ _ _ _ z => by cases z
  K := fun _ _ _ _ _ z => by cases z
  Tt := fun X c g x _ => ⟨fun pins s σ H Q I q => (by obtain ⟨w, s, d, s', _, e, _⟩ := q; cases e)⟩
  P := fun X c g x _ => ⟨fun pins s σ H Q I q => (by obtain ⟨w, s, d, s', _, e, _⟩ := q; cases e)⟩
  F := fun _ _ _ _ z => by cases z
  I := fun _ _ _ _ _ z => by cases z
theorem sm_name (i : Nat) : SM T Φ (ev Φ (.name i)) (chk T (.name i)) := by
  refine SM.of (fun X c g x h => ?_) fun c x h => ?_
  · cases x with
    | Name x p =>
      obtain ⟨h1, h2⟩ := and2 h
      obtain ⟨h0, h1⟩ := and2 h1
      have k := okName_of h2
      exact (pe_var (by rw [g.N]; exact of_decide_eq_true h0) (vis_of g h1) k.1 k.2.1).imp tE_name
    | _ => cases h
  · cases x <;> first | rfl | cases h
theorem sm_non : SM T Φ (ev Φ .non) (chk T .non) := by
  refine SM.of (fun X c g x h => ?_) fun c x h => ?_
  · cases x with
    | Constant k j p =>
      cases k with
      | none => exact pe_non.imp (tE_const fun _ _ _ => ⟨rfl, rfl⟩)
      | _ => cases h
    | _ => cases h
  · cases x <;> first | rfl | cases h
theorem sm_bl (b : Bool) : SM T Φ (ev Φ (.bl b)) (chk T (.bl b)) := by
  refine SM.of (fun X c g x h => ?_) fun c x h => ?_
  · cases x with
    | Constant k j p =>
      cases k with
      | bool b' =>
        have e : b' = b := of_decide_eq_true h
        subst e
        exact pe_bl.imp (tE_const fun _ _ _ => ⟨rfl, rfl⟩)
      | _ => cases h
    | _ => cases h
  · cases x <;> first | rfl | cases h
theorem sm_int (b : Int) : SM T Φ (ev Φ (.int b)) (chk T (.int b)) := by
  refine SM.of (fun X c g x h => ?_) fun c x h => ?_
  · cases x with
    | Constant k j p =>
      cases k with
      | int b' =>
        have e : b' = b := of_decide_eq_true h
        subst e
        exact pe_int.imp (tE_const fun _ _ _ => ⟨rfl, rfl⟩)
      | _ => cases h
    | _ => cases h
  · cases x <;> first | rfl | cases h
theorem sm_str (b : Str) : SM T Φ (ev Φ (.str b)) (chk T (.str b)) := by
  refine SM.of (fun X c g x h => ?_) fun c x h => ?_
  · cases x with
    | Constant k j p =>
      cases k with
      | str b' =>
        have e : b' = b := of_decide_eq_true h
        subst e
        exact pe_str.imp (tE_const fun _ _ _ => ⟨rfl, rfl⟩)
      | _ => cases h
    | _ => cases h
  · cases x <;> first | rfl | cases h

/-! ### operations -/
theorem sm_bin (op : Op) {a b : VE} (ha : SM T Φ (ev Φ a) (chk T a)) (hb : SM T Φ (ev Φ b) (chk T b)) : SM T Φ (ev Φ (.bin op a b)) (chk T (.bin op a b)) := by
  refine SM.of (fun X c g x h => ?_) fun c x h => ?_
  · cases x with
    | BinOp x o y p =>
      obtain ⟨h3, h2⟩ := and2 h
      obtain ⟨h0, h1⟩ := and2 h3
      have e : o = opP op := of_decide_eq_true h0
      subst e
      exact (pe_op (op_bin op) (ha.E X c g x h1) (hb.E X c g y h2)).imp (tE_two fun h _ _ _ _ r1 r2 n k => bin_ok h r1 r2 n k)
    | _ => cases h
  · cases x <;> first | rfl | cases h
theorem neg_ok {z : Option Addr} {B : TB} {H : Hp} {Q : VK} {d1 d : D} (h : (match d1 with | .int i => Res.ok (D.int (-i)) | _ => .stuck) = .ok d) {v1 : V} {p : List Addr} (r : Rep z B H d1 v1 p) (n : p.Nodup) (k : Fin z B H p d Q) : rU (fun i => .int (-i)) v1 H Q := by
  cases d1 with
  | int i =>
    cases h
    exact ⟨i, r.1, k.int⟩
  | _ => cases h
theorem negM_eq (a : VS → Res (D × VS)) : negM a = fun s => a s >>= fun x => (match x.1 with | .int i => Res.ok (D.int (-i)) | _ => .stuck) >>= fun d => .ok (d, x.2) := by
  funext s
  unfold negM
  cases a s with
  | ok x =>
    obtain ⟨d, s1⟩ := x
    cases d <;> rfl
  | stuck => rfl
theorem sm_neg {a : VE} (ha : SM T Φ (ev Φ a) (chk T a)) : SM T Φ (ev Φ (.neg a)) (chk T (.neg a)) := by
  refine SM.of (fun X c g x h => ?_) fun c x h => ?_
  · cases x with
    | UnaryOp o x p =>
      cases o with
      | USub =>
        rw [negM_eq]
        exact (pe_un un_neg (ha.E X c g x h)).imp (tE_one fun h _ _ r n k => neg_ok h r n k)
      | _ => cases h
    | _ => cases h
  · cases x <;> first | rfl | cases h
theorem sm_not {a : VE} (ha : SM T Φ (ev Φ a) (chk T a)) : SM T Φ (ev Φ (.not_ a)) (chk T (.not_ a)) := by
  refine SM.ofT (fun X c g x h => ?_) (fun X c g x h => ?_) fun c x h => ?_
  · cases x with
    | UnaryOp o x p =>
      cases o with
      | Not => exact (pe_not (ha.E X c g x h)).imp tV_not
      | _ => cases h
    | _ => cases h
  · cases x with
    | UnaryOp o x p =>
      cases o with
      | Not => exact (pt_not (ha.Tt X c g x h)).imp tT_not
      | _ => cases h
    | _ => cases h
  · cases x <;> first | rfl | cases h
/-- and, or have no use of the whole -/
theorem pw_pt {X : Cx} {op : BoolOp} {es : List PySem.Expr} {p : Pos} {t : TT} (h : PT X (.BoolOp op es p) t) : PW X (.BoolOp op es p) t := by
  refine ⟨fun wh pins s σ H Q I q => ?_⟩
  have := h.run pins s σ H Q I q
  cases op <;> exact this
theorem pt_pw {X : Cx} {e : PySem.Expr} {t : TT} (h : PW X e t) : PT X e t := ⟨fun pins s σ H Q I q => h.run _ pins s σ H Q I q⟩
theorem sm_and {a b : VE} (ha : SM T Φ (ev Φ a) (chk T a)) (hb : SM T Φ (ev Φ b) (chk T b)) : SM T Φ (ev Φ (.and_ a b)) (chk T (.and_ a b)) := by
  refine SM.ofT (fun X c g x h => ?_) (fun X c g x h => ?_) fun c x h => ?_
  · cases x with
    | BoolOp o es p =>
      match es, h with
      | [x, y], h =>
        obtain ⟨h0, h2⟩ := and2 h
        obtain ⟨h0, h1⟩ := and2 h0
        have e : o = .And := of_decide_eq_true h0
        subst e
        exact (pe_and (ha.E X c g x h1) (pe_one (hb.E X c g y h2))).imp tV_and
      | x :: y :: z :: r, h =>
        obtain ⟨h0, h2⟩ := and2 h
        obtain ⟨h0, h1⟩ := and2 h0
        have e : o = .And := of_decide_eq_true h0
        subst e
        exact (pe_and (ha.E X c g x h1) (hb.E X c g _ h2)).imp tV_and
    | _ => cases h
  · cases x with
    | BoolOp o es p =>
      match es, h with
      | [x, y], h =>
        obtain ⟨h0, h2⟩ := and2 h
        obtain ⟨h0, h1⟩ := and2 h0
        have e : o = .And := of_decide_eq_true h0
        subst e
        exact (pt_pw (pw_and (ha.Tt X c g x h1) (pw_and1 (hb.Tt X c g y h2)))).imp tT_and
      | x :: y :: z :: r, h =>
        obtain ⟨h0, h2⟩ := and2 h
        obtain ⟨h0, h1⟩ := and2 h0
        have e : o = .And := of_decide_eq_true h0
        subst e
        exact (pt_pw (pw_and (ha.Tt X c g x h1) (pw_pt (hb.Tt X c g _ h2)))).imp tT_and
    | _ => cases h
  · cases x <;> first | rfl | cases h
theorem sm_or {a b : VE} (ha : SM T Φ (ev Φ a) (chk T a)) (hb : SM T Φ (ev Φ b) (chk T b)) : SM T Φ (ev Φ (.or_ a b)) (chk T (.or_ a b)) := by
  refine SM.ofT (fun X c g x h => ?_) (fun X c g x h => ?_) fun c x h => ?_
  · cases x with
    | BoolOp o es p =>
      match es, h with
      | [x, y], h =>
        obtain ⟨h0, h2⟩ := and2 h
        obtain ⟨h0, h1⟩ := and2 h0
        have e : o = .Or := of_decide_eq_true h0
        subst e
        exact (pe_or (ha.E X c g x h1) (pe_one (hb.E X c g y h2))).imp tV_or
      | x :: y :: z :: r, h =>
        obtain ⟨h0, h2⟩ := and2 h
        obtain ⟨h0, h1⟩ := and2 h0
        have e : o = .Or := of_decide_eq_true h0
        subst e
        exact (pe_or (ha.E X c g x h1) (hb.E X c g _ h2)).imp tV_or
    | _ => cases h
  · cases x with
    | BoolOp o es p =>
      match es, h with
      | [x, y], h =>
        obtain ⟨h0, h2⟩ := and2 h
        obtain ⟨h0, h1⟩ := and2 h0
        have e : o = .Or := of_decide_eq_true h0
        subst e
        exact (pt_pw (pw_or (ha.Tt X c g x h1) (pw_or1 (hb.Tt X c g y h2)))).imp tT_or
      | x :: y :: z :: r, h =>
        obtain ⟨h0, h2⟩ := and2 h
        obtain ⟨h0, h1⟩ := and2 h0
        have e : o = .Or := of_decide_eq_true h0
        subst e
        exact (pt_pw (pw_or (ha.Tt X c g x h1) (pw_pt (hb.Tt X c g _ h2)))).imp tT_or
    | _ => cases h
  · cases x <;> first | rfl | cases h
theorem tCmp_E {K : PySem.W.Frag} (k : Cm) {a b : VS → Res (D × VS)} : ∀ σ H Q, tE (cmpM k a b) σ H Q → tOp (rCmp K k) (tE a) (tE b) σ H Q := fun σ H Q ⟨w, s, d', s', r, e, q⟩ => by
  obtain ⟨x, e1, e⟩ := bind_ok e
  obtain ⟨y, e2, e⟩ := bind_ok e
  obtain ⟨d, e3, e4⟩ := bind_ok e
  cases e4
  refine ⟨w, s, x.1, x.2, r, e1, fun v H1 w1 fp st1 t1 => ⟨w1, x.2, y.1, y.2, st1.rel, e2, fun u H2 w2 fq st2 t2 => ?_⟩⟩
  exact cmp_ok e3 (t1.step st1.rel st2).rep t2.rep (q _ H2 w2 [] (st1.trans r st2) (.of_plain ⟨rfl, rfl⟩))
theorem tCmp_T {K : PySem.W.Frag} (k : Cm) {a b : VS → Res (D × VS)} : ∀ σ H Q, tT (tOf (cmpM k a b)) σ H Q → tTest (tOp (rCmp K k) (tE a) (tE b)) σ H Q := fun σ H Q ⟨w, s, d', s', r, e, q⟩ => by
  obtain ⟨v, e0, e⟩ := bind_ok e
  obtain ⟨x, e1, e0⟩ := bind_ok e0
  obtain ⟨y, e2, e0⟩ := bind_ok e0
  obtain ⟨d, e3, e4⟩ := bind_ok e0
  cases e4
  obtain ⟨b', e5, e⟩ := bind_ok e
  cases e
  cases e5
  refine ⟨w, s, x.1, x.2, r, e1, fun v H1 w1 fp st1 t1 => ⟨w1, x.2, y.1, y.2, st1.rel, e2, fun u H2 w2 fq st2 t2 => ?_⟩⟩
  exact cmp_ok e3 (t1.step st1.rel st2).rep t2.rep ⟨_, rfl, q H2 w2 (st1.trans r st2)⟩
theorem sm_cmp (k : Cm) {a b : VE} (ha : SM T Φ (ev Φ a) (chk T a)) (hb : SM T Φ (ev Φ b) (chk T b)) : SM T Φ (ev Φ (.cmp k a b)) (chk T (.cmp k a b)) := by
  refine SM.ofT (fun X c g x h => ?_) (fun X c g x h => ?_) fun c x h => ?_
  · cases x with
    | Compare x os ys p =>
      match os, ys, h with
      | [o], [y], h =>
        obtain ⟨h0, h2⟩ := and2 h
        obtain ⟨h0, h1⟩ := and2 h0
        obtain ⟨h0, h3⟩ := and2 h0
        have e : o = cmP k := of_decide_eq_true h0
        subst e
        exact (pe_cmpR (op_cmp g.hu k) (ha.E X c g x h1) (hb.E X c g y h2) (mark_of h3)).imp (tCmp_E k)
    | _ => cases h
  · cases x with
    | Compare x os ys p =>
      match os, ys, h with
      | [o], [y], h =>
        obtain ⟨h0, h2⟩ := and2 h
        obtain ⟨h0, h1⟩ := and2 h0
        obtain ⟨h0, h3⟩ := and2 h0
        have e : o = cmP k := of_decide_eq_true h0
        subst e
        exact (pt_cmpR (op_cmp g.hu k) (ha.E X c g x h1) (hb.E X c g y h2) (mark_of h3)).imp (tCmp_T k)
    | _ => cases h
  · cases x <;> first | rfl | cases h
theorem tChain_E {K : PySem.W.Frag} (k k' : Cm) {a b c : VS → Res (D × VS)} : ∀ σ H Q, tE (chainM k k' a b c) σ H Q → tChain (rCmp K k) (rCmp K k') (tE a) (tE b) (tE c) σ H Q := fun σ H Q ⟨w, s, d', s', r, e, q⟩ => by
  obtain ⟨x, e1, e⟩ := bind_ok e
  obtain ⟨y, e2, e⟩ := bind_ok e
  obtain ⟨d, e3, e4⟩ := bind_ok e
  refine ⟨w, s, x.1, x.2, r, e1, fun v H1 w1 fp st1 t1 => ⟨w1, x.2, y.1, y.2, st1.rel, e2, fun u H2 w2 fq st2 t2 => ?_⟩⟩
  refine cmp_ok e3 (t1.step st1.rel st2).rep t2.rep ⟨_, rfl, ?_⟩
  cases d with
  | false =>
    rw [if_neg (by decide)] at e4
    cases e4
    rw [if_neg (by decide)]
    exact q _ H2 w2 [] (st1.trans r st2) (.of_plain ⟨rfl, rfl⟩)
  | true =>
    rw [if_pos rfl] at e4
    obtain ⟨z, e5, e4⟩ := bind_ok e4
    obtain ⟨d2, e6, e4⟩ := bind_ok e4
    cases e4
    rw [if_pos rfl]
    have st12 := st1.trans r st2
    exact ⟨w2, y.2, z.1, z.2, st12.rel, e5, fun u3 H3 w3 fz st3 t3 => cmp_ok e6 (t2.step st2.rel st3).rep t3.rep (q _ H3 w3 [] (st12.trans r st3) (.of_plain ⟨rfl, rfl⟩))⟩
theorem tChain_T {K : PySem.W.Frag} (k k' : Cm) {a b c : VS → Res (D × VS)} : ∀ σ H Q, tT (tOf (chainM k k' a b c)) σ H Q → tTest (tChain (rCmp K k) (rCmp K k') (tE a) (tE b) (tE c)) σ H Q := fun σ H Q ⟨w, s, d', s', r, e, q⟩ => by
  obtain ⟨v, e0, e⟩ := bind_ok e
  obtain ⟨x, e1, e0⟩ := bind_ok e0
  obtain ⟨y, e2, e0⟩ := bind_ok e0
  obtain ⟨d, e3, e4⟩ := bind_ok e0
  obtain ⟨b', e5, e⟩ := bind_ok e
  cases e
  refine ⟨w, s, x.1, x.2, r, e1, fun v H1 w1 fp st1 t1 => ⟨w1, x.2, y.1, y.2, st1.rel, e2, fun u H2 w2 fq st2 t2 => ?_⟩⟩
  refine cmp_ok e3 (t1.step st1.rel st2).rep t2.rep ⟨_, rfl, ?_⟩
  cases d with
  | false =>
    rw [if_neg (by decide)] at e4
    cases e4
    cases e5
    rw [if_neg (by decide)]
    exact ⟨_, rfl, q H2 w2 (st1.trans r st2)⟩
  | true =>
    rw [if_pos rfl] at e4
    obtain ⟨z, e6, e4⟩ := bind_ok e4
    obtain ⟨d2, e7, e4⟩ := bind_ok e4
    cases e4
    cases e5
    rw [if_pos rfl]
    have st12 := st1.trans r st2
    exact ⟨w2, y.2, z.1, z.2, st12.rel, e6, fun u3 H3 w3 fz st3 t3 => cmp_ok e7 (t2.step st2.rel st3).rep t3.rep ⟨_, rfl, q H3 w3 (st12.trans r st3)⟩⟩
theorem marks_of {o o' : CmpOp} {y z : PySem.Expr} (h : notSet z = true) : lastMarks [o, o'] [y, z] = false := by
  simp only [lastMarks]
  exact mark_of h
theorem sm_chain (k k' : Cm) {a b e : VE} (ha : SM T Φ (ev Φ a) (chk T a)) (hb : SM T Φ (ev Φ b) (chk T b)) (he : SM T Φ (ev Φ e) (chk T e)) : SM T Φ (ev Φ (.chain k k' a b e)) (chk T (.chain k k' a b e)) := by
  refine SM.ofT (fun X c g x h => ?_) (fun X c g x h => ?_) fun c x h => ?_
  · cases x with
    | Compare x os ys p =>
      match os, ys, h with
      | [o, o'], [y, z], h =>
        obtain ⟨h0, h3⟩ := and2 h
        obtain ⟨h0, h2⟩ := and2 h0
        obtain ⟨h0, h1⟩ := and2 h0
        obtain ⟨h0, h5⟩ := and2 h0
        obtain ⟨h0, h4⟩ := and2 h0
        obtain ⟨h0, h6⟩ := and2 h0
        have e1 : o = cmP k := of_decide_eq_true h0
        have e2 : o' = cmP k' := of_decide_eq_true h6
        subst e1 e2
        exact (pe_chain (op_cmp g.hu k) (op_cmp g.hu k') (ha.E X c g x h1) (hb.E X c g y h2) (he.E X c g z h3) (marks_of h5)).imp (tChain_E k k')
    | _ => cases h
  · cases x with
    | Compare x os ys p =>
      match os, ys, h with
      | [o, o'], [y, z], h =>
        obtain ⟨h0, h3⟩ := and2 h
        obtain ⟨h0, h2⟩ := and2 h0
        obtain ⟨h0, h1⟩ := and2 h0
        obtain ⟨h0, h5⟩ := and2 h0
        obtain ⟨h0, h4⟩ := and2 h0
        obtain ⟨h0, h6⟩ := and2 h0
        have e1 : o = cmP k := of_decide_eq_true h0
        have e2 : o' = cmP k' := of_decide_eq_true h6
        subst e1 e2
        exact (pt_chain (op_cmp g.hu k) (op_cmp g.hu k') (ha.E X c g x h1) (hb.E X c g y h2) (he.E X c g z h3) (marks_of h5)).imp (tChain_T k k')
    | _ => cases h
  · cases x <;> first | rfl | cases h
theorem sm_ife {t a b : VE} (ht : SM T Φ (ev Φ t) (chk T t)) (ha : SM T Φ (ev Φ a) (chk T a)) (hb : SM T Φ (ev Φ b) (chk T b)) : SM T Φ (ev Φ (.ife t a b)) (chk T (.ife t a b)) := by
  refine SM.of (fun X c g x h => ?_) fun c x h => ?_
  · cases x with
    | IfExp x y z p =>
      obtain ⟨h0, h2⟩ := and2 h
      obtain ⟨h0, h1⟩ := and2 h0
      exact (pe_ifExp (ht.Tt X c g x h0) (ha.E X c g y h1) (hb.E X c g z h2)).imp tE_if
    | _ => cases h
  · cases x <;> first | rfl | cases h

/-! ### lists of texts -/
theorem sm_nil : SM T Φ (ev Φ .nil) (chk T .nil) where
  E := fun _ _ _ _ z => by cases z
  L := fun X c g xs z => by
    cases xs with
    | nil => exact pa_nil.imp tL_nil
    | cons _ _ => cases z
  K := fun X c g ks kws z => by
    obtain ⟨h1, h2⟩ := and2 (show (ks.isEmpty && kws.isEmpty) = true from z)
    cases ks with
    | cons _ _ => cases h1
    | nil =>
      cases kws with
      | cons _ _ => cases h2
      | nil => exact ⟨pk_nil.imp tL_nil, rfl⟩
  Tt := fun _ _ _ _ z => by cases z
  P := fun X c g o z => by
    cases o with
    | some _ => cases z
    | none => exact po_none.imp fun σ H Q ⟨w, s, o, s', r, e, q⟩ => by cases e; exact q H w (Step.refl r)
  F := fun X c g xs z => by
    cases xs with
    | cons _ _ => cases z
    | nil => exact pts_nil.imp fun σ H Q ⟨w, s, b, s', r, e, q⟩ => by cases e; exact q H w (Step.refl r)
  I := fun _ _ _ _ _ z => by cases z
theorem SM.ofL {L : VS → Res (List D × VS)} {C : SC → List PySem.Expr → Bool} {Ck : SC → List Str → List Keyword → Bool} (h : ∀ X c, Good T Φ X c → ∀ xs, C c xs = true → PA X xs (tL L))
    (hk : ∀ X c, Good T Φ X c → ∀ ks kws, Ck c ks kws = true → PK X kws (tL L) ∧ kws.map (·.arg) = ks.map some) : SM T Φ (.ofL L) (.ofL C Ck) where
  E := fun _ _ _ _ z => by cases z
  L := h
  K := hk
  Tt := fun _ _ _ _ z => by cases z
  P := fun _ _ _ _ z => by cases z
  F := fun _ _ _ _ z => by cases z
  I := fun _ _ _ _ _ z => by cases z
theorem sm_cons {a as : VE} (ha : SM T Φ (ev Φ a) (chk T a)) (hb : SM T Φ (ev Φ as) (chk T as)) : SM T Φ (ev Φ (.cons a as)) (chk T (.cons a as)) := by
  refine SM.ofL (fun X c g xs h => ?_) fun X c g ks kws h => ?_
  · cases xs with
    | nil => cases h
    | cons x xs =>
      obtain ⟨h0, h2⟩ := and2 h
      obtain ⟨h0, h1⟩ := and2 h0
      exact (pa_cons (ha.E X c g x h1) (hb.L X c g xs h2) (star_of h0 xs X.env)).imp tL_cons
  · match ks, kws, h with
    | k :: ks, ⟨arg, val, p⟩ :: kws, h =>
      obtain ⟨h0, h2⟩ := and2 h
      obtain ⟨h0, h1⟩ := and2 h0
      obtain ⟨q1, q2⟩ := hb.K X c g ks kws h2
      have e : arg = some k := of_decide_eq_true h0
      refine ⟨(pk_cons (ha.E X c g val h1) q1).imp tL_cons, ?_⟩
      rw [List.map_cons, List.map_cons, q2]
      show arg :: _ = _
      rw [e]
theorem sm_star {a as : VE} (ha : SM T Φ (ev Φ a) (chk T a)) (hb : SM T Φ (ev Φ as) (chk T as)) : SM T Φ (ev Φ (.star a as)) (chk T (.star a as)) := by
  refine SM.ofL (fun X c g xs h => ?_) fun X c g ks kws h => by cases h
  cases xs with
  | nil => cases h
  | cons x xs =>
    cases x with
    | Starred x p =>
      obtain ⟨h1, h2⟩ := and2 h
      exact (StX.pa_star (ha.E X c g x h1) (hb.L X c g xs h2)).imp tL_star
    | _ => cases h
theorem tE_lst {l : VS → Res (List D × VS)} : ∀ σ H Q, tE (lstM l) σ H Q → tLst (tL l) σ H Q := fun σ H Q ⟨w, s, d', s', r, e, q⟩ => by
  obtain ⟨x, e1, e⟩ := bind_ok e
  obtain ⟨e3, e4⟩ := guard_ok e
  cases e4
  refine ⟨w, s, x.1, x.2, r, e1, fun v H1 w1 fp st1 t1 => ?_⟩
  have hl : v.length ≤ sizeLine := by rw [Reps.length t1.rep, ← maxLen_eq]; exact of_decide_eq_true e3
  exact ⟨hl, (fin_of r st1 t1 q).lst t1.rep t1.nd (fun _ h => h) hl (live_ne t1.rep)⟩
theorem tE_tup {l : VS → Res (List D × VS)} : ∀ σ H Q, tE (tupM l) σ H Q → tTup (tL l) σ H Q := fun σ H Q ⟨w, s, d', s', r, e, q⟩ => by
  obtain ⟨x, e1, e⟩ := bind_ok e
  obtain ⟨e3, e4⟩ := guard_ok e
  cases e4
  refine ⟨w, s, x.1, x.2, r, e1, fun v H1 w1 fp st1 t1 => ?_⟩
  have hl : v.length ≤ sizeLine := by rw [Reps.length t1.rep, ← maxLen_eq]; exact of_decide_eq_true e3
  exact ⟨hl, (fin_of r st1 t1 q).tup t1.rep t1.nd (fun _ h => h) hl⟩
theorem sm_lst {a : VE} (ha : SM T Φ (ev Φ a) (chk T a)) : SM T Φ (ev Φ (.lst a)) (chk T (.lst a)) := by
  refine SM.of (fun X c g x h => ?_) fun c x h => ?_
  · cases x with
    | List es p => exact (pe_lst (ha.L X c g es h)).imp tE_lst
    | _ => cases h
  · cases x <;> first | rfl | cases h
theorem sm_tup {a : VE} (ha : SM T Φ (ev Φ a) (chk T a)) : SM T Φ (ev Φ (.tup a)) (chk T (.tup a)) := by
  refine SM.of (fun X c g x h => ?_) fun c x h => ?_
  · cases x with
    | Tuple es k p => exact (pe_tup (ha.L X c g es h)).imp tE_tup
    | _ => cases h
  · cases x <;> first | rfl | cases h
theorem sm_dnew : SM T Φ (ev Φ .dnew) (chk T .dnew) := by
  refine SM.of (fun X c g x h => ?_) fun c x h => ?_
  · cases x with
    | Dict a b p =>
      match a, b, h with
      | [], [], h =>
        refine pe_dnewK.imp fun σ H Q ⟨w, s, d', s', r, e, q⟩ => ?_
        cases e
        refine fun p hp => ?_
        refine fin_of r (Step.refl r) .nil q _ _ [p] (ext_upd hp) ⟨p, [], [], rfl, upd_same, rfl, Nat.zero_le _, .nil, .inl ⟨rfl, rfl⟩⟩ (by simp) fun a ha => ?_
        rw [List.mem_singleton.mp ha]
        exact .inr hp
    | _ => cases h
  · cases x <;> first | rfl | cases h

/-! ### subscripts -/
theorem sm_ix {a b : VE} (ha : SM T Φ (ev Φ a) (chk T a)) (hb : SM T Φ (ev Φ b) (chk T b)) : SM T Φ (ev Φ (.ix a b)) (chk T (.ix a b)) := by
  refine SM.of (fun X c g x h => ?_) fun c x h => ?_
  · cases x with
    | Subscript x y p =>
      obtain ⟨h0, h2⟩ := and2 h
      obtain ⟨h0, h1⟩ := and2 h0
      exact (pe_ix (ix_any (by have := g.hu; omega)) (ha.E X c g x h1) (hb.E X c g y h2) (ix_of h0)).imp (tE_two fun h _ _ _ _ r1 r2 n k =>
        ix_ok h r1 r2 (List.nodup_append.mp n).1 fun v H' fq ext rep nd sub => k v H' fq ext rep nd fun a ha => (sub a ha).imp (List.mem_append_left _) id)
    | _ => cases h
  · cases x <;> first | rfl | cases h
theorem tE_sl {K : PySem.W.Frag} {a : VS → Res (D × VS)} {lo hi : VS → Res (Option Int × VS)} : ∀ σ H Q, tE (slM a lo hi) σ H Q → tSl (rSl K) (tE a) (tP lo) (tP hi) σ H Q := fun σ H Q ⟨w, s, d', s', r, e, q⟩ => by
  obtain ⟨x, e1, e⟩ := bind_ok e
  obtain ⟨l, e2, e⟩ := bind_ok e
  obtain ⟨u, e3, e⟩ := bind_ok e
  obtain ⟨d, e4, e⟩ := bind_ok e
  cases e
  refine ⟨w, s, x.1, x.2, r, e1, fun v H1 w1 fp st1 t1 => ⟨w1, x.2, l.1, l.2, st1.rel, e2, fun H2 w2 st2 => ⟨w2, l.2, u.1, u.2, st2.rel, e3, fun H3 w3 st3 => ?_⟩⟩⟩
  have st23 := st2.trans st1.rel st3
  have t3 := t1.step st1.rel st23
  exact sl_ok e4 t3.rep t3.nd (fin_of r (st1.trans r st23) t3.tv q)
theorem sm_sl {a lo hi : VE} (ha : SM T Φ (ev Φ a) (chk T a)) (hl : SM T Φ (ev Φ lo) (chk T lo)) (hh : SM T Φ (ev Φ hi) (chk T hi)) : SM T Φ (ev Φ (.sl a lo hi)) (chk T (.sl a lo hi)) := by
  refine SM.of (fun X c g x h => ?_) fun c x h => ?_
  · cases x with
    | Subscript x y p =>
      cases y with
      | Slice l u st p2 =>
        cases st with
        | some _ => cases h
        | none =>
          obtain ⟨h0, h2⟩ := and2 h
          obtain ⟨h0, h1⟩ := and2 h0
          exact (pe_slice (SlR.or sl_list sl_tupA) (ha.E X c g x h0) (hl.P X c g l h1) (hh.P X c g u h2)).imp tE_sl
      | _ => cases h
    | _ => cases h
  · cases x <;> first | rfl | cases h
theorem sm_rev {a : VE} (ha : SM T Φ (ev Φ a) (chk T a)) : SM T Φ (ev Φ (.rev a)) (chk T (.rev a)) := by
  refine SM.of (fun X c g x h => ?_) fun c x h => ?_
  · have h' : cRev (chk T a) c x = true := h
    unfold cRev at h'
    split at h'
    · refine (pe_alt (pe_revL (ha.E X _ g _ h')) (pe_revT (ha.E X _ g _ h'))).imp fun σ H Q ⟨w, s, d', s', r, e, q⟩ => ?_
      obtain ⟨x, e1, e⟩ := bind_ok e
      obtain ⟨d, e3, e4⟩ := bind_ok e
      cases e4
      obtain ⟨xd, xs⟩ := x
      cases xd with
      | lst t ys =>
        cases e3
        exact .inl ⟨w, s, _, xs, r, e1, fun v H1 w1 fp st1 t1 => rev_okL (K := X.K) t1.rep t1.nd (fin_of r st1 t1.tv q)⟩
      | tup ys =>
        cases e3
        exact .inr ⟨w, s, _, xs, r, e1, fun v H1 w1 fp st1 t1 => rev_okT (K := X.K) t1.rep t1.nd (fin_of r st1 t1.tv q)⟩
      | _ => cases e3
    · cases h'
  · cases x <;> first | rfl | cases h
end
end VL
end

/-! text: VSnd4 -/
section
set_option autoImplicit false
/-! VSnd4: calls, built-ins. -/
namespace VL
open PySem PySem.Spec PyProof.Rows L2

mutual
theorem ma_id : ∀ d : D, d.ma (fun t => t) = d
  | .lst t xs => by rw [D.ma, mas_id]
  | .tup xs => by rw [D.ma, mas_id]
  | .dk t ks xs => by rw [D.ma, mas_id]
  | .non => rfl | .bl _ => rfl | .int _ => rfl | .str _ => rfl | .strm => rfl
theorem mas_id : ∀ ds : List D, D.mas (fun t => t) ds = ds
  | [] => rfl
  | d :: ds => by rw [D.mas, ma_id, mas_id]
end
theorem mas_len (f : Tag → Tag) : ∀ ds : List D, (D.mas f ds).length = ds.length
  | [] => rfl
  | d :: ds => by rw [D.mas, List.length_cons, List.length_cons, mas_len]
theorem mas_get (f : Tag → Tag) : ∀ (ds : List D) (i : Nat), (D.mas f ds)[i]? = (ds[i]?).map (D.ma f)
  | [], i => rfl
  | d :: ds, 0 => rfl
  | d :: ds, i + 1 => by rw [D.mas, List.getElem?_cons_succ, List.getElem?_cons_succ, mas_get]
theorem mas_app (f : Tag → Tag) : ∀ (ds es : List D), D.mas f (ds ++ es) = D.mas f ds ++ D.mas f es
  | [], es => rfl
  | d :: ds, es => by rw [List.cons_append, D.mas, D.mas, mas_app, List.cons_append]
theorem nodup_nil_sub {p : List Addr} (h : p.Sublist []) : p = [] := List.sublist_nil.mp h
theorem perm_reps {z : Option Addr} {B : TB} {H : Hp} {all : List D} {vs : List V} (r : Reps z B H all vs []) : ∀ {perm : List Nat} {ds : List D}, permL all perm = some ds → Reps z B H ds (perm.filterMap fun i => vs[i]?) [] ∧ ds.length = (perm.filterMap fun i => vs[i]?).length
  | [], ds, h => by cases h; exact ⟨.nil, rfl⟩
  | i :: is, ds, h => by
    unfold permL at h
    cases e1 : all[i]? with
    | none => rw [e1] at h; cases h
    | some d =>
      rw [e1] at h
      cases e2 : permL all is with
      | none => rw [e2] at h; cases h
      | some r' =>
        rw [e2] at h
        cases h
        obtain ⟨v, p, hv, hr, hs⟩ := r.get e1
        have hp := nodup_nil_sub hs
        subst hp
        obtain ⟨h1, h2⟩ := perm_reps r e2
        rw [List.filterMap_cons, hv]
        exact ⟨Reps.cons hr h1, by rw [List.length_cons, List.length_cons, h2]⟩
theorem perm_mas (f : Tag → Tag) {all : List D} : ∀ {perm : List Nat} {ds : List D}, permL all perm = some ds → permL (D.mas f all) perm = some (D.mas f ds)
  | [], ds, h => by cases h; rfl
  | i :: is, ds, h => by
    unfold permL at h ⊢
    cases e1 : all[i]? with
    | none => rw [e1] at h; cases h
    | some d =>
      rw [e1] at h
      cases e2 : permL all is with
      | none => rw [e2] at h; cases h
      | some r' =>
        rw [e2] at h
        cases h
        rw [mas_get, e1, perm_mas f e2]
        rfl

section
variable {w w1 : Wd} {σ : L2.St} {H H1 : Hp} {s s1 s2 : VS}
/-- the callee's world: all that stands is nobody's -/
def callW (w : Wd) (s : VS) (all : List D) (fp : List Addr) : Wd := ⟨fun a => w.F a ∨ a ∈ fp ∨ ∃ t, has all t = true ∧ t ≠ .own ∧ BW w s.ρ t a, fun _ => [], w.z⟩
theorem Reps.has_imp {z : Option Addr} {B B' : TB} {H : Hp} (f : Tag → Tag) : True := trivial
theorem callW_rel {fp : List Addr} {all : List D} {vs : List V} (st : Step w H s σ w1 H1 s1) (t : TV w1 H1 s1 H all vs fp) : SRel (callW w1 s1 all fp) [] H1 ⟨[], s1.st⟩ where
  len := rfl
  slot := fun i d h => by cases h
  nd := fun _ => List.nodup_nil
  dj := fun _ _ _ h => by cases h
  oF := fun _ _ h => by cases h
  oM := fun _ _ h => by cases h
  fM := fun a h => by
    rcases h with h | h | ⟨u, h1, h2, h3⟩
    · exact st.rel.fM a h
    · exact Reps.live all t.rep a h
    · exact (st.rel.bLive h3).1
  strm := st.rel.strm
  zF := fun a h => by
    refine ⟨fun q => ?_, fun i q => by cases q⟩
    rcases q with q | q | ⟨u, h1, h2, h3⟩
    · exact (st.rel.zF a h).1 q
    · exact (t.fr a q).2.2.2 h
    · exact (st.rel.bLive h3).2 h
theorem callW_reps {fp : List Addr} {all : List D} {vs : List V} (t : TV w1 H1 s1 H all vs fp) : Reps (callW w1 s1 all fp).za (BF (callW w1 s1 all fp).F) H1 (D.mas (fun _ => .fz) all) vs [] :=
  Reps.tags (fun _ => .fz) (fun _ e => by cases e) all (fun t' a ht n hb => ⟨rfl, .inr (.inr ⟨t', ht, n, hb⟩)⟩) (fun _ a ha => ⟨rfl, .inr (.inl ha)⟩) t.rep
theorem strm_any {z : Option (Addr × Addr)} {H : Hp} {st : Option Strm} (h : StrmOk z H st) : True := trivial
theorem Step.slots {w' : Wd} {H' : Hp} {st st' : Option Strm} {ρ : VEnv} (r1 : SRel w1 σ H1 ⟨ρ, st⟩) (ext : ∀ a o, H1 a = some o → ¬ zs w1.z a → H' a = some o) (hs : StrmOk w'.z H' st') (hz : w'.z = w1.z) : SRel ⟨w1.F, w1.O, w'.z⟩ σ H' ⟨ρ, st'⟩ where
  len := r1.len
  slot := fun i d h => by
    obtain ⟨v, h1, h2⟩ := r1.slot i d h
    refine ⟨v, h1, ?_⟩
    have hz' : (⟨w1.F, w1.O, w'.z⟩ : Wd).za = w1.za := by unfold Wd.za; rw [hz]
    rw [hz']
    refine Rep.mono (fun t a o hb e => ext a o e fun q => (r1.zF a q).1 hb.2) (fun a xs e => ?_) (fun _ _ h => h) d (fun a o hf e => ext a o e fun q => (r1.zF a q).2 i hf) h2
    exact ext a _ e fun q => by
      obtain ⟨vs, e2⟩ := r1.zlive a q
      rw [e] at e2; cases e2
  nd := r1.nd
  dj := r1.dj
  oF := r1.oF
  oM := fun i a h => by
    obtain ⟨o, e, m⟩ := r1.oM i a h
    exact ⟨o, ext a o e fun q => (r1.zF a q).2 i h, m⟩
  fM := fun a h => by
    obtain ⟨o, e, m⟩ := r1.fM a h
    exact ⟨o, ext a o e fun q => (r1.zF a q).1 h, m⟩
  strm := hs
  zF := fun a h => r1.zF a (by rw [← hz]; exact h)
/-- the caller goes on behind a call -/
theorem callF_ok {Φ : Calls} {f n : Nat} {all ds : List D} {us vs : List V} {fp : List Addr} {d : D} {Q : VK} {E : XK} (r : SRel w σ H s) (st1 : Step w H s σ w1 H1 s1) (t1 : TV w1 H1 s1 H all us fp)
    (e : callF Φ f all ds s1 = .ok (d, s2)) (hd : Reps (callW w1 s1 all fp).za (BF (callW w1 s1 all fp).F) H1 (D.mas (fun _ => .fz) ds) vs []) (ar : ∀ ds st r, Φ f ds st = .ok r → ds.length = n)
    (q : ∀ v H' w' fp, Step w H s σ w' H' s2 → TV1 w' H' s2 H d v fp → Q v H') : spV Φ f n vs H1 Q E := by
  obtain ⟨y, e1, e2⟩ := bind_ok e
  obtain ⟨yd, yst⟩ := y
  refine ⟨by rw [Reps.length hd]; exact ar _ _ _ e1, callW w1 s1 all fp, _, _, yd, yst, fun _ => rfl, callW_rel st1 t1, hd, e1, ?_⟩
  intro v H' w' fq hO st' hr hn hf
  have hz : w'.z = w1.z := st'.zE
  have ext : ∀ a o, H1 a = some o → ¬ zs w1.z a → H' a = some o := st'.ext
  have wF : ∀ a, w'.F a → w1.F a ∨ a ∈ fp ∨ (∃ t, has all t = true ∧ t ≠ .own ∧ BW w1 s1.ρ t a) ∨ H1 a = none := fun a h => by
    rcases st'.new a (.inl h) with h | ⟨i, h⟩ | h
    · rcases h with h | h | h
      · exact .inl h
      · exact .inr (.inl h)
      · exact .inr (.inr (.inl h))
    · cases h
    · exact .inr (.inr (.inr h))
  by_cases c : yd.any Tag.isFz = true
  · have e3 : d = yd ∧ s2 = ⟨settle all s1.ρ, yst⟩ := by
      cases e2
      refine ⟨rfl, ?_⟩
      show VS.mk (if yd.any Tag.isFz = true then _ else _) _ = _
      rw [if_pos c]
    obtain ⟨e3, e4⟩ := e3
    subst e3 e4
    obtain ⟨wS, stS, hS⟩ := settle_ok all (show SRel w1 σ H1 ⟨s1.ρ, s1.st⟩ from st1.rel)
    have rS := stS.rel
    have zS : wS.z = w1.z := stS.zE
    -- the new world
    have oSub : ∀ i a, a ∈ wS.O i → w1.F a ∨ inO w1 a := fun i a h => by
      rcases stS.new a (.inr ⟨i, h⟩) with h | h | h'
      · exact .inl h
      · exact .inr h
      · obtain ⟨o, e, _⟩ := rS.oM i a h
        rw [h'] at e; cases e
    have oF : ∀ i a, a ∈ wS.O i → ¬ (wS.F a ∨ w'.F a) := fun i a h q => by
      rcases q with q | q
      · exact rS.oF i a h q
      · rcases wF a q with q | q | ⟨t, h1, h2, h3⟩ | q
        · exact rS.oF i a h (stS.fM a q)
        · rcases oSub i a h with h | h
          · exact (t1.fr a q).2.1 h
          · exact (t1.fr a q).2.2.1 h
        · have := hS t a h1 h2 h3
          have hF : wS.F a := by
            cases t with
            | own => exact absurd rfl h2
            | fz => exact this
            | br i => exact this
            | bc i => exact this
          exact rS.oF i a h hF
        · obtain ⟨o, e, _⟩ := rS.oM i a h
          rw [q] at e; cases e
    have zz : ∀ a, zs w'.z a → zs wS.z a := fun a h => by rw [zS, ← hz]; exact h
    have rel2 : SRel ⟨fun a => wS.F a ∨ w'.F a, wS.O, w'.z⟩ σ H' ⟨settle all s1.ρ, yst⟩ := by
      have b := Step.slots (w' := w') rS (fun a o e n => ext a o e (by rw [← zS]; exact n)) st'.rel.strm (hz.trans zS.symm)
      refine ⟨b.len, fun i d' h => ?_, b.nd, b.dj, oF, b.oM, fun a h => ?_, b.strm, fun a h => ⟨fun q => ?_, (b.zF a h).2⟩⟩
      · obtain ⟨u, h1, h2⟩ := b.slot i d' h
        exact ⟨u, h1, Rep.mono (fun _ _ _ _ h => h) (fun _ _ h => h) (fun t a hb => ⟨hb.1, .inl hb.2⟩) d' (fun _ _ _ h => h) h2⟩
      · rcases h with h | h
        · exact b.fM a h
        · exact st'.rel.fM a h
      · rcases q with q | q
        · exact (rS.zF a (zz a h)).1 q
        · exact (st'.rel.zF a h).1 q
    refine q v H' ⟨fun a => wS.F a ∨ w'.F a, wS.O, w'.z⟩ fq ⟨rel2, ?_, fun a h => .inl (stS.fM a (st1.fM a h)), fun t a h => ?_, fun a h => ?_, fun a o e n => ext a o (st1.ext a o e n) (by rw [st1.zE]; exact n), hz.trans st1.zE⟩ ⟨?_, hn, fun a h => ?_⟩
    · exact stS.len.trans st1.len
    · have := stS.bM t a (st1.bM t a h)
      cases t with
      | fz => exact .inl this
      | own => exact this.elim
      | br i => exact this.elim (fun h => .inl ⟨.inl h.1, h.2⟩) .inr
      | bc i => exact this.elim (fun h => .inl (.inl h)) .inr
    · have old : w1.F a ∨ inO w1 a ∨ a ∈ fp ∨ H1 a = none → w.F a ∨ inO w a ∨ H a = none := fun h => by
        rcases h with h | h | h | h
        · exact st1.new a (.inl h)
        · exact st1.new a (.inr h)
        · exact .inr (.inr (t1.fr a h).1)
        · exact .inr (.inr (st1.none r h))
      have oldB : ∀ t, t ≠ Tag.own → BW w1 s1.ρ t a → w1.F a ∨ inO w1 a := fun t n hb => by
        cases t with
        | fz => exact .inl hb
        | own => exact absurd rfl n
        | br i => exact hb.elim (fun h => .inl h.1) fun h => .inr ⟨i, List.mem_of_mem_head? h⟩
        | bc i => exact hb.elim .inl fun h => .inr ⟨i, childO_sub h⟩
      rcases h with (h | h) | ⟨i, h⟩
      · rcases stS.new a (.inl h) with h | h | h
        · exact old (.inl h)
        · exact old (.inr (.inl h))
        · exact old (.inr (.inr (.inr h)))
      · rcases wF a h with h | h | ⟨t, h1, h2, h3⟩ | h
        · exact old (.inl h)
        · exact old (.inr (.inr (.inl h)))
        · rcases oldB t h2 h3 with h | h
          · exact old (.inl h)
          · exact old (.inr (.inl h))
        · exact old (.inr (.inr (.inr h)))
      · rcases oSub i a h with h | h
        · exact old (.inl h)
        · exact old (.inr (.inl h))
    · show Rep w'.za _ H' d v fq
      refine Rep.mono (fun _ _ _ _ h => h) (fun _ _ h => h) (fun t a hb => ?_) d (fun _ _ _ h => h) hr
      obtain ⟨rfl, hb⟩ := hb
      exact .inr hb
    · obtain ⟨h1, h2, h3⟩ := hf a h
      refine ⟨st1.none r h1, fun q => ?_, fun ⟨i, q⟩ => ?_, h3⟩
      · rcases q with q | q
        · obtain ⟨o, e, _⟩ := rS.fM a q
          rw [h1] at e; cases e
        · exact h2 q
      · obtain ⟨o, e, _⟩ := rS.oM i a q
        rw [h1] at e; cases e
  · have e3 : d = yd ∧ s2 = ⟨s1.ρ, yst⟩ := by
      cases e2
      refine ⟨rfl, ?_⟩
      show VS.mk (if yd.any Tag.isFz = true then _ else _) _ = _
      rw [if_neg c]
    obtain ⟨e3, e4⟩ := e3
    subst e3 e4
    have rel2 := Step.slots (w' := w') (show SRel w1 σ H1 ⟨s1.ρ, s1.st⟩ from st1.rel) ext st'.rel.strm hz
    refine q v H' ⟨w1.F, w1.O, w'.z⟩ fq ⟨rel2, st1.len, st1.fM, fun t a h => ?_, fun a h => st1.new a h, fun a o e n => ext a o (st1.ext a o e n) (by rw [st1.zE]; exact n), hz.trans st1.zE⟩ ⟨?_, hn, fun a h => ?_⟩
    · have := st1.bM t a h
      cases t with
      | fz => exact this
      | own => exact this.elim
      | br i => exact this
      | bc i => exact this
    · show Rep w'.za _ H' d v fq
      have := Rep.tags (B' := BW ⟨w1.F, w1.O, w'.z⟩ s1.ρ) (fun t => t) (fun _ e => e) d (fun t a ht n hb => ?_) (fun n => absurd rfl n) hr
      · rw [ma_id, if_pos rfl] at this
        exact this
      · obtain ⟨rfl, _⟩ := hb
        refine absurd (any_imp (p := Tag.isFz) (fun u e => ?_) d ht) c
        rw [of_decide_eq_true e]
        rfl
    · obtain ⟨h1, h2, h3⟩ := hf a h
      refine ⟨st1.none r h1, fun q => ?_, fun ⟨i, q⟩ => ?_, h3⟩
      · obtain ⟨o, e, _⟩ := st1.rel.fM a q
        rw [h1] at e; cases e
      · obtain ⟨o, e, _⟩ := st1.rel.oM i a q
        rw [h1] at e; cases e
end
end VL
end

/-! text: VSnd5 -/
section
set_option autoImplicit false
/-! VSnd5: calls, built-ins, what is walked: their texts. -/
namespace VL
open PySem PySem.Spec PyProof.Rows L2

section
variable {T : Tb} {Φ : Calls}
theorem passes0 {X : Cx} {E : XK} : Passes CX0 X E := fun _ _ _ _ _ _ _ h => h.elim
theorem tE_call {f n : Nat} {l : VS → Res (List D × VS)} {E : XK} (ar : ∀ ds st r, Φ f ds st = .ok r → ds.length = n) : ∀ σ H Q, tE (callM Φ f l) σ H Q → tCall (spV Φ f n) [] E (tL l) σ H Q := fun σ H Q ⟨w, s, d', s', r, e, q⟩ => by
  obtain ⟨x, e1, e⟩ := bind_ok e
  refine ⟨w, s, x.1, x.2, r, e1, fun vs H1 w1 fp st1 t1 => ?_⟩
  show spV Φ f n (vs ++ []) H1 Q E
  rw [List.append_nil]
  exact callF_ok r st1 t1 e (callW_reps t1) ar q
theorem sm_call (f : Nat) {as : VE} (ha : SM T Φ (ev Φ as) (chk T as)) : SM T Φ (ev Φ (.call f as)) (chk T (.call f as)) := by
  refine SM.of (fun X c g x h => ?_) fun c x h => ?_
  · cases x with
    | Call fe es kws p =>
      cases fe with
      | Name x np =>
        cases kws with
        | cons _ _ => cases h
        | nil =>
          obtain ⟨h, h5⟩ := and2 h
          obtain ⟨h, h4⟩ := and2 h
          obtain ⟨h, h3⟩ := and2 h
          obtain ⟨h, h2⟩ := and2 h
          obtain ⟨h0, h1⟩ := and2 h
          have h0' := of_decide_eq_true h0
          cases hf : T.fns[f]? with
          | none => rw [hf] at h0'; cases h0'
          | some sg =>
            rw [hf] at h0'
            have hx : sg.name = x := by simpa using h0'
            obtain ⟨ar, a, fd, lev, e1, e2, e3, e4, e5, _⟩ := g.fns f sg hf
            rw [hx] at e1
            cases es with
            | nil => cases h3
            | cons e es =>
              rw [List.all_cons] at h4
              obtain ⟨h6, h7⟩ := and2 h4
              exact (pe_callG (E := fun _ _ _ => False) g.gs e4 e3 (gl_of g h1) e1 e2 e5 passes0 (ha.L X c g _ h5) (okName_of h2).1 (star_of h6 es X.env) (stars_of h7 X.env p)).imp fun σ H Q h => (by have z := tE_call (E := fun _ _ _ => False) ar σ H Q h; simpa only [tCall, List.append_nil] using z)
      | _ => cases h
    | _ => cases h
  · cases x <;> first | rfl | cases h
theorem kw_some : ∀ {kws : List Keyword} {ks : List Str}, kws.map (·.arg) = ks.map some → ∀ (env : Env) (pos : Pos), (backToKw pos (keywordEach kws env)).all (·.1.isSome) = true ∧ (backToKw pos (keywordEach kws env)).filterMap (·.1) = ks ∧ (backToKw pos (keywordEach kws env)).any (·.1.isNone) = false
  | [], ks, h, env, pos => by
    cases ks with
    | nil => exact ⟨rfl, rfl, rfl⟩
    | cons _ _ => cases h
  | ⟨arg, val, p⟩ :: kws, ks, h, env, pos => by
    cases ks with
    | nil => cases h
    | cons k ks =>
      rw [List.map_cons, List.map_cons] at h
      injection h with h1 h2
      have h1' : arg = some k := h1
      subst h1'
      obtain ⟨q1, q2, q3⟩ := kw_some h2 env pos
      unfold backToKw at q1 q2 q3 ⊢
      unfold keywordEach
      refine ⟨?_, ?_, ?_⟩
      · rw [List.map_cons, List.all_cons, q1]; rfl
      · rw [List.map_cons, List.filterMap_cons, q2]
      · rw [List.map_cons, List.any_cons, q3]; rfl
theorem tE_callK {f n np : Nat} {u : KwU} {l k : VS → Res (List D × VS)} {E : XK} (ar : ∀ ds st r, Φ f ds st = .ok r → ds.length = n) : ∀ σ H Q, tE (callKM Φ f u.np u.ks.length l k u.perm) σ H Q →
    tL l σ H fun vs H1 => tL k σ H1 fun zs H2 => vs.length = u.np ∧ spV Φ f n (gKV u vs zs) H2 Q E := fun σ H Q ⟨w, s, d', s', r, e, q⟩ => by
  obtain ⟨x, e1, e⟩ := bind_ok e
  obtain ⟨y, e2, e⟩ := bind_ok e
  split at e
  · rename_i hl
    split at e
    · rename_i ds hp
      refine ⟨w, s, x.1, x.2, r, e1, fun vs H1 w1 fp st1 t1 => ⟨w1, x.2, y.1, y.2, st1.rel, e2, fun zs H2 w2 fq st2 t2 => ?_⟩⟩
      have tc := TV.cat r st1 st2 t1 t2
      have l1 : vs.length = u.np := (Reps.length t1.rep).trans hl.1
      have l2 : zs.length = u.ks.length := (Reps.length t2.rep).trans hl.2
      refine ⟨l1, ?_⟩
      unfold gKV
      rw [if_pos ⟨l1, l2⟩]
      exact callF_ok r (st1.trans r st2) tc e (perm_reps (callW_reps tc) (perm_mas _ hp)).1 ar q
    · cases e
  · cases e
theorem sm_callK (f : Nat) {as ks : VE} (np : Nat) (names : List Str) (perm : List Nat) (ha : SM T Φ (ev Φ as) (chk T as)) (hk : SM T Φ (ev Φ ks) (chk T ks)) : SM T Φ (ev Φ (.callK f as ks np names perm)) (chk T (.callK f as ks np names perm)) := by
  refine SM.of (fun X c g x h => ?_) fun c x h => ?_
  · cases x with
    | Call fe es kws p =>
      cases fe with
      | Name x pn =>
        obtain ⟨h, h7⟩ := and2 h
        obtain ⟨h, h6⟩ := and2 h
        obtain ⟨h, h5⟩ := and2 h
        obtain ⟨h, h4⟩ := and2 h
        obtain ⟨h, h3⟩ := and2 h
        obtain ⟨h, h2⟩ := and2 h
        obtain ⟨h0, h1⟩ := and2 h
        have h0' := of_decide_eq_true h0
        have hu : (⟨f, np, names, perm⟩ : KwU) ∈ T.kws := of_decide_eq_true h5
        cases hf : T.fns[f]? with
        | none => rw [hf] at h0'; cases h0'
        | some sg =>
          rw [hf] at h0'
          have hx : sg.name = x := by simpa using h0'
          obtain ⟨ar, a, fd, lev, e1, e2, e3, e4, e5, e6⟩ := g.fns f sg hf
          rw [hx] at e1
          obtain ⟨q1, q2⟩ := hk.K X c g _ _ h7
          obtain ⟨k1, k2, k3⟩ := kw_some q2 X.env p
          have hB := e6 _ hu rfl
          cases es with
          | nil =>
            have hn : as = .nil := by
              cases as <;> first | rfl | cases h3
            subst hn
            refine (pe_callK0G (E := fun _ _ _ => False) g.gs e4 e3 (gl_of g h1) e1 e2 hB passes0 q1 k1 k2 (okName_of h2).1 k3).imp fun σ H Q q => ?_
            obtain ⟨w, s, ds, s', r, e, z⟩ := tE_callK (u := ⟨f, np, names, perm⟩) (np := np) (E := fun _ _ _ => False) ar σ H Q q
            cases e
            obtain ⟨w1, s1, ds1, s1', r1, e1, z1⟩ := z [] H w [] (Step.refl r) .nil
            exact ⟨w1, s1, ds1, s1', r1, e1, fun zs H2 w2 fq st2 t2 => (z1 zs H2 w2 fq st2 t2).2⟩
          | cons e es =>
            rw [List.all_cons] at h4
            obtain ⟨h8, h9⟩ := and2 h4
            refine (pe_callKG (E := fun _ _ _ => False) g.gs e4 e3 (gl_of g h1) e1 e2 hB passes0 (ha.L X c g _ h6) q1 k1 k2 (okName_of h2).1 (star_of h8 es X.env) ?_).imp ?_
            · rw [k3, star_of h8]
              have := stars_of h9 X.env p
              unfold backTo at this ⊢
              rw [List.map_cons, List.any_cons, this]
              rfl
            · intro σ H Q q
              obtain ⟨w, s, ds, s', r, e, z⟩ := tE_callK (u := ⟨f, np, names, perm⟩) (np := np) (E := fun _ _ _ => False) ar σ H Q q
              exact ⟨w, s, ds, s', r, e, fun vs H1 w' fp st t => let ⟨w1, s1, ds1, s1', r1, e1, z1⟩ := z vs H1 w' fp st t; ⟨w1, s1, ds1, s1', r1, e1, fun zs H2 w2 fq st2 t2 => (z1 zs H2 w2 fq st2 t2).2⟩⟩
      | _ => cases h
    | _ => cases h
  · cases x <;> first | rfl | cases h

/-! ### built-ins -/
theorem bi_boot (b : Bi) : bootBuiltins (biN b).1 = some (biN b).2 := by cases b <;> decide +kernel
theorem bi_blt (b : Bi) : (biN b).1 ∈ builtN := by cases b <;> decide +kernel
theorem bi_ok' (b : Bi) : (biN b).1 ≠ "__name__" ∧ ((biN b).1 == ("__debug__" : Str)) = false := by cases b <;> decide +kernel
theorem bi_kind (b : Bi) : (∃ id, (biN b).2 = .builtin id) ∨ ∃ t, (biN b).2 = .type t := by cases b <;> first | exact .inl ⟨_, rfl⟩ | exact .inr ⟨_, rfl⟩
theorem pe_bi {X : Cx} {c : SC} (g : Good T Φ X c) (b : Bi) {x : Str} {np p : Pos} {e : PySem.Expr} {es : List PySem.Expr} {t : TA} (hx : x = (biN b).1) (hg : Gl X x) (ha : PA X (e :: es) t) (hs : (e :: es).all notStar = true) :
    PE X (.Call (.Name x np) (e :: es) [] p) (tCB (rBi X.K b) t) := by
  subst hx
  rw [List.all_cons] at hs
  obtain ⟨h6, h7⟩ := and2 hs
  have hc := cr_bi g.calm g.gs g.hu b
  have hb := bi_boot b
  rcases bi_kind b with ⟨id, hi⟩ | ⟨ty, hi⟩
  · rw [hi] at hc hb
    exact pe_callB hc hg (g.blt _ (bi_blt b)) hb ha (bi_ok' b).1 (bi_ok' b).2 (star_of h6 es X.env) (stars_of h7 X.env p)
  · rw [hi] at hc hb
    exact pe_callTy hc hg (g.blt _ (bi_blt b)) hb ha (bi_ok' b).1 (bi_ok' b).2 (star_of h6 es X.env) (stars_of h7 X.env p)
theorem sm_bi (b : Bi) {as : VE} (ha : SM T Φ (ev Φ as) (chk T as)) : SM T Φ (ev Φ (.bi b as)) (chk T (.bi b as)) := by
  refine SM.of (fun X c g x h => ?_) fun c x h => ?_
  · cases x with
    | Call fe es kws p =>
      cases fe with
      | Name x np =>
        cases kws with
        | cons _ _ => cases h
        | nil =>
          obtain ⟨h, h5⟩ := and2 h
          obtain ⟨h, h4⟩ := and2 h
          obtain ⟨h, h3⟩ := and2 h
          obtain ⟨h0, h1⟩ := and2 h
          cases es with
          | nil => cases h3
          | cons e es => exact (pe_bi g b (of_decide_eq_true h0) (gl_of g h1) (ha.L X c g _ h5) h4).imp (tE_list fun h _ _ r n k => bi_ok h r n k)
      | _ => cases h
    | _ => cases h
  · cases x <;> first | rfl | cases h

/-! ### isinstance -/
theorem ty_boot (t : Ty) (h : t ≠ .non) : bootBuiltins (Str.ofString (tyN t)) = some (.type (tyN t)) := by cases t <;> first | exact absurd rfl h | decide +kernel
theorem ty_blt (t : Ty) (h : t ≠ .non) : Str.ofString (tyN t) ∈ builtN := by cases t <;> first | exact absurd rfl h | decide +kernel
theorem ty_ok' (t : Ty) (h : t ≠ .non) : Str.ofString (tyN t) ≠ "__name__" ∧ (Str.ofString (tyN t) == ("__debug__" : Str)) = false := by cases t <;> first | exact absurd rfl h | decide +kernel
theorem tyE_of {X : Cx} {c : SC} (g : Good T Φ X c) {t : Ty} {x : PySem.Expr} (h : tyE c t x = true) : PE X x (tC (.ty (tyN t))) ∧ t ≠ .non ∧ notStar x = true := by
  cases x with
  | Name x p =>
    obtain ⟨h, h2⟩ := and2 h
    obtain ⟨h0, h1⟩ := and2 h
    have hn : t ≠ .non := of_decide_eq_true h0
    have hx : x = Str.ofString (tyN t) := of_decide_eq_true h1
    subst hx
    exact ⟨pe_bltn (gl_of g h2) (g.blt _ (ty_blt t hn)) (ty_boot t hn) rfl (ty_ok' t hn).1 (ty_ok' t hn).2, hn, rfl⟩
  | _ => cases h
theorem tysE_of {X : Cx} {c : SC} (g : Good T Φ X c) : ∀ {ts : List Ty} {xs : List PySem.Expr}, tysE c ts xs = true → PA X xs (fun σ H Q => Q (ts.map fun t => .ty (tyN t)) H) ∧ ∀ t ∈ ts, t ≠ .non
  | [], [], _ => ⟨pa_nil.imp fun σ H Q q => q, fun t h => by cases h⟩
  | t :: ts, x :: xs, h => by
    obtain ⟨h1, h2⟩ := and2 h
    obtain ⟨q1, q2, q3⟩ := tyE_of g h1
    obtain ⟨q4, q5⟩ := tysE_of g h2
    refine ⟨(pa_cons q1 q4 (star_of q3 xs X.env)).imp fun σ H Q q => q, fun t' ht => ?_⟩
    rcases List.mem_cons.mp ht with e | ht
    · rw [e]; exact q2
    · exact q5 t' ht
  | [], _ :: _, h => by cases h
  | _ :: _, [], h => by cases h
theorem kit_tys {K : PySem.W.Frag} {u : Value} {d : D} (h : ∀ t' b', tyD d t' = .ok b' → t' ≠ .non → PySem.W.kitOne K u (.type (tyN t')) = some b') : ∀ {ts : List Ty} {b : Bool}, tysD d ts = .ok b → (∀ t ∈ ts, t ≠ .non) → PySem.W.kitAny K u (ts.map fun t => .type (tyN t)) = some b
  | [], b, e, _ => by cases e; rfl
  | t :: ts, b, e, hn => by
    obtain ⟨b1, e1, e2⟩ := bind_ok e
    have h1 := h t b1 e1 (hn t List.mem_cons_self)
    rw [List.map_cons]
    cases b1 with
    | true =>
      cases e2
      exact kitAny_cons h1 (fun z => nomatch z) fun _ => rfl
    | false => exact kitAny_cons h1 (fun _ => kit_tys h (by simpa using e2) fun t' ht => hn t' (List.mem_cons_of_mem _ ht)) fun z => nomatch z
theorem clsV_all : ∀ ts : List Ty, Paired ClsV (ts.map fun t => V.ty (tyN t)) (ts.map fun t => Value.type (tyN t))
  | [] => .nil
  | t :: ts => .cons (.ty _) (clsV_all ts)
theorem ty_any {K : PySem.W.Frag} {z : Option Addr} {B : TB} {H : Hp} {d : D} {v : V} {p : List Addr} {b : Bool} {t : Ty} {ts : List Ty} (h : tysD d (t :: ts) = .ok b) (r : Rep z B H d v p) : ∃ u, TyX K H v u ∧ ∀ t' b', tyD d t' = .ok b' → t' ≠ .non → PySem.W.kitOne K u (.type (tyN t')) = some b' := by
  obtain ⟨b1, e1, e2⟩ := bind_ok h
  exact ty_rep e1 r
theorem tysD_cons {d : D} : ∀ {ts : List Ty} {b : Bool}, tysD d ts = .ok b → True := fun _ => trivial
theorem tE_isi1 {K : PySem.W.Frag} {a : VS → Res (D × VS)} {t : Ty} (hn : t ≠ .non) : ∀ σ H Q, tE (isiM a [t]) σ H Q → tCB (fun xs H Q => rIsi K xs H Q ∨ rIsiT K xs H Q) (tCons (tE a) (tCons (tC (.ty (tyN t))) tNil)) σ H Q := fun σ H Q ⟨w, s, d', s', r, e, q⟩ => by
  obtain ⟨x, e1, e⟩ := bind_ok e
  obtain ⟨b, e3, e4⟩ := bind_ok e
  cases e4
  refine ⟨w, s, x.1, x.2, r, e1, fun v H1 w1 fp st1 t1 => ?_⟩
  obtain ⟨u, h1, h2⟩ := ty_any (K := K) e3 t1.rep
  obtain ⟨b1, e5, e6⟩ := bind_ok e3
  have e7 : b = b1 := by
    cases b1 <;> (cases e6; rfl)
  subst e7
  exact .inl ⟨v, .ty (tyN t), u, .type (tyN t), b, rfl, .ty _, h1, h2 t b e5 hn, q _ H1 w1 [] st1 (.of_plain ⟨rfl, rfl⟩)⟩
theorem TyX_ext {K : PySem.W.Frag} {H H' : Hp} {v : V} {u : Value} {p : Addr} {o : HO} (hp : H p = none) (h : TyX K H v u) : True := trivial
theorem tE_isiT {K : PySem.W.Frag} {a : VS → Res (D × VS)} {t : Ty} {ts : List Ty} (hn : ∀ t' ∈ t :: ts, t' ≠ .non) (hl : (t :: ts).length ≤ sizeLine) : ∀ σ H Q, tE (isiM a (t :: ts)) σ H Q →
    tCB (fun xs H Q => rIsi K xs H Q ∨ rIsiT K xs H Q) (tCons (tE a) (tCons (tTup fun _ H Q => Q ((t :: ts).map fun t => .ty (tyN t)) H) tNil)) σ H Q := fun σ H Q ⟨w, s, d', s', r, e, q⟩ => by
  obtain ⟨x, e1, e⟩ := bind_ok e
  obtain ⟨b, e3, e4⟩ := bind_ok e
  cases e4
  refine ⟨w, s, x.1, x.2, r, e1, fun v H1 w1 fp st1 t1 => ⟨by rw [List.length_map]; exact hl, fun p hp => ?_⟩⟩
  obtain ⟨u, h1, h2⟩ := ty_any (K := K) e3 (t1.rep.ext (ext_upd hp))
  exact .inr ⟨v, p, _, u, _, b, rfl, upd_same, clsV_all _, h1, kit_tys h2 e3 hn, q _ _ w1 [] (st1.trans r (Step.laid st1.rel (ext_upd hp))) (.of_plain ⟨rfl, rfl⟩)⟩
theorem isi_boot : bootBuiltins "isinstance" = some (.builtin "isinstance") := by decide +kernel
theorem sm_isi {a : VE} (ts : List Ty) (ha : SM T Φ (ev Φ a) (chk T a)) : SM T Φ (ev Φ (.isi a ts)) (chk T (.isi a ts)) := by
  refine SM.of (fun X c g x h => ?_) fun c x h => ?_
  · have h' : cIsi (chk T a) ts c x = true := h
    unfold cIsi at h'
    split at h'
    · obtain ⟨h, h5⟩ := and2 h'
      obtain ⟨h, h4⟩ := and2 h
      obtain ⟨h, h3⟩ := and2 h
      obtain ⟨h0, h1⟩ := and2 h
      have hx := of_decide_eq_true h0
      subst hx
      rename_i e tt p
      have hc := (call_isi (X := X)).or call_isiT
      have hm := g.blt "isinstance" (by decide +kernel)
      have hE := ha.E X _ g _ h4
      unfold tyArg at h5
      split at h5
      · obtain ⟨q1, q2, q3⟩ := tyE_of g h5
        exact (pe_callB hc (gl_of g h1) hm isi_boot (pa_cons hE (pa_cons q1 pa_nil (star_of q3 _ _)) (star_of h3 _ _)) (by decide +kernel) (by decide +kernel) (star_of h3 _ _) (stars_of (by rw [List.all_cons, q3]; rfl) _ _)).imp (tE_isi1 q2)
      · rename_i es k pp
        obtain ⟨h5, h8⟩ := and2 h5
        obtain ⟨h6, h7⟩ := and2 h5
        obtain ⟨q1, q2⟩ := tysE_of g h8
        cases ts with
        | nil => cases h6
        | cons t ts =>
          have hl : (t :: ts).length ≤ sizeLine := Nat.le_trans (of_decide_eq_true h7) (by rw [sizeLine_eq]; decide)
          exact (pe_callB hc (gl_of g h1) hm isi_boot (pa_cons hE (pa_cons (pe_tup q1) pa_nil rfl) (star_of h3 _ _)) (by decide +kernel) (by decide +kernel) (star_of h3 _ _) (stars_of rfl _ _)).imp (tE_isiT q2 hl)
      · cases h5
    · cases h'
  · cases x <;> first | rfl | cases h
end
end VL
end

/-! text: VSnd6 -/
section
set_option autoImplicit false
/-! VSnd6: what is walked. -/
namespace VL
open PySem PySem.Spec PyProof.Rows L2

section
variable {T : Tb} {Φ : Calls}
theorem SM.ofI {I : VS → Res ((List D × List D) × VS)} {C : SC → PySem.Expr → PySem.Expr → Bool} (h : ∀ X c, Good T Φ X c → ∀ tg x, C c tg x = true → PI X tg x (tI I) ∧ notSet x = true) : SM T Φ (.ofI I) (.ofI C) where
  E := fun _ _ _ _ z => by cases z
  L := fun _ _ _ _ z => by cases z
  K := fun _ _ _ _ _ z => by cases z
  Tt := fun _ _ _ _ z => by cases z
  P := fun _ _ _ _ z => by cases z
  F := fun _ _ _ _ z => by cases z
  I := h

/-! ### ranges -/
theorem range_reps {z : Option Addr} {B : TB} {H : Hp} (lo hi : Int) : Reps z B H (rangeD lo hi) ((List.range (hi - lo).toNat).map fun (k : Nat) => V.int (lo + k)) [] := by
  unfold rangeD
  generalize List.range (hi - lo).toNat = l
  induction l with
  | nil => exact .nil
  | cons x l ih => exact Reps.cons (p := []) ⟨rfl, rfl⟩ ih
theorem walk_R {lo : Int} {n : Nat} {H : Hp} : Walks (Itr lo n) H (((List.range n).map fun (k : Nat) => V.int (lo + k)).map Elt.one) [] := by
  unfold Walks
  rw [List.length_map, List.length_map, List.length_range]
  refine walk_range.mono (fun _ _ => trivial) fun i H x H' hi _ y => ?_
  obtain ⟨e1, e2⟩ := y
  unfold YE
  rw [List.getElem?_map, List.getElem?_map, List.getElem?_range hi]
  exact ⟨e1, e2⟩
theorem rng_fin {w w1 : Wd} {σ : L2.St} {H H1 : Hp} {s s1 : VS} {R : It → Hp → Prop} {lo hi : Int} (st : Step w H s σ w1 H1 s1)
    (q : ∀ J H' w' es A fa fp, Step w H s σ w' H' s1 → Walks J H' es A → (∀ a ∈ A, H' a ≠ none) → AOk w' H' s1 [] fa A → Elts w'.za (BW w' s1.ρ) H' (rangeD lo hi) es fp → (fa ++ fp).Nodup →
      (∀ a ∈ fa ++ fp, H a = none ∧ ¬ w'.F a ∧ ¬ inO w' a ∧ ¬ zs w'.z a) → (∀ a ∈ fa ++ fp, ∃ o, H' a = some o ∧ mutO o = true) → R J H') : R (Itr lo (hi - lo).toNat) H1 :=
  q _ H1 w1 _ [] [] [] st walk_R (fun a h => by cases h) (fun a h => by cases h) (elts_one (range_reps lo hi)) List.nodup_nil (fun a h => by cases h) fun a h => by cases h
theorem rngOk_of {i : Int} (h : rngOk i = true) : -(2 ^ 62) ≤ i ∧ i < 2 ^ 62 := by
  unfold rngOk at h
  obtain ⟨h1, h2⟩ := and2 h
  exact ⟨of_decide_eq_true h1, of_decide_eq_true h2⟩
theorem rngD_of {d e : D} {ds : List D} (h : rngD d e = .ok ds) : ∃ i j, d = .int i ∧ e = .int j ∧ rngOk i = true ∧ rngOk j = true ∧ ds = rangeD i j := by
  unfold rngD at h
  split at h
  · rename_i i j
    obtain ⟨g1, g2⟩ := guard_ok h
    obtain ⟨g1, _⟩ := and2 g1
    obtain ⟨g1, g3⟩ := and2 g1
    exact ⟨i, j, rfl, rfl, g1, g3, g2⟩
  · cases h
theorem sm_rng1 {a : VE} (ha : SM T Φ (ev Φ a) (chk T a)) : SM T Φ (ev Φ (.rng1 a)) (chk T (.rng1 a)) := by
  refine SM.ofI fun X c g tg x h => ?_
  have h' : cRng1 (chk T a) c tg x = true := h
  have hm := g.blt "range" (by decide +kernel)
  unfold cRng1 at h'
  split at h'
  · obtain ⟨h, h3⟩ := and2 h'
    obtain ⟨h, h2⟩ := and2 h
    obtain ⟨h0, h1⟩ := and2 h
    have hx := of_decide_eq_true h0
    subst hx
    refine ⟨(pi_range1 (gl_of g h1) hm (pa_cons (ha.E X _ g _ h3) pa_nil (star_of h2 [] X.env)) (star_of h2 [] X.env)).imp fun σ H R ⟨w, s, ds, srcs, s', r, e, q⟩ => ?_, rfl⟩
    obtain ⟨v, e1, e⟩ := bind_ok e
    obtain ⟨ds', e2, e⟩ := bind_ok e
    cases e
    refine ⟨w, s, v.1, v.2, r, e1, fun u H1 w1 fp st1 t1 => ?_⟩
    obtain ⟨vd, vs'⟩ := v
    obtain ⟨i, j, ei, ej, g1, g2, ed⟩ := rngD_of e2
    cases ei
    subst ej ed
    refine ⟨j, by rw [t1.rep.1], (rngOk_of g2).1, (rngOk_of g2).2, ?_⟩
    have := rng_fin (lo := 0) (hi := j) st1 q
    simpa using this
  · cases h'
theorem sm_rng2 {a b : VE} (ha : SM T Φ (ev Φ a) (chk T a)) (hb : SM T Φ (ev Φ b) (chk T b)) : SM T Φ (ev Φ (.rng2 a b)) (chk T (.rng2 a b)) := by
  refine SM.ofI fun X c g tg x h => ?_
  have h' : cRng2 (chk T a) (chk T b) c tg x = true := h
  have hm := g.blt "range" (by decide +kernel)
  unfold cRng2 at h'
  split at h'
  · obtain ⟨h, h5⟩ := and2 h'
    obtain ⟨h, h4⟩ := and2 h
    obtain ⟨h, h3⟩ := and2 h
    obtain ⟨h, h2⟩ := and2 h
    obtain ⟨h0, h1⟩ := and2 h
    have hx := of_decide_eq_true h0
    subst hx
    rename_i e e2 p
    have s2 := star_of h3 [] X.env
    refine ⟨(pi_range2 (gl_of g h1) hm (pa_cons (ha.E X _ g _ h4) (pa_cons (hb.E X _ g _ h5) pa_nil s2) (star_of h2 _ X.env)) (by rw [star_of h2, s2]; rfl) s2).imp fun σ H R ⟨w, s, ds, srcs, s', r, e, q⟩ => ?_, rfl⟩
    obtain ⟨v, e1, e⟩ := bind_ok e
    obtain ⟨y, e3, e⟩ := bind_ok e
    obtain ⟨ds', e2, e⟩ := bind_ok e
    cases e
    refine ⟨w, s, v.1, v.2, r, e1, fun u H1 w1 fp st1 t1 => ⟨w1, v.2, y.1, y.2, st1.rel, e3, fun u2 H2 w2 fq st2 t2 => ?_⟩⟩
    obtain ⟨vd, vs'⟩ := v
    obtain ⟨yd, ys'⟩ := y
    obtain ⟨i, j, ei, ej, g1, g2, ed⟩ := rngD_of e2
    cases ei
    cases ej
    subst ed
    exact ⟨i, j, by rw [t1.rep.1, t2.rep.1], ⟨(rngOk_of g1).1, (rngOk_of g1).2, (rngOk_of g2).1, (rngOk_of g2).2⟩, rng_fin (lo := i) (hi := j) (st1.trans r st2) q⟩
  · cases h'

/-! ### pairs -/
def enumE (n : Int) : List V → List Elt
  | [] => []
  | v :: vs => .pair (.int n) v :: enumE (n + 1) vs
theorem enumE_len : ∀ (n : Int) (vs : List V), (enumE n vs).length = vs.length
  | _, [] => rfl
  | n, v :: vs => by rw [enumE, List.length_cons, List.length_cons, enumE_len]
theorem enumE_get : ∀ (n : Int) (vs : List V) (i : Nat), (enumE n vs)[i]? = (vs[i]?).map fun v => .pair (.int (n + i)) v
  | _, [], i => rfl
  | n, v :: vs, 0 => by simp [enumE]
  | n, v :: vs, i + 1 => by
    rw [enumE, List.getElem?_cons_succ, List.getElem?_cons_succ, enumE_get]
    congr 1
    funext u
    congr 2
    omega
theorem elts_enum {z : Option Addr} {B : TB} {H : Hp} : ∀ {ds : List D} {vs : List V} {fp : List Addr} (n : Int), Reps z B H ds vs fp → Elts z B H (enumD n ds) (enumE n vs) fp
  | [], _, _, n, h => by rw [h.1, h.2]; exact ⟨rfl, rfl⟩
  | d :: ds, _, _, n, h => by
    obtain ⟨v, w, p, q, e1, e2, h1, h2⟩ := h
    subst e1
    exact ⟨.pair (.int n) v, enumE (n + 1) w, p, q, rfl, e2, ⟨.int n, d, [], p, rfl, rfl, ⟨rfl, rfl⟩, h1⟩, elts_enum (n + 1) h2⟩
def zipE : List V → List V → List Elt
  | v :: vs, u :: us => .pair v u :: zipE vs us
  | _, _ => []
theorem zipE_len : ∀ (vs us : List V), (zipE vs us).length = min vs.length us.length
  | [], us => by cases us <;> rfl
  | v :: vs, [] => rfl
  | v :: vs, u :: us => by rw [zipE, List.length_cons, List.length_cons, List.length_cons, zipE_len]; omega
theorem zipE_get : ∀ (vs us : List V) (i : Nat) (x y : V), vs[i]? = some x → us[i]? = some y → (zipE vs us)[i]? = some (.pair x y)
  | v :: vs, u :: us, 0, x, y, h1, h2 => by
    rw [zipE]
    simp at h1 h2 ⊢
    exact ⟨h1, h2⟩
  | v :: vs, u :: us, i + 1, x, y, h1, h2 => by
    rw [zipE, List.getElem?_cons_succ]
    exact zipE_get vs us i x y (by simpa using h1) (by simpa using h2)
  | [], us, i, x, y, h1, h2 => by cases h1
  | v :: vs, [], i, x, y, h1, h2 => by cases h2
theorem elts_zip {z : Option Addr} {B : TB} {H : Hp} : ∀ {ds es : List D} {vs us : List V} {p q : List Addr}, Reps z B H ds vs p → Reps z B H es us q →
    ∃ fp, Elts z B H (zipD ds es) (zipE vs us) fp ∧ (∀ a ∈ fp, a ∈ p ∨ a ∈ q) ∧ ((p ++ q).Nodup → fp.Nodup)
  | [], es, _, us, _, q, h, k => by
    rw [h.1, h.2]
    have e1 : zipE [] us = [] := by cases us <;> rfl
    have e2 : zipD [] es = [] := by cases es <;> rfl
    rw [e1, e2]
    exact ⟨[], ⟨rfl, rfl⟩, (fun a h => by cases h), fun _ => List.nodup_nil⟩
  | d :: ds, [], vs, _, p, _, h, k => by
    rw [k.1, k.2]
    obtain ⟨v, w, _, _, e1, _⟩ := h
    subst e1
    exact ⟨[], ⟨rfl, rfl⟩, (fun a h => by cases h), fun _ => List.nodup_nil⟩
  | d :: ds, e :: es, _, _, _, _, h, k => by
    obtain ⟨v, w, p1, p2, e1, e2, h1, h2⟩ := h
    obtain ⟨u, w', q1, q2, e3, e4, h3, h4⟩ := k
    subst e1 e2 e3 e4
    obtain ⟨fp, f1, f2, f3⟩ := elts_zip h2 h4
    refine ⟨(p1 ++ q1) ++ fp, ⟨.pair v u, zipE w w', p1 ++ q1, fp, rfl, rfl, ⟨d, e, p1, q1, rfl, rfl, h1, h3⟩, f1⟩, fun a ha => ?_, fun n => ?_⟩
    · simp only [List.mem_append] at ha ⊢
      rcases ha with (ha | ha) | ha
      · exact .inl (.inl ha)
      · exact .inr (.inl ha)
      · exact (f2 a ha).imp .inr .inr
    · simp only [List.nodup_append, List.mem_append] at n ⊢
      obtain ⟨⟨n1, n2, n3⟩, ⟨n4, n5, n6⟩, n7⟩ := n
      refine ⟨⟨n1, n4, fun a ha b hb => n7 a (.inl ha) b (.inl hb)⟩, f3 ?_, fun a ha b hb => ?_⟩
      · rw [List.nodup_append]
        exact ⟨n2, n5, fun a ha b hb => n7 a (.inr ha) b (.inr hb)⟩
      · rcases f2 b hb with hb | hb
        · rcases ha with ha | ha
          · exact n3 a ha b hb
          · exact fun e => n7 b (.inr hb) a (.inl ha) e.symm
        · rcases ha with ha | ha
          · exact n7 a (.inl ha) b (.inr hb)
          · exact n6 a ha b hb
/-- a list that is walked: its root, its items -/
theorem root_lst {z : Option Addr} {B : TB} {H : Hp} {t : Tag} {xs : List D} {v : V} {p : List Addr} (r : Rep z B H (.lst t xs) v p) :
    ∃ a vs ra q, v = .ref a ∧ H a = some (.lst vs) ∧ vs.length ≤ sizeLine ∧ Reps z B H xs vs q ∧ p = ra ++ q ∧ (a ∈ ra ∨ (t ≠ .own ∧ B t a)) := by
  obtain ⟨a, vs, q, e, ha, hl, hr, ho⟩ := r
  rcases ho with ⟨et, ep⟩ | ⟨n, hb, ep⟩
  · exact ⟨a, vs, [a], q, e, ha, hl, hr, ep, .inl (by simp)⟩
  · exact ⟨a, vs, [], q, e, ha, hl, hr, ep, .inr ⟨n, hb⟩⟩
theorem walk_E {K : PySem.W.Frag} {a : Addr} {vs : List V} {H : Hp} (ha : H a = some (.lst vs)) : Walks (Ite K a) H (enumE 0 vs) [a] := by
  unfold Walks
  rw [enumE_len]
  refine walk_enum.mono (fun H' h => .of ((h a (by simp)).trans ha)) fun i H' x H'' hi h y => ?_
  obtain ⟨T, x1, y1, e1, e2, e3, e4, e5⟩ := y
  have e4' : x1 = .int (i : Nat) := by simpa using e4.symm
  subst e4'
  unfold YE
  have e5' : vs[i]? = some y1 := e5
  rw [enumE_get, e5']
  refine ⟨T, e1, e2, ?_⟩
  rw [e3]
  simp
theorem walk_Z {K : PySem.W.Frag} {a b : Addr} {vs us : List V} {H : Hp} (ha : H a = some (.lst vs)) (hb : H b = some (.lst us)) : Walks (Itz K a b) H (zipE vs us) [a, b] := by
  unfold Walks
  rw [zipE_len]
  refine (walk_zip rfl).mono (fun H' h => ⟨.of ((h a (by simp)).trans ha), .of ((h b (by simp)).trans hb)⟩) fun i H' x H'' hi h y => ?_
  obtain ⟨T, x1, y1, e1, e2, e3, e4, e5⟩ := y
  unfold YE
  rw [zipE_get vs us i x1 y1 e4 e5]
  exact ⟨T, e1, e2, e3⟩
theorem walk_zipT {K : PySem.W.Frag} {a b : Addr} {xs ys : List V} {n : Nat} (hn : n = min xs.length ys.length) : L2.Walk (RZ.ItzT K a b) n (fun H => SqT K H a xs ∧ SqT K H b ys) (YPair (fun i => xs[i]?) (fun i => ys[i]?)) := by
  subst hn
  refine ⟨fun i _ hi q => ?_, fun _ q => ⟨xs, ys, q.1, q.2, by omega⟩, fun i H v H' _ q y => ?_⟩
  · have h1 : i < xs.length := by omega
    have h2 : i < ys.length := by omega
    exact ⟨xs, ys, xs[i], ys[i], q.1, q.2, by simp [h1], by simp [h2]⟩
  · obtain ⟨T, x, z, h1, h2, h3, h4, h5⟩ := y
    exact ⟨T, x, z, h1, h2, h3, h4 xs q.1, h5 ys q.2⟩
theorem walk_ZT {K : PySem.W.Frag} {a b : Addr} {vs us : List V} {H : Hp} (ha : H a = some (.tup vs)) (hb : H b = some (.tup us)) : Walks (RZ.ItzT K a b) H (zipE vs us) [a, b] := by
  unfold Walks
  rw [zipE_len]
  refine (walk_zipT rfl).mono (fun H' h => ⟨.of ((h a (by simp)).trans ha), .of ((h b (by simp)).trans hb)⟩) fun i H' x H'' hi h y => ?_
  obtain ⟨T, x1, y1, e1, e2, e3, e4, e5⟩ := y
  unfold YE
  rw [zipE_get vs us i x1 y1 e4 e5]
  exact ⟨T, e1, e2, e3⟩
theorem has_app {a b : List D} {t : Tag} (h : has a t = true ∨ has b t = true) : has (a ++ b) t = true := by
  unfold has at h ⊢
  induction a with
  | nil =>
    rcases h with h | h
    · cases h
    · exact h
  | cons x xs ih =>
    rw [List.cons_append]
    simp only [D.anys, Bool.or_eq_true] at h ⊢
    rcases h with (h | h) | h
    · exact .inl h
    · exact .inr (ih (.inl h))
    · exact .inr (ih (.inr h))
theorem seq2_inv {d e : D} {z : List D × List D} (h : seq2 d e = .ok z) : (∃ t xs t' ys, d = .lst t xs ∧ e = .lst t' ys ∧ z = (xs, ys)) ∨ ∃ xs ys, d = .tup xs ∧ e = .tup ys ∧ z = (xs, ys) := by
  unfold seq2 at h
  split at h
  · cases h; exact .inl ⟨_, _, _, _, rfl, rfl, rfl⟩
  · cases h; exact .inr ⟨_, _, rfl, rfl, rfl⟩
  · cases h
theorem sm_zip {a b : VE} (ha : SM T Φ (ev Φ a) (chk T a)) (hb : SM T Φ (ev Φ b) (chk T b)) : SM T Φ (ev Φ (.zip a b)) (chk T (.zip a b)) := by
  refine SM.ofI fun X c g tg x h => ?_
  have h' : cZip (chk T a) (chk T b) c tg x = true := h
  have hm := g.blt "zip" (by decide +kernel)
  unfold cZip at h'
  split at h'
  · obtain ⟨h, h6⟩ := and2 h'
    obtain ⟨h, h5⟩ := and2 h
    obtain ⟨h, h4⟩ := and2 h
    obtain ⟨h, h3⟩ := and2 h
    obtain ⟨h, h2⟩ := and2 h
    obtain ⟨h0, h1⟩ := and2 h
    have hx := of_decide_eq_true h1
    subst hx
    cases tg with
    | Tuple elts kk tp =>
      rename_i e e2 p
      refine ⟨(RZ.pi_zipA (gl_of g h2) hm (pa_cons (ha.E X _ g _ h5) (pa_cons (hb.E X _ g _ h6) pa_nil (star_of h4 [] X.env)) (star_of h3 _ X.env)) (star_of h3 _ X.env) (stars_of (by rw [List.all_cons, h4]; rfl) _ _)).imp fun σ H R ⟨w, s, ds, srcs, s', r, e, q⟩ => ?_, rfl⟩
      obtain ⟨v, e1, e⟩ := bind_ok e
      obtain ⟨y, e3, e⟩ := bind_ok e
      obtain ⟨ds', e2, e⟩ := bind_ok e
      cases e
      refine ⟨w, s, v.1, v.2, r, e1, fun u H1 w1 fp st1 t1 => ⟨w1, v.2, y.1, y.2, st1.rel, e3, fun u2 H2 w2 fq st2 t2 => ?_⟩⟩
      have tc := TV.cat r st1 st2 t1.tv t2.tv
      have st := st1.trans r st2
      have lv := Reps.live _ tc.rep
      obtain ⟨vd, vs'⟩ := v
      obtain ⟨yd, ys'⟩ := y
      have r1 : Rep w2.za (BW w2 ys'.ρ) H2 vd u fp := (t1.step st1.rel st2).rep
      have r2 : Rep w2.za (BW w2 ys'.ρ) H2 yd u2 fq := t2.rep
      rcases seq2_inv (show seq2 vd yd = .ok ds' from e2) with ⟨t, xs, t', ys, z1, z2, z3⟩ | ⟨xs, ys, z1, z2, z3⟩
      · cases z1
        cases z2
        subst z3
        obtain ⟨b1, vs, ra, qa, ea, ha1, hl1, hr1, ep1, root1⟩ := root_lst r1
        obtain ⟨b2, us, rb, qb, eb, ha2, hl2, hr2, ep2, root2⟩ := root_lst r2
        subst ea eb ep1 ep2
        obtain ⟨ff, f1, f2, f3⟩ := elts_zip hr1 hr2
        have sub : ∀ c ∈ (ra ++ rb) ++ ff, c ∈ (ra ++ qa) ++ (rb ++ qb) := fun c hc => by
          simp only [List.mem_append] at hc ⊢
          rcases hc with (hc | hc) | hc
          · exact .inl (.inl hc)
          · exact .inr (.inl hc)
          · exact (f2 c hc).imp .inr .inr
        refine ⟨b1, b2, vs, us, rfl, .inl ⟨.of ha1, .of ha2, q _ H2 w2 _ [b1, b2] (ra ++ rb) ff st (walk_Z ha1 ha2) (fun c hc => ?_) (fun c hc => ?_) f1 ?_ (fun c hc => tc.fr c (sub c hc)) fun c hc => lv c (sub c hc)⟩⟩
        · have hc' : c = b1 ∨ c = b2 := by simpa using hc
          rcases hc' with rfl | rfl
          · rw [ha1]; exact fun z => by cases z
          · rw [ha2]; exact fun z => by cases z
        · have hc' : c = b1 ∨ c = b2 := by simpa using hc
          rcases hc' with rfl | rfl
          · rcases root1 with h | ⟨n, h⟩
            · exact .inr (.inl (List.mem_append_left _ h))
            · exact .inr (.inr ⟨t, has_app (a := [_]) (b := [_]) (.inl has_root), n, h⟩)
          · rcases root2 with h | ⟨n, h⟩
            · exact .inr (.inl (List.mem_append_right _ h))
            · exact .inr (.inr ⟨t', has_app (a := [_]) (b := [_]) (.inr has_root), n, h⟩)
        · have n := tc.nd
          simp only [List.nodup_append, List.mem_append] at n ⊢
          obtain ⟨⟨n1, n2, n3⟩, ⟨n4, n5, n6⟩, n7⟩ := n
          refine ⟨⟨n1, n4, fun a ha b hb => n7 a (.inl ha) b (.inl hb)⟩, f3 ?_, fun a ha b hb => ?_⟩
          · rw [List.nodup_append]
            exact ⟨n2, n5, fun a ha b hb => n7 a (.inr ha) b (.inr hb)⟩
          · rcases f2 b hb with hb | hb
            · rcases ha with ha | ha
              · exact n3 a ha b hb
              · exact fun e => n7 b (.inr hb) a (.inl ha) e.symm
            · rcases ha with ha | ha
              · exact n7 a (.inl ha) b (.inr hb)
              · exact n6 a ha b hb
      · cases z1
        cases z2
        subst z3
        obtain ⟨b1, vs, ea, ha1, hl1, hr1⟩ := r1
        obtain ⟨b2, us, eb, ha2, hl2, hr2⟩ := r2
        subst ea eb
        obtain ⟨ff, f1, f2, f3⟩ := elts_zip hr1 hr2
        have sub : ∀ c ∈ [] ++ ff, c ∈ fp ++ fq := fun c hc => List.mem_append.mpr (f2 c hc)
        refine ⟨b1, b2, vs, us, rfl, .inr ⟨.of ha1, .of ha2, q _ H2 w2 _ [b1, b2] [] ff st (walk_ZT ha1 ha2) (fun c hc => ?_) (fun c hc => ?_) f1 (f3 tc.nd) (fun c hc => tc.fr c (sub c hc)) fun c hc => lv c (sub c hc)⟩⟩
        · have hc' : c = b1 ∨ c = b2 := by simpa using hc
          rcases hc' with rfl | rfl
          · rw [ha1]; exact fun z => by cases z
          · rw [ha2]; exact fun z => by cases z
        · have hc' : c = b1 ∨ c = b2 := by simpa using hc
          rcases hc' with rfl | rfl
          · exact .inl ⟨_, ha1⟩
          · exact .inl ⟨_, ha2⟩
    | _ => cases h0
  · cases h'
end
end VL
end

/-! text: VKeys -/
section
set_option autoImplicit false
/-! VKeys: the keys of a new dict are walked. -/
namespace VL
open PySem PySem.Spec PyProof.Rows L2

/-- a new dict is walked: it is locked from then on -/
theorem pi_keysF {X : Cx} {tg e : PySem.Expr} {td : TE} (he : PE X e td) : PI X tg e (fun σ H R => td σ H fun x H1 => ∃ d kvs, x = .ref d ∧ H1 d = some (.dK kvs) ∧ ∀ od, R (Itk d od kvs) (upd H1 d (.frz od (.dK kvs)))) := by
  refine ⟨fun pins s σ H R I h => ?_⟩
  refine thn (he.run pins s σ H _ I h) fun u s1 ⟨x, H1, I1, rx, d, kvs, ex, hd, q⟩ => ?_
  subst ex
  obtain rfl : u = Value.ref d := rx
  obtain ⟨od, I2⟩ := I1.lock hd trivial
  obtain ⟨hs, hgd, hx, es, ep, vs, hdt, hsz, kv, hm⟩ := I2.frzK (d := d) upd_same
  refine iter_keys hs hgd hx hdt (pi_one (tk := s1.toks) I2 _ (turn_keys _ hdt) ⟨_, Heap.get?_push_size _ rfl, rfl, ?_⟩ (q od))
  rw [hsz] <;> rfl
section
variable {w w1 : Wd} {σ : L2.St} {H H1 : Hp} {s s1 : VS}
/-- an object out of reach is changed -/
theorem SRel.other (r : SRel w σ H s) {d : Addr} {o : HO} (h1 : ¬ w.F d) (h2 : ¬ inO w d) (h3 : ¬ zs w.z d) (h4 : ∀ xs, H d ≠ some (.tup xs)) : SRel w σ (upd H d o) s := by
  have ne : ∀ {b : Addr} {u : HO}, b ≠ d → H b = some u → upd H d o b = some u := fun h e => by rw [upd_ne h]; exact e
  refine ⟨r.len, fun i x e => ?_, r.nd, r.dj, r.oF, fun i a h => ?_, fun a h => ?_, ?_, r.zF⟩
  · obtain ⟨v, hv, hr⟩ := r.slot i x e
    refine ⟨v, hv, Rep.mono (fun t b u hb e => ne (fun z => h1 (by rw [← z]; exact hb.2)) e) (fun b xs e => ne (fun z => h4 xs (by rw [← z]; exact e)) e) (fun _ _ h => h) x (fun b u hb e => ne (fun z => h2 ⟨i, by rw [← z]; exact hb⟩) e) hr⟩
  · obtain ⟨u, e, m⟩ := r.oM i a h
    exact ⟨u, ne (fun z => h2 ⟨i, by rw [← z]; exact h⟩) e, m⟩
  · obtain ⟨u, e, m⟩ := r.fM a h
    exact ⟨u, ne (fun z => h1 (by rw [← z]; exact h)) e, m⟩
  · have q := r.strm
    cases hs : s.st with
    | none => rw [hs] at q; exact q
    | some y =>
      rw [hs] at q
      obtain ⟨b, c, e, n, e1, e2⟩ := q
      exact ⟨b, c, e, n, ne (fun z => h3 (by rw [← z]; exact ⟨b, c, e, .inl rfl⟩)) e1, ne (fun z => h3 (by rw [← z]; exact ⟨b, c, e, .inr rfl⟩)) e2⟩
theorem Step.other (st : Step w H s σ w1 H1 s1) {d : Addr} {o : HO} (h0 : H d = Option.none) (h1 : ¬ w1.F d) (h2 : ¬ inO w1 d) (h3 : ¬ zs w1.z d) (h4 : ∀ xs, H1 d ≠ some (.tup xs)) : Step w H s σ w1 (upd H1 d o) s1 :=
  ⟨st.rel.other h1 h2 h3 h4, st.len, st.fM, st.bM, st.new, fun a u e n => by rw [upd_ne fun z => by rw [z, h0] at e; cases e]; exact st.ext a u e n, st.zE⟩
end
theorem elts_keys {z : Option Addr} {B : TB} {H : Hp} : ∀ (ks : List Key), Elts z B H (ks.map keyD) (ks.map fun k => Elt.one (kV k)) []
  | [] => ⟨rfl, rfl⟩
  | k :: ks => ⟨.one (kV k), ks.map fun k => Elt.one (kV k), [], [], rfl, rfl, by cases k <;> exact ⟨rfl, rfl⟩, elts_keys ks⟩
theorem walk_KF {d : Addr} {od : Obj} {ks : List Key} {vs : List V} {H : Hp} (hl : ks.length = vs.length) (hd : H d = some (.frz od (.dK (ks.zip vs)))) : Walks (Itk d od (ks.zip vs)) H (ks.map fun k => Elt.one (kV k)) [d] := by
  unfold Walks
  rw [List.length_map]
  have hz : (ks.zip vs).length = ks.length := by rw [List.length_zip]; omega
  rw [← hz]
  refine walk_keys.mono (fun H' h => (h d (by simp)).trans hd) fun i H' x H'' hi h y => ?_
  obtain ⟨e1, k, v, e2, e3⟩ := y
  unfold YE
  rw [List.getElem?_map]
  have : ks[i]? = some k := by
    obtain ⟨h1, h2⟩ := List.getElem?_eq_some_iff.mp e2
    rw [List.getElem_zip] at h2
    cases h2
    exact List.getElem?_eq_getElem _
  rw [this]
  exact ⟨e1, e3⟩
section
variable {T : Tb} {Φ : Calls}
theorem sm_keys {a : VE} (ha : SM T Φ (ev Φ a) (chk T a)) : SM T Φ (ev Φ (.keys a)) (chk T (.keys a)) := by
  refine SM.ofI fun X c g tg x h => ?_
  have h' : (notSet x && (chk T a).E c x) = true := h
  obtain ⟨h1, h2⟩ := and2 h'
  refine ⟨(pi_keysF (ha.E X _ g _ h2)).imp fun σ H R ⟨w, s, ds, srcs, s', r, e, q⟩ => ?_, h1⟩
  obtain ⟨v, e1, e⟩ := bind_ok e
  refine ⟨w, s, v.1, v.2, r, e1, fun u H1 w1 fp st1 t1 => ?_⟩
  obtain ⟨vd, vs'⟩ := v
  cases vd with
  | dk t ks xs =>
    cases t with
    | own =>
      cases e
      obtain ⟨b, vs, qq, ev', hb, hk, hl, hr, ho⟩ := t1.rep
      have ef := ho.own
      subst ef ev'
      obtain ⟨f1, f2, f3, f4⟩ := t1.fr b List.mem_cons_self
      refine ⟨b, _, rfl, hb, fun od => ?_⟩
      have st2 := st1.other (o := .frz od (.dK (ks.zip vs))) f1 f2 f3 f4 (fun xs e => by rw [hb] at e; cases e)
      refine q _ _ w1 _ [b] [b] [] st2 (walk_KF hk upd_same) (fun c hc => by rw [List.mem_singleton.mp hc, upd_same]; exact fun z => by cases z) (fun c hc => .inr (.inl hc)) (elts_keys ks) (by simp) (fun c hc => ?_) fun c hc => ?_
      · have : c = b := by simpa using hc
        subst this
        exact ⟨f1, f2, f3, f4⟩
      · have : c = b := by simpa using hc
        subst this
        exact ⟨_, upd_same, rfl⟩
    | _ => cases e
  | _ => cases e
end
end VL
end

/-! text: VEnumT -/
section
set_option autoImplicit false
/-! VEnumT: enumerate over a tuple. -/
namespace VL
open PySem PySem.Spec PyProof.Rows L2

set_option maxHeartbeats 2000000 in
/-- enumerate(v) makes its two cells -/
theorem meets_enum1 {v : Value} {o : Obj} {G : Heap → Prop} (B : Begins v o G) : Meets (Builtin.«enumerate.__new__» ⟨[.type "enumerate", v], []⟩) (fun _ R st => G st.heap ∧
      R (.ok (.ret (.ref (st.heap.push o).objs.size))) { st with heap := (st.heap.push o).push { cls := .type "enumerate", data := .fields #[.none, .bool false, .ref st.heap.objs.size, rawInt 0, .none, .none] } }) := .of_wp fun P w A R st h => by
  obtain ⟨hp, gs, dr, tk, os⟩ := st
  obtain ⟨g0, h⟩ := h
  have sub := sub_enumerate
  have it1 : ∀ {A' : Around} {E Q : Value → Shared → Prop}, Q (.ref hp.objs.size) ⟨hp.push o, gs, dr, tk, os⟩ → wpAny (model P w) A' (pyIter v) Q E ⟨hp, gs, dr, tk, os⟩ := fun q => B.iter P w _ _ ⟨hp, gs, dr, tk, os⟩ _ g0 q
  wp_walk using it1
  refine wpAny_stack_any fun sk => wpAny_pure ?_
  split
  · rename_i c _ _ _ _ _
    cases (c == Value.type "enumerate") <;> (wp_walk using it1) <;> exact ⟨_, rfl, h⟩
  · wp_walk using it1
    exact ⟨_, rfl, h⟩
theorem enum1_begins {P : Program} {w : World} {A : Around} {E Q : Value → Shared → Prop} {st : Shared} {v : Value} {o : Obj} {G : Heap → Prop} (B : Begins v o G) (g0 : G st.heap)
    (h : ∀ h', IsEnum h' (st.heap.objs.size + 1) st.heap.objs.size 0 .none → h'.get? st.heap.objs.size = some o → (∀ b u, st.heap.get? b = some u → h'.get? b = some u) → Q (.ref (st.heap.objs.size + 1)) { st with heap := h' }) :
    wpAny (model P w) A (call (.type "enumerate") [v]) Q E st := by
  have sz : (st.heap.push o).objs.size = st.heap.objs.size + 1 := Heap.size_push ..
  refine callType_new F.called_enumerate (by decide) (F.typeCall_enumerate_1 _) (F.newCall_enumerate_1 _) (fun obj => F.args_object_init_2 obj _) F.entry_enumerate_new (meets_enum1 B) ⟨g0, ?_⟩
  show _ ∧ _
  rw [sz]
  have en : IsEnum ((st.heap.push o).push { cls := .type "enumerate", data := .fields #[.none, .bool false, .ref st.heap.objs.size, rawInt 0, .none, .none] }) (st.heap.objs.size + 1) st.heap.objs.size 0 .none := by
    rw [← sz]; exact Heap.get?_push_size _ rfl
  exact ⟨⟨_, en, rfl⟩, h _ en (Heap.get?_push_of_some _ (Heap.get?_push_size _ B.free)) fun b u x => Heap.get?_push_of_some _ (Heap.get?_push_of_some _ x)⟩
/-- the tuple at a as it stands at each turn, its items in new pairs -/
def ItT (K : PySem.W.Frag) (a : Addr) : It :=
  ⟨fun i H => ∃ (xs : List V) (x : V), SqT K H a xs ∧ xs[i]? = some x, fun i H v H' => ∃ T x, v = .ref T ∧ H T = none ∧ H' = upd H T (.tup [.int (i : Nat), x]) ∧ ∀ xs, SqT K H a xs → xs[i]? = some x, fun i H => ∃ xs : List V, SqT K H a xs ∧ xs.length ≤ i⟩
/-- the cells of enumerate(t) at its turn -/
def EnT (a e it : Addr) (i : Nat) (h : Heap) : Prop := (∃ old, IsEnum h e it (0 + (i : Int)) old) ∧ h.IsTupleIter it a i ∧ e ≠ it
section
variable {P : Program} {w : World} {K : PySem.W.Frag}
theorem sqT_one {X : Cx} {pins : List (Addr × Obj)} {σ : L2.St} {H : Hp} {st : Shared} {a : Addr} {xs ys : List V} (I : Inv X pins σ H st) (h1 : SqT X.K H a xs) (h2 : SqT X.K H a ys) : xs = ys := I.tuple_inj h1 h2
theorem turn_enumT {es : List PySem.Expr} {kk : Nat} {tp : Pos} (a e it : Addr) : Turn P w K (.Tuple es kk tp) (ItT K a) [e, it] e (EnT a e it) where
  mem := List.mem_cons_self
  obj := fun i h ⟨⟨old, en⟩, ⟨o, ho, hc, hd⟩, ne⟩ b hb => by
    rcases List.mem_cons.mp hb with rfl | hb
    · exact ⟨_, en, fun v q => nomatch q⟩
    · obtain rfl := List.mem_singleton.mp hb
      exact ⟨o, ho, fun v q => by rw [hd] at q; cases q⟩
  keep := fun i h h' ⟨⟨old, en⟩, ti, ne⟩ k => ⟨⟨old, k e List.mem_cons_self _ en⟩, (let ⟨o, ho, r⟩ := ti; ⟨o, k it (by simp) _ ho, r⟩), ne⟩
  item := by
    rintro X rfl rfl rfl hcalm i pins st σ H E I hf ⟨⟨old, en⟩, ti, ne⟩ ⟨xs, x, hq, hx⟩
    obtain ⟨us, rv, tu, hz⟩ := I.tuple hq
    obtain ⟨u, hu, ru⟩ := rv.get hx
    obtain ⟨oa, ga, ca, na, da⟩ := id tu
    obtain ⟨oi, gi, ci, di⟩ := id ti
    have nai : a ≠ it := fun z => by
      rw [← z] at gi
      rw [ga] at gi
      cases gi
      rw [ca] at ci
      exact absurd (Value.type.inj ci) (by decide)
    have nea : e ≠ a := fun z => by
      have en2 := en
      rw [z] at en2
      cases ga.symm.trans en2
      exact absurd (Value.type.inj ca) (by decide)
    have le : e < st.heap.objs.size := Heap.lt_size en
    have li : it < st.heap.objs.size := Heap.lt_size gi
    refine wpAny_pyNext_enum_itemC (Draws.tuple (A := X.A.in1) (I.ok.hd hcalm) it a nai us.toArray) en ⟨ti, tu⟩ (by have := (List.getElem?_eq_some_iff.mp hu).1; simpa using this) ne (by simp [ne, nea]) fun y h' tk hy ho hs hT hsz hk => ?_
    have hy : us.toArray[i]? = some y := hy
    have ey : y = u := by
      rw [List.getElem?_toArray, hu] at hy
      exact (Option.some.inj hy).symm
    subst ey
    refine ⟨_, rfl, wpAny_letOwnedTupleGo_enum (s := { st with heap := h', toks := tk + 1 }) ho fun h2 en2 sb => ?_⟩
    have atT : h2.get? st.heap.objs.size = some { cls := .type "tuple", data := .seq #[.int (0 + (i : Int)) tk, y] } := (sb.2 _ (Nat.ne_of_gt le)).trans hT
    have ez : (0 : Int) + (i : Int) = ((i : Nat) : Int) := Int.zero_add _
    have ob : ObjOk X.prog X.w (upd H st.heap.objs.size (.tup [.int (i : Nat), x])) h2 st.heap.objs.size (.tup [.int (i : Nat), x]) := ⟨by show 2 ≤ sizeLine; decide, [.int (0 + (i : Int)) tk, y], .cons ⟨tk, by rw [ez]⟩ (.cons ru .nil), ⟨_, atT, rfl, _, rfl⟩⟩
    have I2 : Inv X pins σ (upd H st.heap.objs.size (.tup [.int (i : Nat), x])) { st with heap := h2, toks := tk + 1 } :=
      I.turnedNew (ch := [e, it]) (fun b o nb q => by
        have n1 : b ≠ e := fun z => nb (by simp [z])
        have n2 : b ≠ it := fun z => nb (by simp [z])
        exact (sb.2 b n1).trans (hk b o n1 n2 q)) hf (Nat.le_refl _) ob
    refine ⟨.ref st.heap.objs.size, _, I2, rfl, ⟨_, x, rfl, I.hok.fresh (Nat.le_refl _), rfl, fun zs hz => by rw [sqT_one I hz hq]; exact hx⟩, ⟨⟨y, ?_⟩, ?_, ne⟩, fun b hb => ?_⟩
    · have e1 : (0 : Int) + ((i + 1 : Nat) : Int) = 0 + (i : Int) + 1 := by omega
      rw [e1]; exact en2
    · obtain ⟨o, ho, r⟩ := hs.1
      exact ⟨o, (sb.2 it (Ne.symm ne)).trans ho, r⟩
    · have lb : b < st.heap.objs.size := by
        rcases List.mem_cons.mp hb with rfl | hb
        · exact le
        · obtain rfl := List.mem_singleton.mp hb
          exact li
      rw [upd_ne (Nat.ne_of_lt lb)]
      exact (hf b hb).1
  done := by
    rintro X rfl rfl rfl hcalm i pins st σ H E I hf ⟨⟨old, en⟩, ti, ne⟩ ⟨xs, hq, hx⟩
    obtain ⟨us, rv, tu, hz⟩ := I.tuple hq
    obtain ⟨oa, ga, ca, na, da⟩ := id tu
    obtain ⟨oi, gi, ci, di⟩ := id ti
    have nai : a ≠ it := fun z => by
      rw [← z] at gi
      rw [ga] at gi
      cases gi
      rw [ca] at ci
      exact absurd (Value.type.inj ci) (by decide)
    obtain ⟨f0, f1, f2, f3, f4, f5⟩ := hf it (by simp)
    have T0 : st.TypeIs (.ref e) "enumerate" := ⟨_, en, rfl⟩
    have lu : us.toArray[i]? = none := by have := rv.length; simp; omega
    unfold pyNext
    refine wpAny_bind (wpAny_attempt (wpAny_callSpecial?_slot (name := Str.ofString "__next__") T0 F.slot_enumerate_next (wpAny_call_entry F.slot_enumerate_next T0 F.entry_enumerate_next ?_ (F.args_enumerate_next_1 _))))
    show wpAny _ _ (field (.ref e) 2 >>= _) _ _ _
    refine wpAny_bind (wpAny_field en rfl (x := .ref it) rfl ?_)
    refine wpAny_bind (wpAny_nextOf_tuple_end (I.ok.hd hcalm) ti tu lu fun h' ex eb hx' => ?_)
    obtain ⟨o, ho, hc⟩ := hx'
    refine wpAny_bind (wpAny_isInstance (T := "StopIteration") (b := true) ⟨o, ho, hc⟩ isSubtype_stop ?_)
    exact wpAny_pure ⟨rfl, I.turned (t' := st.toks) (fun b o hb q => eb b o hb q) f0 f1 f3 f4 f5⟩
  self := fun A i st Q E ⟨⟨_, en⟩, _⟩ h => wpAny_pyIter_enum en h
end
def iEnumT (K : PySem.W.Frag) (ta : TA) : TI := fun σ H R => ta σ H fun vs H1 => ∃ a xs, vs = [.ref a] ∧ SqT K H1 a xs ∧ R (ItT K a) H1
theorem pi_enumT {X : Cx} {e : PySem.Expr} {ta : TA} {p pos tpos : Pos} {elts : List PySem.Expr} {kk : Nat} (hg : Gl X "enumerate") (hm : X.mg "enumerate" = none) (ha : PA X [e] ta) (hs : starEach [e] X.env = [(false, eval e X.env)]) :
    PI X (.Tuple elts kk tpos) (.Call (.Name "enumerate" p) [e] [] pos) (iEnumT X.K ta) := by
  refine ⟨fun pins st σ H R I h => Call_ (ld_blt I hg hm boot_enumerate (PyProof.Rows.callWith_type1 (thn (ha.run pos pins st σ H _ I h) fun us s1 ⟨vs, H1, I1, r1, a, xs, ex, hq, q⟩ => ?_) hs rfl))⟩
  subst ex
  obtain ⟨u, rfl, ru⟩ := vals1 r1
  obtain rfl : u = Value.ref a := ru
  obtain ⟨its, rv, tu, hz⟩ := I1.tuple hq
  refine enum1_begins (begins_tuple a its.toArray) tu fun h' en hit hk => wpAny_pyIter_enum en ?_
  have I2 : Inv X pins σ H1 { s1 with heap := h' } := I1.kept (t' := s1.toks) hk
  refine ⟨s1.heap.objs.size + 1, [s1.heap.objs.size + 1, s1.heap.objs.size], _, _, H1, rfl, I2, turn_enumT a (s1.heap.objs.size + 1) s1.heap.objs.size, ⟨⟨.none, en⟩, ⟨_, hit, rfl, rfl⟩, Nat.succ_ne_self _⟩, fun b hb => ?_, q⟩
  have le : s1.heap.objs.size ≤ b := by
    rcases List.mem_cons.mp hb with rfl | hb
    · exact Nat.le_succ _
    · rw [List.mem_singleton.mp hb]; exact Nat.le_refl _
  exact I1.fpOk le (I1.hok.fresh le)
theorem walk_ET {K : PySem.W.Frag} {a : Addr} {vs : List V} {H : Hp} (ha : H a = some (.tup vs)) : Walks (ItT K a) H (enumE 0 vs) [a] := by
  unfold Walks
  rw [enumE_len]
  refine ⟨fun i H' hi q => ⟨vs, vs[i], .of ((q a (by simp)).trans ha), by simp [hi]⟩, fun H' q => ⟨vs, .of ((q a (by simp)).trans ha), Nat.le_refl _⟩, fun i H' x H'' hi q y => ?_⟩
  obtain ⟨T, x1, e1, e2, e3, e4⟩ := y
  have hx := e4 vs (.of ((q a (by simp)).trans ha))
  unfold YE
  rw [enumE_get, hx]
  refine ⟨T, e1, e2, ?_⟩
  rw [e3, Int.zero_add]
section
variable {T : Tb} {Φ : Calls}
theorem sm_enum {a : VE} (ha : SM T Φ (ev Φ a) (chk T a)) : SM T Φ (ev Φ (.enum a)) (chk T (.enum a)) := by
  refine SM.ofI fun X c g tg x h => ?_
  have h' : cEnum (chk T a) c tg x = true := h
  have hm := g.blt "enumerate" (by decide +kernel)
  unfold cEnum at h'
  split at h'
  · obtain ⟨h, h4⟩ := and2 h'
    obtain ⟨h, h3⟩ := and2 h
    obtain ⟨h, h2⟩ := and2 h
    obtain ⟨h0, h1⟩ := and2 h
    have hx := of_decide_eq_true h1
    subst hx
    cases tg with
    | Tuple elts kk tp =>
      have hA := pa_cons (ha.E X _ g _ h4) pa_nil (star_of h3 [] X.env)
      have hS := star_of h3 [] X.env
      refine ⟨(pi_or (pi_enum (gl_of g h2) hm hA hS) (pi_enumT (gl_of g h2) hm hA hS)).imp fun σ H R ⟨w, s, ds, srcs, s', r, e, q⟩ => ?_, rfl⟩
      obtain ⟨v, e1, e⟩ := bind_ok e
      obtain ⟨ds', e2, e⟩ := bind_ok e
      cases e
      obtain ⟨vd, vs'⟩ := v
      cases vd with
      | lst t xs =>
        refine .inl ⟨w, s, _, vs', r, e1, fun u H1 w1 fp st1 t1 => ?_⟩
        cases e2
        obtain ⟨b, vs, ra, qq, ev', hb, hl, hr, ep, hroot⟩ := root_lst t1.rep
        subst ev'
        refine ⟨b, vs, rfl, .of hb, q _ H1 w1 _ [b] ra qq st1 (walk_E hb) (fun c hc => by rw [List.mem_singleton.mp hc, hb]; exact fun z => by cases z) (fun c hc => ?_) (elts_enum 0 hr) (by rw [← ep]; exact t1.nd) (fun c hc => t1.fr c (by rw [ep]; exact hc)) fun c hc => Rep.live _ t1.rep c (by rw [ep]; exact hc)⟩
        rw [List.mem_singleton.mp hc]
        rcases hroot with h | ⟨n, h⟩
        · exact .inr (.inl h)
        · exact .inr (.inr ⟨t, has_root, n, h⟩)
      | tup xs =>
        refine .inr ⟨w, s, _, vs', r, e1, fun u H1 w1 fp st1 t1 => ?_⟩
        cases e2
        obtain ⟨b, vs, ev', hb, hl, hr⟩ := t1.rep
        subst ev'
        exact ⟨b, vs, rfl, .of hb, q _ H1 w1 _ [b] [] fp st1 (walk_ET hb) (fun c hc => by rw [List.mem_singleton.mp hc, hb]; exact fun z => by cases z) (fun c hc => .inl ⟨vs, by rw [List.mem_singleton.mp hc]; exact hb⟩) (elts_enum 0 hr) t1.nd (fun c hc => t1.fr c hc) (Rep.live _ t1.rep)⟩
      | _ => cases e2
    | _ => cases h0
  · cases h'
end
end VL
end

/-! text: VAsg -/
section
set_option autoImplicit false
/-! VAsg: targets. -/
namespace VL
open PySem PySem.Spec PyProof.Rows L2

/-- what a store keeps -/
structure Stored (w : Wd) (σ : L2.St) (ρ : VEnv) (fp : List Addr) (sl : List Nat) (w' : Wd) (σ' : L2.St) (ρ' : VEnv) : Prop where
  F : w'.F = w.F
  z : w'.z = w.z
  O : ∀ i a, a ∈ w'.O i → a ∈ w.O i ∨ a ∈ fp
  off : ∀ i, i ∉ sl → σ'[i]? = σ[i]? ∧ w'.O i = w.O i ∧ ρ'[i]? = ρ[i]?
  l1 : σ'.length = σ.length
  l2 : ρ'.length = ρ.length
theorem Stored.refl {w : Wd} {σ : L2.St} {ρ : VEnv} {fp : List Addr} {sl : List Nat} : Stored w σ ρ fp sl w σ ρ := ⟨rfl, rfl, fun _ _ h => .inl h, fun _ _ => ⟨rfl, rfl, rfl⟩, rfl, rfl⟩
theorem Stored.trans {w w1 w2 : Wd} {σ σ1 σ2 : L2.St} {ρ ρ1 ρ2 : VEnv} {p q fp : List Addr} {sl sm : List Nat} (a : Stored w σ ρ p sl w1 σ1 ρ1) (b : Stored w1 σ1 ρ1 q sm w2 σ2 ρ2) (hp : ∀ a ∈ p, a ∈ fp) (hq : ∀ a ∈ q, a ∈ fp) : Stored w σ ρ fp (sl ++ sm) w2 σ2 ρ2 where
  F := b.F.trans a.F
  z := b.z.trans a.z
  O := fun i x h => by
    rcases b.O i x h with h | h
    · exact (a.O i x h).imp id (hp x)
    · exact .inr (hq x h)
  off := fun i h => by
    simp only [List.mem_append, not_or] at h
    obtain ⟨a1, a2, a3⟩ := a.off i h.1
    obtain ⟨b1, b2, b3⟩ := b.off i h.2
    exact ⟨b1.trans a1, b2.trans a2, b3.trans a3⟩
  l1 := b.l1.trans a.l1
  l2 := b.l2.trans a.l2
/-- a thing in hand that nobody else has -/
structure Hand (w : Wd) (fp : List Addr) : Prop where
  nd : fp.Nodup
  fr : ∀ a ∈ fp, ¬ w.F a ∧ ¬ inO w a ∧ ¬ zs w.z a
def tGr (g : VG) : TG := fun v σ H Q => ∃ w s d fp ρ', SRel w σ H s ∧ Rep w.za (BF w.F) H d v fp ∧ Hand w fp ∧ asgG g d s.ρ = .ok ρ' ∧
  ∀ σ' w', SRel w' σ' H ⟨ρ', s.st⟩ → Stored w σ s.ρ fp g.slots w' σ' ρ' → Q σ' H
def tGs (g : VG) : TGs := fun vs σ H Q => ∃ w s ds fp ρ', SRel w σ H s ∧ Reps w.za (BF w.F) H ds vs fp ∧ Hand w fp ∧ asgC g ds s.ρ = .ok ρ' ∧
  ∀ σ' w', SRel w' σ' H ⟨ρ', s.st⟩ → Stored w σ s.ρ fp g.slots w' σ' ρ' → Q σ' H

section
variable {w : Wd} {σ : L2.St} {H : Hp} {ρ : VEnv} {st : Option Strm}
theorem store_rel {i : Nat} {d : D} {v : V} {fp : List Addr} (r : SRel w σ H ⟨ρ, st⟩) (h : Rep w.za (BF w.F) H d v fp) (hf : Hand w fp) (hi : i < ρ.length) :
    SRel ⟨w.F, fun j => if j = i then fp else w.O j, w.z⟩ (σ.set i (some v)) H ⟨ρ.set i (some d), st⟩ ∧ Stored w σ ρ fp [i] ⟨w.F, fun j => if j = i then fp else w.O j, w.z⟩ (σ.set i (some v)) (ρ.set i (some d)) := by
  have hs : i < σ.length := by rw [r.len]; exact hi
  refine ⟨⟨by rw [List.length_set]; exact r.len.trans (List.length_set ..).symm, fun j e hj => ?_, fun j => ?_, fun j k a h1 h2 => ?_, fun j a h1 => ?_, fun j a h1 => ?_, r.fM, r.strm, fun a hz => ⟨(r.zF a hz).1, fun j h1 => ?_⟩⟩, rfl, rfl, fun j a h1 => ?_, fun j hj => ?_, List.length_set .., List.length_set ..⟩
  · by_cases c : j = i
    · subst c
      have hj' : (ρ.set j (some d))[j]? = some (some e) := hj
      rw [List.getElem?_set_self hi] at hj'
      cases hj'
      refine ⟨v, List.getElem?_set_self hs, ?_⟩
      show Rep w.za (BF w.F) H d v (if j = j then fp else w.O j)
      rw [if_pos rfl]
      exact h
    · have hj' : (ρ.set i (some d))[j]? = some (some e) := hj
      rw [List.getElem?_set_ne (Ne.symm c)] at hj'
      obtain ⟨u, h1, h2⟩ := r.slot j e hj'
      refine ⟨u, by rw [List.getElem?_set_ne (Ne.symm c)]; exact h1, ?_⟩
      show Rep w.za (BF w.F) H e u (if j = i then fp else w.O j)
      rw [if_neg c]
      exact h2
  · show (if j = i then fp else w.O j).Nodup
    split
    · exact hf.nd
    · exact r.nd j
  · have h1 : a ∈ (if j = i then fp else w.O j) := h1
    have h2 : a ∈ (if k = i then fp else w.O k) := h2
    split at h1
    · split at h2
      · rename_i e1 e2; rw [e1, e2]
      · exact absurd ⟨k, h2⟩ (hf.fr a h1).2.1
    · split at h2
      · exact absurd ⟨j, h1⟩ (hf.fr a h2).2.1
      · exact r.dj j k a h1 h2
  · have h1 : a ∈ (if j = i then fp else w.O j) := h1
    split at h1
    · exact (hf.fr a h1).1
    · exact r.oF j a h1
  · have h1 : a ∈ (if j = i then fp else w.O j) := h1
    split at h1
    · exact Rep.live d h a h1
    · exact r.oM j a h1
  · have h1 : a ∈ (if j = i then fp else w.O j) := h1
    split at h1
    · exact (hf.fr a h1).2.2 hz
    · exact (r.zF a hz).2 j h1
  · have h1 : a ∈ (if j = i then fp else w.O j) := h1
    split at h1
    · exact .inr h1
    · exact .inl h1
  · have hj : j ≠ i := fun e => hj (by simp [e])
    refine ⟨List.getElem?_set_ne (Ne.symm hj), ?_, List.getElem?_set_ne (Ne.symm hj)⟩
    show (if j = i then fp else w.O j) = w.O j
    rw [if_neg hj]
end
theorem seqD_rep {z : Option Addr} {B : TB} {H : Hp} {K : PySem.W.Frag} {d : D} {xs : List D} {v : V} {fp : List Addr} (h : seqD d = .ok xs) (r : Rep z B H d v fp) : ∃ a vs q, v = .ref a ∧ (SqT K H a vs ∨ SqL K H a vs) ∧ Reps z B H xs vs q ∧ q.Sublist fp := by
  unfold seqD at h
  split at h
  · cases h
    obtain ⟨a, vs, q, e, ha, hl, hr, ho⟩ := r
    exact ⟨a, vs, q, e, .inr (.of ha), hr, own_sub ho⟩
  · cases h
    obtain ⟨a, vs, e, ha, hl, hr⟩ := r
    exact ⟨a, vs, fp, e, .inl (.of ha), hr, List.Sublist.refl _⟩
  · cases h
theorem Hand.sub {w : Wd} {p q : List Addr} (h : Hand w p) (s : q.Sublist p) : Hand w q := ⟨h.nd.sublist s, fun a ha => h.fr a (s.subset ha)⟩
theorem asgG_tup {g : VG} {d : D} {ρ ρ' : VEnv} (hg : ∀ i, g ≠ .nm i) (h : asgG g d ρ = .ok ρ') : ∃ xs, seqD d = .ok xs ∧ asgC g xs ρ = .ok ρ' := by
  cases g with
  | nm i => exact absurd rfl (hg i)
  | nil =>
    unfold asgG at h
    obtain ⟨xs, h1, h2⟩ := bind_ok h
    refine ⟨xs, h1, ?_⟩
    unfold asgC
    cases xs <;> exact h2
  | cons g gs =>
    unfold asgG at h
    obtain ⟨xs, h1, h2⟩ := bind_ok h
    refine ⟨xs, h1, ?_⟩
    unfold asgC
    cases xs <;> exact h2
theorem isName_of {c : SC} {g : VG} {x : PySem.Expr} (h : chkG c g x = true) (env : Env) (es : List PySem.Expr) : assignEach (x :: es) env = (false, assign x env) :: assignEach es env := by
  cases x <;> first | rfl | (cases g <;> cases h)
theorem tg_len {c : SC} : ∀ {g : VG} {es : List PySem.Expr} {k : Nat} {p : Pos}, chkG c g (.Tuple es k p) = true → ∀ env : Env, (assignEach es env).length = es.length ∧ (assignEach es env).findIdx? (·.1) = none ∧ ∀ ds ρ ρ', asgC g ds ρ = .ok ρ' → ds.length = es.length
  | .nm i, es, k, p, h, env => by cases h
  | .nil, es, k, p, h, env => by
    cases es with
    | cons _ _ => cases h
    | nil =>
      refine ⟨rfl, rfl, fun ds ρ ρ' e => ?_⟩
      unfold asgC at e
      cases ds with
      | nil => rfl
      | cons _ _ => cases e
  | .cons g gs, es, k, p, h, env => by
    unfold chkG at h
    cases es with
    | nil => cases h
    | cons x es =>
      obtain ⟨h1, h2⟩ := and2 h
      obtain ⟨q1, q2, q3⟩ := tg_len h2 env
      rw [isName_of h1]
      refine ⟨by rw [List.length_cons, q1, List.length_cons], ?_, fun ds ρ ρ' e => ?_⟩
      · rw [List.findIdx?_cons, q2]; rfl
      · unfold asgC at e
        cases ds with
        | nil => cases e
        | cons d ds =>
          obtain ⟨ρ1, e1, e2⟩ := bind_ok e
          rw [List.length_cons, List.length_cons, q3 ds ρ1 ρ' e2]
section
variable {T : Tb} {Φ : Calls} {X : Cx} {c : SC}
theorem _root_.L2.PG.imp {X : Cx} {e : PySem.Expr} {t t' : TG} (h : PG X e t) (i : ∀ v σ H Q, t' v σ H Q → t v σ H Q) : PG X e t' := ⟨fun pins s σ H v u Q I r q => h.run pins s σ H v u Q I r (i v σ H Q q)⟩
theorem _root_.L2.PGs.imp {X : Cx} {e : List PySem.Expr} {t t' : TGs} (h : PGs X e t) (i : ∀ v σ H Q, t' v σ H Q → t v σ H Q) : PGs X e t' := ⟨fun pins s σ H v u Q I r q => h.run pins s σ H v u Q I r (i v σ H Q q)⟩
theorem pg_or {e : PySem.Expr} {t u : TG} (h : PG X e t) (k : PG X e u) : PG X e (fun v σ H Q => t v σ H Q ∨ u v σ H Q) := ⟨fun pins s σ H v uu Q I r q => q.elim (h.run pins s σ H v uu Q I r) (k.run pins s σ H v uu Q I r)⟩
theorem pg_tupG (g : Good T Φ X c) {gs : VG} (hg : ∀ i, gs ≠ .nm i) {es : List PySem.Expr} {k : Nat} {p : Pos} (h : chkG c gs (.Tuple es k p) = true) (hp : PGs X es (tGs gs)) : PG X (.Tuple es k p) (tGr gs) := by
  obtain ⟨q1, q2, q3⟩ := tg_len h X.env
  refine (pg_or (pg_tup g.calm hp q1 q2) (pg_lst g.calm hp q1 q2)).imp fun v σ H Q ⟨w, s, d, fp, ρ', r, rep, hf, e, q⟩ => ?_
  obtain ⟨xs, e1, e2⟩ := asgG_tup hg e
  obtain ⟨a, vs, qq, ev, hs, hr, sub⟩ := seqD_rep (K := X.K) e1 rep
  have hl : vs.length = es.length := (Reps.length hr).trans (q3 xs _ _ e2)
  have fin : tGs gs vs σ H Q := ⟨w, s, xs, qq, ρ', r, hr, hf.sub sub, e2, fun σ' w' r' st => q σ' w' r' ⟨st.F, st.z, fun i a h => (st.O i a h).imp id (sub.subset ·), st.off, st.l1, st.l2⟩⟩
  rcases hs with hs | hs
  · exact .inl ⟨a, vs, ev, hs, hl, fin⟩
  · exact .inr ⟨a, vs, ev, hs, hl, fin⟩
theorem pg_of (g : Good T Φ X c) : ∀ gr : VG, (∀ tg, chkG c gr tg = true → PG X tg (tGr gr)) ∧ ∀ es k p, chkG c gr (.Tuple es k p) = true → PGs X es (tGs gr)
  | .nm i => by
    refine ⟨fun tg h => ?_, fun es k p h => by cases h⟩
    cases tg with
    | Name x p =>
      obtain ⟨h, h3⟩ := and2 h
      obtain ⟨h1, h2⟩ := and2 h
      have hf : X.fn x = true ∨ X.env.scope.names.lookup x = some .local := by
        rw [Bool.or_eq_true] at h3
        refine h3.imp (g.fn x) fun h => ?_
        unfold loc1 at h
        rw [g.sc]
        split at h
        · assumption
        · cases h
      refine (pg_name (by rw [g.N]; exact g.nd) (by rw [g.N]; exact of_decide_eq_true h1) (loc_of g h2) hf).imp fun v σ H Q ⟨w, s, d, fp, ρ', r, rep, hf, e, q⟩ => ?_
      unfold asgG at e
      obtain ⟨e1, e2⟩ := guard_ok e
      subst e2
      obtain ⟨r', st⟩ := store_rel (ρ := s.ρ) (st := s.st) r rep hf (of_decide_eq_true e1)
      exact q _ _ r' st
    | _ => cases h
  | .nil => by
    have h2 : ∀ es k p, chkG c .nil (.Tuple es k p) = true → PGs X es (tGs .nil) := fun es k p h => by
      cases es with
      | cons _ _ => cases h
      | nil =>
        refine pgs_nil.imp fun vs σ H Q ⟨w, s, ds, fp, ρ', r, rep, hf, e, q⟩ => ?_
        unfold asgC at e
        cases ds with
        | cons _ _ => cases e
        | nil =>
          cases e
          exact ⟨rep.1, q σ w r .refl⟩
    refine ⟨fun tg h => ?_, h2⟩
    cases tg with
    | Tuple es k p => exact pg_tupG g (fun i z => by cases z) h (h2 es k p h)
    | _ => cases h
  | .cons ga gs => by
    obtain ⟨a1, _⟩ := pg_of g ga
    obtain ⟨_, b2⟩ := pg_of g gs
    have h2 : ∀ es k p, chkG c (.cons ga gs) (.Tuple es k p) = true → PGs X es (tGs (.cons ga gs)) := fun es k p h => by
      unfold chkG at h
      cases es with
      | nil => cases h
      | cons x es =>
        obtain ⟨h3, h4⟩ := and2 h
        refine (pgs_cons (a1 x h3) (b2 es k p h4) (by rw [isName_of h3]; rfl)).imp fun vs σ H Q ⟨w, s, ds, fp, ρ', r, rep, hf, e, q⟩ => ?_
        unfold asgC at e
        cases ds with
        | nil => cases e
        | cons d ds =>
          obtain ⟨ρ1, e1, e2⟩ := bind_ok e
          obtain ⟨v, vr, p1, p2, ev, ef, hr1, hr2⟩ := rep
          subst ev ef
          have n := hf.nd
          rw [List.nodup_append] at n
          refine ⟨v, vr, rfl, w, s, d, p1, ρ1, r, hr1, ⟨n.1, fun a ha => hf.fr a (List.mem_append_left _ ha)⟩, e1, fun σ1 w1 r1 st1 => ?_⟩
          refine ⟨w1, ⟨ρ1, s.st⟩, ds, p2, ρ', r1, ?_, ⟨n.2.1, fun a ha => ?_⟩, e2, fun σ2 w2 r2 st2 => q σ2 w2 r2 (st1.trans st2 (fun a => List.mem_append_left _) fun a => List.mem_append_right _)⟩
          · rw [show w1.za = w.za by unfold Wd.za; rw [st1.z], st1.F]
            exact hr2
          · obtain ⟨f1, f2, f3⟩ := hf.fr a (List.mem_append_right _ ha)
            rw [st1.F, st1.z]
            refine ⟨f1, fun ⟨i, hi⟩ => ?_, f3⟩
            rcases st1.O i a hi with hi | hi
            · exact f2 ⟨i, hi⟩
            · exact n.2.2 a hi a ha rfl
    refine ⟨fun tg h => ?_, h2⟩
    cases tg with
    | Tuple es k p => exact pg_tupG g (fun i z => by cases z) h (h2 es k p h)
    | _ => cases h
end
end VL
end

/-! text: VComp -/
section
set_option autoImplicit false
/-! VComp: list comprehensions. -/
namespace VL
open PySem PySem.Spec PyProof.Rows L2

/-! ### slots -/
section
variable {ρ ρ0 : VEnv} {σ : L2.St} {own : List Nat} {i : Nat} {d : D}
theorem wipeV_len : ∀ own : List Nat, (wipeV ρ own).length = ρ.length
  | [] => rfl
  | v :: vs => by unfold wipeV; rw [List.length_set, wipeV_len vs]
theorem backV_len : ∀ own : List Nat, (backV ρ0 ρ own).length = ρ.length
  | [] => rfl
  | v :: vs => by unfold backV; rw [List.length_set, backV_len vs]
theorem wipeV_not : ∀ {own : List Nat}, i ∉ own → (wipeV ρ own)[i]? = ρ[i]?
  | [], _ => rfl
  | v :: vs, h => by
    simp only [List.mem_cons, not_or] at h
    unfold wipeV
    rw [List.getElem?_set_ne (fun e => h.1 e.symm), wipeV_not h.2]
theorem wipe_not : ∀ {own : List Nat}, i ∉ own → (wipe σ own)[i]? = σ[i]?
  | [], _ => rfl
  | v :: vs, h => by
    simp only [List.mem_cons, not_or] at h
    unfold wipe
    rw [List.getElem?_set_ne (fun e => h.1 e.symm), wipe_not h.2]
theorem wipeV_some : ∀ {own : List Nat}, (wipeV ρ own)[i]? = some (some d) → ρ[i]? = some (some d) ∧ i ∉ own
  | [], h => ⟨h, by simp⟩
  | v :: vs, h => by
    unfold wipeV at h
    by_cases hi : v = i
    · subst hi
      by_cases hv : v < (wipeV ρ vs).length
      · rw [List.getElem?_set_self hv] at h; cases h
      · rw [List.getElem?_eq_none (by simpa using hv)] at h; cases h
    · rw [List.getElem?_set_ne hi] at h
      obtain ⟨h1, h2⟩ := wipeV_some h
      exact ⟨h1, by simp only [List.mem_cons, not_or]; exact ⟨fun e => hi e.symm, h2⟩⟩
theorem backV_not : ∀ {own : List Nat}, i ∉ own → (backV ρ0 ρ own)[i]? = ρ[i]?
  | [], _ => rfl
  | v :: vs, h => by
    simp only [List.mem_cons, not_or] at h
    unfold backV
    rw [List.getElem?_set_ne (fun e => h.1 e.symm), backV_not h.2]
theorem backV_in : ∀ {own : List Nat}, i ∈ own → i < ρ.length → (backV ρ0 ρ own)[i]? = some (at0 ρ0 i)
  | [], h, _ => by cases h
  | v :: vs, h, hl => by
    unfold backV
    by_cases hi : v = i
    · subst hi
      rw [List.getElem?_set_self (by rw [backV_len]; exact hl)]
      rfl
    · rw [List.getElem?_set_ne hi]
      rcases List.mem_cons.mp h with e | h
      · exact absurd e.symm hi
      · exact backV_in h hl
theorem backV_some (h : (backV ρ0 ρ own)[i]? = some (some d)) : (i ∈ own ∧ ρ0[i]? = some (some d)) ∨ (i ∉ own ∧ ρ[i]? = some (some d)) := by
  by_cases c : i ∈ own
  · have hl : i < ρ.length := by
      have := (List.getElem?_eq_some_iff.mp h).1
      rw [backV_len] at this
      exact this
    rw [backV_in c hl] at h
    refine .inl ⟨c, ?_⟩
    have h' : at0 ρ0 i = some d := by simpa using h
    unfold at0 at h'
    cases e : ρ0[i]? with
    | none => rw [e] at h'; cases h'
    | some o =>
      rw [e] at h'
      have h2 : o = some d := h'
      rw [h2]
  · rw [backV_not c] at h
    exact .inr ⟨c, h⟩
theorem at0_not {ρ ρ' : VEnv} {i : Nat} (h : ρ[i]? = ρ'[i]?) : at0 ρ i = at0 ρ' i := by unfold at0; rw [h]
theorem parked_at (h : parked ρ own = true) (hi : i ∈ own) (e : ρ[i]? = some (some d)) : d.any Tag.isOwn = false := by
  unfold parked at h
  rw [List.all_eq_true] at h
  have := h i hi
  rw [e] at this
  simpa using this
end

/-! ### views -/
def offW (w : Wd) (own : List Nat) : Wd := ⟨w.F, fun i => if i ∈ own then [] else w.O i, w.z⟩
theorem offW_sub {w : Wd} {own : List Nat} {i : Nat} {a : Addr} (h : a ∈ (offW w own).O i) : a ∈ w.O i ∧ i ∉ own := by
  have h : a ∈ (if i ∈ own then [] else w.O i) := h
  split at h
  · cases h
  · exact ⟨h, by assumption⟩
theorem offW_O {w : Wd} {own : List Nat} {i : Nat} (h : i ∉ own) : (offW w own).O i = w.O i := if_neg h
section
variable {w w0 : Wd} {σ σ2 : L2.St} {H H0 : Hp} {ρ ρ0 : VEnv} {st st0 : Option Strm} {own : List Nat}
theorem inner_of (own : List Nat) (r : SRel w σ H ⟨ρ, st⟩) : SRel (offW w own) (wipe σ own) H ⟨wipeV ρ own, st⟩ where
  len := by
    show (wipe σ own).length = (wipeV ρ own).length
    rw [wipe_length, wipeV_len]; exact r.len
  slot := fun i d h => by
    obtain ⟨h1, h2⟩ := wipeV_some (show (wipeV ρ own)[i]? = some (some d) from h)
    obtain ⟨v, h3, h4⟩ := r.slot i d h1
    refine ⟨v, by rw [wipe_not h2]; exact h3, ?_⟩
    rw [offW_O h2]
    exact h4
  nd := fun i => by
    show (if i ∈ own then [] else w.O i).Nodup
    split
    · exact List.nodup_nil
    · exact r.nd i
  dj := fun i j a h1 h2 => r.dj i j a (offW_sub h1).1 (offW_sub h2).1
  oF := fun i a h => r.oF i a (offW_sub h).1
  oM := fun i a h => r.oM i a (offW_sub h).1
  fM := r.fM
  strm := r.strm
  zF := fun a h => ⟨(r.zF a h).1, fun i q => (r.zF a h).2 i (offW_sub q).1⟩
theorem outer_of (r0 : SRel w0 σ H0 ⟨ρ0, st0⟩) (hp : parked ρ0 own = true) (r : SRel w σ2 H ⟨ρ, st⟩) (hw : wipe σ2 own = wipe σ own) (hF : ∀ a, w0.F a → w.F a) (ext : ∀ a o, H0 a = some o → ¬ zs w0.z a → H a = some o) (hz : w.z = w0.z) :
    SRel (offW w own) σ H ⟨backV ρ0 ρ own, st⟩ where
  len := by
    show σ.length = (backV ρ0 ρ own).length
    rw [backV_len, ← wipe_length σ own, ← hw, wipe_length]; exact r.len
  slot := fun i d h => by
    rcases backV_some (show (backV ρ0 ρ own)[i]? = some (some d) from h) with ⟨h1, h2⟩ | ⟨h1, h2⟩
    · obtain ⟨v, h3, h4⟩ := r0.slot i d h2
      have e : w0.O i = [] := Rep.noOwn d (parked_at hp h1 h2) h4
      rw [e] at h4
      refine ⟨v, h3, ?_⟩
      show Rep w.za (BF w.F) H d v (if i ∈ own then [] else w.O i)
      rw [if_pos h1, show w.za = w0.za by unfold Wd.za; rw [hz]]
      refine Rep.mono (fun t a o hb e => ext a o e fun q => (r0.zF a q).1 hb.2) (fun a xs e => ext a _ e fun q => ?_) (fun t a hb => ⟨hb.1, hF a hb.2⟩) d (fun a o hf => by cases hf) h4
      obtain ⟨vs, e2⟩ := r0.zlive a q
      rw [e] at e2; cases e2
    · obtain ⟨v, h3, h4⟩ := r.slot i d h2
      refine ⟨v, ?_, ?_⟩
      · rw [← wipe_not (σ := σ) h1, ← hw, wipe_not h1]
        exact h3
      · rw [offW_O h1]
        exact h4
  nd := fun i => by
    show (if i ∈ own then [] else w.O i).Nodup
    split
    · exact List.nodup_nil
    · exact r.nd i
  dj := fun i j a h1 h2 => r.dj i j a (offW_sub h1).1 (offW_sub h2).1
  oF := fun i a h => r.oF i a (offW_sub h).1
  oM := fun i a h => r.oM i a (offW_sub h).1
  fM := r.fM
  strm := r.strm
  zF := fun a h => ⟨(r.zF a h).1, fun i q => (r.zF a h).2 i (offW_sub q).1⟩
/-- a list that is nobody's in the frame is changed -/
theorem SRel.chg {p : Addr} {vs us : List V} (r : SRel w σ H ⟨ρ, st⟩) (hp : H p = some (.lst vs)) (n : ¬ w.F p ∧ ¬ inO w p ∧ ¬ zs w.z p) : SRel w σ (upd H p (.lst us)) ⟨ρ, st⟩ := by
  have kF : ∀ a o, w.F a → H a = some o → upd H p (.lst us) a = some o := fun a o h e => by rw [upd_ne fun q => n.1 (by rw [← q]; exact h)]; exact e
  have kO : ∀ i a o, a ∈ w.O i → H a = some o → upd H p (.lst us) a = some o := fun i a o h e => by rw [upd_ne fun q => n.2.1 ⟨i, by rw [← q]; exact h⟩]; exact e
  have kZ : ∀ a o, zs w.z a → H a = some o → upd H p (.lst us) a = some o := fun a o h e => by rw [upd_ne fun q => n.2.2 (by rw [← q]; exact h)]; exact e
  refine ⟨r.len, fun i d h => ?_, r.nd, r.dj, r.oF, fun i a h => ?_, fun a h => ?_, ?_, r.zF⟩
  · obtain ⟨v, h3, h4⟩ := r.slot i d h
    refine ⟨v, h3, Rep.mono (fun t a o hb e => kF a o hb.2 e) (fun a xs e => ?_) (fun _ _ h => h) d (fun a o hf e => kO i a o hf e) h4⟩
    rw [upd_ne fun q => by rw [q, hp] at e; cases e]
    exact e
  · obtain ⟨o, e, m⟩ := r.oM i a h
    exact ⟨o, kO i a o h e, m⟩
  · obtain ⟨o, e, m⟩ := r.fM a h
    exact ⟨o, kF a o h e, m⟩
  · have q := r.strm
    cases hs : st with
    | none => rw [hs] at q; exact q
    | some y =>
      rw [hs] at q
      obtain ⟨a, c, e, ne, h1, h2⟩ := q
      exact ⟨a, c, e, ne, kZ a _ ⟨a, c, e, .inl rfl⟩ h1, kZ c _ ⟨a, c, e, .inr rfl⟩ h2⟩
end

/-! ### what is walked, frozen -/
theorem elts_len {z : Option Addr} {B : TB} {H : Hp} : ∀ {ds : List D} {es : List Elt} {fp : List Addr}, Elts z B H ds es fp → es.length = ds.length
  | [], _, _, h => by rw [h.1]; rfl
  | d :: ds, _, _, h => by
    obtain ⟨e, r, p, q, e1, _, _, h2⟩ := h
    rw [e1, List.length_cons, List.length_cons, elts_len h2]
theorem elts_fz {z : Option Addr} {B : TB} {H : Hp} {F : Addr → Prop} : ∀ {ds : List D} {es : List Elt} {fp : List Addr}, Elts z B H ds es fp → (∀ t a, has ds t = true → t ≠ .own → B t a → F a) → (∀ a ∈ fp, F a) → Elts z (BF F) H (D.mas (fun _ => .fz) ds) es []
  | [], _, _, h, _, _ => ⟨h.1, rfl⟩
  | d :: ds, _, _, h, h1, h2 => by
    obtain ⟨e, r, p, q, e1, e2, h3, h4⟩ := h
    subst e1 e2
    have hd : ∀ t a, d.any (fun u => decide (u = t)) = true → t ≠ .own → B t a → F a := fun t a k => h1 t a (by unfold has; simp only [D.anys, Bool.or_eq_true]; exact .inl k)
    have hds : ∀ t a, has ds t = true → t ≠ .own → B t a → F a := fun t a k => h1 t a (by unfold has at k ⊢; simp only [D.anys, Bool.or_eq_true]; exact .inr k)
    refine ⟨e, r, [], [], rfl, rfl, ?_, elts_fz h4 hds fun a ha => h2 a (List.mem_append_right _ ha)⟩
    cases e with
    | one v => exact Rep.tags (fun _ => .fz) (fun _ e => by cases e) d (fun t a k n hb => ⟨rfl, hd t a k n hb⟩) (fun _ a ha => ⟨rfl, h2 a (List.mem_append_left _ ha)⟩) h3
    | pair v u =>
      obtain ⟨x, y, p1, p2, e1, e2, r1, r2⟩ := h3
      subst e1 e2
      refine ⟨x.ma (fun _ => .fz), y.ma (fun _ => .fz), [], [], rfl, rfl, ?_, ?_⟩
      · exact Rep.tags (fun _ => .fz) (fun _ e => by cases e) x (fun t a k n hb => ⟨rfl, hd t a (by simp only [D.any, D.anys, Bool.or_eq_true]; exact .inl k) n hb⟩) (fun _ a ha => ⟨rfl, h2 a (List.mem_append_left _ (List.mem_append_left _ ha))⟩) r1
      · exact Rep.tags (fun _ => .fz) (fun _ e => by cases e) y (fun t a k n hb => ⟨rfl, hd t a (by simp only [D.any, D.anys, Bool.or_eq_true]; exact .inr (.inl k)) n hb⟩) (fun _ a ha => ⟨rfl, h2 a (List.mem_append_left _ (List.mem_append_right _ ha))⟩) r2
theorem elts_mono {z : Option Addr} {H H' : Hp} {F F' : Addr → Prop} (h1 : ∀ a, F a → F' a) (h2 : ∀ a o, F a → H a = some o → H' a = some o) (h3 : ∀ a xs, H a = some (.tup xs) → H' a = some (.tup xs)) : ∀ {ds : List D} {es : List Elt}, Elts z (BF F) H ds es [] → Elts z (BF F') H' ds es []
  | [], _, h => h
  | d :: ds, _, h => by
    obtain ⟨e, r, p, q, e1, e2, k, k2⟩ := h
    have e3 := List.append_eq_nil_iff.mp e2.symm
    obtain ⟨rfl, rfl⟩ := e3
    refine ⟨e, r, [], [], e1, rfl, ?_, elts_mono h1 h2 h3 k2⟩
    have mo : ∀ {x : D} {v : V}, Rep z (BF F) H x v [] → Rep z (BF F') H' x v [] := fun {x v} k => Rep.mono (fun t a o hb e => h2 a o hb.2 e) h3 (fun t a hb => ⟨hb.1, h1 a hb.2⟩) x (fun a o hf => by cases hf) k
    cases e with
    | one v => exact mo k
    | pair v u =>
      obtain ⟨x, y, p1, p2, e1, e2, r1, r2⟩ := k
      have e3 := List.append_eq_nil_iff.mp e2.symm
      obtain ⟨rfl, rfl⟩ := e3
      exact ⟨x, y, [], [], e1, rfl, mo r1, mo r2⟩
/-- what a turn gives -/
theorem elts_yld {z : Option Addr} {F : Addr → Prop} {H H' : Hp} {x : V} : ∀ {ds : List D} {es : List Elt} {i : Nat}, Elts z (BF F) H ds es [] → i < es.length → YE es i H x H' → ∃ d, ds[i]? = some d ∧ Rep z (BF F) H' d x [] ∧ ∀ a o, H a = some o → H' a = some o
  | [], es, i, h, hi, _ => by rw [h.1] at hi; cases hi
  | d :: ds, _, 0, h, hi, y => by
    obtain ⟨e, r, p, q, e1, e2, k, k2⟩ := h
    subst e1
    have e3 := List.append_eq_nil_iff.mp e2.symm
    obtain ⟨rfl, rfl⟩ := e3
    refine ⟨d, rfl, ?_⟩
    cases e with
    | one v =>
      obtain ⟨y1, y2⟩ : H' = H ∧ x = v := y
      subst y1 y2
      exact ⟨k, fun _ _ h => h⟩
    | pair v u =>
      obtain ⟨Tt, y1, y2, y3⟩ : ∃ T, x = .ref T ∧ H T = none ∧ H' = upd H T (.tup [v, u]) := y
      subst y1 y3
      obtain ⟨a, b, p1, p2, e1, e2, r1, r2⟩ := k
      have e3 := List.append_eq_nil_iff.mp e2.symm
      obtain ⟨rfl, rfl⟩ := e3
      subst e1
      exact ⟨⟨Tt, [v, u], rfl, upd_same, by rw [sizeLine_eq]; exact (by decide : (2 : Nat) ≤ 16777216), Reps.cons (p := []) (q := []) (r1.ext (ext_upd y2)) (Reps.one (r2.ext (ext_upd y2)))⟩, ext_upd y2⟩
  | d :: ds, _, i + 1, h, hi, y => by
    obtain ⟨e, r, p, q, e1, e2, k, k2⟩ := h
    subst e1
    have e3 := List.append_eq_nil_iff.mp e2.symm
    obtain ⟨rfl, rfl⟩ := e3
    obtain ⟨d', h1, h2⟩ := elts_yld (i := i) k2 (by simpa using hi) (show YE r i H x H' from by
      unfold YE at y ⊢
      rw [List.getElem?_cons_succ] at y
      exact y)
    exact ⟨d', by rw [List.getElem?_cons_succ]; exact h1, h2⟩
end VL
end

/-! text: VComp2 -/
section
set_option autoImplicit false
/-! VComp2: list comprehensions, the turns. -/
namespace VL
open PySem PySem.Spec PyProof.Rows L2

theorem SRel.more {w : Wd} {σ : L2.St} {H : Hp} {s : VS} (r : SRel w σ H s) {F' : Addr → Prop} (h1 : ∀ a, w.F a → F' a) (h2 : ∀ a, F' a → w.F a ∨ ((∃ o, H a = some o ∧ mutO o = true) ∧ ¬ inO w a ∧ ¬ zs w.z a)) : SRel ⟨F', w.O, w.z⟩ σ H s where
  len := r.len
  slot := fun i d h => by
    obtain ⟨v, h3, h4⟩ := r.slot i d h
    exact ⟨v, h3, Rep.mono (fun _ _ _ _ h => h) (fun _ _ h => h) (fun t a hb => ⟨hb.1, h1 a hb.2⟩) d (fun _ _ _ h => h) h4⟩
  nd := r.nd
  dj := r.dj
  oF := fun i a h q => by
    rcases h2 a q with q | q
    · exact r.oF i a h q
    · exact q.2.1 ⟨i, h⟩
  oM := r.oM
  fM := fun a h => by
    rcases h2 a h with q | q
    · exact r.fM a q
    · exact q.1
  strm := r.strm
  zF := fun a h => ⟨fun q => by
    rcases h2 a q with q | q
    · exact (r.zF a h).1 q
    · exact q.2.2 h, (r.zF a h).2⟩

/-- the new list of a comprehension -/
structure Acc (w : Wd) (H H0 : Hp) (p : Addr) (ds : List D) (vs : List V) (fp : List Addr) : Prop where
  at_ : H p = some (.lst vs)
  rep : Reps w.za (BF w.F) H ds vs fp
  nd : (p :: fp).Nodup
  fr : ∀ a ∈ p :: fp, H0 a = none ∧ ¬ w.F a ∧ ¬ inO w a ∧ ¬ zs w.z a
section
variable {w w' : Wd} {σ : L2.St} {H H' H0 : Hp} {s s' : VS} {p : Addr} {ds : List D} {vs : List V} {fp : List Addr}
theorem Acc.live (a : Acc w H H0 p ds vs fp) : ∀ b ∈ p :: fp, ∃ o, H b = some o := fun b hb => by
  rcases List.mem_cons.mp hb with e | hb
  · exact ⟨_, by rw [e]; exact a.at_⟩
  · obtain ⟨o, e, _⟩ := Reps.live ds a.rep b hb
    exact ⟨o, e⟩
theorem Acc.step (r : SRel w σ H s) (st : Step w H s σ w' H' s') (a : Acc w H H0 p ds vs fp) : Acc w' H' H0 p ds vs fp := by
  refine ⟨st.ext _ _ a.at_ (a.fr p List.mem_cons_self).2.2.2, ?_, a.nd, fun b hb => ?_⟩
  · rw [show w'.za = w.za by unfold Wd.za; rw [st.zE]]
    refine Reps.mono (fun t b o hb e => st.ext b o e fun q => (r.zF b q).1 hb.2) (fun b xs e => st.ext b _ e fun z => ?_) (fun t b hb => ⟨hb.1, st.fM b hb.2⟩) ds (fun b o hf e => st.ext b o e (a.fr b (List.mem_cons_of_mem _ hf)).2.2.2) a.rep
    obtain ⟨vs, q⟩ := r.zlive b z
    rw [e] at q; cases q
  · obtain ⟨h1, h2, h3, h4⟩ := a.fr b hb
    obtain ⟨o, e⟩ := a.live b hb
    have no : ¬ (w'.F b ∨ inO w' b) := fun q => by
      rcases st.new b q with q | q | q
      · exact h2 q
      · exact h3 q
      · rw [e] at q; cases q
    exact ⟨h1, fun q => no (.inl q), fun q => no (.inr q), by rw [st.zE]; exact h4⟩
theorem Acc.view (a : Acc w H H0 p ds vs fp) (hF : w'.F = w.F) (hz : w'.z = w.z) (hO : ∀ i b, b ∈ w'.O i → b ∈ w.O i) : Acc w' H H0 p ds vs fp := by
  refine ⟨a.at_, ?_, a.nd, fun b hb => ?_⟩
  · rw [show w'.za = w.za by unfold Wd.za; rw [hz], hF]
    exact a.rep
  · obtain ⟨h1, h2, h3, h4⟩ := a.fr b hb
    rw [hF, hz]
    exact ⟨h1, h2, fun ⟨i, q⟩ => h3 ⟨i, hO i b q⟩, h4⟩
theorem Acc.ext (a : Acc w H H0 p ds vs fp) (h : ∀ b o, H b = some o → H' b = some o) : Acc w H' H0 p ds vs fp := ⟨h _ _ a.at_, a.rep.ext h, a.nd, a.fr⟩
/-- one more -/
theorem Acc.push {d : D} {v : V} {fq : List Addr} (a : Acc w H H0 p ds vs fp) (h : Rep w.za (BF w.F) H d v fq) (n : fq.Nodup) (fr : ∀ b ∈ fq, H0 b = none ∧ ¬ w.F b ∧ ¬ inO w b ∧ ¬ zs w.z b) (dj : ∀ b ∈ fq, b ∉ p :: fp) :
    Acc w (upd H p (.lst (vs ++ [v]))) H0 p (ds ++ [d]) (vs ++ [v]) (fp ++ fq) := by
  have np : ∀ b, b ∈ fp ++ fq → b ≠ p := fun b hb e => by
    subst e
    rcases List.mem_append.mp hb with hb | hb
    · exact (List.nodup_cons.mp a.nd).1 hb
    · exact dj b hb List.mem_cons_self
  refine ⟨upd_same, ?_, ?_, fun b hb => ?_⟩
  · refine Reps.mono (fun t b o hb e => ?_) (fun b xs e => ?_) (fun _ _ h => h) (ds ++ [d]) (fun b o hf e => by rw [upd_ne (np b hf)]; exact e) (a.rep.append (Reps.one h))
    · rw [upd_ne fun q => by subst q; exact (a.fr b List.mem_cons_self).2.1 hb.2]
      exact e
    · rw [upd_ne fun q => by subst q; rw [a.at_] at e; cases e]
      exact e
  · rw [List.nodup_cons, List.nodup_append]
    refine ⟨fun hb => np p hb rfl, (List.nodup_cons.mp a.nd).2, n, fun b hb c hc e => ?_⟩
    subst e
    exact dj b hc (List.mem_cons_of_mem _ hb)
  · rcases List.mem_cons.mp hb with e | hb
    · subst e; exact a.fr b List.mem_cons_self
    · rcases List.mem_append.mp hb with hb | hb
      · exact a.fr b (List.mem_cons_of_mem _ hb)
      · exact fr b hb
end

theorem nOwn_back {ρ0 ρ : VEnv} {own : List Nat} {j : Nat} (hp : parked ρ0 own = true) (hj : j ∈ own) : nOwn (at0 (backV ρ0 ρ own) j) = true := by
  cases e : at0 (backV ρ0 ρ own) j with
  | none => rfl
  | some d =>
    have e2 : (backV ρ0 ρ own)[j]? = some (some d) := by
      unfold at0 at e
      cases q : (backV ρ0 ρ own)[j]? with
      | none => rw [q] at e; cases e
      | some o =>
        rw [q] at e
        have e : o = some d := e
        rw [e]
    rcases backV_some e2 with ⟨_, h⟩ | ⟨h, _⟩
    · have := parked_at hp hj h
      cases d with
      | lst t xs => cases t <;> first | rfl | (simp [D.any, Tag.isOwn] at this)
      | dk t ks xs => cases t <;> first | rfl | (simp [D.any, Tag.isOwn] at this)
      | _ => rfl
    · exact absurd hj h
/-- the turns of a comprehension, between two of them -/
structure CSt (w : Wd) (H0 : Hp) (s : VS) (σ : L2.St) (w1 : Wd) (H1 : Hp) (ρ1 : VEnv) (own : List Nat) (wi : Wd) (Hi : Hp) (ρi : VEnv) (sti : Option Strm) (p : Addr) (ds : List D) (vs : List V) (fp : List Addr) : Prop where
  st : Step w H0 s σ wi Hi ⟨backV ρ1 ρi own, sti⟩
  off : ∀ v ∈ own, wi.O v = []
  acc : Acc wi Hi H0 p ds vs fp
  ext : ∀ a o, H1 a = some o → ¬ zs w1.z a → Hi a = some o
  fB : ∀ a, w1.F a → wi.F a
  zB : wi.z = w1.z

section
variable {w w1 : Wd} {H0 H1 : Hp} {s : VS} {σ : L2.St} {ρ1 : VEnv} {st1 : Option Strm} {own : List Nat}
/-- the start -/
theorem cst_start {es : List Elt} {ds : List D} {fp : List Addr} {p : Addr} (r : SRel w σ H0 s) (hst : Step w H0 s σ w1 H1 ⟨ρ1, st1⟩) (hp : parked ρ1 own = true) (el : Elts w1.za (BW w1 ρ1) H1 ds es fp)
    (fr : ∀ a ∈ fp, H0 a = none ∧ ¬ w1.F a ∧ ¬ inO w1 a ∧ ¬ zs w1.z a) (lv : ∀ a ∈ fp, ∃ o, H1 a = some o ∧ mutO o = true) (hp0 : H1 p = none) :
    ∃ w2, CSt w H0 s σ w1 H1 ρ1 own w2 (upd H1 p (.lst [])) (settle ds ρ1) st1 p [] [] [] ∧ Elts w2.za (BF w2.F) (upd H1 p (.lst [])) (D.mas (fun _ => .fz) ds) es [] := by
  have r1 := hst.rel
  obtain ⟨wS, stS, hS⟩ := settle_ok ds r1
  have rS := stS.rel
  have rO := outer_of r1 hp rS (σ := σ) rfl stS.fM stS.ext stS.zE
  let F2 : Addr → Prop := fun a => wS.F a ∨ a ∈ fp ∨ ∃ v, v ∈ own ∧ a ∈ wS.O v
  have oldS : ∀ a, wS.F a ∨ inO wS a → w1.F a ∨ inO w1 a := fun a h => by
    rcases stS.new a h with q | q | q
    · exact .inl q
    · exact .inr q
    · rcases h with h | ⟨i, h⟩
      · obtain ⟨o, e, _⟩ := rS.fM a h
        rw [q] at e; cases e
      · obtain ⟨o, e, _⟩ := rS.oM i a h
        rw [q] at e; cases e
  have rM : SRel ⟨F2, (offW wS own).O, wS.z⟩ σ H1 ⟨backV ρ1 (settle ds ρ1) own, st1⟩ := rO.more (F' := F2) (fun a h => .inl h) fun a h => by
    rcases h with h | h | ⟨v, h1, h2⟩
    · exact .inl h
    · refine .inr ⟨lv a h, fun ⟨i, q⟩ => ?_, fun q => (fr a h).2.2.2 (by rw [← stS.zE]; exact q)⟩
      rcases oldS a (.inr ⟨i, (offW_sub q).1⟩) with q | q
      · exact (fr a h).2.1 q
      · exact (fr a h).2.2.1 q
    · refine .inr ⟨rS.oM v a h2, fun ⟨i, q⟩ => ?_, fun q => (rS.zF a q).2 v h2⟩
      obtain ⟨q1, q2⟩ := offW_sub q
      exact q2 (by rw [rS.dj i v a q1 h2]; exact h1)
  have hFr := r1.fresh hp0
  have oldW : ∀ a, wS.F a ∨ inO wS a → w.F a ∨ inO w a ∨ H0 a = none := fun a h => (oldS a h).elim (fun h => hst.new a (.inl h)) fun h => hst.new a (.inr h)
  have bM : ∀ t a, BW wS (settle ds ρ1) t a → BW ⟨F2, (offW wS own).O, wS.z⟩ (backV ρ1 (settle ds ρ1) own) t a := fun t a h => by
    cases t with
    | fz => exact .inl h
    | own => exact h.elim
    | br j =>
      have hn : j ∈ own → nOwn (at0 (backV ρ1 (settle ds ρ1) own) j) = true := fun c => nOwn_back hp c
      rcases h with h | h
      · refine .inl ⟨.inl h.1, ?_⟩
        by_cases c : j ∈ own
        · exact hn c
        · rw [at0_not (backV_not (ρ0 := ρ1) (ρ := settle ds ρ1) c)]
          exact h.2
      · by_cases c : j ∈ own
        · exact .inl ⟨.inr (.inr ⟨j, c, List.mem_of_mem_head? h⟩), hn c⟩
        · exact .inr (by show ((offW wS own).O j).head? = some a; rw [offW_O c]; exact h)
    | bc j =>
      rcases h with h | h
      · exact .inl (.inl h)
      · by_cases c : j ∈ own
        · exact .inl (.inr (.inr ⟨j, c, childO_sub h⟩))
        · refine .inr ?_
          show a ∈ childO (at0 (backV ρ1 (settle ds ρ1) own) j) ((offW wS own).O j)
          rw [offW_O c, at0_not (backV_not (ρ0 := ρ1) (ρ := settle ds ρ1) c)]
          exact h
  refine ⟨⟨F2, (offW wS own).O, wS.z⟩, ⟨⟨rM.laid (ext_upd hp0), ?_, fun a h => .inl (stS.fM a (hst.fM a h)), fun t a h => bM t a (stS.bM t a (hst.bM t a h)), fun a h => ?_, fun a o e n => ext_upd hp0 a o (hst.ext a o e n), stS.zE.trans hst.zE⟩, fun v hv => ?_, ⟨upd_same, .nil, by simp, fun a ha => ?_⟩, fun a o e _ => ext_upd hp0 a o e, fun a h => .inl (stS.fM a h), stS.zE⟩, ?_⟩
  · show (backV ρ1 (settle ds ρ1) own).length = s.ρ.length
    rw [backV_len]
    exact stS.len.trans hst.len
  · rcases h with h | ⟨i, h⟩
    · rcases h with h | h | ⟨v, h1, h2⟩
      · exact oldW a (.inl h)
      · exact .inr (.inr (fr a h).1)
      · exact oldW a (.inr ⟨v, h2⟩)
    · exact oldW a (.inr ⟨i, (offW_sub h).1⟩)
  · show (if v ∈ own then [] else wS.O v) = []
    rw [if_pos hv]
  · have e : a = p := by simpa using ha
    subst e
    refine ⟨hst.none r hp0, fun q => ?_, fun ⟨i, q⟩ => ?_, fun q => hFr.2.2 (by rw [← stS.zE]; exact q)⟩
    · obtain ⟨o, e, _⟩ := rM.fM a q
      rw [hp0] at e; cases e
    · obtain ⟨o, e, _⟩ := rM.oM i a q
      rw [hp0] at e; cases e
  · rw [show (⟨F2, (offW wS own).O, wS.z⟩ : Wd).za = w1.za by unfold Wd.za; rw [← stS.zE]]
    have h1 := elts_fz (F := F2) el (fun t a ht n hb => ?_) fun a ha => .inr (.inl ha)
    · exact elts_mono (F := F2) (fun _ h => h) (fun a o _ e => ext_upd hp0 a o e) (fun a xs e => ext_upd hp0 a _ e) h1
    · have := hS t a ht n hb
      cases t with
      | fz => exact .inl this
      | own => exact absurd rfl n
      | br i => exact .inl this
      | bc i => exact .inl this

/-- from the turn's steps to the outer view -/
theorem cst_next {wi wA wD : Wd} {Hi Hy HC : Hp} {ρi ρA ρD : VEnv} {sti stD : Option Strm} {σA : L2.St} {p : Addr} {ds : List D} {vs : List V} {fp : List Addr} {sl : List Nat} (r : SRel w σ H0 s) (hst : Step w H0 s σ w1 H1 ⟨ρ1, st1⟩) (hp : parked ρ1 own = true)
    (c : CSt w H0 s σ w1 H1 ρ1 own wi Hi ρi sti p ds vs fp) (hy : ∀ a o, Hi a = some o → Hy a = some o) (sd : Stored (offW wi own) (wipe σ own) (wipeV ρi own) [] sl wA σA ρA) (hsl : ∀ i ∈ sl, i ∈ own) (hw : wipe σA own = wipe σ own)
    (rA : SRel wA σA Hy ⟨ρA, sti⟩) (T : Step wA Hy ⟨ρA, sti⟩ σA wD HC ⟨ρD, stD⟩) : CSt w H0 s σ w1 H1 ρ1 own (offW wD own) HC ρD stD p ds vs fp := by
  have nsl : ∀ {i : Nat}, i ∉ own → i ∉ sl := fun h q => h (hsl _ q)
  have zA : wA.z = wi.z := sd.z
  have zD : wD.z = wi.z := T.zE.trans zA
  have fA : wA.F = wi.F := sd.F
  have subA : ∀ i a, a ∈ wA.O i → a ∈ wi.O i := fun i a h => by
    rcases sd.O i a h with h | h
    · exact (offW_sub h).1
    · cases h
  have ext : ∀ a o, Hi a = some o → ¬ zs wi.z a → HC a = some o := fun a o e n => T.ext a o (hy a o e) (by rw [zA]; exact n)
  have extB : ∀ a o, H1 a = some o → ¬ zs w1.z a → HC a = some o := fun a o e n => ext a o (c.ext a o e n) (by rw [c.zB]; exact n)
  have fB : ∀ a, w1.F a → wD.F a := fun a h => T.fM a (by rw [fA]; exact c.fB a h)
  have rel := outer_of hst.rel hp T.rel (σ := σ) hw fB extB (zD.trans c.zB)
  have accA : Acc wA Hy H0 p ds vs fp := (c.acc.ext hy).view fA zA subA
  have none : ∀ a, Hi a = Option.none → H0 a = Option.none := fun a h => c.st.none r h
  have noneY : ∀ a, Hy a = Option.none → Hi a = Option.none := fun a h => by
    cases e : Hi a with
    | none => rfl
    | some o => rw [hy a o e] at h; cases h
  refine ⟨⟨rel, ?_, fun a h => T.fM a (by rw [fA]; exact c.st.fM a h), fun t a h => ?_, fun a h => ?_, fun a o e n => ext a o (c.st.ext a o e n) (by rw [c.st.zE]; exact n), zD.trans c.st.zE⟩, fun v hv => ?_, (Acc.step rA T accA).view rfl rfl fun i b h => (offW_sub h).1, extB, fB, zD.trans c.zB⟩
  · show (backV ρ1 ρD own).length = s.ρ.length
    rw [backV_len]
    have h1 := c.st.len
    have h2 : (backV ρ1 ρi own).length = s.ρ.length := h1
    rw [backV_len] at h2
    have h3 : ρA.length = (wipeV ρi own).length := sd.l2
    rw [wipeV_len] at h3
    exact T.len.trans (h3.trans h2)
  · have h1 := c.st.bM t a h
    cases t with
    | fz => exact T.fM a (by rw [fA]; exact h1)
    | own => exact h1.elim
    | br j =>
      by_cases cj : j ∈ own
      · refine .inl ⟨?_, nOwn_back hp cj⟩
        rcases h1 with h1 | h1
        · exact T.fM a (by rw [fA]; exact h1.1)
        · rw [c.off j cj] at h1; cases h1
      · have hA : BW wA ρA (.br j) a := by
          rcases h1 with h1 | h1
          · refine .inl ⟨by rw [fA]; exact h1.1, ?_⟩
            rw [at0_not ((sd.off j (nsl cj)).2.2.trans (wipeV_not cj)), ← at0_not (backV_not (ρ0 := ρ1) (ρ := ρi) cj)]
            exact h1.2
          · exact .inr (by rw [(sd.off j (nsl cj)).2.1, offW_O cj]; exact h1)
        rcases T.bM (.br j) a hA with h2 | h2
        · refine .inl ⟨h2.1, ?_⟩
          show nOwn (at0 (backV ρ1 ρD own) j) = true
          rw [at0_not (backV_not (ρ0 := ρ1) (ρ := ρD) cj)]
          exact h2.2
        · exact .inr (by show ((offW wD own).O j).head? = some a; rw [offW_O cj]; exact h2)
    | bc j =>
      rcases h1 with h1 | h1
      · exact .inl (T.fM a (by rw [fA]; exact h1))
      · by_cases cj : j ∈ own
        · have := childO_sub h1
          rw [c.off j cj] at this; cases this
        · have hA : BW wA ρA (.bc j) a := .inr (by
            rw [(sd.off j (nsl cj)).2.1, offW_O cj, at0_not ((sd.off j (nsl cj)).2.2.trans (wipeV_not cj))]
            have h1' : a ∈ childO (at0 (backV ρ1 ρi own) j) (wi.O j) := h1
            rw [at0_not (backV_not (ρ0 := ρ1) (ρ := ρi) cj)] at h1'
            exact h1')
          rcases T.bM (.bc j) a hA with h2 | h2
          · exact .inl h2
          · refine .inr ?_
            show a ∈ childO (at0 (backV ρ1 ρD own) j) ((offW wD own).O j)
            rw [offW_O cj, at0_not (backV_not (ρ0 := ρ1) (ρ := ρD) cj)]
            exact h2
  · have h' : wD.F a ∨ inO wD a := h.imp id fun ⟨i, q⟩ => ⟨i, (offW_sub q).1⟩
    rcases T.new a h' with q | ⟨i, q⟩ | q
    · exact c.st.new a (.inl (by rw [← fA]; exact q))
    · exact c.st.new a (.inr ⟨i, subA i a q⟩)
    · exact .inr (.inr (none a (noneY a q)))
  · show (if v ∈ own then [] else wD.O v) = []
    rw [if_pos hv]
/-- a thing is put at the end -/
theorem cst_push {wi : Wd} {Hi : Hp} {ρi : VEnv} {sti : Option Strm} {p : Addr} {ds : List D} {vs : List V} {fp fq : List Addr} {d : D} {v : V} (r : SRel w σ H0 s) (hp1 : H1 p = none) (c : CSt w H0 s σ w1 H1 ρ1 own wi Hi ρi sti p ds vs fp)
    (h : Rep wi.za (BF wi.F) Hi d v fq) (n : fq.Nodup) (fr : ∀ b ∈ fq, H0 b = none ∧ ¬ wi.F b ∧ ¬ inO wi b ∧ ¬ zs wi.z b) (dj : ∀ b ∈ fq, b ∉ p :: fp) :
    CSt w H0 s σ w1 H1 ρ1 own wi (upd Hi p (.lst (vs ++ [v]))) ρi sti p (ds ++ [d]) (vs ++ [v]) (fp ++ fq) := by
  have f := c.acc.fr p List.mem_cons_self
  refine ⟨⟨c.st.rel.chg c.acc.at_ ⟨f.2.1, f.2.2.1, f.2.2.2⟩, c.st.len, c.st.fM, c.st.bM, c.st.new, fun a o e n => ?_, c.st.zE⟩, c.off, c.acc.push h n fr dj, fun a o e n => ?_, c.fB, c.zB⟩
  · rw [upd_ne fun q => by subst q; rw [f.1] at e; cases e]
    exact c.st.ext a o e n
  · rw [upd_ne fun q => by subst q; rw [hp1] at e; cases e]
    exact c.ext a o e n
end
end VL
end

/-! text: VEmp -/
section
set_option autoImplicit false
/-! VEmp: a comprehension over an empty dict. -/
namespace VL
open PySem PySem.Spec PyProof.Rows L2
def tNo : TE := fun _ _ _ => False
def gNo : TG := fun _ _ _ _ => False
def ttNo : TT := fun _ _ _ => False
section
variable {T : Tb} {Φ : Calls}
theorem sm_emp (own : List Nat) (i : Nat) : SM T Φ (ev Φ (.emp own i)) (chk T (.emp own i)) := by
  refine SM.of (fun X c g x h => ?_) fun c x h => ?_
  · have h' : cEmp own i c x = true := h
    unfold cEmp at h'
    split at h'
    · rename_i e tg y p fs scope pos
      obtain ⟨h, h2⟩ := and2 h'
      obtain ⟨h1, h3⟩ := and2 h
      obtain ⟨h4, h5⟩ := and2 h2
      obtain ⟨h4, h6⟩ := and2 h4
      have k := okName_of h5
      have hb : BlkOk X.N X.env.scope scope (ownP c own) := by
        rw [g.N, g.sc]
        exact blkOk_by h3
      have hv : PE X (.Name y p) (tVar i) := pe_var (by rw [g.N]; exact of_decide_eq_true h4) (vis_of g h6) k.1 k.2.1
      have := pe_lock (pe_lc (pos := pos) (elt := e) (ifs := fs) (g := gNo) (tt := ttNo) (te := tNo) g.calm (by rw [g.N]; exact g.nd) (pi_keys (tg := tg) hv) hb (fun s H C cl fp => ⟨fun _ _ _ _ _ _ _ _ _ z => z.elim⟩) (fun s H C cl fp => ⟨fun _ _ _ _ _ _ z => z.elim⟩) (fun s H C cl fp => ⟨fun _ _ _ _ _ _ z => z.elim⟩))
      refine this.imp fun σ H Q ⟨w, s, d', s', r, ee, q⟩ => ?_
      have ee' : (match s.ρ[i]? with
        | some (some (.dk _ [] [])) => Res.ok (D.lst .own [], s)
        | _ => .stuck) = .ok (d', s') := ee
      split at ee'
      · rename_i t hi
        cases ee'
        obtain ⟨v, hv, hr⟩ := r.slot i _ hi
        obtain ⟨a, vs, q', e1, ha, hk, hl, hrr, ho⟩ := hr
        subst e1
        have ha : H a = some (.dK []) := ha
        refine ⟨a, .dK [], ha, trivial, fun od => ?_⟩
        refine ⟨.ref a, hv, a, od, rfl, .inl ⟨[], upd_same, fun p hp => ?_⟩⟩
        have hpa : p ≠ a := fun z => by rw [z, upd_same] at hp; cases hp
        have hp0 : H p = none := by rw [upd_ne hpa] at hp; exact hp
        refine ⟨fun j m H' => H' = upd (upd H a (.frz od (.dK []))) p (.lst []), ⟨0, rfl⟩, fun j m H' e => .inl ⟨?_, ?_⟩⟩
        · subst e
          exact ⟨by rw [upd_ne hpa.symm, upd_same], Nat.zero_le _⟩
        · subst e
          refine ⟨by rw [upd_ne hpa.symm, upd_same], ?_⟩
          have eH : upd (upd (upd H a (.frz od (.dK []))) p (.lst [])) a (.dK []) = upd H p (.lst []) := by
            funext b
            by_cases h1 : b = a
            · rw [h1, upd_same, upd_ne hpa.symm, ha]
            · rw [upd_ne h1]
              by_cases h2 : b = p
              · rw [h2, upd_same, upd_same]
              · rw [upd_ne h2, upd_ne h1, upd_ne h2]
          rw [eH]
          refine fin_of r (Step.refl r) .nil q _ _ [p] (ext_upd hp0) ⟨p, [], [], rfl, upd_same, Nat.zero_le _, .nil, .inl ⟨rfl, rfl⟩⟩ (by simp) fun b hb => ?_
          rw [List.mem_singleton.mp hb]
          exact .inr hp0
      · cases ee'
    · cases h'
  · cases x <;> first | rfl | cases h
end
end VL
end

/-! text: VComp3 -/
section
set_option autoImplicit false
/-! VComp3: list comprehensions, put together; all expressions. -/
namespace VL
open PySem PySem.Spec PyProof.Rows L2

theorem mas_drop (f : Tag → Tag) : True := trivial
theorem drop_get {α : Type} {l : List α} {i : Nat} {x : α} (h : l[i]? = some x) : l.drop i = x :: l.drop (i + 1) := by
  obtain ⟨hi, e⟩ := List.getElem?_eq_some_iff.mp h
  rw [List.drop_eq_getElem_cons hi, e]
theorem un_ne {t : Tag} (h : t.un = .own) : t = .own := by cases t <;> first | rfl | cases h
theorem tLc_of {own : List Nat} {g : VG} {it : VS → Res ((List D × List D) × VS)} {ifs : VS → Res (Bool × VS)} {elt : VS → Res (D × VS)} (hsl : ∀ i ∈ g.slots, i ∈ own) :
    ∀ σ H Q, tE (compM own g it ifs elt) σ H Q → tLc (tI it) (tGr g) (tT ifs) (tE elt) own σ H Q := fun σ H Q ⟨w, s, d', s', r, e, q⟩ => by
  obtain ⟨x, e1, e⟩ := bind_ok e
  split at e
  rotate_left
  · cases e
  rename_i hp
  obtain ⟨rr, e2, e3⟩ := bind_ok e
  obtain ⟨gl, e4⟩ := guard_ok e3
  have gl' : rr.1.length ≤ maxLen := of_decide_eq_true gl
  cases e4
  obtain ⟨⟨items, srcs⟩, s1⟩ := x
  obtain ⟨res, send⟩ := rr
  refine ⟨w, s, items, srcs, s1, r, e1, fun J H1 w1 es A fa fp hst wk hA aok el nd fr lv => ?_⟩
  intro p hp0
  obtain ⟨ρ1, st1⟩ := s1
  have hfp : ∀ a ∈ fp, H p = none ∨ True := fun _ _ => .inr trivial
  obtain ⟨w2, c0, el0⟩ := cst_start r hst hp el (fun a ha => fr a (List.mem_append_right _ ha)) (fun a ha => lv a (List.mem_append_right _ ha)) hp0
  have hAz : ∀ a ∈ A, ¬ zs w1.z a := fun a ha => by
    rcases aok a ha with ⟨xs, h⟩ | h | ⟨t, _, _, h⟩
    · intro q
      obtain ⟨vs, e⟩ := hst.rel.zlive a q
      rw [h] at e; cases e
    · exact (fr a (List.mem_append_left _ h)).2.2.2
    · exact (hst.rel.bLive h).2
  let Pv : Nat → Hp → Prop := fun i Hi => ∃ wi ρi sti ds vs fpi rest, CSt w H s σ w1 H1 ρ1 own wi Hi ρi sti p ds vs fpi ∧ Elts wi.za (BF wi.F) Hi (D.mas (fun _ => .fz) items) es [] ∧
    compGo (fun d s => asgG g d (wipeV s.ρ own) >>= fun ρ => .ok ⟨ρ, s.st⟩) ifs (fun s => elt s >>= fun y => .ok (y.1.ma Tag.un, ⟨settle [y.1] y.2.ρ, y.2.st⟩)) ((D.mas (fun _ => .fz) items).drop i) ⟨ρi, sti⟩ = .ok (rest, send) ∧ res = ds ++ rest
  refine lc_it wk Pv ⟨w2, _, _, _, _, _, res, c0, el0, by rw [List.drop_zero]; exact e2, rfl⟩ (fun i Hi _ ⟨wi, ρi, sti, ds, vs, fpi, rest, c, _⟩ a ha => ?_) ?_ ?_
  · cases ea : H1 a with
    | none => exact absurd ea (hA a ha)
    | some o => exact c.ext a o ea (hAz a ha)
  · intro i xv Hi Hy hi ⟨wi, ρi, sti, ds, vs, fpi, rest, c, eli, ego, eres⟩ hy
    obtain ⟨d, hd, hrep, hext⟩ := elts_yld eli hi hy
    rw [drop_get hd] at ego
    unfold compGo at ego
    obtain ⟨sA, b1, b2⟩ := bind_ok ego
    obtain ⟨ρA, a1, a2⟩ := bind_ok b1
    cases a2
    obtain ⟨bb, t1, t2⟩ := bind_ok b2
    have rY : SRel (offW wi own) (wipe σ own) Hy ⟨wipeV ρi own, sti⟩ := by
      have h1 := inner_of own c.st.rel
      have e : wipeV (backV ρ1 ρi own) own = wipeV ρi own := by
        refine List.ext_getElem? fun j => ?_
        by_cases cj : j ∈ own
        · have hl : (backV ρ1 ρi own).length = ρi.length := backV_len own
          have gen : ∀ (ρ : VEnv) (own : List Nat), j ∈ own → (wipeV ρ own)[j]? = if j < ρ.length then some none else none := fun ρ own h => by
            induction own with
            | nil => cases h
            | cons v vs ih =>
              unfold wipeV
              by_cases hv : v = j
              · subst hv
                rw [List.getElem?_set]
                rw [wipeV_len]
                simp
              · rw [List.getElem?_set_ne hv]
                rcases List.mem_cons.mp h with e | h
                · exact absurd e.symm hv
                · exact ih h
          rw [gen _ _ cj, gen _ _ cj, hl]
        · rw [wipeV_not cj, wipeV_not cj, backV_not cj]
      rw [e] at h1
      exact h1.laid hext
    refine ⟨offW wi own, ⟨wipeV ρi own, sti⟩, d, [], ρA, rY, hrep, ⟨List.nodup_nil, fun a h => by cases h⟩, a1, fun σA wA rA sd => ?_⟩
    have hwA : wipe σA own = wipe σ own := by
      refine List.ext_getElem? fun j => ?_
      by_cases cj : j ∈ own
      · have gen : ∀ (ρ : L2.St) (own : List Nat), j ∈ own → (wipe ρ own)[j]? = if j < ρ.length then some none else none := fun ρ own h => by
          induction own with
          | nil => cases h
          | cons v vs ih =>
            unfold wipe
            by_cases hv : v = j
            · subst hv
              rw [List.getElem?_set]
              rw [wipe_length]
              simp
            · rw [List.getElem?_set_ne hv]
              rcases List.mem_cons.mp h with e | h
              · exact absurd e.symm hv
              · exact ih h
        rw [gen _ _ cj, gen _ _ cj, sd.l1, wipe_length]
      · rw [wipe_not cj, (sd.off j fun q => cj (hsl j q)).1]
    refine ⟨hwA, wA, ⟨ρA, sti⟩, bb.1, bb.2, rA, t1, fun HB wB stB => ?_⟩
    have zA : wA.z = wi.z := sd.z
    have hyE : ∀ {wX : Wd} {HX : Hp}, (∀ a, wi.F a → wX.F a) → (∀ a o, Hi a = some o → ¬ zs wi.z a → HX a = some o) → wX.z = wi.z → Elts wX.za (BF wX.F) HX (D.mas (fun _ => .fz) items) es [] := fun {wX HX} h1 h2 h3 => by
      rw [show wX.za = wi.za by unfold Wd.za; rw [h3]]
      refine elts_mono h1 (fun a o hF e => h2 a o e fun q => (c.st.rel.zF a q).1 hF) (fun a xs e => h2 a _ e fun q => ?_) eli
      obtain ⟨us, e'⟩ := c.st.rel.zlive a q
      rw [e] at e'; cases e'
    obtain ⟨b, ρB, stB'⟩ := bb
    cases b with
    | false =>
      show Pv (i + 1) HB
      have c' := cst_next r hst hp c hext sd hsl hwA rA stB
      refine ⟨_, _, _, _, _, _, rest, c', hyE (fun a h => stB.fM a (by rw [sd.F]; exact h)) (fun a o e n => stB.ext a o (hext a o e) (by rw [zA]; exact n)) (stB.zE.trans zA), t2, eres⟩
    | true =>
      show tE elt σA HB fun y H4 => ∃ acc, H4 p = some (.lst acc) ∧ acc.length < sizeLine ∧ Pv (i + 1) (upd H4 p (.lst (acc ++ [y])))
      obtain ⟨y', y1, y2⟩ := bind_ok t2
      obtain ⟨y, z1, z2⟩ := bind_ok y1
      cases z2
      obtain ⟨rest', g1, g2⟩ := bind_ok y2
      cases g2
      obtain ⟨yd, ρC, stC'⟩ := y
      refine ⟨wB, ⟨ρB, stB'⟩, yd, ⟨ρC, stC'⟩, stB.rel, z1, fun yv HC wC fy stC ty => ?_⟩
      obtain ⟨wD, stD, hD⟩ := settle_ok [yd] stC.rel
      have T := (stB.trans rA stC).trans rA stD
      have c' := cst_next r hst hp c hext sd hsl hwA rA T
      have ty' := ty.step stC.rel stD
      have hl : vs.length < sizeLine := by
        rw [← maxLen_eq, Reps.length c.acc.rep]
        have : res.length = ds.length + (rest'.1.length + 1) := by rw [eres, List.length_append, List.length_cons]
        have gl2 : res.length ≤ maxLen := gl'
        omega
      have acA : Acc wA Hy H p ds vs fpi := (c.acc.ext hext).view sd.F zA fun j a h => by
        rcases sd.O j a h with h | h
        · exact (offW_sub h).1
        · cases h
      have hat := (Acc.step rA T acA).at_
      have hrepD : Rep wD.za (BF wD.F) HC (yd.ma Tag.un) yv fy := by
        have h1 : Rep wC.za (BW wC ρC) HC yd yv fy := ty.rep
        have h2 := Rep.tags (B' := BF wD.F) Tag.un (fun t h => un_ne h) yd (fun t a ht n hb => ?_) (fun n => absurd rfl n) h1
        · rw [if_pos (show Tag.un .own = .own from rfl), ← show wD.za = wC.za by unfold Wd.za; rw [stD.zE]] at h2
          exact h2
        · have h3 := hD t a (by unfold has; simp only [D.anys, Bool.or_eq_true]; exact .inl ht) n hb
          cases t with
          | fz => exact ⟨rfl, h3⟩
          | own => exact absurd rfl n
          | br i => exact ⟨rfl, h3⟩
          | bc i => exact ⟨rfl, h3⟩
      have noneC : ∀ a, HB a = none → Hy a = none := fun a h => stB.none rA h
      have noneY : ∀ a, Hy a = none → Hi a = none := fun a h => by
        cases e : Hi a with
        | none => rfl
        | some o => rw [hext a o e] at h; cases h
      refine ⟨vs, hat, hl, _, _, _, _, _, _, rest'.1, cst_push r hp0 c' hrepD ty.nd (fun a ha => ?_) (fun a ha => ?_), ?_, g1, by rw [List.append_assoc]; exact eres⟩
      · obtain ⟨f1, f2, f3, f4⟩ := ty'.fr a ha
        exact ⟨c.st.none r (noneY a (noneC a f1)), f2, fun ⟨j, q⟩ => f3 ⟨j, (offW_sub q).1⟩, f4⟩
      · intro hb
        obtain ⟨o, e⟩ := c.acc.live a hb
        have := noneY a (noneC a (ty.fr a ha).1)
        rw [e] at this; cases this
      · have e1 := hyE (wX := wD) (HX := HC) (fun a h => T.fM a (by rw [sd.F]; exact h)) (fun a o e n => T.ext a o (hext a o e) (by rw [zA]; exact n)) (T.zE.trans zA)
        refine elts_mono (fun _ h => h) (fun a o hF e => ?_) (fun a xs e => ?_) e1
        · rw [upd_ne fun q => ?_]
          · exact e
          · subst q
            exact (c'.acc.fr a List.mem_cons_self).2.1 hF
        · rw [upd_ne fun q => ?_]
          · exact e
          · subst q
            rw [hat] at e; cases e
  · intro Hn ⟨wi, ρi, sti, ds, vs, fpi, rest, c, eli, ego, eres⟩
    have hn : es.length = (D.mas (fun _ => .fz) items).length := elts_len eli
    rw [hn, List.drop_length] at ego
    unfold compGo at ego
    cases ego
    rw [List.append_nil] at eres
    subst eres
    refine q (.ref p) Hn wi (p :: fpi) c.st ⟨⟨p, vs, fpi, rfl, c.acc.at_, ?_, ?_, .inl ⟨rfl, rfl⟩⟩, c.acc.nd, c.acc.fr⟩
    · rw [Reps.length c.acc.rep, ← maxLen_eq]; exact gl'
    · exact Reps.mono (fun _ _ _ _ h => h) (fun _ _ h => h) (fun t a hb => by obtain ⟨rfl, hb⟩ := hb; exact hb) _ (fun _ _ _ h => h) c.acc.rep

section
variable {T : Tb} {Φ : Calls}
theorem good_blk {X : Cx} {c : SC} (g : Good T Φ X c) (scope : Scope) (s : Shared) (H : Hp) (C : Addr) (cl : List (Str × Addr)) (fp : List Addr) : Good T Φ (X.blk s H scope (compEnvC scope cl C X.env) fp) (c.blk scope) where
  N := g.N
  sc := by
    show relS scope X.env.scope = relS scope c.sc
    rw [g.sc]
  nd := g.nd
  calm := g.calm
  fn := fun x h => h
  hu := g.hu
  gs := g.gs
  blt := g.blt
  fns := fun k sg h => by
    obtain ⟨ar, a, fd, lev, e1, e2, e3, e4, e5, e6⟩ := g.fns k sg h
    exact ⟨ar, a, fd, lev, e1, e2, e3, e4, e5, e6⟩
theorem sm_comp (own : List Nat) (gr : VG) {it ifs elt : VE} (hi : SM T Φ (ev Φ it) (chk T it)) (hf : SM T Φ (ev Φ ifs) (chk T ifs)) (he : SM T Φ (ev Φ elt) (chk T elt)) : SM T Φ (ev Φ (.comp own gr it ifs elt)) (chk T (.comp own gr it ifs elt)) := by
  refine SM.of (fun X c g x h => ?_) fun c x h => ?_
  · have h' : cComp own gr (chk T it) (chk T ifs) (chk T elt) c x = true := h
    unfold cComp at h'
    split at h'
    · rename_i e tg i fs scope p
      obtain ⟨h, h8⟩ := and2 h'
      obtain ⟨h, h7⟩ := and2 h
      obtain ⟨h, h6⟩ := and2 h
      obtain ⟨h, h5⟩ := and2 h
      obtain ⟨h, h4⟩ := and2 h
      obtain ⟨h, h3⟩ := and2 h
      obtain ⟨h1, h2⟩ := and2 h
      have ho := of_decide_eq_true h1
      have hb : BlkOk X.N X.env.scope scope (ownP c own) := by
        rw [g.N, g.sc]
        exact blkOk_by h3
      have hsl : ∀ j ∈ gr.slots, j ∈ own := fun j hj => of_decide_eq_true (List.all_eq_true.mp h2 j hj)
      have hfo : ∀ v, foldedSetIterable i X.env v = pure v := by
        intro v
        cases i <;> first | rfl | cases h4
      have := pe_lc (pos := p) g.calm (by rw [g.N]; exact g.nd) (hi.I X _ g tg i h5).1 hb (fun s H C cl fp => (pg_of (good_blk g scope s H C cl fp) gr).1 tg h6) (fun s H C cl fp => hf.F _ _ (good_blk g scope s H C cl fp) fs h7)
        (fun s H C cl fp => he.E _ _ (good_blk g scope s H C cl fp) e h8) hfo
      rw [ho] at this
      exact this.imp (tLc_of hsl)
    · cases h'
  · cases x <;> first | rfl | cases h
/-- every text -/
theorem sm_all : ∀ e : VE, SM T Φ (ev Φ e) (chk T e)
  | .bad => sm_bad
  | .name i => sm_name i
  | .non => sm_non
  | .bl b => sm_bl b
  | .int i => sm_int i
  | .str s => sm_str s
  | .bin op a b => sm_bin op (sm_all a) (sm_all b)
  | .neg a => sm_neg (sm_all a)
  | .not_ a => sm_not (sm_all a)
  | .and_ a b => sm_and (sm_all a) (sm_all b)
  | .or_ a b => sm_or (sm_all a) (sm_all b)
  | .cmp k a b => sm_cmp k (sm_all a) (sm_all b)
  | .emp own i => sm_emp own i
  | .chain k k' a b e => sm_chain k k' (sm_all a) (sm_all b) (sm_all e)
  | .ife t a b => sm_ife (sm_all t) (sm_all a) (sm_all b)
  | .nil => sm_nil
  | .cons a as => sm_cons (sm_all a) (sm_all as)
  | .star a as => sm_star (sm_all a) (sm_all as)
  | .lst a => sm_lst (sm_all a)
  | .tup a => sm_tup (sm_all a)
  | .dnew => sm_dnew
  | .ix a b => sm_ix (sm_all a) (sm_all b)
  | .sl a b c => sm_sl (sm_all a) (sm_all b) (sm_all c)
  | .rev a => sm_rev (sm_all a)
  | .comp own g it ifs elt => sm_comp own g (sm_all it) (sm_all ifs) (sm_all elt)
  | .call f as => sm_call f (sm_all as)
  | .callK f as ks np names perm => sm_callK f np names perm (sm_all as) (sm_all ks)
  | .bi b as => sm_bi b (sm_all as)
  | .isi a ts => sm_isi ts (sm_all a)
  | .rng1 a => sm_rng1 (sm_all a)
  | .rng2 a b => sm_rng2 (sm_all a) (sm_all b)
  | .zip a b => sm_zip (sm_all a) (sm_all b)
  | .enum a => sm_enum (sm_all a)
  | .keys a => sm_keys (sm_all a)
end
end VL
end

/-! text: VStm -/
section
set_option autoImplicit false
/-! VStm: statements. -/
namespace VL
open PySem PySem.Spec PyProof.Rows L2

/-- what a statement keeps -/
structure Kept (w : Wd) (H : Hp) (w' : Wd) (H' : Hp) : Prop where
  fM : ∀ a, w.F a → w'.F a
  new : ∀ a, w'.F a ∨ inO w' a → w.F a ∨ inO w a ∨ H a = none
  ext : ∀ a o, H a = some o → ¬ zs w.z a → ¬ inO w a → H' a = some o
  al : ∀ a, H' a = none → H a = none
  zE : w'.z = w.z
section
variable {w w' w1 w2 : Wd} {σ σ' : L2.St} {H H' H1 H2 : Hp} {s s' s1 s2 : VS}
theorem Step.kept (r : SRel w σ H s) (st : Step w H s σ w' H' s') : Kept w H w' H' := ⟨st.fM, st.new, fun a o e n _ => st.ext a o e n, fun a h => st.none r h, st.zE⟩
theorem Kept.refl (w : Wd) (H : Hp) : Kept w H w H := ⟨fun _ h => h, fun a h => h.elim .inl fun h => .inr (.inl h), fun _ _ e _ _ => e, fun _ h => h, rfl⟩
theorem Kept.trans (a : Kept w H w1 H1) (r1 : SRel w1 σ H1 s1) (b : Kept w1 H1 w2 H2) (r : ∀ a, w.F a → H a ≠ none) (hz : ∀ a, w.F a → ¬ zs w.z a) : Kept w H w2 H2 where
  fM := fun x h => b.fM x (a.fM x h)
  new := fun x h => by
    rcases b.new x h with h | h | h
    · exact a.new x (.inl h)
    · exact a.new x (.inr h)
    · exact .inr (.inr (a.al x h))
  ext := fun x o e n ni => by
    refine b.ext x o (a.ext x o e n ni) (by rw [a.zE]; exact n) fun q => ?_
    rcases a.new x (.inr q) with h | h | h
    · obtain ⟨i, q⟩ := q
      exact r1.oF i x q (a.fM x h)
    · exact ni h
    · rw [e] at h; cases h
  al := fun x h => a.al x (b.al x h)
  zE := b.zE.trans a.zE
theorem SRel.liveF (r : SRel w σ H s) : ∀ a, w.F a → H a ≠ none := fun a h e => by
  obtain ⟨o, e', _⟩ := r.fM a h
  rw [e] at e'; cases e'
theorem SRel.Fz (r : SRel w σ H s) : ∀ a, w.F a → ¬ zs w.z a := fun a h z => (r.zF a z).1 h
theorem Kept.tr (r : SRel w σ H s) (a : Kept w H w1 H1) (r1 : SRel w1 σ' H1 s1) (b : Kept w1 H1 w2 H2) : Kept w H w2 H2 := a.trans r1 b r.liveF r.Fz
theorem Kept.stored {ρ ρ' : VEnv} {fp : List Addr} {sl : List Nat} (k : Kept w H w1 H1) (sd : Stored w1 σ ρ fp sl w' σ' ρ') (fr : ∀ a ∈ fp, H a = none ∨ w.F a ∨ inO w a) : Kept w H w' H1 where
  fM := fun a h => by rw [sd.F]; exact k.fM a h
  new := fun a h => by
    rcases h with h | ⟨i, h⟩
    · rw [sd.F] at h
      exact k.new a (.inl h)
    · rcases sd.O i a h with h | h
      · exact k.new a (.inr ⟨i, h⟩)
      · rcases fr a h with h | h | h
        · exact .inr (.inr h)
        · exact .inl h
        · exact .inr (.inl h)
  ext := k.ext
  al := k.al
  zE := sd.z.trans k.zE
end

/-- a statement's end -/
def FlOk (w : Wd) (H : Hp) (D : Ends) : Fl → Prop
  | .nx s' => ∀ σ' H' w', Kept w H w' H' → SRel w' σ' H' s' → D.nx σ' H'
  | .ct s' => ∀ σ' H' w', Kept w H w' H' → SRel w' σ' H' s' → D.ct σ' H'
  | .rt d st => ∀ v H' w' fp, Kept w H w' H' → (∀ i, w'.O i = []) → SRel w' [] H' ⟨[], st⟩ → Rep w'.za (BF w'.F) H' d v fp → fp.Nodup → (∀ a ∈ fp, (H a = none ∨ inO w a) ∧ ¬ w'.F a ∧ ¬ zs w'.z a) → D.rt v H'
def tS (ex : VS → Res Fl) : TS := fun D σ H => ∃ w s fl, SRel w σ H s ∧ ex s = .ok fl ∧ FlOk w H D fl
theorem FlOk.tr {w w1 : Wd} {σ σ1 : L2.St} {H H1 : Hp} {s s1 : VS} {D : Ends} {fl : Fl} (r : SRel w σ H s) (k : Kept w H w1 H1) (r1 : SRel w1 σ1 H1 s1) (f : FlOk w H D fl) : FlOk w1 H1 D fl := by
  cases fl with
  | nx s' => exact fun σ' H' w' k' r' => f σ' H' w' (k.tr r r1 k') r'
  | ct s' => exact fun σ' H' w' k' r' => f σ' H' w' (k.tr r r1 k') r'
  | rt d st =>
    intro v H' w' fp k' hO r' rep nd fr
    refine f v H' w' fp (k.tr r r1 k') hO r' rep nd fun a ha => ?_
    obtain ⟨h1, h2, h3⟩ := fr a ha
    refine ⟨?_, h2, h3⟩
    rcases h1 with h1 | h1
    · exact .inl (k.al a h1)
    · rcases k.new a (.inr h1) with h | h | h
      · exact absurd (k'.fM a (k.fM a h)) h2
      · exact .inr h
      · exact .inl h

/-- the context of statements -/
structure GoodS (T : Tb) (Φ : Calls) (X : Cx) (c : SC) : Prop extends Good T Φ X c where
  po : PassesOwn (model X.prog X.w) X.A X.env X.xe
  bk : X.env.scope.kind = .function
theorem _root_.L2.PS.imp {X : Cx} {e : PySem.Stmt} {t t' : TS} (h : PS X e t) (i : ∀ D σ H, t' D σ H → t D σ H) : PS X e t' := ⟨fun pins s σ H D I q => h.run pins s σ H D I (i D σ H q)⟩
theorem _root_.L2.PSs.imp {X : Cx} {e : List PySem.Stmt} {t t' : TS} (h : PSs X e t) (i : ∀ D σ H, t' D σ H → t D σ H) : PSs X e t' := ⟨fun pins s σ H D I q => h.run pins s σ H D I (i D σ H q)⟩
theorem ps_or {X : Cx} {e : PySem.Stmt} {t u : TS} (h : PS X e t) (k : PS X e u) : PS X e (fun D σ H => t D σ H ∨ u D σ H) := ⟨fun pins s σ H D I q => q.elim (h.run pins s σ H D I) (k.run pins s σ H D I)⟩

section
variable {T : Tb} {Φ : Calls}
/-! ### a thing in hand is stored -/
theorem hand_un {w w1 : Wd} {σ : L2.St} {H H1 : Hp} {s : VS} {ρ1 : VEnv} {st1 : Option Strm} {d : D} {v : V} {fp : List Addr} (r : SRel w σ H s) (st : Step w H s σ w1 H1 ⟨ρ1, st1⟩) (t : TV1 w1 H1 ⟨ρ1, st1⟩ H d v fp) :
    ∃ wS, Step w H s σ wS H1 ⟨settle [d] ρ1, st1⟩ ∧ Rep wS.za (BF wS.F) H1 (d.ma Tag.un) v fp ∧ Hand wS fp ∧ ∀ a ∈ fp, H a = none := by
  obtain ⟨wS, stS, hS⟩ := settle_ok [d] st.rel
  have t' := t.step st.rel stS
  refine ⟨wS, st.trans r stS, ?_, ⟨t'.nd, fun a ha => (t'.fr a ha).2⟩, fun a ha => (t'.fr a ha).1⟩
  have h2 := Rep.tags (B' := BF wS.F) Tag.un (fun t h => un_ne h) d (fun t a ht n hb => ?_) (fun n => absurd rfl n) t.rep
  · rw [if_pos (show Tag.un .own = .own from rfl), ← show wS.za = w1.za by unfold Wd.za; rw [stS.zE]] at h2
    exact h2
  · have h3 := hS t a (by unfold has; simp only [D.anys, Bool.or_eq_true]; exact .inl ht) n hb
    cases t with
    | fz => exact ⟨rfl, h3⟩
    | own => exact absurd rfl n
    | br i => exact ⟨rfl, h3⟩
    | bc i => exact ⟨rfl, h3⟩
theorem tS_asg {g : VG} {e : VS → Res (D × VS)} : ∀ D σ H, tS (asgM g e) D σ H → tAsg (tE e) (tGr g) D σ H := fun D σ H ⟨w, s, fl, r, ex, f⟩ => by
  obtain ⟨x, e1, e2⟩ := bind_ok ex
  obtain ⟨s2, e3, e4⟩ := bind_ok e2
  cases e4
  obtain ⟨ρ', e5, e6⟩ := bind_ok e3
  cases e6
  refine ⟨w, s, x.1, x.2, r, e1, fun v H1 w1 fp st t => ?_⟩
  obtain ⟨wS, stS, rep, hand, fr⟩ := hand_un r st t
  refine ⟨wS, ⟨settle [x.1] x.2.ρ, x.2.st⟩, x.1.ma Tag.un, fp, ρ', stS.rel, rep, hand, e5, fun σ' w' r' sd => ?_⟩
  exact f σ' H1 w' ((stS.kept r).stored sd fun a ha => .inl (fr a ha)) r'

/-! ### several statements -/
theorem tS_seq {a b : VS → Res Fl} : ∀ D σ H, tS (seqM a b) D σ H → tSeq (tS a) (tS b) D σ H := fun D σ H ⟨w, s, fl, r, ex, f⟩ => by
  obtain ⟨x, e1, e2⟩ := bind_ok ex
  refine ⟨w, s, x, r, e1, ?_⟩
  cases x with
  | nx s1 => exact fun σ' H' w' k r' => ⟨w', s1, fl, r', e2, f.tr r k r'⟩
  | ct s1 => cases e2; exact f
  | rt d st => cases e2; exact f
theorem tS_if {c : VS → Res (Bool × VS)} {a b : VS → Res Fl} : ∀ D σ H, tS (ifM c a b) D σ H → tIfS (tT c) (tS a) (tS b) D σ H := fun D σ H ⟨w, s, fl, r, ex, f⟩ => by
  obtain ⟨x, e1, e2⟩ := bind_ok ex
  refine ⟨w, s, x.1, x.2, r, e1, fun H1 w1 st => ?_⟩
  obtain ⟨k, s1⟩ := x
  cases k with
  | true =>
    rw [if_pos rfl]
    exact ⟨w1, s1, fl, st.rel, e2, f.tr r (st.kept r) st.rel⟩
  | false => exact ⟨w1, s1, fl, st.rel, e2, f.tr r (st.kept r) st.rel⟩
theorem tS_next {s0 : VS → VS} : True := trivial
theorem tS_pass : ∀ D σ H, tS (fun s => .ok (.nx s)) D σ H → tNext D σ H := fun D σ H ⟨w, s, fl, r, ex, f⟩ => by
  cases ex
  exact f σ H w (.refl w H) r
theorem tS_cont : ∀ D σ H, tS (fun s => .ok (.ct s)) D σ H → tCont D σ H := fun D σ H ⟨w, s, fl, r, ex, f⟩ => by
  cases ex
  exact f σ H w (.refl w H) r
theorem tS_ex {e : VS → Res (D × VS)} : ∀ D σ H, tS (exM e) D σ H → tDrop (tE e) D σ H := fun D σ H ⟨w, s, fl, r, ex, f⟩ => by
  obtain ⟨x, e1, e2⟩ := bind_ok ex
  cases e2
  exact ⟨w, s, x.1, x.2, r, e1, fun v H1 w1 fp st t => f σ H1 w1 (st.kept r) st.rel⟩

/-! ### while -/
theorem tS_while {c : VS → Res (Bool × VS)} {b : VS → Res Fl} {n : Nat} : ∀ D σ H, tS (whileGo c b n) D σ H → tWhile (tT c) (tS b) D σ H := fun D σ H ⟨w, s, fl, r, ex, f⟩ => by
  refine ⟨fun m σ' H' => ∃ w' s', SRel w' σ' H' s' ∧ Kept w H w' H' ∧ whileGo c b m s' = .ok fl, ⟨n, w, s, r, .refl w H, ex⟩, fun m σ' H' ⟨w', s', r', k, e⟩ => ?_⟩
  cases m with
  | zero => cases e
  | succ m =>
    unfold whileGo at e
    obtain ⟨x, e1, e2⟩ := bind_ok e
    refine ⟨w', s', x.1, x.2, r', e1, fun H1 w1 st => ?_⟩
    have k1 := k.tr r r' (st.kept r')
    obtain ⟨t, s1⟩ := x
    cases t with
    | false =>
      cases e2
      show D.nx σ' H1
      exact f σ' H1 w1 k1 st.rel
    | true =>
      show (if true = true then _ else _)
      rw [if_pos rfl]
      refine ⟨fun σ2 H2 => ∃ w2 s2, SRel w2 σ2 H2 s2 ∧ Kept w H w2 H2 ∧ whileGo c b m s2 = .ok fl, fun σ2 H2 h => ⟨m, Nat.lt_succ_self m, h⟩, ?_⟩
      obtain ⟨y, e3, e4⟩ := bind_ok e2
      refine ⟨w1, s1, y, st.rel, e3, ?_⟩
      cases y with
      | nx s2 => exact fun σ2 H2 w2 k2 r2 => ⟨w2, s2, r2, k1.tr r st.rel k2, e4⟩
      | ct s2 => exact fun σ2 H2 w2 k2 r2 => ⟨w2, s2, r2, k1.tr r st.rel k2, e4⟩
      | rt d st' =>
        cases e4
        exact f.tr r k1 st.rel

/-! ### for -/
theorem tS_for {g : VG} {it : VS → Res ((List D × List D) × VS)} {b : VS → Res Fl} : ∀ Dn σ H, tS (forM g it b) Dn σ H → tFor (tI it) (tGr g) (tS b) Dn σ H := fun Dn σ H ⟨w, s, fl, r, ex, f⟩ => by
  obtain ⟨x, e1, e⟩ := bind_ok ex
  obtain ⟨⟨items, srcs⟩, s1⟩ := x
  refine ⟨w, s, items, srcs, s1, r, e1, fun J H1 w1 es A fa fp hst wk hA aok el nd fr lv => ?_⟩
  obtain ⟨ρ1, st1⟩ := s1
  obtain ⟨wS, stS, hS⟩ := settle_ok (srcs ++ items) hst.rel
  have rS := stS.rel
  have oldS : ∀ a, wS.F a ∨ inO wS a → w1.F a ∨ inO w1 a := fun a h => by
    rcases stS.new a h with q | q | q
    · exact .inl q
    · exact .inr q
    · rcases h with h | ⟨i, h⟩
      · obtain ⟨o, e, _⟩ := rS.fM a h
        rw [q] at e; cases e
      · obtain ⟨o, e, _⟩ := rS.oM i a h
        rw [q] at e; cases e
  have rL : SRel ⟨fun a => wS.F a ∨ a ∈ fa ++ fp, wS.O, wS.z⟩ σ H1 ⟨settle (srcs ++ items) ρ1, st1⟩ := rS.more (fun a h => .inl h) fun a h => by
    rcases h with h | h
    · exact .inl h
    · refine .inr ⟨lv a h, fun q => ?_, fun q => (fr a h).2.2.2 (by rw [← stS.zE]; exact q)⟩
      rcases oldS a (.inr q) with q | q
      · exact (fr a h).2.1 q
      · exact (fr a h).2.2.1 q
  have kL : Kept w H ⟨fun a => wS.F a ∨ a ∈ fa ++ fp, wS.O, wS.z⟩ H1 := by
    have k := (hst.trans r stS).kept r
    refine ⟨fun a h => .inl (k.fM a h), fun a h => ?_, k.ext, k.al, k.zE⟩
    rcases h with (h | h) | h
    · exact k.new a (.inl h)
    · exact .inr (.inr (fr a h).1)
    · exact k.new a (.inr h)
  have elL : Elts (wS.z.map (·.1)) (BF fun a => wS.F a ∨ a ∈ fa ++ fp) H1 (D.mas (fun _ => .fz) items) es [] := by
    have h1 := elts_fz (F := fun a => wS.F a ∨ a ∈ fa ++ fp) el (fun t a ht n hb => ?_) fun a ha => .inr (List.mem_append_right _ ha)
    · rw [show wS.z.map (·.1) = w1.za by unfold Wd.za; rw [stS.zE]]
      exact h1
    · have := hS t a (has_app (.inr ht)) n hb
      cases t with
      | fz => exact .inl this
      | own => exact absurd rfl n
      | br i => exact .inl this
      | bc i => exact .inl this
  have hAF : ∀ a ∈ A, (∃ xs, H1 a = some (.tup xs)) ∨ (wS.F a ∨ a ∈ fa ++ fp) := fun a ha => by
    rcases aok a ha with h | h | ⟨t, ht, n, hb⟩
    · exact .inl h
    · exact .inr (.inr (List.mem_append_left _ h))
    · have := hS t a (has_app (.inl ht)) n hb
      cases t with
      | fz => exact .inr (.inl this)
      | own => exact absurd rfl n
      | br i => exact .inr (.inl this)
      | bc i => exact .inr (.inl this)
  have tupO : ∀ a xs, H1 a = some (.tup xs) → ¬ inO wS a ∧ ¬ zs wS.z a := fun a xs e => ⟨(fun ⟨i, q⟩ => by
      obtain ⟨o, e2, m⟩ := rS.oM i a q
      rw [e] at e2; cases e2; cases m), (fun q => by
      obtain ⟨vs, e2⟩ := rS.zlive a q
      rw [e] at e2; cases e2)⟩
  generalize hwL : (⟨fun a => wS.F a ∨ a ∈ fa ++ fp, wS.O, wS.z⟩ : Wd) = wL at rL kL
  have eF : wL.F = fun a => wS.F a ∨ a ∈ fa ++ fp := by rw [← hwL]
  have eO : wL.O = wS.O := by rw [← hwL]
  have ez : wL.z = wS.z := by rw [← hwL]
  let Pv : Nat → L2.St → Hp → Prop := fun i σ' H' => ∃ wi si, SRel wi σ' H' si ∧ Kept wL H1 wi H' ∧ forGo (fun d s => asgG g d s.ρ >>= fun ρ => .ok ⟨ρ, s.st⟩) b ((D.mas (fun _ => .fz) items).drop i) si = .ok fl
  have keepF : ∀ {wi : Wd} {H' : Hp}, Kept wL H1 wi H' → ∀ a o, wL.F a → H1 a = some o → H' a = some o := fun {wi H'} k a o hF e => k.ext a o e (rL.Fz a hF) fun ⟨i, q⟩ => rL.oF i a q hF
  have keepT : ∀ {wi : Wd} {H' : Hp}, Kept wL H1 wi H' → ∀ a xs, H1 a = some (.tup xs) → H' a = some (.tup xs) := fun {wi H'} k a xs e => k.ext a _ e (by rw [ez]; exact (tupO a xs e).2) fun ⟨i, q⟩ => (tupO a xs e).1 ⟨i, by rw [← eO]; exact q⟩
  refine for_it wk Pv ⟨wL, _, rL, .refl _ _, by rw [List.drop_zero]; exact e⟩ (fun i σ' H' _ ⟨wi, si, ri, k, _⟩ a ha => ?_) ?_ ?_
  · rcases hAF a ha with ⟨xs, h⟩ | h
    · rw [h]; exact keepT k a xs h
    · cases ea : H1 a with
      | none => exact absurd ea (hA a ha)
      | some o => exact keepF k a o (by rw [eF]; exact h) ea
  · intro i xv σ' Hi Hy hi ⟨wi, si, ri, k, eg⟩ hy
    have eli : Elts wi.za (BF wi.F) Hi (D.mas (fun _ => .fz) items) es [] := by
      rw [show wi.za = wS.z.map (·.1) by unfold Wd.za; rw [k.zE, ez]]
      exact elts_mono (fun a h => k.fM a (by rw [eF]; exact h)) (fun a o hF e => keepF k a o (by rw [eF]; exact hF) e) (keepT k) elL
    obtain ⟨d, hd, hrep, hext⟩ := elts_yld eli hi hy
    rw [drop_get hd] at eg
    unfold forGo at eg
    obtain ⟨sA, b1, b2⟩ := bind_ok eg
    obtain ⟨ρA, a1, a2⟩ := bind_ok b1
    cases a2
    obtain ⟨y, b3, b4⟩ := bind_ok b2
    have riy := ri.laid hext
    have kiy : Kept wi Hi wi Hy := (Step.laid ri hext).kept ri
    refine ⟨wi, si, d, [], ρA, riy, hrep, ⟨List.nodup_nil, (fun a h => by cases h)⟩, a1, fun σA wA rA sd => ?_⟩
    have kA : Kept wL H1 wA Hy := (k.tr rL ri kiy).stored sd fun a h => by cases h
    refine ⟨wA, ⟨ρA, si.st⟩, y, rA, b3, ?_⟩
    cases y with
    | nx s2 => exact fun σ2 H2 w2 k2 r2 => ⟨w2, s2, r2, kA.tr rL rA k2, b4⟩
    | ct s2 => exact fun σ2 H2 w2 k2 r2 => ⟨w2, s2, r2, kA.tr rL rA k2, b4⟩
    | rt d' st' =>
      cases b4
      exact FlOk.tr r (kL.tr r rL kA) rA (show FlOk w H Dn (.rt d' st') from f)
  · intro σ' Hn ⟨wi, si, ri, k, eg⟩
    have hn : es.length = (D.mas (fun _ => .fz) items).length := elts_len elL
    rw [hn, List.drop_length] at eg
    unfold forGo at eg
    cases eg
    exact f σ' Hn wi (kL.tr r rL k) ri
end
end VL
end

/-! text: VStm2 -/
section
set_option autoImplicit false
/-! VStm2: return, changes of lists and dicts. -/
namespace VL
open PySem PySem.Spec PyProof.Rows L2

section
variable {w : Wd} {σ : L2.St} {H : Hp} {ρ : VEnv} {st : Option Strm}
theorem at0_get {ρ : VEnv} {i : Nat} {d : D} (h : at0 ρ i = some d) : ρ[i]? = some (some d) := by
  unfold at0 at h
  cases e : ρ[i]? with
  | none => rw [e] at h; cases h
  | some o =>
    rw [e] at h
    have h : o = some d := h
    rw [h]
/-- a slot is let go -/
theorem drop_slot (i : Nat) (r : SRel w σ H ⟨ρ, st⟩) : SRel ⟨w.F, fun j => if j = i then [] else w.O j, w.z⟩ σ H ⟨ρ.set i none, st⟩ where
  len := r.len.trans (List.length_set ..).symm
  slot := fun j d h => by
    have h : (ρ.set i none)[j]? = some (some d) := h
    by_cases c : j = i
    · subst c
      by_cases hl : j < ρ.length
      · rw [List.getElem?_set_self hl] at h; cases h
      · rw [List.getElem?_eq_none (by rw [List.length_set]; omega)] at h; cases h
    · rw [List.getElem?_set_ne (Ne.symm c)] at h
      obtain ⟨v, h1, h2⟩ := r.slot j d h
      refine ⟨v, h1, ?_⟩
      show Rep w.za (BF w.F) H d v (if j = i then [] else w.O j)
      rw [if_neg c]
      exact h2
  nd := fun j => by
    show (if j = i then [] else w.O j).Nodup
    split
    · exact List.nodup_nil
    · exact r.nd j
  dj := fun j k a h1 h2 => by
    have h1 : a ∈ (if j = i then [] else w.O j) := h1
    have h2 : a ∈ (if k = i then [] else w.O k) := h2
    split at h1
    · cases h1
    · split at h2
      · cases h2
      · exact r.dj j k a h1 h2
  oF := fun j a h => by
    have h : a ∈ (if j = i then [] else w.O j) := h
    split at h
    · cases h
    · exact r.oF j a h
  oM := fun j a h => by
    have h : a ∈ (if j = i then [] else w.O j) := h
    split at h
    · cases h
    · exact r.oM j a h
  fM := r.fM
  strm := r.strm
  zF := fun a h => ⟨(r.zF a h).1, fun j q => by
    have q : a ∈ (if j = i then [] else w.O j) := q
    split at q
    · cases q
    · exact (r.zF a h).2 j q⟩
/-- what a slot's root is -/
theorem slot_root {i : Nat} {d y : D} {v : V} {p : List Addr} {a : Addr} (r : SRel w σ H ⟨ρ, st⟩) (hv : v = .ref a) (hb : BW w ρ (.br i) a) (hy : at0 ρ i = some y) (ho : nOwn (some y) = false) : Rep w.za (BF w.F) H y v (w.O i) := by
  obtain ⟨u, h1, h2⟩ := r.slot i y (at0_get hy)
  rcases hb with hb | hb
  · rw [hy, ho] at hb; cases hb.2
  · have e : u = .ref a := by
      cases y with
      | lst t xs =>
        cases t with
        | own =>
          obtain ⟨b, vs, q, e, hh, hl, hr, hO⟩ := h2
          rw [hO.own] at hb
          simp at hb
          rw [e, hb]
        | _ => cases ho
      | dk t ks xs =>
        cases t with
        | own =>
          obtain ⟨b, vs, q, e, hh, hk, hl, hr, hO⟩ := h2
          rw [hO.own] at hb
          simp at hb
          rw [e, hb]
        | _ => cases ho
      | _ => cases ho
    rw [hv, ← e]
    exact h2
theorem rootB_at {x : D} {i : Nat} {z : Option Addr} {B : TB} {v : V} {p : List Addr} (h : rootB x = some i) (r : Rep z B H x v p) : ∃ a, v = .ref a ∧ B (.br i) a := by
  unfold rootB at h
  split at h
  · cases h
    obtain ⟨a, vs, q, e, ha, hl, hr, ho⟩ := r
    exact ⟨a, e, (ho.not (fun z => by cases z)).1⟩
  · cases h
    obtain ⟨a, vs, q, e, ha, hk, hl, hr, ho⟩ := r
    exact ⟨a, e, (ho.not (fun z => by cases z)).1⟩
  · cases h
theorem mvO_at {i : Nat} {xs : List D} {y : D} (h : mvO i xs ρ = some y) : at0 ρ i = some y ∧ nOwn (some y) = false ∧ has xs (.br i) = false ∧ has xs (.bc i) = false := by
  unfold mvO at h
  split at h
  · rename_i ys e
    split at h
    · cases h
    · rename_i c
      cases h
      simp only [Bool.or_eq_true, not_or, Bool.not_eq_true] at c
      exact ⟨e, rfl, c.1, c.2⟩
  · rename_i ks ys e
    split at h
    · cases h
    · rename_i c
      cases h
      simp only [Bool.or_eq_true, not_or, Bool.not_eq_true] at c
      exact ⟨e, rfl, c.1, c.2⟩
  · cases h

theorem out1_ok (r : SRel w σ H ⟨ρ, st⟩) {x : D} {xs : List D} {v : V} {us : List V} {p q : List Addr} (hx : Rep w.za (BW w ρ) H x v p) (hxs : Reps w.za (BW w ρ) H xs us q) (hd : Hand w (p ++ q)) :
    ∃ w' fq, SRel w' σ H ⟨(out1 x xs ρ).2, st⟩ ∧ (∀ a, w.F a → w'.F a) ∧ w'.z = w.z ∧ (∀ a, w'.F a ∨ inO w' a → w.F a ∨ inO w a) ∧ Rep w.za (BF w'.F) H (out1 x xs ρ).1 v fq ∧ fq.Nodup ∧
      (∀ a ∈ fq, (a ∈ p ∨ inO w a) ∧ ¬ w'.F a ∧ ¬ inO w' a ∧ ¬ zs w.z a ∧ a ∉ q) ∧ Reps w.za (BW w' (out1 x xs ρ).2) H xs us q ∧ Hand w' q := by
  have nd := hd.nd
  rw [List.nodup_append] at nd
  have frz : (out1 x xs ρ) = (x.ma Tag.un, settle [x] ρ) → ∃ w' fq, SRel w' σ H ⟨(out1 x xs ρ).2, st⟩ ∧ (∀ a, w.F a → w'.F a) ∧ w'.z = w.z ∧ (∀ a, w'.F a ∨ inO w' a → w.F a ∨ inO w a) ∧ Rep w.za (BF w'.F) H (out1 x xs ρ).1 v fq ∧ fq.Nodup ∧
      (∀ a ∈ fq, (a ∈ p ∨ inO w a) ∧ ¬ w'.F a ∧ ¬ inO w' a ∧ ¬ zs w.z a ∧ a ∉ q) ∧ Reps w.za (BW w' (out1 x xs ρ).2) H xs us q ∧ Hand w' q := fun e => by
    obtain ⟨w', s', hS⟩ := settle_ok [x] r
    have new : ∀ a, w'.F a ∨ inO w' a → w.F a ∨ inO w a := fun a h => by
      rcases s'.new a h with q | q | q
      · exact .inl q
      · exact .inr q
      · rcases h with h | ⟨i, h⟩
        · obtain ⟨o, e, _⟩ := s'.rel.fM a h
          rw [q] at e; cases e
        · obtain ⟨o, e, _⟩ := s'.rel.oM i a h
          rw [q] at e; cases e
    have no : ∀ a ∈ p ++ q, ¬ w'.F a ∧ ¬ inO w' a := fun a ha => ⟨fun h => (new a (.inl h)).elim (hd.fr a ha).1 (hd.fr a ha).2.1, fun h => (new a (.inr h)).elim (hd.fr a ha).1 (hd.fr a ha).2.1⟩
    rw [e]
    refine ⟨w', p, s'.rel, s'.fM, s'.zE, new, ?_, nd.1, fun a ha => ⟨.inl ha, (no a (List.mem_append_left _ ha)).1, (no a (List.mem_append_left _ ha)).2, (hd.fr a (List.mem_append_left _ ha)).2.2, fun h => nd.2.2 a ha a h rfl⟩, ?_, ⟨nd.2.1, fun a ha => ⟨(no a (List.mem_append_right _ ha)).1, (no a (List.mem_append_right _ ha)).2, by rw [s'.zE]; exact (hd.fr a (List.mem_append_right _ ha)).2.2⟩⟩⟩
    · have h2 := Rep.tags (B' := BF w'.F) Tag.un (fun t h => un_ne h) x (fun t a ht n hb => ?_) (fun n => absurd rfl n) hx
      · rw [if_pos (show Tag.un .own = .own from rfl)] at h2
        exact h2
      · have h3 := hS t a (by unfold has; simp only [D.anys, Bool.or_eq_true]; exact .inl ht) n hb
        cases t with
        | fz => exact ⟨rfl, h3⟩
        | own => exact absurd rfl n
        | br i => exact ⟨rfl, h3⟩
        | bc i => exact ⟨rfl, h3⟩
    · exact Reps.mono (fun _ _ _ _ h => h) (fun _ _ h => h) s'.bM xs (fun _ _ _ h => h) hxs
  cases hr : rootB x with
  | none => exact frz (by unfold out1; rw [hr])
  | some i =>
    cases hm : mvO i xs ρ with
    | none => exact frz (by unfold out1; simp only [hr, hm])
    | some y =>
      have eo : out1 x xs ρ = (y, ρ.set i none) := by unfold out1; simp only [hr, hm]
      rw [eo]
      obtain ⟨m1, m2, m3, m4⟩ := mvO_at hm
      obtain ⟨a, ev, hb⟩ := rootB_at hr hx
      have hy := slot_root (d := x) (p := p) r ev hb m1 m2
      refine ⟨_, w.O i, drop_slot i r, fun _ h => h, rfl, fun b h => ?_, hy, r.nd i, fun b hb => ⟨.inr ⟨i, hb⟩, r.oF i b hb, fun ⟨j, q⟩ => ?_, fun z => (r.zF b z).2 i hb, fun q => (hd.fr b (List.mem_append_right _ q)).2.1 ⟨i, hb⟩⟩, ?_, ⟨nd.2.1, fun b hb => ⟨(hd.fr b (List.mem_append_right _ hb)).1, fun ⟨j, q⟩ => (hd.fr b (List.mem_append_right _ hb)).2.1 ⟨j, ?_⟩, (hd.fr b (List.mem_append_right _ hb)).2.2⟩⟩⟩
      · refine h.imp id fun ⟨j, q⟩ => ⟨j, ?_⟩
        have q : b ∈ (if j = i then [] else w.O j) := q
        split at q
        · cases q
        · exact q
      · have q : b ∈ (if j = i then [] else w.O j) := q
        split at q
        · cases q
        · rename_i n
          exact n (r.dj j i b q hb)
      · have h2 := Reps.tags (B' := BW ⟨w.F, fun j => if j = i then [] else w.O j, w.z⟩ (ρ.set i none)) (fun t => t) (fun _ e => e) xs (fun t b ht n hb => ?_) (fun n => absurd rfl n) hxs
        · rw [mas_id, if_pos rfl] at h2
          exact h2
        · cases t with
          | fz => exact hb
          | own => exact absurd rfl n
          | br j =>
            have hj : j ≠ i := fun e => by
              rw [e] at ht
              have : has xs (.br i) = true := ht
              rw [m3] at this; cases this
            have e0 : at0 (ρ.set i none) j = at0 ρ j := at0_not (List.getElem?_set_ne (Ne.symm hj))
            rcases hb with hb | hb
            · exact .inl ⟨hb.1, by rw [e0]; exact hb.2⟩
            · exact .inr (by show (if j = i then [] else w.O j).head? = some b; rw [if_neg hj]; exact hb)
          | bc j =>
            have hj : j ≠ i := fun e => by
              rw [e] at ht
              have : has xs (.bc i) = true := ht
              rw [m4] at this; cases this
            have e0 : at0 (ρ.set i none) j = at0 ρ j := at0_not (List.getElem?_set_ne (Ne.symm hj))
            rcases hb with hb | hb
            · exact .inl hb
            · refine .inr ?_
              show b ∈ childO (at0 (ρ.set i none) j) (if j = i then [] else w.O j)
              rw [if_neg hj, e0]
              exact hb
      · have q : b ∈ (if j = i then [] else w.O j) := q
        split at q
        · cases q
        · exact q
end
theorem outL_ok {σ : L2.St} {H : Hp} {st : Option Strm} : ∀ {xs : List D} {w : Wd} {ρ : VEnv} {us : List V} {q : List Addr}, SRel w σ H ⟨ρ, st⟩ → Reps w.za (BW w ρ) H xs us q → Hand w q →
    ∃ w' ρ' fq, SRel w' σ H ⟨ρ', st⟩ ∧ (∀ a, w.F a → w'.F a) ∧ w'.z = w.z ∧ (∀ a, w'.F a ∨ inO w' a → w.F a ∨ inO w a) ∧ Reps w.za (BF w'.F) H (outL xs ρ) us fq ∧ fq.Nodup ∧ ∀ a ∈ fq, (a ∈ q ∨ inO w a) ∧ ¬ w'.F a ∧ ¬ inO w' a ∧ ¬ zs w.z a
  | [], w, ρ, us, q, r, h, hd => ⟨w, ρ, [], r, fun _ h => h, rfl, fun _ h => h, ⟨h.1, rfl⟩, List.nodup_nil, fun a h => by cases h⟩
  | x :: xs, w, ρ, us, q, r, h, hd => by
    obtain ⟨v, vs, p1, p2, e1, e2, h1, h2⟩ := h
    subst e1 e2
    obtain ⟨w1, f1, r1, a1, a2, a3, a4, a5, a6, a7, a8⟩ := out1_ok r h1 h2 hd
    have za : w1.za = w.za := by unfold Wd.za; rw [a2]
    obtain ⟨w2, ρ2, f2, r2, b1, b2, b3, b4, b5, b6⟩ := outL_ok r1 (by rw [za]; exact a7) a8
    rw [za] at b4
    refine ⟨w2, ρ2, f1 ++ f2, r2, fun a h => b1 a (a1 a h), b2.trans a2, fun a h => a3 a (b3 a h), ?_, ?_, fun a ha => ?_⟩
    · refine Reps.cons ?_ b4
      exact Rep.mono (fun _ _ _ _ h => h) (fun _ _ h => h) (fun t a hb => ⟨hb.1, b1 a hb.2⟩) _ (fun _ _ _ h => h) a4
    · rw [List.nodup_append]
      refine ⟨a5, b5, fun a ha b hb e => ?_⟩
      subst e
      obtain ⟨_, _, c3, _, c5⟩ := a6 a ha
      rcases (b6 a hb).1 with h | h
      · exact c5 h
      · exact c3 h
    · rcases List.mem_append.mp ha with ha | ha
      · obtain ⟨c1, c2, c3, c4, c5⟩ := a6 a ha
        have no : ¬ (w2.F a ∨ inO w2 a) := fun h => (b3 a h).elim c2 c3
        exact ⟨c1.imp (List.mem_append_left _) id, fun h => no (.inl h), fun h => no (.inr h), c4⟩
      · obtain ⟨c1, c2, c3, c4⟩ := b6 a ha
        refine ⟨?_, c2, c3, by rw [← a2]; exact c4⟩
        rcases c1 with c1 | c1
        · exact .inl (List.mem_append_right _ c1)
        · rcases a3 a (.inr c1) with h | h
          · exact absurd (b1 a (a1 a h)) c2
          · exact .inr h
theorem outD_ok {w : Wd} {σ : L2.St} {H : Hp} {ρ : VEnv} {st : Option Strm} {d : D} {v : V} {p : List Addr} (r : SRel w σ H ⟨ρ, st⟩) (h : Rep w.za (BW w ρ) H d v p) (hd : Hand w p) :
    ∃ w' fq, (∃ ρ', SRel w' σ H ⟨ρ', st⟩) ∧ (∀ a, w.F a → w'.F a) ∧ w'.z = w.z ∧ (∀ a, w'.F a ∨ inO w' a → w.F a ∨ inO w a) ∧ Rep w.za (BF w'.F) H (outD d ρ) v fq ∧ fq.Nodup ∧ ∀ a ∈ fq, (a ∈ p ∨ inO w a) ∧ ¬ w'.F a ∧ ¬ zs w.z a := by
  have one : ∀ x : D, Rep w.za (BW w ρ) H x v p → ∃ w' fq, (∃ ρ', SRel w' σ H ⟨ρ', st⟩) ∧ (∀ a, w.F a → w'.F a) ∧ w'.z = w.z ∧ (∀ a, w'.F a ∨ inO w' a → w.F a ∨ inO w a) ∧ Rep w.za (BF w'.F) H (out1 x [] ρ).1 v fq ∧ fq.Nodup ∧ ∀ a ∈ fq, (a ∈ p ∨ inO w a) ∧ ¬ w'.F a ∧ ¬ zs w.z a := fun x h => by
    obtain ⟨w1, f1, r1, a1, a2, a3, a4, a5, a6, a7, a8⟩ := out1_ok r h .nil (by rw [List.append_nil]; exact hd)
    exact ⟨w1, f1, ⟨_, r1⟩, a1, a2, a3, a4, a5, fun a ha => ⟨(a6 a ha).1, (a6 a ha).2.1, (a6 a ha).2.2.2.1⟩⟩
  unfold outD
  split
  · obtain ⟨a, vs, e, ha, hl, hr⟩ := h
    obtain ⟨w', ρ', fq, r', b1, b2, b3, b4, b5, b6⟩ := outL_ok r hr hd
    exact ⟨w', fq, ⟨_, r'⟩, b1, b2, b3, ⟨a, vs, e, ha, hl, b4⟩, b5, fun a ha => ⟨(b6 a ha).1, (b6 a ha).2.1, (b6 a ha).2.2.2⟩⟩
  · obtain ⟨a, vs, q, e, ha, hl, hr, ho⟩ := h
    have ep := ho.own
    subst ep
    have nd := List.nodup_cons.mp hd.nd
    obtain ⟨w', ρ', fq, r', b1, b2, b3, b4, b5, b6⟩ := outL_ok r hr ⟨nd.2, fun b hb => hd.fr b (List.mem_cons_of_mem _ hb)⟩
    obtain ⟨f1, f2, f3⟩ := hd.fr a List.mem_cons_self
    refine ⟨w', a :: fq, ⟨_, r'⟩, b1, b2, b3, ⟨a, vs, fq, e, ha, hl, b4, .inl ⟨rfl, rfl⟩⟩, List.nodup_cons.mpr ⟨fun hq => ?_, b5⟩, fun b hb => ?_⟩
    · rcases (b6 a hq).1 with h | h
      · exact nd.1 h
      · exact f2 h
    · rcases List.mem_cons.mp hb with e | hb
      · subst e
        exact ⟨.inl List.mem_cons_self, fun h => (b3 b (.inl h)).elim f1 f2, f3⟩
      · exact ⟨(b6 b hb).1.imp (List.mem_cons_of_mem _) id, (b6 b hb).2.1, (b6 b hb).2.2.2⟩
  · exact one _ h
/-- a world in which nothing is owned -/
theorem SRel.bare {w : Wd} {σ : L2.St} {H : Hp} {ρ : VEnv} {st : Option Strm} (r : SRel w σ H ⟨ρ, st⟩) : SRel ⟨w.F, fun _ => [], w.z⟩ [] H ⟨[], st⟩ :=
  ⟨rfl, (fun i d h => by cases h), (fun _ => List.nodup_nil), (fun _ _ _ h => by cases h), (fun _ _ h => by cases h), (fun _ _ h => by cases h), r.fM, r.strm, fun a h => ⟨(r.zF a h).1, fun _ q => by cases q⟩⟩
theorem tS_ret {e : VS → Res (D × VS)} : ∀ Dn σ H, tS (retM e) Dn σ H → tRet (tE e) Dn σ H := fun Dn σ H ⟨w, s, fl, r, ex, f⟩ => by
  obtain ⟨x, e1, e2⟩ := bind_ok ex
  cases e2
  refine ⟨w, s, x.1, x.2, r, e1, fun v H1 w1 fp st t => ?_⟩
  obtain ⟨w', fq, ⟨ρ', r'⟩, b1, b2, b3, b4, b5, b6⟩ := outD_ok (st := x.2.st) (ρ := x.2.ρ) st.rel t.rep ⟨t.nd, fun a ha => (t.fr a ha).2⟩
  have k := st.kept r
  refine f v H1 ⟨w'.F, fun _ => [], w'.z⟩ fq ⟨fun a h => b1 a (k.fM a h), fun a h => ?_, k.ext, k.al, b2.trans k.zE⟩ (fun _ => rfl) r'.bare ?_ b5 fun a ha => ?_
  · rcases h with h | ⟨i, h⟩
    · rcases b3 a (.inl h) with h | h
      · exact k.new a (.inl h)
      · exact k.new a (.inr h)
    · cases h
  · rw [show (⟨w'.F, fun _ => [], w'.z⟩ : Wd).za = w1.za by unfold Wd.za; rw [b2]]
    exact b4
  · obtain ⟨c1, c2, c3⟩ := b6 a ha
    refine ⟨?_, c2, fun q => c3 (by rw [← b2]; exact q)⟩
    rcases c1 with c1 | c1
    · exact .inl (t.fr a c1).1
    · rcases k.new a (.inr c1) with h | h | h
      · exact absurd (b1 a (k.fM a h)) c2
      · exact .inr h
      · exact .inl h
theorem tS_retN : ∀ Dn σ H, tS (fun s => .ok (.rt .non s.st)) Dn σ H → tRetN Dn σ H := fun Dn σ H ⟨w, s, fl, r, ex, f⟩ => by
  cases ex
  refine f .non H ⟨w.F, fun _ => [], w.z⟩ [] ⟨fun _ h => h, fun a h => ?_, fun _ _ e _ _ => e, fun _ h => h, rfl⟩ (fun _ => rfl) (SRel.bare (ρ := s.ρ) (st := s.st) r) ⟨rfl, rfl⟩ List.nodup_nil fun a h => by cases h
  rcases h with h | ⟨i, h⟩
  · exact .inl h
  · cases h
theorem tS_retC {K : PySem.W.Frag} {c : VS → Res (Bool × VS)} {i : Nat} : ∀ Dn σ H, tS (retcM c i) Dn σ H → tRet (tIf (tT c) (tVar i) (tCB (rBi K .tuple) (tCons (tVar i) tNil))) Dn σ H := fun Dn σ H ⟨w, s, fl, r, ex, f⟩ => by
  obtain ⟨b, e1, e2⟩ := bind_ok ex
  refine ⟨w, s, b.1, b.2, r, e1, fun H1 w1 st => ?_⟩
  obtain ⟨b, s1⟩ := b
  have r1 := st.rel
  have k := st.kept r
  cases hx : at0 s1.ρ i with
  | none => simp only [hx] at e2; cases e2
  | some y =>
    simp only [hx] at e2
    have hs : ∃ xs, y = .lst .own xs ∧ fl = .rt (if b = true then .lst .own xs else .tup xs) s1.st := by
      cases y with
      | lst t xs => cases t <;> first | (cases e2; exact ⟨xs, rfl, rfl⟩) | cases e2
      | _ => cases e2
    obtain ⟨xs, rfl, rfl⟩ := hs
    obtain ⟨v, hv1, hv2⟩ := r1.slot i _ (at0_get hx)
    obtain ⟨a, vs, q, ev, ha, hl, hr, hO⟩ := id hv2
    have hO := hO.own
    have rb : SRel ⟨w1.F, fun _ => [], w1.z⟩ [] H1 ⟨[], s1.st⟩ := SRel.bare (ρ := s1.ρ) r1
    have kb : Kept w H ⟨w1.F, fun _ => [], w1.z⟩ H1 := ⟨k.fM, fun a h => h.elim (fun h => k.new a (.inl h)) (fun ⟨i, h⟩ => nomatch h), k.ext, k.al, k.zE⟩
    have fr : ∀ a ∈ w1.O i, (H a = none ∨ inO w a) ∧ ¬ w1.F a ∧ ¬ zs w1.z a := fun a h => by
      refine ⟨?_, r1.oF i a h, fun z => (r1.zF a z).2 i h⟩
      rcases k.new a (.inr ⟨i, h⟩) with h' | h' | h'
      · exact absurd (k.fM a h') (r1.oF i a h)
      · exact .inr h'
      · exact .inl h'
    cases b with
    | true =>
      show ∃ v, σ[i]? = some (some v) ∧ Dn.rt v H1
      exact ⟨v, hv1, f v H1 _ (w1.O i) kb (fun _ => rfl) rb hv2 (r1.nd i) fr⟩
    | false =>
      show ∃ v, σ[i]? = some (some v) ∧ rBi K .tuple [v] H1 Dn.rt
      refine ⟨v, hv1, a, vs, by rw [ev], .inl ⟨.of ha, fun l hl0 => ?_⟩⟩
      have ex := ext_upd (o := .tup vs) hl0
      have nd := r1.nd i
      rw [hO] at nd
      refine f (.ref l) (upd H1 l (.tup vs)) _ q ⟨kb.fM, kb.new, fun b o e n1 n2 => ex b o (kb.ext b o e n1 n2), fun b e => kb.al b ?_, kb.zE⟩ (fun _ => rfl) (rb.laid ex) ⟨l, vs, rfl, upd_same, hl, ?_⟩ (List.nodup_cons.mp nd).2 fun b hb => fr b (by rw [hO]; exact List.mem_cons_of_mem _ hb)
      · cases h : H1 b with
        | none => rfl
        | some o => rw [ex b o h] at e; cases e
      · exact Reps.mono (fun t a o _ => ex a o) (fun a xs => ex a _) (fun t a h => h) _ (fun a o _ => ex a o) hr
end VL
end

/-! text: VStm3 -/
section
set_option autoImplicit false
/-! VStm3: changes of lists and dicts; stores side by side. -/
namespace VL
open PySem PySem.Spec PyProof.Rows L2

section
variable {w w0 : Wd} {σ : L2.St} {H H0 : Hp} {ρ : VEnv} {st : Option Strm}
/-- the root of a slot's own thing is changed -/
theorem mut_slot {i : Nat} {y y' : D} {v : V} {a : Addr} {q q' fp : List Addr} {o' : HO} (r : SRel w σ H ⟨ρ, st⟩) (hy : ρ[i]? = some (some y)) (hv : σ[i]? = some (some v)) (hO : w.O i = a :: q)
    (rep : Rep w.za (BF w.F) (upd H a o') y' v (a :: q')) (hm : mutO o' = true) (hq : ∀ b ∈ q', b ∈ q ∨ b ∈ fp) (hand : Hand w fp) (nd : (a :: q').Nodup) :
    ∃ w', SRel w' σ (upd H a o') ⟨ρ.set i (some y'), st⟩ ∧ ∀ w0 H0, Kept w0 H0 w H → (∀ b ∈ fp, H0 b = none) → Kept w0 H0 w' (upd H a o') := by
  have hi : i < ρ.length := (List.getElem?_eq_some_iff.mp hy).1
  have aO : a ∈ w.O i := by rw [hO]; exact List.mem_cons_self
  have aF : ¬ w.F a := r.oF i a aO
  have aZ : ¬ zs w.z a := fun z => (r.zF a z).2 i aO
  obtain ⟨oa, ea, ma⟩ := r.oM i a aO
  have aT : ∀ xs, H a ≠ some (.tup xs) := fun xs e => by rw [ea] at e; cases e; cases ma
  have ne : ∀ {b : Addr} {o : HO}, b ≠ a → H b = some o → upd H a o' b = some o := fun h e => by rw [upd_ne h]; exact e
  have sub : ∀ j b, b ∈ (if j = i then a :: q' else w.O j) → (b ∈ w.O j ∨ b ∈ fp) := fun j b h => by
    split at h
    · rename_i e
      subst e
      rw [hO]
      rcases List.mem_cons.mp h with e | h
      · exact .inl (by rw [e]; exact List.mem_cons_self)
      · exact (hq b h).imp (List.mem_cons_of_mem _) id
    · exact .inl h
  have live : ∀ j b, b ∈ (if j = i then a :: q' else w.O j) → ∃ o, upd H a o' b = some o ∧ mutO o = true := fun j b h => by
    split at h
    · exact Rep.live y' rep b h
    · rename_i n
      by_cases e : b = a
      · subst e; exact ⟨o', upd_same, hm⟩
      · obtain ⟨o, h1, h2⟩ := r.oM j b h
        exact ⟨o, ne e h1, h2⟩
  refine ⟨⟨w.F, fun j => if j = i then a :: q' else w.O j, w.z⟩, ⟨r.len.trans (List.length_set ..).symm, fun j d h => ?_, fun j => ?_, fun j k b h1 h2 => ?_, fun j b h => ?_, live, fun b h => ?_, ?_, fun b hz => ⟨(r.zF b hz).1, fun j h => ?_⟩⟩, fun w0 H0 k fr => ⟨k.fM, fun b h => ?_, fun b o e n ni => ?_, fun b h => ?_, k.zE⟩⟩
  · have h : (ρ.set i (some y'))[j]? = some (some d) := h
    by_cases c : j = i
    · subst c
      rw [List.getElem?_set_self hi] at h
      cases h
      refine ⟨v, hv, ?_⟩
      show Rep w.za (BF w.F) (upd H a o') y' v (if j = j then a :: q' else w.O j)
      rw [if_pos rfl]
      exact rep
    · rw [List.getElem?_set_ne (Ne.symm c)] at h
      obtain ⟨u, h1, h2⟩ := r.slot j d h
      refine ⟨u, h1, ?_⟩
      show Rep w.za (BF w.F) (upd H a o') d u (if j = i then a :: q' else w.O j)
      rw [if_neg c]
      exact Rep.mono (fun t b o hb e => ne (fun z => aF (by rw [← z]; exact hb.2)) e) (fun b xs e => ne (fun z => aT xs (by rw [← z]; exact e)) e) (fun _ _ h => h) d (fun b o hf e => ne (fun z => c (r.dj j i a (by rw [← z]; exact hf) aO)) e) h2
  · show (if j = i then a :: q' else w.O j).Nodup
    split
    · exact nd
    · exact r.nd j
  · have h1 : b ∈ (if j = i then a :: q' else w.O j) := h1
    have h2 : b ∈ (if k = i then a :: q' else w.O k) := h2
    rcases sub j b h1 with g1 | g1
    · rcases sub k b h2 with g2 | g2
      · exact r.dj j k b g1 g2
      · exact absurd ⟨j, g1⟩ (hand.fr b g2).2.1
    · rcases sub k b h2 with g2 | g2
      · exact absurd ⟨k, g2⟩ (hand.fr b g1).2.1
      · split at h1
        · split at h2
          · rename_i e1 e2; rw [e1, e2]
          · exact absurd ⟨k, h2⟩ (hand.fr b g1).2.1
        · exact absurd ⟨j, h1⟩ (hand.fr b g1).2.1
  · rcases sub j b h with g | g
    · exact r.oF j b g
    · exact (hand.fr b g).1
  · obtain ⟨o, e, m⟩ := r.fM b h
    exact ⟨o, ne (fun z => aF (by rw [← z]; exact h)) e, m⟩
  · have q := r.strm
    cases hs : st with
    | none => rw [hs] at q; exact q
    | some y =>
      rw [hs] at q
      obtain ⟨b, c, e, n, h1, h2⟩ := q
      exact ⟨b, c, e, n, ne (fun z => aZ (by rw [← z]; exact ⟨b, c, e, .inl rfl⟩)) h1, ne (fun z => aZ (by rw [← z]; exact ⟨b, c, e, .inr rfl⟩)) h2⟩
  · rcases sub j b h with g | g
    · exact (r.zF b hz).2 j g
    · exact (hand.fr b g).2.2 hz
  · rcases h with h | ⟨j, h⟩
    · exact k.new b (.inl h)
    · rcases sub j b h with g | g
      · exact k.new b (.inr ⟨j, g⟩)
      · exact .inr (.inr (fr b g))
  · refine ne (fun z => ?_) (k.ext b o e n ni)
    subst z
    rcases k.new b (.inr ⟨i, aO⟩) with h | h | h
    · exact aF (k.fM b h)
    · exact ni h
    · rw [e] at h; cases h
  · by_cases e : b = a
    · subst e; rw [upd_same] at h; cases h
    · rw [upd_ne e] at h
      exact k.al b h
end
theorem isLst_of {o : Option D} (h : isLst o = true) : ∃ t xs, o = some (.lst t xs) := by
  unfold isLst at h
  split at h
  · exact ⟨_, _, rfl⟩
  · cases h
theorem ty_slot {K : PySem.W.Frag} {w : Wd} {σ : L2.St} {H : Hp} {s : VS} {i : Nat} (r : SRel w σ H s) (h : isLst (at0 s.ρ i) = true) : ∃ v, σ[i]? = some (some v) ∧ tyV K "list" v H := by
  obtain ⟨t, xs, e⟩ := isLst_of h
  obtain ⟨v, h1, h2⟩ := r.slot i _ (at0_get e)
  obtain ⟨a, vs, q, ev, ha, hl, hr, ho⟩ := h2
  refine ⟨v, h1, ?_⟩
  rw [ev]
  exact .inl ⟨rfl, vs, .of ha⟩
/-- a slot's own list -/
theorem own_lst {w : Wd} {σ : L2.St} {H : Hp} {ρ : VEnv} {st : Option Strm} {i : Nat} {xs : List D} {v : V} (r : SRel w σ H ⟨ρ, st⟩) (h : at0 ρ i = some (.lst .own xs)) (hv : σ[i]? = some (some v)) :
    ∃ a vs q, v = .ref a ∧ H a = some (.lst vs) ∧ vs.length ≤ sizeLine ∧ Reps w.za (BF w.F) H xs vs q ∧ w.O i = a :: q ∧ (a :: q).Nodup := by
  obtain ⟨u, h1, h2⟩ := r.slot i _ (at0_get h)
  rw [hv] at h1
  cases h1
  obtain ⟨a, vs, q, ev, ha, hl, hr, ho⟩ := h2
  have e := ho.own
  exact ⟨a, vs, q, ev, ha, hl, hr, e, by rw [← e]; exact r.nd i⟩
section
variable {w : Wd} {H H' : Hp} {a : Addr}
theorem reps_upd {σ : L2.St} {s : VS} (r : SRel w σ H s) {i : Nat} {q fp : List Addr} {o' : HO} (hO : w.O i = a :: q) {ds : List D} {vs : List V} (h : Reps w.za (BF w.F) H ds vs fp) (hn : a ∉ fp) : Reps w.za (BF w.F) (upd H a o') ds vs fp := by
  have aO : a ∈ w.O i := by rw [hO]; exact List.mem_cons_self
  refine Reps.mono (fun t b o hb e => ?_) (fun b xs e => ?_) (fun _ _ h => h) ds (fun b o hf e => ?_) h
  · rw [upd_ne fun z => r.oF i a aO (by rw [← z]; exact hb.2)]
    exact e
  · rw [upd_ne fun z => ?_]
    · exact e
    · subst z
      obtain ⟨o, e2, m⟩ := r.oM i b aO
      rw [e] at e2; cases e2; cases m
  · rw [upd_ne fun z => hn (by rw [← z]; exact hf)]
    exact e
end
theorem guard_inv {α : Type} {b : Bool} {a x : α} (h : guardR b a = .ok x) : b = true ∧ x = a := guard_ok h
/-- x.append(e) -/
theorem tS_app {K : PySem.W.Frag} {i : Nat} {e : VS → Res (D × VS)} : ∀ Dn σ H, tS (appM i e) Dn σ H →
    tDrop (tBM K "list" rAppend (tVar i) (tCons (tE e) tNil)) Dn σ H := fun Dn σ H ⟨w, s, fl, r, ex, f⟩ => by
  unfold appM at ex
  split at ex
  rotate_left
  · cases ex
  rename_i hl
  obtain ⟨x, e1, e2⟩ := bind_ok ex
  obtain ⟨s2, e3, e4⟩ := bind_ok e2
  cases e4
  obtain ⟨v, hv, ty⟩ := ty_slot (K := K) r hl
  refine ⟨v, hv, ty, w, s, x.1, x.2, r, e1, fun u H1 w1 fp st t => ?_⟩
  obtain ⟨wS, stS, rep, hand, fr⟩ := hand_un r st t
  unfold appV at e3
  split at e3
  · rename_i xs hs
    obtain ⟨g1, g2⟩ := guard_ok e3
    subst g2
    obtain ⟨a, vs, q, ev, ha, hl2, hr, hO, nd⟩ := own_lst stS.rel hs hv
    have len : vs.length < sizeLine := by rw [Reps.length hr, ← maxLen_eq]; exact of_decide_eq_true g1
    have aO : a ∈ wS.O i := by rw [hO]; exact List.mem_cons_self
    have na : a ∉ fp := fun h => (hand.fr a h).2.1 ⟨i, aO⟩
    have nq : ∀ b ∈ q, b ∉ fp := fun b hb h => (hand.fr b h).2.1 ⟨i, by rw [hO]; exact List.mem_cons_of_mem _ hb⟩
    have nd2 : (a :: (q ++ fp)).Nodup := by
      rw [List.nodup_cons, List.nodup_append]
      have := List.nodup_cons.mp nd
      refine ⟨fun h => (List.mem_append.mp h).elim this.1 na, this.2, hand.nd, fun b hb c hc e => nq b hb (by rw [e]; exact hc)⟩
    have naq : a ∉ q ++ fp := (List.nodup_cons.mp nd2).1
    have reps := reps_upd (a := a) (o' := .lst (vs ++ [u])) stS.rel hO (hr.append (Reps.one rep)) naq
    obtain ⟨w', r', k'⟩ := mut_slot (y' := .lst .own (xs ++ [x.1.ma Tag.un])) (q' := q ++ fp) (fp := fp) (o' := .lst (vs ++ [u])) stS.rel (at0_get hs) hv hO ⟨a, _, _, ev, upd_same, by rw [List.length_append, List.length_singleton]; omega, reps, .inl ⟨rfl, rfl⟩⟩ rfl (fun b hb => List.mem_append.mp hb) hand nd2
    exact ⟨a, vs, u, ev, rfl, ha, len, f σ _ w' (k' w H (stS.kept r) fr) r'⟩
  · cases e3
/-- x.extend(e) -/
theorem tS_ext {K : PySem.W.Frag} {i : Nat} {e : VS → Res (D × VS)} : ∀ Dn σ H, tS (extM i e) Dn σ H →
    tDrop (tBM K "list" rExtend (tVar i) (tCons (tE e) tNil)) Dn σ H := fun Dn σ H ⟨w, s, fl, r, ex, f⟩ => by
  unfold extM at ex
  split at ex
  rotate_left
  · cases ex
  rename_i hl
  obtain ⟨x, e1, e2⟩ := bind_ok ex
  obtain ⟨s2, e3, e4⟩ := bind_ok e2
  cases e4
  obtain ⟨v, hv, ty⟩ := ty_slot (K := K) r hl
  refine ⟨v, hv, ty, w, s, x.1, x.2, r, e1, fun u H1 w1 fp st t => ?_⟩
  obtain ⟨wS, stS, rep, hand, fr⟩ := hand_un r st t
  obtain ⟨xd, sx⟩ := x
  unfold extV at e3
  split at e3
  · rename_i xs tt ys hs hd
    cases hd
    obtain ⟨g1, g2⟩ := guard_ok e3
    subst g2
    obtain ⟨a, vs, q, ev, ha, hl2, hr, hO, nd⟩ := own_lst stS.rel hs hv
    obtain ⟨b, us, q2, eu, hb, hl3, hr2, ho2⟩ := rep
    have len : vs.length + us.length ≤ sizeLine := by
      rw [Reps.length hr, Reps.length hr2, mas_len, ← maxLen_eq]
      exact of_decide_eq_true g1
    have sub := own_sub ho2
    have aO : a ∈ wS.O i := by rw [hO]; exact List.mem_cons_self
    have na : a ∉ q2 := fun h => (hand.fr a (sub.subset h)).2.1 ⟨i, aO⟩
    have nq : ∀ b ∈ q, b ∉ q2 := fun b hb h => (hand.fr b (sub.subset h)).2.1 ⟨i, by rw [hO]; exact List.mem_cons_of_mem _ hb⟩
    have nd2 : (a :: (q ++ q2)).Nodup := by
      rw [List.nodup_cons, List.nodup_append]
      have := List.nodup_cons.mp nd
      refine ⟨fun h => (List.mem_append.mp h).elim this.1 na, this.2, hand.nd.sublist sub, fun b hb c hc e => nq b hb (by rw [e]; exact hc)⟩
    have naq : a ∉ q ++ q2 := (List.nodup_cons.mp nd2).1
    have reps := reps_upd (a := a) (o' := .lst (vs ++ us)) stS.rel hO (hr.append hr2) naq
    obtain ⟨w', r', k'⟩ := mut_slot (y' := .lst .own (xs ++ D.mas Tag.un ys)) (q' := q ++ q2) (fp := fp) (o' := .lst (vs ++ us)) stS.rel (at0_get hs) hv hO ⟨a, _, _, ev, upd_same, by rw [List.length_append]; exact len, reps, .inl ⟨rfl, rfl⟩⟩ rfl (fun b hb => (List.mem_append.mp hb).imp id (sub.subset ·)) hand nd2
    exact ⟨a, b, vs, us, ev, by rw [eu], ha, hb, len, f σ _ w' (k' w H (stS.kept r) fr) r'⟩
  · cases e3
end VL
end

/-! text: VAppx -/
section
set_option autoImplicit false
/-! VAppx: a list within a slot's own list, or tuple, grows. -/
namespace VL
open PySem PySem.Spec PyProof.Rows L2

section
variable {w : Wd} {σ : L2.St} {H : Hp} {ρ : VEnv} {st : Option Strm}
/-- something that a slot owns is changed, the slot owns the same behind -/
theorem mut_same {i : Nat} {y : D} {v : V} {b : Addr} {o : HO} (r : SRel w σ H ⟨ρ, st⟩) (hi : i < ρ.length) (hv : σ[i]? = some (some v)) (hb : b ∈ w.O i) (rep : Rep w.za (BF w.F) (upd H b o) y v (w.O i)) (hm : mutO o = true) :
    SRel w σ (upd H b o) ⟨ρ.set i (some y), st⟩ ∧ Kept w H w (upd H b o) := by
  have bF : ¬ w.F b := r.oF i b hb
  have bZ : ¬ zs w.z b := fun z => (r.zF b z).2 i hb
  obtain ⟨ob, eb, mb⟩ := r.oM i b hb
  have bT : ∀ xs, H b ≠ some (.tup xs) := fun xs e => by rw [eb] at e; cases e; cases mb
  have ne : ∀ {a : Addr} {u : HO}, a ≠ b → H a = some u → upd H b o a = some u := fun h e => by rw [upd_ne h]; exact e
  refine ⟨⟨r.len.trans (List.length_set ..).symm, fun j d h => ?_, r.nd, r.dj, r.oF, fun j a h => ?_, fun a h => ?_, ?_, r.zF⟩, fun _ h => h, fun a h => h.elim .inl fun h => .inr (.inl h), fun a u e _ ni => ne (fun z => ni ⟨i, by rw [z]; exact hb⟩) e, fun a h => ?_, rfl⟩
  · have h : (ρ.set i (some y))[j]? = some (some d) := h
    by_cases c : j = i
    · subst c
      rw [List.getElem?_set_self hi] at h
      cases h
      exact ⟨v, hv, rep⟩
    · rw [List.getElem?_set_ne (Ne.symm c)] at h
      obtain ⟨u, h1, h2⟩ := r.slot j d h
      exact ⟨u, h1, Rep.mono (fun t a u hb' e => ne (fun z => bF (by rw [← z]; exact hb'.2)) e) (fun a xs e => ne (fun z => bT xs (by rw [← z]; exact e)) e) (fun _ _ h => h) d (fun a u hf e => ne (fun z => c (r.dj j i b (by rw [← z]; exact hf) hb)) e) h2⟩
  · by_cases c : a = b
    · subst c; exact ⟨o, upd_same, hm⟩
    · obtain ⟨u, e, m⟩ := r.oM j a h
      exact ⟨u, ne c e, m⟩
  · obtain ⟨u, e, m⟩ := r.fM a h
    exact ⟨u, ne (fun z => bF (by rw [← z]; exact h)) e, m⟩
  · have q := r.strm
    cases hs : st with
    | none => rw [hs] at q; exact q
    | some y =>
      rw [hs] at q
      obtain ⟨a, c, e, n, h1, h2⟩ := q
      exact ⟨a, c, e, n, ne (fun z => bZ (by rw [← z]; exact ⟨a, c, e, .inl rfl⟩)) h1, ne (fun z => bZ (by rw [← z]; exact ⟨a, c, e, .inr rfl⟩)) h2⟩
  · by_cases c : a = b
    · subst c; rw [upd_same] at h; cases h
    · rw [upd_ne c] at h; exact h
end
/-- an own list among things grows by a text -/
theorem reps_app {z : Option Addr} {F : Addr → Prop} {H : Hp} {x : Str} : ∀ {xs : List D} {vs : List V} {q : List Addr} {j : Nat} {ys : List D}, Reps z (BF F) H xs vs q → q.Nodup → (∀ a ∈ q, ¬ F a) → xs[j]? = some (.lst .own ys) → ys.length < maxLen →
    ∃ b us, vs[j]? = some (.ref b) ∧ H b = some (.lst us) ∧ us.length < sizeLine ∧ b ∈ q ∧ Reps z (BF F) (upd H b (.lst (us ++ [.str x]))) (xs.set j (.lst .own (ys ++ [.str x]))) vs q
  | [], _, _, _, _, _, _, _, h, _ => by cases h
  | d :: ds, vs, q, 0, ys, h, nd, hF, e, hl => by
    obtain ⟨v, w, p1, p2, e1, e2, r1, r2⟩ := h
    subst e1 e2
    have e : d = .lst .own ys := by simpa using e
    subst e
    obtain ⟨b, us, q1, e3, hb, hz, hr, ho⟩ := r1
    have e4 := ho.own
    subst e3 e4
    have lu : us.length < sizeLine := by rw [hr.length, ← maxLen_eq]; exact hl
    rw [List.nodup_append] at nd
    have nb : b ∉ q1 := (List.nodup_cons.mp nd.1).1
    have nb2 : b ∉ p2 := fun h => nd.2.2 b List.mem_cons_self b h rfl
    have bF : ¬ F b := hF b (List.mem_append_left _ List.mem_cons_self)
    have keep : ∀ {ds : List D} {vs : List V} {p : List Addr} {o : HO}, b ∉ p → Reps z (BF F) H ds vs p → Reps z (BF F) (upd H b o) ds vs p := fun {ds vs p o} hn h =>
      Reps.mono (fun t a u hb' e => by rw [upd_ne fun z => bF (by rw [← z]; exact hb'.2)]; exact e) (fun a xs e => by rw [upd_ne fun z => by rw [z, hb] at e; cases e]; exact e) (fun _ _ h => h) ds (fun a u hf e => by rw [upd_ne fun z => hn (by rw [← z]; exact hf)]; exact e) h
    refine ⟨b, us, rfl, hb, lu, List.mem_append_left _ List.mem_cons_self, .ref b, w, b :: q1, p2, rfl, rfl, ⟨b, us ++ [.str x], q1, rfl, upd_same, by rw [List.length_append, List.length_singleton]; omega, ?_, .inl ⟨rfl, rfl⟩⟩, keep nb2 r2⟩
    have := (keep (o := .lst (us ++ [.str x])) nb hr).append (Reps.one (d := .str x) (v := .str x) (fp := []) ⟨rfl, rfl⟩)
    rw [List.append_nil] at this
    exact this
  | d :: ds, vs, q, j + 1, ys, h, nd, hF, e, hl => by
    obtain ⟨v, w, p1, p2, e1, e2, r1, r2⟩ := h
    subst e1 e2
    rw [List.nodup_append] at nd
    obtain ⟨b, us, g1, g2, g3, g4, g5⟩ := reps_app (x := x) (j := j) (ys := ys) r2 nd.2.1 (fun a h => hF a (List.mem_append_right _ h)) (by simpa using e) hl
    have bF : ¬ F b := hF b (List.mem_append_right _ g4)
    have nb : b ∉ p1 := fun h => nd.2.2 b h b g4 rfl
    refine ⟨b, us, by simpa using g1, g2, g3, List.mem_append_right _ g4, v, w, p1, p2, rfl, rfl, ?_, g5⟩
    exact Rep.mono (fun t a u hb' e => by rw [upd_ne fun z => bF (by rw [← z]; exact hb'.2)]; exact e) (fun a xs e => by rw [upd_ne fun z => by rw [z, g2] at e; cases e]; exact e) (fun _ _ h => h) d (fun a u hf e => by rw [upd_ne fun z => nb (by rw [← z]; exact hf)]; exact e) r1
theorem appxL_some {k : Int} {x : Str} {xs zs : List D} (h : appxL k x xs = some zs) : ∃ j ys, ixN xs.length k = some j ∧ xs[j]? = some (.lst .own ys) ∧ ys.length < maxLen ∧ zs = xs.set j (.lst .own (ys ++ [.str x])) := by
  unfold appxL at h
  cases e : ixN xs.length k with
  | none => rw [e] at h; cases h
  | some j =>
    rw [e] at h
    have h : (match xs[j]? with | some (.lst .own ys) => if ys.length < maxLen then some (xs.set j (.lst .own (ys ++ [.str x]))) else none | _ => none) = some zs := h
    split at h
    · rename_i ys e2
      split at h
      · cases h
        exact ⟨j, ys, rfl, e2, by assumption, rfl⟩
      · cases h
    · cases h
/-- x[k].append(a text) -/
theorem tS_appx {K : PySem.W.Frag} {i : Nat} {k : Int} {x : Str} : ∀ Dn σ H, tS (appxM i k x) Dn σ H →
    tDrop (tBM K "list" rAppend (tOp (rIxD K) (tVar i) (tC (.int k))) (tCons (tC (.str x)) tNil)) Dn σ H := fun Dn σ H ⟨w, s, fl, r, ex, f⟩ => by
  obtain ⟨ρ, st⟩ := s
  unfold appxM at ex
  have atV : ∀ {xs : List D} {vs : List V} {j : Nat} {u : V}, vs.length = xs.length → ixN xs.length k = some j → vs[j]? = some u → atI vs k = some u := fun {xs vs j u} hl h1 h2 => by
    unfold atI
    rw [hl, h1]
    exact h2
  split at ex
  · rename_i xs hs
    split at ex
    · rename_i zs hz
      cases ex
      obtain ⟨j, ys, e1, e2, e3, e4⟩ := appxL_some hz
      subst e4
      have hi : i < ρ.length := (List.getElem?_eq_some_iff.mp (at0_get hs)).1
      obtain ⟨v, hv, hrep⟩ := r.slot i _ (at0_get hs)
      obtain ⟨a, vs, q, ev, ha, hl, hr, ho⟩ := hrep
      have eO := ho.own
      subst ev
      have nd := r.nd i
      rw [eO] at nd
      have nd2 := List.nodup_cons.mp nd
      obtain ⟨b, us, g1, g2, g3, g4, g5⟩ := reps_app (x := x) hr nd2.2 (fun c hc => r.oF i c (by rw [eO]; exact List.mem_cons_of_mem _ hc)) e2 e3
      have bO : b ∈ w.O i := by rw [eO]; exact List.mem_cons_of_mem _ g4
      have nab : a ≠ b := fun z => nd2.1 (by rw [z]; exact g4)
      obtain ⟨r', k'⟩ := mut_same (y := .lst .own (xs.set j (.lst .own (ys ++ [.str x])))) (o := .lst (us ++ [.str x])) r hi hv bO ⟨a, vs, q, rfl, by rw [upd_ne nab]; exact ha, hl, g5, .inl ⟨rfl, eO⟩⟩ rfl
      refine ⟨.ref a, hv, .inl ⟨a, vs, k, .ref b, rfl, rfl, .of ha, atV hr.length e1 g1, .inl ⟨rfl, us, .of g2⟩, b, us, .str x, rfl, rfl, g2, g3, f σ _ w k' r'⟩⟩
    · cases ex
  · rename_i xs hs
    split at ex
    · rename_i zs hz
      cases ex
      obtain ⟨j, ys, e1, e2, e3, e4⟩ := appxL_some hz
      subst e4
      have hi : i < ρ.length := (List.getElem?_eq_some_iff.mp (at0_get hs)).1
      obtain ⟨v, hv, hrep⟩ := r.slot i _ (at0_get hs)
      obtain ⟨a, vs, ev, ha, hl, hr⟩ := hrep
      subst ev
      obtain ⟨b, us, g1, g2, g3, g4, g5⟩ := reps_app (x := x) hr (r.nd i) (fun c hc => r.oF i c hc) e2 e3
      have nab : a ≠ b := fun z => by rw [z, g2] at ha; cases ha
      obtain ⟨r', k'⟩ := mut_same (y := .tup (xs.set j (.lst .own (ys ++ [.str x])))) (o := .lst (us ++ [.str x])) r hi hv g4 ⟨a, vs, rfl, by rw [upd_ne nab]; exact ha, hl, g5⟩ rfl
      refine ⟨.ref a, hv, .inr (.inl ⟨a, vs, k, .ref b, rfl, rfl, .of ha, atV hr.length e1 g1, .inl ⟨rfl, us, .of g2⟩, b, us, .str x, rfl, rfl, g2, g3, f σ _ w k' r'⟩)⟩
    · cases ex
  · cases ex
end VL
end

/-! text: VStm4 -/
section
set_option autoImplicit false
/-! VStm4: x[k] = e; stores side by side. -/
namespace VL
open PySem PySem.Spec PyProof.Rows L2

theorem own_dk {w : Wd} {σ : L2.St} {H : Hp} {ρ : VEnv} {st : Option Strm} {i : Nat} {ks : List Key} {xs : List D} {v : V} (r : SRel w σ H ⟨ρ, st⟩) (h : at0 ρ i = some (.dk .own ks xs)) (hv : σ[i]? = some (some v)) :
    ∃ a vs q, v = .ref a ∧ H a = some (.dK (ks.zip vs)) ∧ ks.length = vs.length ∧ vs.length ≤ sizeLine ∧ Reps w.za (BF w.F) H xs vs q ∧ w.O i = a :: q ∧ (a :: q).Nodup := by
  obtain ⟨u, h1, h2⟩ := r.slot i _ (at0_get h)
  rw [hv] at h1
  cases h1
  obtain ⟨a, vs, q, ev, ha, hk, hl, hr, ho⟩ := h2
  have e := ho.own
  exact ⟨a, vs, q, ev, ha, hk, hl, hr, e, by rw [← e]; exact r.nd i⟩
/-- x[k] = e -/
theorem setV_ok {w : Wd} {σ : L2.St} {H : Hp} {i : Nat} {s0 s2 : VS} {kd d : D} {kv v o : V} {fp fq : List Addr} {w0 : Wd} {H0 : Hp} {s' : VS} (r0 : SRel w0 σ H0 s') (st : Step w0 H0 s' σ w H s0) {dk : Bool} (ek : setV dk i kd d s0 = .ok s2) (ho : σ[i]? = some (some o))
    (tk : Rep w.za (BW w s0.ρ) H kd kv fq) (t : TV1 w H s0 H0 d v fp) {Q : Hp → Prop} (q : ∀ H' w', Kept w0 H0 w' H' → SRel w' σ H' s2 → Q H') : (dk = false ∧ rSetL o kv v H Q) ∨ (dk = true ∧ ∃ a H', o = .ref a ∧ DPut H a kv v H' ∧ Q H') := by
  obtain ⟨ρ, sto⟩ := s0
  obtain ⟨wS, stS, rep, hand, fr⟩ := hand_un r0 st t
  unfold setV at ek
  split at ek
  · rename_i xs hs
    cases dk with
    | true => cases ek
    | false =>
    replace ek : (match kd with
      | .int n => (match ixN xs.length n with
        | some j => Res.ok (⟨(settle [d] ρ).set i (some (.lst .own (xs.set j (d.ma Tag.un)))), sto⟩ : VS)
        | none => .stuck)
      | _ => .stuck) = .ok s2 := ek
    split at ek
    · rename_i n
      split at ek
      · rename_i j hj
        cases ek
        obtain ⟨a, vs, qq, ev, ha, hl2, hr, hO, nd⟩ := own_lst stS.rel hs ho
        obtain ⟨_, hjl, _, _⟩ := ixN_seq hj
        have aO : a ∈ wS.O i := by rw [hO]; exact List.mem_cons_self
        have na : a ∉ fp := fun h => (hand.fr a h).2.1 ⟨i, aO⟩
        have nq : ∀ b ∈ qq, b ∉ fp := fun b hb h => (hand.fr b h).2.1 ⟨i, by rw [hO]; exact List.mem_cons_of_mem _ hb⟩
        have nd' := List.nodup_cons.mp nd
        have nd0 : (qq ++ fp).Nodup := by
          rw [List.nodup_append]
          exact ⟨nd'.2, hand.nd, fun b hb c hc e => nq b hb (by rw [e]; exact hc)⟩
        have hjl' : j < xs.length := by rw [← Reps.length hr, Reps.length hr]; exact hjl
        have ekv : kv = .int n := tk.1
        have hlen : vs.length = xs.length := Reps.length hr
        obtain ⟨p', g1, g2, g3⟩ := Reps.set j hr rep hjl'
        have nap : a ∉ p' := fun h => (g2 a h).elim nd'.1 na
        have nd2 : (a :: p').Nodup := List.nodup_cons.mpr ⟨nap, g3 nd'.2 hand.nd fun b hb h => nq b h hb⟩
        have reps := reps_upd (a := a) (o' := .lst (vs.set j v)) stS.rel hO g1 nap
        obtain ⟨w', r', k'⟩ := mut_slot (y' := .lst .own (xs.set j (d.ma Tag.un))) (q' := p') (fp := fp) (o' := .lst (vs.set j v)) stS.rel (at0_get hs) ho hO ⟨a, _, _, ev, upd_same, by rw [List.length_set]; exact hl2, reps, .inl ⟨rfl, rfl⟩⟩ rfl g2 hand nd2
        exact .inl ⟨rfl, a, vs, n, j, ev, ekv, ha, by rw [hlen]; exact hj, q _ w' (k' w0 H0 (stS.kept r0) fr) r'⟩
      · cases ek
    · cases ek
  · rename_i ks xs hs
    cases dk with
    | false => cases ek
    | true =>
    replace ek : (match kd.key with
      | some key => guardR (decide (ks.length < maxLen) && decide (cntK key ks ≤ 1)) (⟨(settle [d] ρ).set i (some (.dk .own (putK key (d.ma Tag.un) ks xs).1 (putK key (d.ma Tag.un) ks xs).2)), sto⟩ : VS)
      | none => .stuck) = .ok s2 := ek
    split at ek
    · rename_i key hkey
      obtain ⟨g0, g1⟩ := guard_ok ek
      subst g1
      obtain ⟨g1, g2⟩ := and2 g0
      obtain ⟨a, vs, qq, ev, ha, hk, hl2, hr, hO, nd⟩ := own_dk stS.rel hs ho
      have aO : a ∈ wS.O i := by rw [hO]; exact List.mem_cons_self
      have na : a ∉ fp := fun h => (hand.fr a h).2.1 ⟨i, aO⟩
      have nq : ∀ b ∈ qq, b ∉ fp := fun b hb h => (hand.fr b h).2.1 ⟨i, by rw [hO]; exact List.mem_cons_of_mem _ hb⟩
      have nd' := List.nodup_cons.mp nd
      have nd0 : (qq ++ fp).Nodup := by
        rw [List.nodup_append]
        exact ⟨nd'.2, hand.nd, fun b hb c hc e => nq b hb (by rw [e]; exact hc)⟩
      have ekv : kv = kV key := key_rep tk hkey
      have hdl : ks.length = xs.length := hk.trans (Reps.length hr)
      obtain ⟨p', h1, h2, h3⟩ := put_reps (k := key) rep hdl hr
      have nap : a ∉ p' := fun h => (h2 a h).elim nd'.1 na
      have nd2 : (a :: p').Nodup := List.nodup_cons.mpr ⟨nap, h3 nd0⟩
      have hlt : ks.length < sizeLine := by rw [← maxLen_eq]; exact of_decide_eq_true g1
      have pl := putK_len (k := key) (x := v) hk
      have kk := putK_keys (k := key) (x := d.ma Tag.un) (y := v) (ks := ks) (Reps.length hr).symm
      have eput := putK_eq (v := v) hk (of_decide_eq_true g2)
      have reps := reps_upd (a := a) (o' := .dK (L2.putK (ks.zip vs) key v)) stS.rel hO h1 nap
      obtain ⟨w', r', k'⟩ := mut_slot (y' := .dk .own (putK key (d.ma Tag.un) ks xs).1 (putK key (d.ma Tag.un) ks xs).2) (q' := p') (fp := fp) (o' := .dK (L2.putK (ks.zip vs) key v)) stS.rel (at0_get hs) ho hO
        ⟨a, _, _, ev, by rw [upd_same, eput, kk], by rw [kk]; exact pl.1, by omega, reps, .inl ⟨rfl, rfl⟩⟩ rfl h2 hand nd2
      refine .inr ⟨rfl, a, _, ev, .inl ⟨_, key, ha, ekv, ?_, rfl⟩, q _ w' (k' w0 H0 (stS.kept r0) fr) r'⟩
      rw [List.length_zip]
      omega
    · cases ek
  · cases ek
theorem tS_setL {dk : Bool} {i : Nat} {k e : VS → Res (D × VS)} : ∀ Dn σ H, tS (setM dk i k e) Dn σ H → tE e σ H fun v H1 => ∃ o, σ[i]? = some (some o) ∧ tE k σ H1 fun kv H2 => (dk = false ∧ rSetL o kv v H2 (Dn.nx σ)) ∨ (dk = true ∧ ∃ a H', o = .ref a ∧ DPut H2 a kv v H' ∧ Dn.nx σ H') := fun Dn σ H ⟨w, s, fl, r, ex, f⟩ => by
  obtain ⟨x, e1, e2⟩ := bind_ok ex
  split at e2
  rotate_left
  · cases e2
  rename_i hi
  obtain ⟨y, e3, e4⟩ := bind_ok e2
  obtain ⟨s2, e5, e6⟩ := bind_ok e4
  cases e6
  refine ⟨w, s, x.1, x.2, r, e1, fun v H1 w1 fp st1 t1 => ?_⟩
  cases hq : at0 x.2.ρ i with
  | none => rw [hq] at hi; cases hi
  | some z =>
    obtain ⟨o, ho, _⟩ := st1.rel.slot i z (at0_get hq)
    refine ⟨o, ho, w1, x.2, y.1, y.2, st1.rel, e3, fun kv H2 w2 fq st2 t2 => ?_⟩
    exact setV_ok r (st1.trans r st2) e5 ho t2.rep (t1.step st1.rel st2) fun H' w' k' r' => f σ H' w' k' r'
theorem _root_.L2.tE.mono {t : TE} {X : Cx} {e : PySem.Expr} (h : PE X e t) : True := trivial
theorem tE_imp {m : VS → Res (D × VS)} {σ : L2.St} {H : Hp} {Q Q' : VK} (h : tE m σ H Q) (i : ∀ v H, Q v H → Q' v H) : tE m σ H Q' := by
  obtain ⟨w, s, d, s', r, e, q⟩ := h
  exact ⟨w, s, d, s', r, e, fun v H' w' fp st t => i v H' (q v H' w' fp st t)⟩
theorem tS_setl {i : Nat} {k e : VS → Res (D × VS)} : ∀ Dn σ H, tS (setM false i k e) Dn σ H → tAsg (tE e) (gSub (tVar i) (tE k) rSetL) Dn σ H := fun Dn σ H h =>
  tE_imp (tS_setL Dn σ H h) fun v H1 ⟨o, ho, q⟩ => ⟨o, ho, tE_imp q fun kv H2 z => z.elim (fun z => z.2) fun z => nomatch z.1⟩
theorem tS_setd {i : Nat} {k e : VS → Res (D × VS)} : ∀ Dn σ H, tS (setM true i k e) Dn σ H → sDPut (tVar i) (tE k) (tE e) Dn σ H := fun Dn σ H h =>
  tE_imp (tS_setL Dn σ H h) fun v H1 ⟨o, ho, q⟩ => ⟨o, ho, tE_imp q fun kv H2 z => z.elim (fun z => nomatch z.1) fun z => z.2⟩

/-! ### stores side by side -/
theorem hands_un {w w1 : Wd} {σ : L2.St} {H H1 : Hp} {s : VS} {ρ1 : VEnv} {st1 : Option Strm} {ds : List D} {vs : List V} {fp : List Addr} (r : SRel w σ H s) (st : Step w H s σ w1 H1 ⟨ρ1, st1⟩) (t : TV w1 H1 ⟨ρ1, st1⟩ H ds vs fp) :
    ∃ wS, Step w H s σ wS H1 ⟨settle ds ρ1, st1⟩ ∧ Reps wS.za (BF wS.F) H1 (D.mas Tag.un ds) vs fp ∧ Hand wS fp ∧ ∀ a ∈ fp, H a = none := by
  obtain ⟨wS, stS, hS⟩ := settle_ok ds st.rel
  have t' := t.step st.rel stS
  refine ⟨wS, st.trans r stS, ?_, ⟨t'.nd, fun a ha => (t'.fr a ha).2⟩, fun a ha => (t'.fr a ha).1⟩
  have h2 := Reps.tags (B' := BF wS.F) Tag.un (fun t h => un_ne h) ds (fun t a ht n hb => ?_) (fun n => absurd rfl n) t.rep
  · rw [if_pos (show Tag.un .own = .own from rfl), ← show wS.za = w1.za by unfold Wd.za; rw [stS.zE]] at h2
    exact h2
  · have h3 := hS t a ht n hb
    cases t with
    | fz => exact ⟨rfl, h3⟩
    | own => exact absurd rfl n
    | br i => exact ⟨rfl, h3⟩
    | bc i => exact ⟨rfl, h3⟩
theorem stored_fresh {w w' : Wd} {σ σ' : L2.St} {ρ ρ' : VEnv} {p1 p2 : List Addr} {sl : List Nat} (hf : Hand w (p1 ++ p2)) (s1 : Stored w σ ρ p1 sl w' σ' ρ') : ∀ a ∈ p2, ¬ inO w' a := fun a ha ⟨k, q⟩ => by
  have n := hf.nd
  rw [List.nodup_append] at n
  rcases s1.O k a q with q | q
  · exact (hf.fr a (List.mem_append_right _ ha)).2.1 ⟨k, q⟩
  · exact n.2.2 a q a ha rfl
theorem asg_two {w : Wd} {σ : L2.St} {H : Hp} {ρ ρ' : VEnv} {st : Option Strm} {i j : Nat} {ds : List D} {vs : List V} {fp : List Addr} (r : SRel w σ H ⟨ρ, st⟩) (rep : Reps w.za (BF w.F) H ds vs fp) (hf : Hand w fp) (e : asgC (.cons (.nm i) (.cons (.nm j) .nil)) ds ρ = .ok ρ') :
    ∃ v u w', vs = [v, u] ∧ SRel w' ((σ.set i (some v)).set j (some u)) H ⟨ρ', st⟩ ∧ Stored w σ ρ fp [i, j] w' ((σ.set i (some v)).set j (some u)) ρ' := by
  unfold asgC at e
  cases ds with
  | nil => cases e
  | cons d1 ds =>
    obtain ⟨ρ1, e1, e2⟩ := bind_ok e
    unfold asgC at e2
    cases ds with
    | nil => cases e2
    | cons d2 ds =>
      obtain ⟨ρ2, e3, e4⟩ := bind_ok e2
      unfold asgC at e4
      cases ds with
      | cons _ _ => cases e4
      | nil =>
        cases e4
        obtain ⟨v, u, p1, p2, ev, ef, h1, h2⟩ := reps2 rep
        subst ev ef
        have n := hf.nd
        rw [List.nodup_append] at n
        unfold asgG at e1 e3
        obtain ⟨g1, g2⟩ := guard_ok e1
        obtain ⟨g3, g4⟩ := guard_ok e3
        subst g2 g4
        obtain ⟨r1, s1⟩ := store_rel r h1 ⟨n.1, fun a ha => hf.fr a (List.mem_append_left _ ha)⟩ (of_decide_eq_true g1)
        have hno := stored_fresh hf s1
        obtain ⟨r2, s2⟩ := store_rel (fp := p2) (d := d2) (v := u) r1 h2 ⟨n.2.1, fun a ha => ⟨(hf.fr a (List.mem_append_right _ ha)).1, hno a ha, (hf.fr a (List.mem_append_right _ ha)).2.2⟩⟩ (of_decide_eq_true g3)
        exact ⟨v, u, _, rfl, r2, s1.trans s2 (fun a => List.mem_append_left _) fun a => List.mem_append_right _⟩
theorem tS_par2 {i j : Nat} {l : VS → Res (List D × VS)} : ∀ Dn σ H, tS (par2M i j l) Dn σ H → tPar i j (tL l) Dn σ H := fun Dn σ H ⟨w, s, fl, r, ex, f⟩ => by
  obtain ⟨x, e1, e2⟩ := bind_ok ex
  obtain ⟨ρ', e3, e4⟩ := bind_ok e2
  cases e4
  refine ⟨w, s, x.1, x.2, r, e1, fun vs H1 w1 fp st t => ?_⟩
  obtain ⟨wS, stS, rep, hand, fr⟩ := hands_un r st t
  obtain ⟨v, u, w', ev, r', sd⟩ := asg_two (st := x.2.st) stS.rel rep hand e3
  exact ⟨v, u, ev, f _ H1 w' ((stS.kept r).stored sd fun a ha => .inl (fr a ha)) r'⟩
theorem asg_three {w : Wd} {σ : L2.St} {H : Hp} {ρ ρ' : VEnv} {st : Option Strm} {i j k : Nat} {ds : List D} {vs : List V} {fp : List Addr} (r : SRel w σ H ⟨ρ, st⟩) (rep : Reps w.za (BF w.F) H ds vs fp) (hf : Hand w fp) (e : asgC (.cons (.nm i) (.cons (.nm j) (.cons (.nm k) .nil))) ds ρ = .ok ρ') :
    ∃ v u x w', vs = [v, u, x] ∧ SRel w' (((σ.set i (some v)).set j (some u)).set k (some x)) H ⟨ρ', st⟩ ∧ Stored w σ ρ fp [i, j, k] w' (((σ.set i (some v)).set j (some u)).set k (some x)) ρ' := by
  unfold asgC at e
  cases ds with
  | nil => cases e
  | cons d1 ds =>
    obtain ⟨ρ1, e1, e2⟩ := bind_ok e
    obtain ⟨v, vs', p1, p2, ev, ef, h1, h2⟩ := rep
    subst ev ef
    have n := hf.nd
    rw [List.nodup_append] at n
    unfold asgG at e1
    obtain ⟨g1, g2⟩ := guard_ok e1
    subst g2
    obtain ⟨r1, s1⟩ := store_rel r h1 ⟨n.1, fun a ha => hf.fr a (List.mem_append_left _ ha)⟩ (of_decide_eq_true g1)
    have hno := stored_fresh hf s1
    obtain ⟨u, x, w', ev, r2, s2⟩ := asg_two (fp := p2) r1 h2 ⟨n.2.1, fun a ha => ⟨(hf.fr a (List.mem_append_right _ ha)).1, hno a ha, (hf.fr a (List.mem_append_right _ ha)).2.2⟩⟩ e2
    subst ev
    exact ⟨v, u, x, w', rfl, r2, s1.trans s2 (fun a => List.mem_append_left _) fun a => List.mem_append_right _⟩
theorem tS_par3 {i j k : Nat} {l : VS → Res (List D × VS)} : ∀ Dn σ H, tS (par3M i j k l) Dn σ H → tPar3 i j k (tL l) Dn σ H := fun Dn σ H ⟨w, s, fl, r, ex, f⟩ => by
  obtain ⟨x, e1, e2⟩ := bind_ok ex
  obtain ⟨ρ', e3, e4⟩ := bind_ok e2
  cases e4
  refine ⟨w, s, x.1, x.2, r, e1, fun vs H1 w1 fp st t => ?_⟩
  obtain ⟨wS, stS, rep, hand, fr⟩ := hands_un r st t
  obtain ⟨v, u, y, w', ev, r', sd⟩ := asg_three (st := x.2.st) stS.rel rep hand e3
  exact ⟨v, u, y, ev, f _ H1 w' ((stS.kept r).stored sd fun a ha => .inl (fr a ha)) r'⟩
end VL
end

/-! text: VStm5 -/
section
set_option autoImplicit false
/-! VStm5: does the model's text say what a text of VB says; all statements. -/
namespace VL
open PySem PySem.Spec PyProof.Rows L2

def isComp : PySem.Expr → Bool | .ListComp _ _ _ _ => true | .SetComp _ _ _ _ => true | .DictComp _ _ _ _ _ => true | _ => false
def isStarE : PySem.Expr → Bool | .Starred _ _ => true | _ => false
def isCompV : VE → Bool | .comp _ _ _ _ _ => true | _ => false
/-- which stores are swapped -/
def swN (sc : Scope) (ts : List PySem.Expr) : List Str :=
  ts.filterMap fun
    | .Name id pos => if sc.names.lookup id == some .local && pos.line == (ts.head?.map (·.pos.line)).getD 0 then some id else none
    | _ => none
def swS (sc : Scope) (ts vs : List PySem.Expr) : Option (Option (List Str)) :=
  if !(ts.length == 2 || ts.length == 3) || vs.length != ts.length then some none
  else if vs.any isStarE then some none
  else if (swN sc ts).length != ts.length || (swN sc ts).eraseDups.length != (swN sc ts).length then some none
  else if vs.all (foldedForSure 8) then some none
  else if vs.all (constantsAlone 8) then none
  else some (some (swN sc ts))
def swOk (c : SC) (e : VE) : PySem.Expr → PySem.Expr → Bool
  | .Name x px, v => if isComp v then (match v with
      | .ListComp _ _ scope p => isCompV e && loc1 c x && (px.line == p.line) && !(scope.names.any fun (n, k) => n == x && (k == .local || k == .cell))
      | _ => false) else true
  | .Tuple ts _ _, v => (match v with
      | .Tuple vs _ _ => decide (swS c.sc ts vs = some none)
      | _ => true)
  | _, _ => false
structure BM where
  S : SC → PySem.Stmt → Bool
  B : SC → List PySem.Stmt → Bool
def noS : SC → PySem.Stmt → Bool := fun _ _ => false
def noB : SC → List PySem.Stmt → Bool := fun _ _ => false
def ckSeq (S : SC → PySem.Stmt → Bool) (B : SC → List PySem.Stmt → Bool) (c : SC) : List PySem.Stmt → Bool
  | s :: rest => S c s && B c rest
  | [] => false
def ckDoc : SC → PySem.Stmt → Bool
  | _, .Expr (.Constant (.str _) _ _) _ => true
  | _, _ => false
def ckAsg (T : Tb) (g : VG) (e : VE) : SC → PySem.Stmt → Bool
  | c, .Assign [tg] v _ => chkG c g tg && (chk T e).E c v && swOk c e tg v
  | _, _ => false
def ckIf (t : CM) (a b : BM) : SC → PySem.Stmt → Bool
  | c, .If x y z _ => t.T c x && a.B c y && b.B c z
  | _, _ => false
def ckFor (g : VG) (it : CM) (b : BM) : SC → PySem.Stmt → Bool
  | c, .For tg i body [] _ => notSet i && it.I c tg i && chkG c g tg && b.B c body
  | _, _ => false
def ckWhile (t : CM) (b : BM) : SC → PySem.Stmt → Bool
  | c, .While x body [] _ => t.T c x && b.B c body
  | _, _ => false
def ckRet (e : CM) : SC → PySem.Stmt → Bool
  | c, .Return (some x) _ => e.E c x
  | _, _ => false
def ckRetN : SC → PySem.Stmt → Bool
  | _, .Return none _ => true
  | _, _ => false
def ckRetC (t : CM) (i : Nat) : SC → PySem.Stmt → Bool
  | c, .Return (some (.IfExp x (.Name y _) (.Call (.Name f _) [.Name z _] [] _) _)) _ => t.T c x && nameAt c i y && visB c y && okName y && nameAt c i z && visB c z && okName z && decide (f = ("tuple" : Str)) && globB c f
  | _, _ => false
def ckEx (e : CM) : SC → PySem.Stmt → Bool
  | c, .Expr x _ => !isComp x && e.E c x
  | _, _ => false
def ckMt (name : Str) (i : Nat) (e : CM) : SC → PySem.Stmt → Bool
  | c, .Expr (.Call (.Attribute (.Name x _) m apos) [y] [] cpos) _ => decide (m = name) && nameAt c i x && visB c x && okName x && notStar y && e.E c y && (apos.endLine == cpos.line)
  | _, _ => false
def ckAppx (i : Nat) (k : Int) (x : Str) : SC → PySem.Stmt → Bool
  | c, .Expr (.Call (.Attribute (.Subscript (.Name y _) (.Constant (.int j) _ _) _) m apos) [.Constant (.str z) _ _] [] cpos) _ => decide (m = ("append" : Str)) && nameAt c i y && visB c y && okName y && decide (j = k) && decide (z = x) && (apos.endLine == cpos.line)
  | _, _ => false
def ckSet (i : Nat) (k e : CM) : SC → PySem.Stmt → Bool
  | c, .Assign [.Subscript (.Name x _) y _] v _ => nameAt c i x && visB c x && okName x && plainIx y && k.E c y && e.E c v
  | _, _ => false
def ckPar2 (i j : Nat) (as : CM) : SC → PySem.Stmt → Bool
  | c, .Assign [.Tuple [.Name x px, .Name y py] _ _] (.Tuple [a, b] _ _) _ => nameAt c i x && nameAt c j y && decide (i ≠ j) && loc1 c x && loc1 c y && as.L c [a, b] && decide (swS c.sc [.Name x px, .Name y py] [a, b] = some (some [x, y]))
  | _, _ => false
def ckPar3 (i j l : Nat) (as : CM) : SC → PySem.Stmt → Bool
  | c, .Assign [.Tuple [.Name x px, .Name y py, .Name z pz] _ _] (.Tuple [a, b, d] _ _) _ => nameAt c i x && nameAt c j y && nameAt c l z && decide (i ≠ j) && decide (i ≠ l) && decide (j ≠ l) && loc1 c x && loc1 c y && loc1 c z && as.L c [a, b, d] &&
      decide (swS c.sc [.Name x px, .Name y py, .Name z pz] [a, b, d] = some (some [x, y, z]))
  | _, _ => false
def ckCont : SC → PySem.Stmt → Bool
  | _, .Continue _ => true
  | _, _ => false
def chkB (T : Tb) : VB → BM
  | .bad => ⟨fun _ _ => true, fun _ _ => true⟩
  | .pass => ⟨noS, fun _ sts => sts.isEmpty⟩
  | .doc => ⟨ckDoc, noB⟩
  | .seq a b => ⟨noS, ckSeq (chkB T a).S (chkB T b).B⟩
  | .asg g e => ⟨ckAsg T g e, noB⟩
  | .if_ t a b => ⟨ckIf (chk T t) (chkB T a) (chkB T b), noB⟩
  | .for_ g it b => ⟨ckFor g (chk T it) (chkB T b), noB⟩
  | .while_ t b => ⟨ckWhile (chk T t) (chkB T b), noB⟩
  | .ret e => ⟨ckRet (chk T e), noB⟩
  | .retN => ⟨ckRetN, noB⟩
  | .retC c i => ⟨ckRetC (chk T c) i, noB⟩
  | .ex e => ⟨ckEx (chk T e), noB⟩
  | .app i e => ⟨ckMt "append" i (chk T e), noB⟩
  | .ext i e => ⟨ckMt "extend" i (chk T e), noB⟩
  | .appx i k x => ⟨ckAppx i k x, noB⟩
  | .setix _ i k e => ⟨ckSet i (chk T k) (chk T e), noB⟩
  | .par2 i j as => ⟨ckPar2 i j (chk T as), noB⟩
  | .par3 i j l as => ⟨ckPar3 i j l (chk T as), noB⟩
  | .cont => ⟨ckCont, noB⟩
section
variable {T : Tb} {Φ : Calls}
theorem tS_stuck : ∀ D σ H, tS (fun _ => .stuck) D σ H → tNever D σ H := fun D σ H ⟨w, s, fl, r, ex, f⟩ => by cases ex
theorem sw_plain {v : PySem.Expr} {tg : Option PySem.Expr} {l : Nat} {env : Env} (h : isComp v = false) : swapsWith v tg l env = pure false := by
  cases v <;> first | rfl | cases h
theorem sw_other {v tg : PySem.Expr} {l : Nat} {env : Env} (h : ∀ x p, tg ≠ .Name x p) : swapsWith v (some tg) l env = pure false := by
  cases tg with
  | Name x p => exact absurd rfl (h x p)
  | _ => cases v <;> rfl
theorem starE_fun : (fun e : PySem.Expr => (match e with | .Starred .. => true | _ => false)) = isStarE := by
  funext e
  cases e <;> rfl
theorem swS_ok {env : Env} {sc : Scope} (hs : env.scope = sc) (hk : env.scope.kind = .function) {ts vs : List PySem.Expr} {k k2 : Nat} {p p2 : Pos} {r : Option (List Str)} (h : swS sc ts vs = some r) : swappedStores [.Tuple ts k p] (.Tuple vs k2 p2) env = pure r := by
  have hb : env.blockKind = .function := by unfold Env.blockKind; rw [hk]; rfl
  subst hs
  unfold swS at h
  unfold swappedStores
  simp only [hb, starE_fun, Env.kindOf]
  have e1 : (ScopeKind.function != ScopeKind.function) = false := rfl
  rw [e1, Bool.or_false]
  show (if (!(ts.length == 2 || ts.length == 3) || vs.length != ts.length) = true then pure none else if vs.any isStarE = true then pure none
    else if ((swN env.scope ts).length != ts.length || (swN env.scope ts).eraseDups.length != (swN env.scope ts).length) = true then pure none
    else if vs.all (foldedForSure 8) = true then pure none else if vs.all (constantsAlone 8) = true then _ else pure (some (swN env.scope ts))) = pure r
  by_cases c1 : (!(ts.length == 2 || ts.length == 3) || vs.length != ts.length) = true
  · rw [if_pos c1] at h ⊢
    cases h; rfl
  · rw [if_neg c1] at h ⊢
    by_cases c2 : vs.any isStarE = true
    · rw [if_pos c2] at h ⊢
      cases h; rfl
    · rw [if_neg c2] at h ⊢
      by_cases c3 : ((swN env.scope ts).length != ts.length || (swN env.scope ts).eraseDups.length != (swN env.scope ts).length) = true
      · rw [if_pos c3] at h ⊢
        cases h; rfl
      · rw [if_neg c3] at h ⊢
        by_cases c4 : vs.all (foldedForSure 8) = true
        · rw [if_pos c4] at h ⊢
          cases h; rfl
        · rw [if_neg c4] at h ⊢
          by_cases c5 : vs.all (constantsAlone 8) = true
          · rw [if_pos c5] at h
            cases h
          · rw [if_neg c5] at h ⊢
            cases h; rfl
theorem lc1_of {X : Cx} {c : SC} (g : Good T Φ X c) {x : Str} (h : loc1 c x = true) : X.env.scope.names.lookup x = some .local := by
  unfold loc1 at h
  rw [g.sc]
  split at h
  · assumption
  · cases h
theorem comp_inv {own : List Nat} {g : VG} {it ifs elt : CM} {c : SC} {x : PySem.Expr} (h : cComp own g it ifs elt c x = true) : ∃ e tg i fs scope p, x = .ListComp e [⟨tg, i, fs, 0⟩] scope p ∧ (ownP c own).map (·.2) = own ∧ (∀ j ∈ g.slots, j ∈ own) ∧ blkC c.N c.sc scope (ownP c own) = true ∧ notSet i = true ∧
    it.I c tg i = true ∧ chkG (c.blk scope) g tg = true ∧ ifs.F (c.blk scope) fs = true ∧ elt.E (c.blk scope) e = true := by
  unfold cComp at h
  split at h
  · obtain ⟨h, k8⟩ := and2 h
    obtain ⟨h, k7⟩ := and2 h
    obtain ⟨h, k6⟩ := and2 h
    obtain ⟨h, k5⟩ := and2 h
    obtain ⟨h, k4⟩ := and2 h
    obtain ⟨h, k3⟩ := and2 h
    obtain ⟨k1, k2⟩ := and2 h
    exact ⟨_, _, _, _, _, _, rfl, of_decide_eq_true k1, fun j hj => of_decide_eq_true (List.all_eq_true.mp k2 j hj), k3, k4, k5, k6, k7, k8⟩
  · cases h
theorem ps_asgV {X : Cx} {c : SC} (g : GoodS T Φ X c) {gr : VG} {e : VE} {tg v : PySem.Expr} {p : Pos} (h1 : chkG c gr tg = true) (h2 : (chk T e).E c v = true) (h3 : swOk c e tg v = true) : PS X (.Assign [tg] v p) (tS (asgM gr (ev Φ e).E)) := by
  have hg := (pg_of g.toGood gr).1 tg h1
  have hE := (sm_all (T := T) (Φ := Φ) e).E X c g.toGood v h2
  cases tg with
  | Name x px =>
    by_cases hc : isComp v = true
    · cases v with
      | ListComp elt gens scope pc =>
        obtain ⟨h3, h7⟩ := and2 h3
        obtain ⟨h3, h6⟩ := and2 h3
        obtain ⟨h4, h5⟩ := and2 h3
        cases e with
        | comp own g2 it ifs el =>
          have h' : cComp own g2 (chk T it) (chk T ifs) (chk T el) c (.ListComp elt gens scope pc) = true := h2
          obtain ⟨e', tg', i', fs', scope', p', heq, ho, hsl, k3, k4, k5, k6, k7, k8⟩ := comp_inv h'
          injection heq with z1 z2 z3 z4
          subst z1 z2 z3 z4
          have hb : BlkOk X.N X.env.scope scope (ownP c own) := by
            rw [g.N, g.sc]
            exact blkOk_by k3
          have hfo : ∀ v, foldedSetIterable i' X.env v = pure v := by
            intro v
            cases i' <;> first | rfl | cases k4
          have hsx : (scope.names.any fun (n, k) => n == x && (k == .local || k == .cell)) = false := by
            cases hq : (scope.names.any fun (n, k) => n == x && (k == .local || k == .cell)) with
            | false => rfl
            | true => rw [hq] at h7; cases h7
          cases gr with
          | nm i =>
            obtain ⟨q1, q2⟩ := and2 h1
            obtain ⟨q1, q3⟩ := and2 q1
            have := ps_setLc (py := px) (pos := pc) (spos := p) g.calm (by rw [g.N]; exact g.nd) (by rw [g.N]; exact of_decide_eq_true q1) (lc1_of g.toGood h5) (sw_true g.bk (lc1_of g.toGood h5) h6 hsx) ((sm_all (Φ := Φ) it).I X _ g.toGood tg' i' k5).1 hb
              (fun s H C cl fp => (pg_of (good_blk g.toGood scope s H C cl fp) g2).1 tg' k6) (fun s H C cl fp => (sm_all (Φ := Φ) ifs).F _ _ (good_blk g.toGood scope s H C cl fp) fs' k7)
              (fun s H C cl fp => (sm_all (Φ := Φ) el).E _ _ (good_blk g.toGood scope s H C cl fp) elt k8) hfo
            rw [ho] at this
            refine this.imp fun Dn σ H q => ?_
            have q2 := tS_asg Dn σ H q
            have q3 : tE (compM own g2 (ev Φ it).I (ev Φ ifs).F (ev Φ el).E) σ H (fun y H1 => gName i y σ H1 Dn.nx) := tE_imp q2 fun y H1 z => ?_
            · exact tLc_of hsl σ H _ q3
            · obtain ⟨w, s, d, fp, ρ', r, rep, hf, e, q⟩ := z
              unfold asgG at e
              obtain ⟨e1, e2⟩ := guard_ok e
              subst e2
              obtain ⟨r', st⟩ := store_rel (ρ := s.ρ) (st := s.st) r rep hf (of_decide_eq_true e1)
              exact q _ _ r' st
          | _ => cases h1
        | _ => cases h4
      | SetComp _ _ _ _ => cases h3
      | DictComp _ _ _ _ _ => cases h3
      | _ => exact absurd hc (by simp [isComp])
    · exact (ps_asg hE hg (by show swapsWith v (some (.Name x px)) p.line X.env = pure false; exact sw_plain (by simpa using hc)) (by cases v <;> rfl)).imp tS_asg
  | Tuple ts k pt =>
    have hs : swapsWithSole [.Tuple ts k pt] v p.line X.env = pure false := by cases v <;> rfl
    by_cases hv : ∃ vs k2 p2, v = .Tuple vs k2 p2
    · obtain ⟨vs, k2, p2, ev⟩ := hv
      subst ev
      exact (ps_asg hE hg hs (swS_ok g.sc g.bk (of_decide_eq_true h3))).imp tS_asg
    · refine (ps_asg hE hg hs ?_).imp tS_asg
      cases v <;> first | rfl | exact absurd ⟨_, _, _, rfl⟩ hv
  | _ => cases h3
theorem few_of {y : PySem.Expr} (h : notStar y = true) (pos : Pos) (env : Env) : ((backTo pos (starEach [y] env)).all (fun x => !x.1) && (backToKw pos (keywordEach [] env)).all (fun x => x.1.isSome)
      && decide (([y] : List PySem.Expr).length + ([] : List Keyword).length + (if ([] : List Keyword).isEmpty then 0 else 1) < 30)) = true := by
  rw [star_of h]
  rfl
structure SB (T : Tb) (Φ : Calls) (ex : VS → Res Fl) (k : BM) : Prop where
  S : ∀ X c, GoodS T Φ X c → ∀ s, k.S c s = true → PS X s (tS ex)
  B : ∀ X c, GoodS T Φ X c → ∀ sts, k.B c sts = true → PSs X sts (tS ex)
theorem SB.ofS {ex : VS → Res Fl} {k : SC → PySem.Stmt → Bool} (h : ∀ X c, GoodS T Φ X c → ∀ s, k c s = true → PS X s (tS ex)) : SB T Φ ex ⟨k, noB⟩ := ⟨h, fun _ _ _ _ z => by cases z⟩
theorem nm_of {X : Cx} {c : SC} (g : Good T Φ X c) {i : Nat} {x : Str} {p : Pos} (h1 : nameAt c i x = true) (h2 : visB c x = true) (h3 : okName x = true) : PE X (.Name x p) (tVar i) :=
  pe_var (by rw [g.N]; exact of_decide_eq_true h1) (vis_of g h2) (okName_of h3).1 (okName_of h3).2.1
theorem mt_of {name : Str} {id : String} {r : V → List V → Hp → VK → Prop} {i : Nat} {m : VS → Res Fl} {e : VE} (slot : Slot "list" name id) (hty : typeOf (.builtin id) = pure (.type "method_descriptor")) (hm : ∀ X : Cx, MtR X id r)
    (hi : ∀ (K : PySem.W.Frag) D σ H, tS m D σ H → tDrop (tBM K "list" r (tVar i) (tCons (tE (ev Φ e).E) tNil)) D σ H) : ∀ X c, GoodS T Φ X c → ∀ s, ckMt name i (chk T e) c s = true → PS X s (tS m) := fun X c g s h => by
  unfold ckMt at h
  split at h
  · obtain ⟨h, k7⟩ := and2 h
    obtain ⟨h, k6⟩ := and2 h
    obtain ⟨h, k5⟩ := and2 h
    obtain ⟨h, k4⟩ := and2 h
    obtain ⟨h, k3⟩ := and2 h
    obtain ⟨k1, k2⟩ := and2 h
    have e1 := of_decide_eq_true k1
    subst e1
    exact (ps_expr (pe_bm PySem.F.plainAttrs_list slot hty (hm X) (nm_of g.toGood k2 k3 k4) (pa_cons ((sm_all (Φ := Φ) e).E X _ g.toGood _ k6) pa_nil (star_of k5 _ _)) rfl (few_of k5 _ _) k7 (star_of k5 _ _) (by rfl)) (by rfl)).imp (hi X.K)
  · cases h
theorem sb_pass {W : Nat} : SB T Φ (exec Φ W .pass) (chkB T .pass) where
  S := fun _ _ _ _ z => by cases z
  B := fun X c g sts h => by
    cases sts with
    | nil => exact pss_nil.imp tS_pass
    | cons _ _ => cases h
theorem sb_seq {W : Nat} {a b : VB} (ha : SB T Φ (exec Φ W a) (chkB T a)) (hb : SB T Φ (exec Φ W b) (chkB T b)) : SB T Φ (exec Φ W (.seq a b)) (chkB T (.seq a b)) where
  S := fun _ _ _ _ z => by cases z
  B := fun X c g sts h => by
    cases sts with
    | nil => cases h
    | cons s rest =>
      obtain ⟨h1, h2⟩ := and2 h
      exact (pss_cons (ha.S X c g s h1) (hb.B X c g rest h2)).imp tS_seq
/-- every statement -/
theorem sb_all (W : Nat) : ∀ b : VB, SB T Φ (exec Φ W b) (chkB T b)
  | .bad => ⟨fun X c g s _ => ps_never.imp tS_stuck, fun X c g sts _ => pss_never.imp tS_stuck⟩
  | .pass => sb_pass
  | .doc => .ofS fun X c g s h => by
    unfold ckDoc at h
    split at h
    · exact ps_doc.imp tS_pass
    · cases h
  | .seq a b => sb_seq (sb_all W a) (sb_all W b)
  | .asg gr e => .ofS fun X c g s h => by
    unfold ckAsg at h
    split at h
    · obtain ⟨h, h3⟩ := and2 h
      obtain ⟨h1, h2⟩ := and2 h
      exact ps_asgV g h1 h2 h3
    · cases h
  | .if_ t a b => .ofS fun X c g s h => by
    unfold ckIf at h
    split at h
    · obtain ⟨h, h3⟩ := and2 h
      obtain ⟨h1, h2⟩ := and2 h
      exact (ps_if ((sm_all (Φ := Φ) t).Tt X _ g.toGood _ h1) ((sb_all W a).B X _ g _ h2) ((sb_all W b).B X _ g _ h3)).imp tS_if
    · cases h
  | .for_ gr it b => .ofS fun X c g s h => by
    unfold ckFor at h
    split at h
    · rename_i tg i body p
      obtain ⟨h, h4⟩ := and2 h
      obtain ⟨h, h3⟩ := and2 h
      obtain ⟨h1, h2⟩ := and2 h
      have hfo : ∀ v, foldedSetIterable i X.env v = pure v := by
        intro v
        cases i <;> first | rfl | cases h1
      exact (ps_for g.po g.calm ((sm_all (Φ := Φ) it).I X _ g.toGood _ _ h2).1 ((pg_of g.toGood gr).1 _ h3) ((sb_all W b).B X _ g _ h4) hfo).imp tS_for
    · cases h
  | .while_ t b => .ofS fun X c g s h => by
    unfold ckWhile at h
    split at h
    · obtain ⟨h1, h2⟩ := and2 h
      exact (ps_while g.po ((sm_all (Φ := Φ) t).Tt X _ g.toGood _ h1) ((sb_all W b).B X _ g _ h2)).imp tS_while
    · cases h
  | .ret e => .ofS fun X c g s h => by
    unfold ckRet at h
    split at h
    · exact (ps_ret ((sm_all (Φ := Φ) e).E X _ g.toGood _ h)).imp tS_ret
    · cases h
  | .retN => .ofS fun X c g s h => by
    unfold ckRetN at h
    split at h
    · exact ps_retN.imp tS_retN
    · cases h
  | .retC t i => .ofS fun X c g s h => by
    unfold ckRetC at h
    split at h
    · obtain ⟨h, k9⟩ := and2 h
      obtain ⟨h, k8⟩ := and2 h
      obtain ⟨h, k7⟩ := and2 h
      obtain ⟨h, k6⟩ := and2 h
      obtain ⟨h, k5⟩ := and2 h
      obtain ⟨h, k4⟩ := and2 h
      obtain ⟨h, k3⟩ := and2 h
      obtain ⟨k1, k2⟩ := and2 h
      exact (ps_ret (pe_ifExp ((sm_all (Φ := Φ) t).Tt X _ g.toGood _ k1) (nm_of g.toGood k2 k3 k4) (pe_bi g.toGood .tuple (of_decide_eq_true k8) (gl_of g.toGood k9) (pa_cons (nm_of g.toGood k5 k6 k7) pa_nil) rfl))).imp tS_retC
    · cases h
  | .ex e => .ofS fun X c g s h => by
    unfold ckEx at h
    split at h
    · obtain ⟨h1, h2⟩ := and2 h
      exact (ps_expr ((sm_all (Φ := Φ) e).E X _ g.toGood _ h2) (sw_plain (by simpa using h1))).imp tS_ex
    · cases h
  | .app i e => .ofS (mt_of PySem.F.slot_list_append PySem.F.type_list_append (fun X => mt_append) fun K => tS_app)
  | .ext i e => .ofS (mt_of PySem.F.slot_list_extend PySem.F.type_list_extend (fun X => mt_extend) fun K => tS_ext)
  | .appx i k x => .ofS fun X c g s h => by
    unfold ckAppx at h
    split at h
    · obtain ⟨h, k7⟩ := and2 h
      obtain ⟨h, k6⟩ := and2 h
      obtain ⟨h, k5⟩ := and2 h
      obtain ⟨h, k4⟩ := and2 h
      obtain ⟨h, k3⟩ := and2 h
      obtain ⟨k1, k2⟩ := and2 h
      have e1 := of_decide_eq_true k1
      have e2 := of_decide_eq_true k5
      have e3 := of_decide_eq_true k6
      subst e1 e2 e3
      exact (ps_expr (pe_bm PySem.F.plainAttrs_list PySem.F.slot_list_append PySem.F.type_list_append mt_append (pe_ix (ix_any (by have := g.hu; omega)) (nm_of g.toGood k2 k3 k4) pe_int (fun _ _ => rfl)) (pa_cons pe_str pa_nil) rfl (by rfl) k7 (by rfl) (by rfl)) (by rfl)).imp tS_appx
    · cases h
  | .setix dk i k e => .ofS fun X c g s h => by
    unfold ckSet at h
    split at h
    · rename_i x xp y yp v p
      obtain ⟨h, k6⟩ := and2 h
      obtain ⟨h, k5⟩ := and2 h
      obtain ⟨h, k4⟩ := and2 h
      obtain ⟨h, k3⟩ := and2 h
      obtain ⟨k1, k2⟩ := and2 h
      have hv := (sm_all (T := T) (Φ := Φ) e).E X _ g.toGood _ k6
      have hk := (sm_all (T := T) (Φ := Φ) k).E X _ g.toGood _ k5
      cases dk with
      | false => exact (ps_asg hv (pg_sub (nm_of g.toGood k1 k2 k3) hk set_list (by intro u; cases y <;> first | rfl | cases k4)) (by cases v <;> rfl) (by cases v <;> rfl)).imp tS_setl
      | true => exact (ps_dput (by have := g.hu; omega) (nm_of g.toGood k1 k2 k3) hk hv (by cases v <;> rfl)).imp tS_setd
    · cases h
  | .par2 i j as => .ofS fun X c g s h => by
    unfold ckPar2 at h
    split at h
    · obtain ⟨h, k7⟩ := and2 h
      obtain ⟨h, k6⟩ := and2 h
      obtain ⟨h, k5⟩ := and2 h
      obtain ⟨h, k4⟩ := and2 h
      obtain ⟨h, k3⟩ := and2 h
      obtain ⟨k1, k2⟩ := and2 h
      exact (ps_par g.calm (by rw [g.N]; exact g.nd) (by rw [g.N]; exact of_decide_eq_true k1) (by rw [g.N]; exact of_decide_eq_true k2) (of_decide_eq_true k3) (lc1_of g.toGood k4) (lc1_of g.toGood k5) ((sm_all (Φ := Φ) as).L X _ g.toGood _ k6) (swS_ok g.sc g.bk (of_decide_eq_true k7)) (by rfl)).imp tS_par2
    · cases h
  | .par3 i j l as => .ofS fun X c g s h => by
    unfold ckPar3 at h
    split at h
    · obtain ⟨h, q11⟩ := and2 h
      obtain ⟨h, q10⟩ := and2 h
      obtain ⟨h, q9⟩ := and2 h
      obtain ⟨h, q8⟩ := and2 h
      obtain ⟨h, q7⟩ := and2 h
      obtain ⟨h, q6⟩ := and2 h
      obtain ⟨h, q5⟩ := and2 h
      obtain ⟨h, q4⟩ := and2 h
      obtain ⟨h, q3⟩ := and2 h
      obtain ⟨q1, q2⟩ := and2 h
      exact (ps_par3 g.calm (by rw [g.N]; exact g.nd) (by rw [g.N]; exact of_decide_eq_true q1) (by rw [g.N]; exact of_decide_eq_true q2) (by rw [g.N]; exact of_decide_eq_true q3) (of_decide_eq_true q4) (of_decide_eq_true q5) (of_decide_eq_true q6) (lc1_of g.toGood q7) (lc1_of g.toGood q8) (lc1_of g.toGood q9) ((sm_all (Φ := Φ) as).L X _ g.toGood _ q10) (swS_ok g.sc g.bk (of_decide_eq_true q11)) (by rfl)).imp tS_par3
    · cases h
  | .cont => .ofS fun X c g s h => by
    unfold ckCont at h
    split at h
    · exact ps_continue.imp tS_cont
    · cases h
end
end VL
end

/-! text: VFn -/
section
set_option autoImplicit false
/-! VFn: the defs of a table. -/
namespace VL
open PySem PySem.Spec PyProof.Rows L2

structure Def where
  n : Nat
  np : Nat
  body : VB
def endOf : Fl → Res (D × Option Strm)
  | .rt v st => .ok (v, st)
  | .nx s => .ok (.non, s.st)
  | .ct _ => .stuck
def slots0 (n : Nat) (ds : List D) : VEnv := ds.map some ++ List.replicate (n - ds.length) none
def callB (Φ : Calls) (W : Nat) (d : Def) (ds : List D) (st : Option Strm) : Res (D × Option Strm) :=
  if ds.length = d.np then exec Φ W d.body ⟨slots0 d.n ds, st⟩ >>= endOf else .stuck
/-- an entry: a def of the table's language, or one that is told apart -/
inductive Ent where
  | v (d : Def)
  | own (np : Nat) (f : List D → Option Strm → Res (D × Option Strm))
def entGo (Φ : Calls) (W : Nat) : Ent → List D → Option Strm → Res (D × Option Strm)
  | .v d, ds, st => callB Φ W d ds st
  | .own np f, ds, st => if ds.length = np then f ds st else .stuck
def callN (tab : List Ent) (W : Nat) : Nat → Calls
  | 0, _, _, _ => .stuck
  | n + 1, f, ds, st => match tab[f]? with
    | some e => entGo (callN tab W n) W e ds st
    | none => .stuck
def Ent.np : Ent → Nat | .v d => d.np | .own np _ => np
theorem callN_len {tab : List Ent} {W n f : Nat} {ds : List D} {st : Option Strm} {r : D × Option Strm} (h : callN tab W n f ds st = .ok r) : ∃ e, tab[f]? = some e ∧ ds.length = e.np := by
  cases n with
  | zero => cases h
  | succ n =>
    unfold callN at h
    cases he : tab[f]? with
    | none => rw [he] at h; cases h
    | some e =>
      rw [he] at h
      refine ⟨e, rfl, ?_⟩
      cases e with
      | v d =>
        have h : callB (callN tab W n) W d ds st = .ok r := h
        unfold callB at h
        split at h
        · assumption
        · cases h
      | own np f =>
        have h : (if ds.length = np then f ds st else .stuck) = .ok r := h
        split at h
        · assumption
        · cases h

/-- what is fixed of the module -/
structure Mdl where
  P : Program
  w : World
  K : PySem.W.Frag
  mg : Str → Option Value
  base : Heap
/-- where a def of the table stands -/
structure Here (M : Mdl) (T : Tb) (k : Nat) (g : Sg) (f : Addr) (fd : FuncData) : Prop where
  mg : M.mg g.name = some (.ref f)
  keep : PySem.W.keepIn M.K (.ref f) = true
  binds : Binds M.K fd g.ps []
  kws : ∀ u ∈ T.kws, u.f = k → KBinds M.K fd g.ps u.ks (gK u) (gKV u)
/-- a def's body says what the table says -/
structure Body (M : Mdl) (T : Tb) (g : Sg) (d : Def) (f : Addr) (fd : FuncData) : Prop where
  ex : ∃ (name qual : Str) (params : Arguments) (body : List PySem.Stmt) (scope : Scope) (dV kV doc pm cdv ct oc : Value) (an od : Option Addr) (osl : Array (Option Value)) (N : List Str),
    fd = PySem.W.fnOf name qual params body scope dV kV doc pm an cdv ct ∧ M.K.lookup f = some ⟨oc, od, .func fd, osl⟩ ∧ PySem.W.codeIn M.K cdv qual = true ∧ FnScope N g.ps scope ∧ N.length = d.n ∧ g.ps.length = d.np ∧ (chkB T d.body).B ⟨N, scope, fun _ => true⟩ body = true
section
variable {w : Wd} {H : Hp} {st : Option Strm}
theorem start_rel {ds : List D} {vs : List V} {N : List Str} (r : SRel w [] H ⟨[], st⟩) (hO : ∀ i, w.O i = []) (h : Reps w.za (BF w.F) H ds vs []) : SRel w (L2.start N vs) H ⟨slots0 N.length ds, st⟩ where
  len := by
    unfold L2.start slots0
    rw [List.length_append, List.length_append, List.length_map, List.length_map, List.length_replicate, List.length_replicate, Reps.length h]
  slot := fun i d e => by
    have e : (slots0 N.length ds)[i]? = some (some d) := e
    unfold slots0 at e
    by_cases hi : i < ds.length
    · rw [List.getElem?_append_left (by rw [List.length_map]; exact hi), List.getElem?_map] at e
      cases q : ds[i]? with
      | none => rw [q] at e; cases e
      | some d' =>
        rw [q] at e
        cases e
        obtain ⟨v, p, hv, hr, hs⟩ := h.get q
        have hp := nodup_nil_sub hs
        subst hp
        refine ⟨v, ?_, by rw [hO]; exact hr⟩
        unfold L2.start
        rw [List.getElem?_append_left (by rw [List.length_map, Reps.length h]; exact hi), List.getElem?_map, hv]
        rfl
    · rw [List.getElem?_append_right (by rw [List.length_map]; omega), List.getElem?_replicate] at e
      split at e <;> cases e
  nd := r.nd
  dj := r.dj
  oF := r.oF
  oM := r.oM
  fM := r.fM
  strm := r.strm
  zF := r.zF
end
/-- the ends of a def -/
theorem fn_ends {w : Wd} {H : Hp} {st : Option Strm} {r : D} {st' : Option Strm} {Q : VK} {fl : Fl} (hO : ∀ i, w.O i = []) (he : endOf fl = .ok (r, st'))
    (hQ : ∀ v H' w' fp, (∀ i, w'.O i = []) → Step w H ⟨[], st⟩ [] w' H' ⟨[], st'⟩ → Rep w'.za (BF w'.F) H' r v fp → fp.Nodup → (∀ a ∈ fp, H a = none ∧ ¬ w'.F a ∧ ¬ zs w'.z a) → Q v H') :
    FlOk w H { nx := fun _ H' => Q .non H', rt := Q } fl := by
  have nO : ∀ a, ¬ inO w a := fun a ⟨i, q⟩ => by rw [hO] at q; cases q
  have mk : ∀ {w' : Wd} {H' : Hp}, Kept w H w' H' → SRel w' [] H' ⟨[], st'⟩ → Step w H ⟨[], st⟩ [] w' H' ⟨[], st'⟩ := fun {w' H'} k rel => by
    refine ⟨rel, rfl, k.fM, fun t a h => ?_, k.new, fun a o e n => k.ext a o e n (nO a), k.zE⟩
    cases t with
    | fz => exact k.fM a h
    | own => exact h.elim
    | br i =>
      rcases h with h | h
      · exact .inl ⟨k.fM a h.1, rfl⟩
      · rw [hO] at h; cases h
    | bc i =>
      rcases h with h | h
      · exact .inl (k.fM a h)
      · have := childO_sub h
        rw [hO] at this; cases this
  cases fl with
  | ct s => cases he
  | nx s =>
    cases he
    intro σ' H' w' k rel
    refine hQ .non H' ⟨w'.F, fun _ => [], w'.z⟩ [] (fun _ => rfl) (mk ⟨k.fM, fun a h => ?_, k.ext, k.al, k.zE⟩ (SRel.bare (ρ := s.ρ) (st := s.st) rel)) ⟨rfl, rfl⟩ List.nodup_nil fun a h => by cases h
    rcases h with h | ⟨i, h⟩
    · exact k.new a (.inl h)
    · cases h
  | rt d st2 =>
    cases he
    intro v H' w' fp k hO' rel rep nd fr
    refine hQ v H' w' fp hO' (mk k rel) rep nd fun a ha => ⟨?_, (fr a ha).2⟩
    exact (fr a ha).1.elim id fun h => absurd h (nO a)

/-- what is asked of one entry at a level -/
def EntOk (M : Mdl) (Φ : Calls) (n k : Nat) (g : Sg) (f : Addr) (fd : FuncData) : Prop := FnG M.P M.w M.K M.mg M.base CX0 n f fd g.ps (spV Φ k g.ps.length)
structure Table (M : Mdl) (T : Tb) (tab : List Ent) (W : Nat) : Prop where
  blt : ∀ x ∈ builtN, M.mg x = none
  len : tab.length = T.fns.length
  ent : ∀ k g e, T.fns[k]? = some g → tab[k]? = some e → g.ps.length = e.np ∧ ∃ f fd, Here M T k g f fd ∧ match e with
    | .v d => Body M T g d f fd
    | .own _ _ => ∀ n, EntOk M (callN tab W n) n k g f fd
theorem good_at {M : Mdl} {T : Tb} {tab : List Ent} {W n : Nat} (t : Table M T tab W) (ih : ∀ k g e f fd, T.fns[k]? = some g → tab[k]? = some e → Here M T k g f fd → (match e with | .v d => Body M T g d f fd | .own _ _ => ∀ n, EntOk M (callN tab W n) n k g f fd) → EntOk M (callN tab W n) n k g f fd)
    {N : List Str} {ps : List Str} {qual : Str} {scope : Scope} {f : Addr} {cd : Value} {A : Around} {outer : List Env} {s : Shared} {H : Hp} {E : XK} (S : FnScope N ps scope) (hgs : (A.deeper (envOfC qual scope s.heap.objs.size f cd)).guards = some []) (hr : Room n (A.deeper (envOfC qual scope s.heap.objs.size f cd))) :
    GoodS T (callN tab W n) (cxOf CX0 M.P M.w M.K M.mg M.base N qual scope f cd A outer s H E) ⟨N, scope, fun _ => true⟩ where
  N := rfl
  sc := rfl
  nd := S.nd
  calm := rfl
  fn := fun _ _ => rfl
  hu := by
    have := hr.un
    show (A.deeper (envOfC qual scope s.heap.objs.size f cd)).units + 65 < cLine
    omega
  gs := hgs
  blt := t.blt
  fns := fun k g hk => by
    have hl : k < tab.length := by rw [t.len]; exact (List.getElem?_eq_some_iff.mp hk).1
    obtain ⟨h0, f', fd, h1, h2⟩ := t.ent k g tab[k] hk (List.getElem?_eq_getElem hl)
    refine ⟨fun ds st r h => ?_, f', fd, n, h1.mg, h1.keep, hr, ih k g _ f' fd hk (List.getElem?_eq_getElem hl) h1 h2, h1.binds, h1.kws⟩
    obtain ⟨e, he, hn⟩ := callN_len h
    rw [List.getElem?_eq_getElem hl] at he
    cases he
    rw [hn, h0]
  po := passes_of rfl
  bk := S.kind
theorem ent_ok {M : Mdl} {T : Tb} {tab : List Ent} {W : Nat} (t : Table M T tab W) : ∀ n k g e f fd, T.fns[k]? = some g → tab[k]? = some e → Here M T k g f fd → (match e with | .v d => Body M T g d f fd | .own _ _ => ∀ n, EntOk M (callN tab W n) n k g f fd) → EntOk M (callN tab W n) n k g f fd
  | 0, k, g, e, f, fd, hk, he, hh, hb => by
    refine ⟨fun vs H Q E h => h.1, fun A hgs outer s H args us vs Q E hr e0 hbd hv hs => ?_⟩
    obtain ⟨_, w, ds, st, r, st', _, _, _, h, _⟩ := hs
    cases h
  | n + 1, k, g, e, f, fd, hk, he, hh, hb => by
    cases e with
    | own np fn => exact hb (n + 1)
    | v d =>
      obtain ⟨name, qual, params, body, scope, dV, kV, doc, pm, cdv, ct, oc, an, od, osl, N, e1, e2, e3, e4, e5, e6, e7⟩ := hb.ex
      subst e1
      refine fn_ofG e2 e3 e4 (fun vs H Q E h => h.1) fun A outer s H vs Q E hgs hr hs => ?_
      obtain ⟨hl, w, ds, st, r, st', hO, rel, reps, hc, hQ⟩ := hs
      have gd := good_at t (ent_ok t n) (ps := g.ps) (E := E) (H := H) (outer := outer) e4 hgs hr
      refine ⟨_, (sb_all W d.body).B _ _ gd body e7, ?_⟩
      unfold callN at hc
      rw [he] at hc
      have hc : callB (callN tab W n) W d ds st = .ok (r, st') := hc
      unfold callB at hc
      split at hc
      · obtain ⟨fl, h1, h2⟩ := bind_ok hc
        rw [← e5] at h1
        exact ⟨w, _, fl, start_rel rel hO reps, h1, fn_ends hO h2 hQ⟩
      · cases hc
end VL
end

/-! text: VDraw -/
section
set_option autoImplicit false
/-! VDraw: the draws of a law's script. -/
namespace VL
open PySem PySem.Spec PyProof.Rows L2

/-! ### what a draw computes -/
def absI (x : Int) : Int := if x < 0 then -x else x
/-- numbers are fed in while nothing is left of the last -/
def feed : List Int → Int → Int → List Int × Int × Int
  | [], cur, mix => ([], cur, mix)
  | x :: xs, cur, mix => if cur = 0 then feed xs (if 10 ^ 18 ≤ absI x then absI x else 0) ((mix * 6151 + absI x + 7) % 2147483629) else (x :: xs, cur, mix)
theorem feed_cons (x : Int) (xs : List Int) (cur mix : Int) : feed (x :: xs) cur mix = if cur = 0 then feed xs (if 10 ^ 18 ≤ absI x then absI x else 0) ((mix * 6151 + absI x + 7) % 2147483629) else (x :: xs, cur, mix) := rfl
def mixed (cnt mix : Int) : Int := (mix + 8191 * cnt + 50021) ^ 5 % 2147483587
def drawOf (cnt mix m : Int) : Int := (mixed cnt mix * 40009 + 20011 * cnt + 31) ^ 3 % 1000000009 % m
def pow64 (i : Int) : Bool := decide (i.natAbs < 2 ^ 64)
def drawV : List D → Option Strm → Res (D × Option Strm)
  | [.strm, .int m], some st =>
    let f := feed st.cells st.cur st.mix
    if 0 < m ∧ m < 2 ^ 64 then
      (if 0 < f.2.1 then .ok (.int (f.2.1 % m), some ⟨f.1, f.2.1 / m, st.cnt + 1, f.2.2⟩)
       else if pow64 (f.2.2 + 8191 * (st.cnt + 1) + 50021) && pow64 (mixed (st.cnt + 1) f.2.2 * 40009 + 20011 * (st.cnt + 1) + 31) then .ok (.int (drawOf (st.cnt + 1) f.2.2 m), some ⟨f.1, f.2.1, st.cnt + 1, f.2.2⟩)
       else .stuck)
    else .stuck
  | _, _ => .stuck

/-! ### the text's reading -/
def tSt (K : PySem.W.Frag) (i : Int) : TE := tOp (rIxL K) (tVar 0) (tC (.int i))
def rAddI : R2 := rI0 fun i j => .int (i + j)
def rMulI : R2 := rI CMul fun i j => .int (i * j)
def rModI : R2 := rI (fun _ j => 0 < j) fun i j => .int (i % j)
def rPowI : R2 := rI CPow fun i j => .int (i ^ j.toNat)
def rFdvI : R2 := rI CDivW fun i j => .int (i / j)
def gSt (i : Int) : TG := gSub (tVar 0) (tC (.int i)) rSetL
def rInt1 : List V → Hp → VK → Prop := fun xs H Q => (∃ i, xs = [.int i] ∧ Q (.int i) H) ∨ ∃ k, xs = [.bl k] ∧ Q (.int (if k then 1 else 0)) H
def rAbs1 : List V → Hp → VK → Prop := fun xs H Q => ∃ i, xs = [.int i] ∧ Q (.int (if i < 0 then -i else i)) H
def tIntOf (t : TE) : TE := tCB rInt1 (tCons t tNil)
def tD1 (K : PySem.W.Frag) : TS := tAsg (tOp rAddI (tSt K 2) (tC (.int 1))) (gSt 2)
def tDtest (K : PySem.W.Frag) : TT := tAnd (tTest (tOp (rEqD K) (tSt K 1) (tC (.int 0)))) (tTest (tOp (rNeD K) (tSt K 0) (tLst tNil)))
def tDloop (K : PySem.W.Frag) : TS :=
  tSeq (tAsg (tCB rAbs1 (tCons (tBM K "list" rPopAt (tSt K 0) (tCons (tC (.int 0)) tNil)) tNil)) (gName 2))
  (tSeq (tAsg (tOp rModI (tIntOf (tOp rAddI (tOp rAddI (tOp rMulI (tSt K 3) (tC (.int 6151))) (tVar 2)) (tC (.int 7)))) (tC (.int 2147483629))) (gSt 3))
    (tAsg (tIf (tTest (tOp (rI0 fun i j => .bl (decide (j ≤ i))) (tVar 2) (tOp rPowI (tC (.int 10)) (tC (.int 18))))) (tVar 2) (tC (.int 0))) (gSt 1)))
def tD3 (K : PySem.W.Frag) : TS := tIfS (tTest (tOp (rI0 fun i j => .bl (decide (j < i))) (tSt K 1) (tC (.int 0))))
  (tSeq (tAsg (tOp rModI (tIntOf (tSt K 1)) (tVar 1)) (gName 3)) (tSeq (tAsg (tOp rFdvI (tSt K 1) (tVar 1)) (gSt 1)) (tRet (tVar 3)))) tNext
def tD4 (K : PySem.W.Frag) : TS := tAsg (tOp rModI (tIntOf (tOp rPowI (tOp rAddI (tOp rAddI (tSt K 3) (tOp rMulI (tC (.int 8191)) (tSt K 2))) (tC (.int 50021))) (tC (.int 5)))) (tC (.int 2147483587))) (gName 4)
def tD5 (K : PySem.W.Frag) : TS := tRet (tOp rModI (tOp rModI (tIntOf (tOp rPowI (tOp rAddI (tOp rAddI (tOp rMulI (tVar 4) (tC (.int 40009))) (tOp rMulI (tC (.int 20011)) (tSt K 2))) (tC (.int 31))) (tC (.int 3)))) (tC (.int 1000000009))) (tVar 1))
def tDraw (K : PySem.W.Frag) : TS := tSeq (tD1 K) (tSeq (tWhile (tDtest K) (tDloop K)) (tSeq (tD3 K) (tSeq (tD4 K) (tD5 K))))

/-! ### it computes that -/
/-- the draws' list as it stands -/
structure DSt (H0 H : Hp) (p c : Addr) (cells : List Int) (cur cnt mix : Int) : Prop where
  ne : p ≠ c
  hp : H p = some (.lst [.ref c, .int cur, .int cnt, .int mix])
  hc : H c = some (.lst (cells.map V.int))
  old : ∀ a o, H0 a = some o → a ≠ p → a ≠ c → H a = some o
section
variable {K : PySem.W.Frag} {H0 H : Hp} {p c : Addr} {cells : List Int} {cur cnt mix m : Int} {σ : L2.St} {Q : VK}
theorem DSt.laid (d : DSt H0 H p c cells cur cnt mix) {q : Addr} {o : HO} (hq : H q = none) : DSt H0 (upd H q o) p c cells cur cnt mix :=
  ⟨d.ne, ext_upd hq _ _ d.hp, ext_upd hq _ _ d.hc, fun a o' h h1 h2 => ext_upd hq _ _ (d.old a o' h h1 h2)⟩
theorem DSt.put (d : DSt H0 H p c cells cur cnt mix) {cur' cnt' mix' : Int} : DSt H0 (upd H p (.lst [.ref c, .int cur', .int cnt', .int mix'])) p c cells cur' cnt' mix' :=
  ⟨d.ne, upd_same, by rw [upd_ne (Ne.symm d.ne)]; exact d.hc, fun a o h h1 h2 => by rw [upd_ne h1]; exact d.old a o h h1 h2⟩
theorem DSt.pop {x : Int} (d : DSt H0 H p c (x :: cells) cur cnt mix) : DSt H0 (upd H c (.lst (cells.map V.int))) p c cells cur cnt mix :=
  ⟨d.ne, by rw [upd_ne d.ne]; exact d.hp, upd_same, fun a o h h1 h2 => by rw [upd_ne h2]; exact d.old a o h h1 h2⟩
theorem t_st (d : DSt H0 H p c cells cur cnt mix) (hσ : σ[0]? = some (some (.ref p))) {i : Int} {v : V} (hv : atI [V.ref c, .int cur, .int cnt, .int mix] i = some v) (q : Q v H) : tSt K i σ H Q :=
  ⟨.ref p, hσ, p, _, i, v, rfl, rfl, .of d.hp, hv, q⟩
theorem g_st {i : Int} {j : Nat} {v : V} {R : L2.St → Hp → Prop} (d : DSt H0 H p c cells cur cnt mix) (hσ : σ[0]? = some (some (.ref p))) (hj : ixN 4 i = some j) (q : R σ (upd H p (.lst ([V.ref c, .int cur, .int cnt, .int mix].set j v)))) : gSt i v σ H R :=
  ⟨.ref p, hσ, p, _, i, j, rfl, rfl, d.hp, hj, q⟩
theorem shaped_ints : ∀ ns : List Int, PyData.canLayAll0 (ns.map PyData.int) = true ∧ PyData.depthAll (ns.map PyData.int) = 0
  | [] => ⟨rfl, rfl⟩
  | n :: ns => by
    obtain ⟨h1, h2⟩ := shaped_ints ns
    rw [List.map_cons]
    simp only [PyData.canLayAll0, PyData.canLay0, PyData.depthAll, PyData.depth, h1, h2]
    exact ⟨rfl, rfl⟩
theorem dp_ints : ∀ ns : List Int, DpAll K H (ns.map V.int) (ns.map PyData.int)
  | [] => .nil
  | n :: ns => .cons (.int n) (dp_ints ns)
theorem eqv_nil (ns : List Int) : PyData.eqv (.list (ns.map PyData.int)) (.list []) = ns.isEmpty := by
  cases ns with
  | nil => simp [PyData.eqv, PyData.eqvAll]
  | cons n ns => simp [PyData.eqv, PyData.eqvAll]
theorem shaped_list (ns : List Int) : SeqAt.shaped (.list (ns.map PyData.int)) = true := by
  obtain ⟨h1, h2⟩ := shaped_ints ns
  unfold SeqAt.shaped
  simp only [PyData.canLay0, PyData.depth, h1, h2]
  rfl
/-- the loop's test -/
theorem t_test {R : Bool → Hp → Prop} (d : DSt H0 H p c cells cur cnt mix) (hσ : σ[0]? = some (some (.ref p))) (q : ∀ H', DSt H0 H' p c cells cur cnt mix → R (decide (cur = 0) && !cells.isEmpty) H') : tDtest K σ H R := by
  refine t_st d hσ (v := .int cur) rfl ⟨.int cur, .int 0, .int cur, .int 0, rfl, rfl, decide (cur = 0), ?_, ?_⟩
  · show V.bl (PyData.eqv (.int cur) (.int 0)) = _
    simp only [PyData.eqv]
    rfl
  · by_cases h : cur = 0
    · rw [decide_eq_true h]
      show (if true = true then _ else _)
      rw [if_pos rfl]
      refine t_st d hσ (v := .ref c) rfl ⟨Nat.zero_le _, fun q' hq => ?_⟩
      have d' := d.laid (o := .lst []) hq
      refine ⟨.list (cells.map PyData.int), .list [], .lst (.of d'.hc) (dp_ints _), .lst (.of upd_same) .nil, shaped_list _, rfl, !cells.isEmpty, by rw [eqv_nil], ?_⟩
      have := q _ d'
      rw [decide_eq_true h, Bool.true_and] at this
      exact this
    · rw [decide_eq_false h]
      show (if false = true then _ else _)
      rw [if_neg Bool.false_ne_true]
      have := q _ d
      rw [decide_eq_false h, Bool.false_and] at this
      exact this
theorem t_cI {i : Int} (q : Q (.int i) H) : tC (.int i) σ H Q := q
theorem t_var {i : Nat} {v : V} (h : σ[i]? = some (some v)) (q : Q v H) : tVar i σ H Q := ⟨v, h, q⟩
/-- one number is fed in -/
theorem t_loop {D : Ends} {x : Int} {y2 y3 y4 : Option V} (d : DSt H0 H p c (x :: cells) cur cnt mix) (q : ∀ H', DSt H0 H' p c cells (if 10 ^ 18 ≤ absI x then absI x else 0) cnt ((mix * 6151 + absI x + 7) % 2147483629) → D.nx [some (.ref p), some (.int m), some (.int (absI x)), y3, y4] H') :
    tDloop K D [some (.ref p), some (.int m), y2, y3, y4] H := by
  -- cell = abs(stream[0].pop(0))
  refine t_st d rfl (v := .ref c) rfl ⟨.inl ⟨rfl, _, .of d.hc⟩, c, (x :: cells).map V.int, 0, 0, .int x, rfl, rfl, d.hc, by decide, by decide, by rw [seqIndex_of (by decide) (by simp)]; rfl, rfl, x, rfl, ?_⟩
  have d1 := d.pop
  -- stream[3] = ..
  refine t_st d1 rfl (v := .int mix) rfl ⟨mix, 6151, rfl, rfl, .inr ⟨by decide, by decide⟩, _, rfl, _, _, rfl, rfl, _, 7, rfl, rfl, .inl ⟨_, rfl, _, 2147483629, rfl, rfl, (by decide : (0 : Int) < 2147483629), ?_⟩⟩
  refine g_st d1 rfl (j := 3) rfl ?_
  have d2 := d1.put (cur' := cur) (cnt' := cnt) (mix' := (mix * 6151 + absI x + 7) % 2147483629)
  -- stream[1] = ..
  refine ⟨.int (absI x), rfl, 10, 18, rfl, rfl, ⟨by decide, by decide, by decide⟩, absI x, 10 ^ (18 : Int).toNat, rfl, rfl, _, rfl, ?_⟩
  by_cases h : (10 : Int) ^ 18 ≤ absI x
  · rw [decide_eq_true (show (10 : Int) ^ (18 : Int).toNat ≤ absI x from h)]
    show (if true = true then _ else _)
    rw [if_pos rfl]
    rw [if_pos h] at q
    exact ⟨.int (absI x), rfl, g_st d2 rfl (j := 1) rfl (q _ d2.put)⟩
  · rw [decide_eq_false (show ¬ (10 : Int) ^ (18 : Int).toNat ≤ absI x from h)]
    show (if false = true then _ else _)
    rw [if_neg Bool.false_ne_true]
    rw [if_neg h] at q
    exact g_st d2 rfl (j := 1) rfl (q _ d2.put)
/-- the whole -/
theorem t_draw {D : Ends} (d : DSt H0 H p c cells cur cnt mix) (hm : 0 < m ∧ m < 2 ^ 64)
    (q1 : 0 < (feed cells cur mix).2.1 → ∀ H', DSt H0 H' p c (feed cells cur mix).1 ((feed cells cur mix).2.1 / m) (cnt + 1) (feed cells cur mix).2.2 → D.rt (.int ((feed cells cur mix).2.1 % m)) H')
    (q2 : ¬ 0 < (feed cells cur mix).2.1 → (pow64 ((feed cells cur mix).2.2 + 8191 * (cnt + 1) + 50021) = true ∧ pow64 (mixed (cnt + 1) (feed cells cur mix).2.2 * 40009 + 20011 * (cnt + 1) + 31) = true) ∧
      ∀ H', DSt H0 H' p c (feed cells cur mix).1 (feed cells cur mix).2.1 (cnt + 1) (feed cells cur mix).2.2 → D.rt (.int (drawOf (cnt + 1) (feed cells cur mix).2.2 m)) H') :
    tDraw K D [some (.ref p), some (.int m), none, none, none] H := by
  refine t_st d rfl (v := .int cnt) rfl ⟨cnt, 1, rfl, rfl, g_st d rfl (j := 2) rfl ?_⟩
  have d1 := d.put (cur' := cur) (cnt' := cnt + 1) (mix' := mix)
  refine ⟨fun n σ H' => ∃ cs cu mi y2, σ = [some (.ref p), some (.int m), y2, none, none] ∧ DSt H0 H' p c cs cu (cnt + 1) mi ∧ feed cs cu mi = feed cells cur mix ∧ n = cs.length, ⟨_, cells, cur, mix, none, rfl, d1, rfl, rfl⟩, fun n σ H' hW => ?_⟩
  obtain ⟨cs, cu, mi, y2, rfl, d2, ef, en⟩ := hW
  refine t_test d2 rfl fun H2 d3 => ?_
  cases hb : (decide (cu = 0) && !cs.isEmpty) with
  | true =>
    show (if true = true then _ else _)
    rw [if_pos rfl]
    obtain ⟨h1, h2⟩ := and2 hb
    have h1 := of_decide_eq_true h1
    cases cs with
    | nil => cases h2
    | cons x xs =>
      refine ⟨fun σ' H' => ∃ cs cu mi y2, σ' = [some (.ref p), some (.int m), y2, none, none] ∧ DSt H0 H' p c cs cu (cnt + 1) mi ∧ feed cs cu mi = feed cells cur mix ∧ cs.length < n, fun σ' H' ⟨cs, cu, mi, y2, e1, e2, e3, e4⟩ => ⟨_, e4, cs, cu, mi, y2, e1, e2, e3, rfl⟩, ?_⟩
      refine t_loop d3 fun H4 d4 => ⟨xs, _, _, _, rfl, d4, ?_, by rw [en]; exact Nat.lt_succ_self _⟩
      rw [← ef, feed_cons x xs cu mi, if_pos h1]
  | false =>
    show (if false = true then _ else _)
    rw [if_neg Bool.false_ne_true]
    have e0 : feed cs cu mi = (cs, cu, mi) := by
      cases cs with
      | nil => rfl
      | cons x xs =>
        rw [feed_cons, if_neg fun h => by
          rw [decide_eq_true h] at hb
          cases hb]
    rw [← ef, e0] at q1 q2
    -- if stream[1] > 0
    refine t_st d3 rfl (v := .int cu) rfl ⟨cu, 0, rfl, rfl, _, rfl, ?_⟩
    by_cases h : 0 < cu
    · rw [decide_eq_true h]
      show (if true = true then _ else _)
      rw [if_pos rfl]
      refine t_st d3 rfl (v := .int cu) rfl (.inl ⟨cu, rfl, .int m, rfl, cu, m, rfl, rfl, hm.1, ?_⟩)
      refine t_st d3 rfl (v := .int cu) rfl ⟨.int m, rfl, cu, m, rfl, rfl, ⟨hm.1, ?_⟩, g_st d3 rfl (j := 1) rfl ⟨.int (cu % m), rfl, q1 h _ d3.put⟩⟩
      have : m.natAbs < 2 ^ 64 := by omega
      have h3 : m.natAbs ≠ 0 := by omega
      exact Nat.lt_of_lt_of_le ((Nat.log2_lt h3).mpr this) (by decide)
    · rw [decide_eq_false h]
      show (if false = true then _ else _)
      rw [if_neg Bool.false_ne_true]
      obtain ⟨⟨g1, g2⟩, q3⟩ := q2 h
      have g1 := of_decide_eq_true g1
      have g2 := of_decide_eq_true g2
      -- mixed = ..
      refine t_st d3 rfl (v := .int mi) rfl (t_st d3 rfl (v := .int (cnt + 1)) rfl ⟨8191, cnt + 1, rfl, rfl, .inl ⟨by decide, by decide⟩, mi, 8191 * (cnt + 1), rfl, rfl, _, 50021, rfl, rfl, _, 5, rfl, rfl, ⟨by decide, by decide, g1⟩, .inl ⟨_, rfl, _, 2147483587, rfl, rfl, (by decide : (0 : Int) < 2147483587), ?_⟩⟩)
      -- return ..
      refine ⟨.int (mixed (cnt + 1) mi), rfl, _, 40009, rfl, rfl, .inr ⟨by decide, by decide⟩, t_st d3 rfl (v := .int (cnt + 1)) rfl ⟨20011, cnt + 1, rfl, rfl, .inl ⟨by decide, by decide⟩, _, _, rfl, rfl, _, 31, rfl, rfl, _, 3, rfl, rfl, ⟨by decide, by decide, g2⟩, .inl ⟨_, rfl, _, 1000000009, rfl, rfl, (by decide : (0 : Int) < 1000000009), .int m, rfl, _, m, rfl, rfl, hm.1, q3 _ d3⟩⟩⟩
end
/-- the draw keeps its promise: its text (per law) reads as tDraw -/
theorem draw_sp {P : Program} {w : World} {K : PySem.W.Frag} {mg : Str → Option Value} {base : Heap} {Φ : Calls} {k n : Nat} {f : Addr} {fd : FuncData} {st : PySem.Stmt} (F : L2.Fun K "_law_draw" "_law_draw" st f fd) (S : FnScope ["stream", "many", "cell", "digit", "mixed"] ["stream", "many"] (defScope st))
    (hΦ : ∀ ds s r, Φ k ds s = .ok r → drawV ds s = .ok r)
    (hb : ∀ (cdv : Value) (A : Around) (outer : List Env) (s : Shared) (H : Hp) (E : XK), Room n (A.deeper (envOfC "_law_draw" (defScope st) s.heap.objs.size f cdv)) →
      PSs (cxOf CX0 P w K mg base ["stream", "many", "cell", "digit", "mixed"] "_law_draw" (defScope st) f cdv A outer s H E).nox (defBody st) (tDraw K)) : FnOk P w K mg base CX0 (n + 1) f fd ["stream", "many"] (spV Φ k 2) := by
  refine F.ok S (fun vs H Q E h => h.1) fun cdv A outer s H vs Q E hr hs => ⟨_, hb cdv A outer s H E hr, ?_⟩
  obtain ⟨hl, w', ds, st', r, st2, hO, rel, reps, hc, hQ⟩ := hs
  have hd := hΦ _ _ _ hc
  unfold drawV at hd
  split at hd
  rotate_left
  · cases hd
  rename_i m sm
  obtain ⟨v, u, p1, p2, ev, _, r1, r2⟩ := reps2 reps
  subst ev
  obtain ⟨pz, c, ez, ne, hp, hcell⟩ := rel.strm
  obtain ⟨⟨a, ea, ev⟩, _⟩ := r1
  have ea' : a = pz := by
    have : w'.za = some pz := by unfold Wd.za; rw [ez]; rfl
    rw [this] at ea; cases ea; rfl
  subst ea' ev
  have eu := r2.1
  subst eu
  have d : DSt H H a c sm.cells sm.cur sm.cnt sm.mix := ⟨ne, hp, hcell, fun _ _ h _ _ => h⟩
  have za : ∀ b, zs w'.z b ↔ b = a ∨ b = c := fun b => ⟨fun ⟨s, q, e, h⟩ => by rw [ez] at e; cases e; exact h, fun h => ⟨a, c, ez, h⟩⟩
  have fin : ∀ {cells : List Int} {cur cnt mix i : Int} {H' : Hp}, r = .int i → st2 = some ⟨cells, cur, cnt, mix⟩ → DSt H H' a c cells cur cnt mix → Q (.int i) H' := fun {cells cur cnt mix i H'} e1 e2 d' => by
    subst e1 e2
    have ext : ∀ b o, H b = some o → ¬ zs w'.z b → H' b = some o := fun b o e n => d'.old b o e (fun q => n ((za b).mpr (.inl q))) fun q => n ((za b).mpr (.inr q))
    have rel' : SRel w' [] H' ⟨[], some ⟨cells, cur, cnt, mix⟩⟩ := by
      refine ⟨rfl, (fun i d e => by cases e), rel.nd, rel.dj, rel.oF, (fun j b h => by rw [hO] at h; cases h), (fun b h => ?_), ⟨a, c, ez, ne, d'.hp, d'.hc⟩, rel.zF⟩
      obtain ⟨o, e, hm⟩ := rel.fM b h
      exact ⟨o, ext b o e fun z => (rel.zF b z).1 h, hm⟩
    exact hQ (.int i) H' w' [] hO ⟨rel', rfl, fun _ h => h, fun _ _ h => h, fun b h => h.elim .inl fun h => .inr (.inl h), ext, rfl⟩ ⟨rfl, rfl⟩ List.nodup_nil (fun b h => by cases h)
  by_cases hm : 0 < m ∧ m < 2 ^ 64
  · rw [if_pos hm] at hd
    refine t_draw d hm (fun h H' d' => ?_) fun h => ?_
    · rw [if_pos h] at hd
      injection hd with hd
      injection hd with e1 e2
      exact fin e1.symm e2.symm d'
    · rw [if_neg h] at hd
      split at hd
      · rename_i hg
        injection hd with hd
        injection hd with e1 e2
        exact ⟨and2 hg, fun H' d' => fin e1.symm e2.symm d'⟩
      · cases hd
  · rw [if_neg hm] at hd
    cases hd
end VL
end

/-! text: VLaw -/
section
set_option autoImplicit false
/-! VLaw: a law's table, its first line, its end. -/
namespace VL
open PySem PySem.Spec PyProof.Rows L2

theorem body_of {M : Mdl} {T : Tb} {g : Sg} {d : Def} {x qual : Str} {st : PySem.Stmt} {f : Addr} {fd : FuncData} {N : List Str} (F : L2.Fun M.K x qual st f fd) (S : FnScope N g.ps (defScope st)) (hn : N.length = d.n) (hp : g.ps.length = d.np)
    (hc : (chkB T d.body).B ⟨N, defScope st, fun _ => true⟩ (defBody st) = true) : Body M T g d f fd := by
  obtain ⟨oc, od, kV, doc, pm, an, cdv, ct, osl, e, lk, cd⟩ := F.ex
  exact ⟨x, qual, _, _, _, _, kV, doc, pm, cdv, ct, oc, an, od, osl, N, e, lk, cd, S, hn, hp, hc⟩
def EntHere (M : Mdl) (T : Tb) (tab : List Ent) (W : Nat) (k : Nat) (g : Sg) (e : Ent) : Prop := g.ps.length = e.np ∧ ∃ f fd, Here M T k g f fd ∧ match e with
  | .v d => Body M T g d f fd
  | .own _ _ => ∀ n, EntOk M (callN tab W n) n k g f fd
/-- all entries, one after another -/
inductive Ents (M : Mdl) (T : Tb) (tab : List Ent) (W : Nat) : Nat → List Sg → List Ent → Prop
  | nil (k : Nat) : Ents M T tab W k [] []
  | cons {k : Nat} {g : Sg} {e : Ent} {gs : List Sg} {es : List Ent} (h : EntHere M T tab W k g e) (r : Ents M T tab W (k + 1) gs es) : Ents M T tab W k (g :: gs) (e :: es)
theorem Ents.get {M : Mdl} {T : Tb} {tab : List Ent} {W : Nat} : ∀ {i : Nat} {gs : List Sg} {es : List Ent}, Ents M T tab W i gs es → ∀ k g e, gs[k]? = some g → es[k]? = some e → EntHere M T tab W (i + k) g e
  | _, _, _, .nil _, k, g, e, h, _ => by cases h
  | i, _, _, .cons h r, 0, g, e, h1, h2 => by
    cases h1
    cases h2
    exact h
  | i, _, _, .cons h r, k + 1, g, e, h1, h2 => by
    have := Ents.get r k g e (by simpa using h1) (by simpa using h2)
    rw [show i + 1 + k = i + (k + 1) by omega] at this
    exact this
theorem Ents.len {M : Mdl} {T : Tb} {tab : List Ent} {W : Nat} : ∀ {i : Nat} {gs : List Sg} {es : List Ent}, Ents M T tab W i gs es → es.length = gs.length
  | _, _, _, .nil _ => rfl
  | _, _, _, .cons _ r => by rw [List.length_cons, List.length_cons, Ents.len r]
theorem table_of {M : Mdl} {T : Tb} {tab : List Ent} {W : Nat} (blt : ∀ x ∈ builtN, M.mg x = none) (h : Ents M T tab W 0 T.fns tab) : Table M T tab W :=
  ⟨blt, h.len, fun k g e h1 h2 => by
    have := h.get k g e h1 h2
    rw [Nat.zero_add] at this
    exact this⟩
/-- the draw, as an entry -/
theorem draw_ent {M : Mdl} {tab : List Ent} {W : Nat} {k : Nat} {g : Sg} {f : Addr} {fd : FuncData} {st : PySem.Stmt} (he : tab[k]? = some (.own 2 drawV)) (hg : g.ps = (["stream", "many"] : List Str)) (F : L2.Fun M.K "_law_draw" "_law_draw" st f fd) (S : FnScope ["stream", "many", "cell", "digit", "mixed"] ["stream", "many"] (defScope st))
    (hb : ∀ (n : Nat) (cdv : Value) (A : Around) (outer : List Env) (s : Shared) (H : Hp) (E : XK), Room n (A.deeper (envOfC "_law_draw" (defScope st) s.heap.objs.size f cdv)) →
      PSs (cxOf CX0 M.P M.w M.K M.mg M.base ["stream", "many", "cell", "digit", "mixed"] "_law_draw" (defScope st) f cdv A outer s H E).nox (defBody st) (tDraw M.K)) : ∀ n, EntOk M (callN tab W n) n k g f fd := fun n => by
  unfold EntOk
  rw [hg]
  cases n with
  | zero =>
    refine ⟨fun vs H Q E h => h.1, fun A hgs outer s H args us vs Q E hr e0 hbd hv hs => ?_⟩
    obtain ⟨_, w, ds, st, r, st', _, _, _, h, _⟩ := hs
    cases h
  | succ n =>
    refine (draw_sp F S (fun ds s r h => ?_) (hb n)).fnG
    unfold callN at h
    rw [he] at h
    have h : (if ds.length = 2 then drawV ds s else .stuck) = .ok r := h
    split at h
    · exact h
    · cases h

/-! ### stream = _law_stream(script) -/
def spStream (K : PySem.W.Frag) : Sp := fun vs H Q _ => ∃ (a : Addr) (ns : List Int), vs = [.ref a] ∧ SqL K H a (ns.map V.int) ∧ ∀ c p, H c = none → (upd H c (.lst (ns.map V.int))) p = none → Q (.ref p) (upd (upd H c (.lst (ns.map V.int))) p (.lst [.ref c, .int 0, .int 0, .int 19]))
def rListOf (K : PySem.W.Frag) : List V → Hp → VK → Prop := fun xs H Q => ∃ p ys, xs = [.ref p] ∧ (SqL K H p ys ∨ SqT K H p ys) ∧ ∀ l, H l = none → Q (.ref l) (upd H l (.lst ys))
def tStream (K : PySem.W.Frag) : TS := tRet (tLst (tCons (tCB (rListOf K) (tCons (tVar 0) tNil)) (tCons (tC (.int 0)) (tCons (tC (.int 0)) (tCons (tC (.int 19)) tNil)))))
theorem stream_sp {P : Program} {w : World} {K : PySem.W.Frag} {mg : Str → Option Value} {base : Heap} {n : Nat} {f : Addr} {fd : FuncData} {st : PySem.Stmt} (F : L2.Fun K "_law_stream" "_law_stream" st f fd) (S : FnScope ["script"] ["script"] (defScope st))
    (hb : ∀ (cdv : Value) (A : Around) (outer : List Env) (s : Shared) (H : Hp) (E : XK), Room n (A.deeper (envOfC "_law_stream" (defScope st) s.heap.objs.size f cdv)) →
      PSs (cxOf CX0 P w K mg base ["script"] "_law_stream" (defScope st) f cdv A outer s H E).nox (defBody st) (tStream K)) : FnOk P w K mg base CX0 (n + 1) f fd ["script"] (spStream K) := by
  refine F.ok S (fun vs H Q E h => ?_) fun cdv A outer s H vs Q E hr hs => ⟨_, hb cdv A outer s H E hr, ?_⟩
  · obtain ⟨a, ns, rfl, _⟩ := h
    rfl
  · obtain ⟨a, ns, rfl, hS, q⟩ := hs
    refine ⟨.ref a, rfl, a, ns.map V.int, rfl, .inl hS, fun c hc => ⟨by rw [sizeLine_eq]; exact (by decide : (4 : Nat) ≤ 16777216), fun p hp => q c p hc hp⟩⟩

/-- the law's promise -/
def spLawV (n : Nat) (K : PySem.W.Frag) : Sp := fun vs H Q _ => ∃ (a : Addr) (ns : List Int), vs = [.ref a] ∧ SqL K H a (ns.map V.int) ∧ ns.length ≤ n ∧ ∀ H', Q (.bl true) H'
/-- the slots behind the first line: slot i has the draws -/
def lawE (len i : Nat) : VEnv := (List.replicate len none).set i (some .strm)
theorem law_rel {H : Hp} {a c p : Addr} {N : List Str} {i : Nat} {ns : List Int} (hi : i < N.length) (hN : 0 < N.length) (hc : H c = none) (hp : (upd H c (.lst (ns.map V.int))) p = none) :
    SRel ⟨fun _ => False, fun _ => [], some (p, c)⟩ ((L2.start N [.ref a]).set i (some (.ref p))) (upd (upd H c (.lst (ns.map V.int))) p (.lst [.ref c, .int 0, .int 0, .int 19])) ⟨lawE N.length i, some ⟨ns, 0, 0, 19⟩⟩ := by
  have ne : p ≠ c := fun e => by rw [e, upd_same] at hp; cases hp
  refine ⟨?_, (fun j d h => ?_), (fun _ => List.nodup_nil), (fun _ _ _ h => by cases h), (fun _ _ h => by cases h), (fun _ _ h => by cases h), (fun _ h => h.elim), ⟨p, c, rfl, ne, upd_same, by rw [upd_ne (Ne.symm ne), upd_same]⟩, fun b _ => ⟨fun h => h, fun _ h => by cases h⟩⟩
  · show ((L2.start N [.ref a]).set i (some (.ref p))).length = (lawE N.length i).length
    unfold L2.start lawE
    rw [List.length_set, List.length_set, List.length_append, List.length_map, List.length_replicate, List.length_replicate]
    show 1 + (N.length - 1) = N.length
    omega
  · have h : (lawE N.length i)[j]? = some (some d) := h
    unfold lawE at h
    by_cases e : j = i
    · subst e
      rw [List.getElem?_set_self (by rw [List.length_replicate]; exact hi)] at h
      cases h
      refine ⟨.ref p, List.getElem?_set_self ?_, ⟨p, rfl, rfl⟩, rfl⟩
      unfold L2.start
      rw [List.length_append, List.length_map, List.length_replicate]
      show j < 1 + (N.length - 1)
      omega
    · rw [List.getElem?_set_ne (Ne.symm e), List.getElem?_replicate] at h
      split at h <;> cases h
/-- the law -/
theorem law_fn {M : Mdl} {T : Tb} {tab : List Ent} {W n L : Nat} (t : Table M T tab W) {f : Addr} {fd : FuncData} {st : PySem.Stmt} {N : List Str} {i : Nat} {b : VB} {s1 : PySem.Stmt} {rest : List PySem.Stmt} (F : L2.Fun M.K "law" "law" st f fd) (S : FnScope N ["script"] (defScope st)) (hi : i < N.length)
    (hb : defBody st = s1 :: rest)
    (h1 : ∀ (cdv : Value) (A : Around) (outer : List Env) (s : Shared) (H : Hp) (E : XK), Room n (A.deeper (envOfC "law" (defScope st) s.heap.objs.size f cdv)) →
      PS (cxOf CX0 M.P M.w M.K M.mg M.base N "law" (defScope st) f cdv A outer s H E) s1 (tAsg (tCall (spStream M.K) [] (fun _ _ _ => False) (tCons (tVar 0) tNil)) (gName i)))
    (hc : (chkB T b).B ⟨N, defScope st, fun _ => true⟩ rest = true)
    (hrun : ∀ ns : List Int, ns.length ≤ L → ∃ st', exec (callN tab W n) W b ⟨lawE N.length i, some ⟨ns, 0, 0, 19⟩⟩ = .ok (.rt (.bl true) st')) : FnG M.P M.w M.K M.mg M.base CX0 (n + 1) f fd ["script"] (spLawV L M.K) := by
  obtain ⟨oc, od, kV, doc, pm, an, cdv, ct, osl, rfl, lk, hcd⟩ := F.ex
  have hN : 0 < N.length := by omega
  refine fn_ofG lk hcd S (fun vs H Q E h => ?_) fun A outer s H vs Q E hgs hr hs => ?_
  · obtain ⟨a, ns, rfl, _⟩ := h
    rfl
  · obtain ⟨a, ns, rfl, hS, hl, q⟩ := hs
    have gd := good_at t (ent_ok t n) (E := E) (H := H) (outer := outer) S hgs hr
    rw [hb]
    refine ⟨_, pss_cons (h1 cdv A outer s H E hr) ((sb_all W b).B _ _ gd rest hc), ?_⟩
    obtain ⟨st', he⟩ := hrun ns hl
    have h0 : (L2.start N [V.ref a])[0]? = some (some (.ref a)) := rfl
    have key : spStream M.K [V.ref a] H (fun x H1 => gName i x (L2.start N [V.ref a]) H1 (tS (exec (callN tab W n) W b) { nx := fun _ H' => Q .non H', rt := Q })) (fun _ _ _ => False) := by
      refine ⟨a, ns, rfl, hS, fun c p hc' hp' => ?_⟩
      refine ⟨_, _, _, law_rel hi hN hc' hp', he, ?_⟩
      intro v H' w' fp _ _ _ rep _ _
      have := rep.1
      subst this
      exact q H'
    exact ⟨.ref a, h0, key⟩
end VL
end

/-! text: VKw -/
section
set_option autoImplicit false
/-! VKw: keywords; where the defs stand. -/
namespace VL
open PySem PySem.Spec PyProof.Rows L2

theorem vals_perm {vs : List V} {us : List Value} (r : Vals vs us) : ∀ perm : List Nat, Vals (perm.filterMap fun i => vs[i]?) (perm.filterMap fun i => us[i]?)
  | [] => .nil
  | i :: is => by
    rw [List.filterMap_cons, List.filterMap_cons]
    cases h : vs[i]? with
    | none =>
      rw [Vals.none_of r h]
      exact vals_perm r is
    | some v =>
      obtain ⟨u, hu, ru⟩ := r.get h
      rw [hu]
      exact .cons ru (vals_perm r is)
theorem kb_of {K : PySem.W.Frag} {fd : FuncData} {ps : List Str} {u : KwU} (hp : ps ≠ []) (h : ∀ us ws : List Value, us.length = u.np → ws.length = u.ks.length → bindArgs fd ⟨us, u.ks.zip ws⟩ = pure (ps.zip (u.perm.filterMap fun i => (us ++ ws)[i]?))) : KBinds K fd ps u.ks (gK u) (gKV u) where
  to := fun s us ws _ hl => by
    unfold gK at hl ⊢
    split at hl
    · rename_i c
      rw [if_pos c]
      exact .of_eq (h us ws c.1 c.2)
    · cases ps with
      | nil => exact absurd rfl hp
      | cons _ _ => cases hl
  rel := fun {vs us zs ws} r q => by
    unfold gK gKV
    rw [← r.length, ← q.length]
    split
    · exact vals_perm (r.append q) u.perm
    · exact .nil
theorem kw_none {T : Tb} {k : Nat} (h : T.kws.all (fun u => u.f != k) = true) {K : PySem.W.Frag} {fd : FuncData} {ps : List Str} : ∀ u ∈ T.kws, u.f = k → KBinds K fd ps u.ks (gK u) (gKV u) := fun u hu e => by
  have := List.all_eq_true.mp h u hu
  rw [e] at this
  simp at this
theorem kw_one {T : Tb} {k : Nat} {v : KwU} (h : T.kws.all (fun u => u.f != k || decide (u = v)) = true) {K : PySem.W.Frag} {fd : FuncData} {ps : List Str} (hv : KBinds K fd ps v.ks (gK v) (gKV v)) : ∀ u ∈ T.kws, u.f = k → KBinds K fd ps u.ks (gK u) (gKV u) := fun u hu e => by
  have := List.all_eq_true.mp h u hu
  rw [e] at this
  simp at this
  rw [this]
  exact hv
theorem fn_at {M : Mdl} {h : Heap} {x : Str} {f : Addr} (X : M.K.In h) (G : h.Ns mainGlobals M.mg) (a : PySem.W.nsIn M.K mainGlobals x = some (some (.ref f))) : M.mg x = some (.ref f) := PySem.W.mg_of X G a
end VL
end

/-! text: VEnd -/
section
set_option autoImplicit false
/-! VEnd: the law's call, from a promise that holds where no repr is under way. -/
namespace VL
open PySem PySem.Spec PyProof.Rows L2

/-- what the law's call comes to -/
def LawEnd (t0 : Shared) (r : Result) (t1 : Shared) : Prop := r = .ok (.ret (.bool true)) ∧ OldK t0.heap t1.heap ∧ t1.os = t0.os ∧ AllBare t1.gens
section
variable {P : Program} {w : World} {K : PySem.W.Frag} {mg mb : Str → Option Value} {CX : CXT} {k : Nat} {fa sc : Addr} {fd : FuncData} {x : Str} {sp : Sp} {t0 : Shared} {us : List Value} {ns : List Int}
theorem guards_caller : callerA.guards = some [] := rfl
/-- from an abstract heap that knows the script alone -/
theorem law_core (KX : K.In t0.heap) (gN : t0.heap.Ns mainGlobals mg) (bN : t0.heap.Ns builtinsNs mb) (bb : ∀ y : Str, y ≠ "__name__" → mb y = bootBuiltins y) (nl : t0.heap.NoLimit) (ge : t0.gens = #[])
    (sAt : t0.heap.get? sc = some { cls := .type "list", data := .seq us.toArray }) (hr : Room k callerA) (F : ∀ b : Heap, K.In b → b.Ns mainGlobals mg → FnG P w K mg b CX k fa fd [x] sp)
    (bnd : ∀ (t : Shared) (u : Value), BindsTo t fd ⟨[u], []⟩ [(x, u)]) (pr : ∀ H : Hp, Only H → SqL K H sc (ns.map V.int) → sp [.ref sc] H (fun v _ => v = .bl true) fun _ _ _ => False)
    (nX : ∀ H e t, CX [] H t0 (fun _ _ _ => False) e t → False) (H : Hp) (on : Only H) (sq : SqL K H sc (ns.map V.int)) (ok : HOk P w H t0.heap) (al : ∀ b, H b ≠ none → b = sc) (nk : H sc ≠ none → K.lookup sc = none) :
    codeAny (model P w) callerA (.call (.ref fa) ⟨[.ref sc], []⟩) (LawEnd t0) t0 := by
  have bare : ∀ {b : Addr} {o : Obj}, t0.heap.get? b = some o → H b = none → (hidT t0.heap H).get? b = some o := fun h1 h2 => hidT_get h1 h2
  have only : ∀ {b : Addr}, H b ≠ none → t0.heap.get? b = some { cls := .type "list", data := .seq us.toArray } := fun {b} h => by
    have := al b h
    subst this
    exact sAt
  have dict0 : ∀ {b : Addr} {o : Obj} {es : Array DictEntry} {ep : Nat}, t0.heap.get? b = some o → o.data = .dict es ep → H b = none := fun {b o es ep} h1 h2 => Classical.byContradiction fun h3 => by
    have h4 := only h3
    rw [h1] at h4
    cases h4
    cases h2
  have space : ∀ {b : Addr} {m : Str → Option Value}, t0.heap.Ns b m → (hidT t0.heap H).Ns b m := fun {b m} h => by
    obtain ⟨o, es, ep, h1, h2, h3⟩ := h
    exact ⟨o, es, ep, bare h1 (dict0 h1 h2), h2, h3⟩
  have kIn : K.In (hidT t0.heap H) := fun b o h => bare (KX b o h) (Classical.byContradiction fun h3 => by
    have h4 := al b h3
    subst h4
    rw [nk h3] at h
    cases h)
  obtain ⟨mc, l1, l2⟩ := nl
  have e0 : Env0 P w K mg (hidT t0.heap H) callerA [] t0 H := { frames := rfl, mod := ⟨kIn, space gN, ⟨mb, space bN, bb⟩, ⟨mc, space l1, l2⟩⟩, bs := fun b o h => of_hidT h, bsz := Nat.le_of_eq (hidT_size _ _), funs := trivial, frf := (fun b hb => by cases hb), hok := ok, bare := .of_eq ge }
  refine codeAny_mono ((F _ kIn (space gN)).run callerA guards_caller [] t0 H ⟨[.ref sc], []⟩ [.ref sc] [.ref sc] _ _ hr e0 (bnd t0 (.ref sc)) (.cons rfl .nil) (pr H on sq)) fun r t1 h => ?_
  match r, h with
  | .error e, h => exact (nX H e t1 h).elim
  | .ok .next, h => exact h.elim
  | .ok .brk, h => exact h.elim
  | .ok .cont, h => exact h.elim
  | .ok (.ret u), ⟨v, H', os, ba, un, ok', rv, ev⟩ =>
    have ev : v = .bl true := ev
    subst ev
    have eu : u = Value.bool true := rv
    subst eu
    refine ⟨rfl, OldK.of_keep fun b o h => ?_, os, ba⟩
    by_cases c : H b = none
    · exact un.keep b o h c (fun z => by cases z) (by simp)
    · rcases on b with z | ⟨ob, ys, z⟩
      · exact absurd z c
      · have f1 := (ok b _ z).1
        have f2 := (ok' b _ (un.frzs b ob _ z)).1
        rw [h] at f1
        cases f1
        exact f2
theorem law_callG (KX : K.In t0.heap) (gN : t0.heap.Ns mainGlobals mg) (bN : t0.heap.Ns builtinsNs mb) (bb : ∀ y : Str, y ≠ "__name__" → mb y = bootBuiltins y) (nl : t0.heap.NoLimit) (ge : t0.gens = #[])
    (sAt : t0.heap.get? sc = some { cls := .type "list", data := .seq us.toArray }) (hi : IntsAre us ns) (hl : ns.length ≤ sizeLine) (hr : Room k callerA) (F : ∀ b : Heap, K.In b → b.Ns mainGlobals mg → FnG P w K mg b CX k fa fd [x] sp)
    (bnd : ∀ (t : Shared) (u : Value), BindsTo t fd ⟨[u], []⟩ [(x, u)]) (pr : ∀ H : Hp, Only H → SqL K H sc (ns.map V.int) → sp [.ref sc] H (fun v _ => v = .bl true) fun _ _ _ => False)
    (nX : ∀ H e t, CX [] H t0 (fun _ _ _ => False) e t → False) : codeAny (model P w) callerA (.call (.ref fa) ⟨[.ref sc], []⟩) (LawEnd t0) t0 := by
  have rv := vals_ints hi
  have lenV := hi.length
  have go := law_core (us := us) (ns := ns) KX gN bN bb nl ge sAt hr F bnd pr nX
  by_cases hk : K.lookup sc = none
  · have at_ : ∀ b, b = sc → (if b = sc then some (HO.frz { cls := .type "list", data := .seq us.toArray } (.lst (ns.map V.int))) else none) = some (HO.frz { cls := .type "list", data := .seq us.toArray } (.lst (ns.map V.int))) := fun b h => if_pos h
    refine go (fun b => if b = sc then some (.frz { cls := .type "list", data := .seq us.toArray } (.lst (ns.map V.int))) else none) (fun b => ?_) (.inl (.inr ⟨_, if_pos rfl⟩)) (fun b u h => ?_) (fun b h => Classical.byContradiction fun c => h (if_neg c)) fun _ => hk
    · by_cases c : b = sc
      · exact .inr ⟨_, _, at_ b c⟩
      · exact .inl (if_neg c)
    · by_cases c : b = sc
      · cases (at_ b c).symm.trans h
        subst c
        exact ⟨sAt, by rw [List.length_map]; exact hl, us, _, rv, sAt⟩
      · cases (if_neg c).symm.trans h
  · obtain ⟨o, ho⟩ := Option.ne_none_iff_exists'.mp hk
    have eo := KX sc o ho
    rw [sAt] at eo
    cases eo
    exact go (fun _ => none) (fun _ => .inl rfl) (.inr ⟨_, us.toArray, _, ho, rfl, rfl, rfl, by rw [List.size_toArray, lenV]; exact hl, by simpa using rv⟩) (fun b u h => by cases h) (fun b h => absurd rfl h) fun h => absurd rfl h
end
theorem walk_ofG {l : PySem.W.OpenLaw} {n k : Nat} {q : Program} {loose : List Str} {XP : (Str → Option Value) → Heap → Prop} {YP : World → Heap → Prop} {d : DefRec} {K : Params → PySem.W.Frag} {CX : World → CXT} {sp : World → Sp} {x : Str}
    (hn : l.most = some n) (hz : n ≤ sizeLine) (hd : d.params.defaults = []) (hr : Room k callerA) (hY : ∀ (w : World) (h : Heap), YP w h → (K w.params).In h)
    (F : ∀ (w : World) (mg : Str → Option Value) (fa : Addr) (h : Heap), (K w.params).In h → h.Ns mainGlobals mg → mg d.name = some (.ref fa) → ∃ fd : FuncData, (∀ (t : Shared) (u : Value), BindsTo t fd ⟨[u], []⟩ [(x, u)]) ∧ ∀ b : Heap, (K w.params).In b → b.Ns mainGlobals mg → FnG l.prog w (K w.params) mg b (CX w) k fa fd [x] (sp w))
    (pr : ∀ (w : World) (H : Hp) (a : Addr) (ns : List Int), ns.length ≤ n → Only H → SqL (K w.params) H a (ns.map V.int) → sp w [.ref a] H (fun v _ => v = .bl true) fun _ _ _ => False)
    (nX : ∀ (w : World) (H : Hp) (s : Shared) (e : Value) (t : Shared), CX w [] H s (fun _ _ _ => False) e t → False) : PySem.W.WalkO q loose XP YP l.row.toRowW d [] (fun f vs => PySem.call f vs) := by
  refine Att.attach_call hn hd fun w s₀ t0 mg mb fa o pm cd doc a us ns G Y _ _ _ nm at_ hints hlen ge => ?_
  obtain ⟨fd, b1, b2⟩ := F w mg fa _ (hY w _ Y) G.T.g nm
  exact law_callG (hY w _ Y) G.T.g G.T.b G.T.builtins G.T.nolimit ge at_ hints (Nat.le_trans hlen hz) hr b2 b1 (fun H h1 h2 => pr w H a ns hlen h1 h2) fun H e t => nX w H t0 e t
end VL
end

/-! text: VRun -/
section
set_option autoImplicit false
/-! VRun: what a table's defs come to, by equations. -/
namespace VL
open L2

theorem callN_v {tab : List Ent} {W n f : Nat} {ds : List D} {st : Option Strm} {d : Def} (h : tab[f]? = some (.v d)) (hl : ds.length = d.np) : callN tab W (n + 1) f ds st = exec (callN tab W n) W d.body ⟨slots0 d.n ds, st⟩ >>= endOf := by
  show (match tab[f]? with | some e => entGo (callN tab W n) W e ds st | none => .stuck) = _
  rw [h]
  show (if ds.length = d.np then _ else _) = _
  rw [if_pos hl]
/-- a while that goes k times through the states S -/
theorem while_run {c : VS → Res (Bool × VS)} {b : VS → Res Fl} : ∀ (k : Nat) (S : Nat → VS) {n : Nat} {e : VS}, (∀ i, i < k → ∃ s', c (S i) = .ok (true, s') ∧ b s' = .ok (.nx (S (i + 1)))) → c (S k) = .ok (false, e) → k < n → whileGo c b n (S 0) = .ok (.nx e)
  | 0, S, n, e, _, he, hn => by
    cases n with
    | zero => omega
    | succ n =>
      unfold whileGo
      rw [he]
      rfl
  | k + 1, S, n, e, h, he, hn => by
    cases n with
    | zero => omega
    | succ n =>
      obtain ⟨s', h1, h2⟩ := h 0 (by omega)
      unfold whileGo
      rw [h1, ok_bind]
      show (b s' >>= _) = _
      rw [h2, ok_bind]
      exact while_run k (fun i => S (i + 1)) (fun i hi => h (i + 1) (by omega)) he (by omega)
/-- a for, by an invariant: it comes to its end -/
theorem for_run {bind : D → VS → Res VS} {b : VS → Res Fl} : ∀ (ds : List D) (P : Nat → VS → Prop) {s : VS}, P 0 s → (∀ i d s, ds[i]? = some d → P i s → ∃ s1 s2, bind d s = .ok s1 ∧ b s1 = .ok (.nx s2) ∧ P (i + 1) s2) → ∃ e, forGo bind b ds s = .ok (.nx e) ∧ P ds.length e
  | [], P, s, h0, _ => ⟨s, rfl, h0⟩
  | d :: ds, P, s, h0, h => by
    obtain ⟨s1, s2, h1, h2, h3⟩ := h 0 d s rfl h0
    obtain ⟨e, he, hp⟩ := for_run ds (fun i => P (i + 1)) h3 fun i d' s' hi hp => h (i + 1) d' s' hi hp
    refine ⟨e, ?_, hp⟩
    unfold forGo
    rw [h1, ok_bind, h2, ok_bind]
    exact he
theorem for_eq {bind : D → VS → Res VS} {b : VS → Res Fl} (ds : List D) (S : Nat → VS) (h : ∀ i d, ds[i]? = some d → ∃ s1, bind d (S i) = .ok s1 ∧ b s1 = .ok (.nx (S (i + 1)))) : forGo bind b ds (S 0) = .ok (.nx (S ds.length)) := by
  obtain ⟨e, h1, h2⟩ := for_run ds (fun i s => s = S i) rfl fun i d s hi hs => by
    obtain ⟨s1, h1, h2⟩ := h i d hi
    subst hs
    exact ⟨s1, _, h1, h2, rfl⟩
  rw [h1, h2]
/-- a comprehension over things, one value each -/
theorem comp_run {bind : D → VS → Res VS} {t : VS → Res (Bool × VS)} {elt : VS → Res (D × VS)} : ∀ (ds : List D) (ys : List D) (S : Nat → VS), ys.length = ds.length → (∀ i d y, ds[i]? = some d → ys[i]? = some y → ∃ s1 s2, bind d (S i) = .ok s1 ∧ t s1 = .ok (true, s2) ∧ elt s2 = .ok (y, S (i + 1))) → compGo bind t elt ds (S 0) = .ok (ys, S ds.length)
  | [], [], S, _, _ => rfl
  | d :: ds, y :: ys, S, hl, h => by
    obtain ⟨s1, s2, h1, h2, h3⟩ := h 0 d y rfl rfl
    have := comp_run ds ys (fun i => S (i + 1)) (by simpa using hl) fun i d' y' hi hy => h (i + 1) d' y' hi hy
    unfold compGo
    rw [h1, ok_bind, h2, ok_bind]
    show (elt s2 >>= _) = _
    rw [h3, ok_bind, this]
    rfl
  | [], _ :: _, _, h, _ => by cases h
  | _ :: _, [], _, h, _ => by cases h

/-! ### dicts -/
theorem putK_new {α : Type} {k : Key} {x : α} : ∀ {ks : List Key} {vs : List α}, ks.length = vs.length → (ks.any fun k' => decide (k' = k)) = false → putK k x ks vs = (ks ++ [k], vs ++ [x])
  | [], [], _, _ => rfl
  | k' :: ks, v' :: vs, h, hn => by
    rw [List.any_cons, Bool.or_eq_false_iff] at hn
    unfold putK
    rw [if_neg (of_decide_eq_false hn.1), putK_new (by simpa using h) hn.2]
    rfl
  | [], _ :: _, h, _ => by cases h
  | _ :: _, [], h, _ => by cases h
theorem cntK_new {k : Key} : ∀ {ks : List Key}, (ks.any fun k' => decide (k' = k)) = false → cntK k ks = 0
  | [], _ => rfl
  | k' :: ks, hn => by
    rw [List.any_cons, Bool.or_eq_false_iff] at hn
    unfold cntK
    rw [if_neg (of_decide_eq_false hn.1), cntK_new hn.2]
theorem look_at {k : Key} {x : D} : ∀ {ks : List Key} {vs : List D} {i : Nat}, ks[i]? = some k → (∀ j, j < i → ks[j]? ≠ some k) → vs[i]? = some x → look k ks vs = some x
  | [], vs, i, h, _, _ => by cases h
  | k' :: ks, [], i, _, _, h => by cases h
  | k' :: ks, v :: vs, 0, h, _, hx => by
    unfold look
    cases h
    rw [if_pos rfl]
    exact hx
  | k' :: ks, v :: vs, i + 1, h, hj, hx => by
    have n : k' ≠ k := fun e => hj 0 (Nat.succ_pos i) (by rw [e]; rfl)
    unfold look
    rw [if_neg n]
    exact look_at (i := i) (by simpa using h) (fun j hlt => by simpa using hj (j + 1) (Nat.succ_lt_succ hlt)) (by simpa using hx)
theorem mas_flat (f : Tag → Tag) : ∀ (ds : List D), (∀ d ∈ ds, flatD d = true) → D.mas f ds = ds
  | [], _ => rfl
  | d :: ds, h => by
    rw [D.mas, mas_flat f ds fun x hx => h x (List.mem_cons_of_mem _ hx)]
    have := h d List.mem_cons_self
    cases d <;> first | rfl | cases this

/-! ### draws -/
structure SOk (B : Int) (st : Strm) : Prop where
  c0 : 0 ≤ st.cnt
  c1 : st.cnt ≤ B
  m0 : 0 ≤ st.mix
  m1 : st.mix < 2147483629
theorem SOk.up {B C : Int} {st : Strm} (h : SOk B st) (hb : B ≤ C) : SOk C st := ⟨h.c0, Int.le_trans h.c1 hb, h.m0, h.m1⟩
theorem feed_mix : ∀ (cells : List Int) (cur mix : Int), 0 ≤ mix → mix < 2147483629 → 0 ≤ (feed cells cur mix).2.2 ∧ (feed cells cur mix).2.2 < 2147483629
  | [], cur, mix, h1, h2 => ⟨h1, h2⟩
  | x :: xs, cur, mix, h1, h2 => by
    rw [feed_cons]
    split
    · exact feed_mix xs _ _ (Int.emod_nonneg _ (by decide)) (Int.emod_lt_of_pos _ (by decide))
    · exact ⟨h1, h2⟩
theorem pow64_of {i : Int} (h : 0 ≤ i) (h2 : i < 18446744073709551616) : pow64 i = true := decide_eq_true (by
  have : (2 : Nat) ^ 64 = 18446744073709551616 := by decide
  omega)
theorem draw_run {B m : Int} {st : Strm} (h : SOk B st) (hB : B ≤ 1099511627776) (hm : 0 < m) (hm2 : m < 2 ^ 64) : ∃ r st', drawV [.strm, .int m] (some st) = .ok (.int r, some st') ∧ 0 ≤ r ∧ r < m ∧ SOk (B + 1) st' := by
  obtain ⟨f0, f1⟩ := feed_mix st.cells st.cur st.mix h.m0 h.m1
  have c0 := h.c0
  have c1 := h.c1
  unfold drawV
  simp only
  rw [if_pos ⟨hm, hm2⟩]
  by_cases hc : 0 < (feed st.cells st.cur st.mix).2.1
  · rw [if_pos hc]
    exact ⟨_, _, rfl, Int.emod_nonneg _ (by omega), Int.emod_lt_of_pos _ hm, by show 0 ≤ st.cnt + 1; omega, by show st.cnt + 1 ≤ B + 1; omega, f0, f1⟩
  · rw [if_neg hc]
    have g1 : pow64 ((feed st.cells st.cur st.mix).2.2 + 8191 * (st.cnt + 1) + 50021) = true := pow64_of (by omega) (by omega)
    have x0 : 0 ≤ mixed (st.cnt + 1) (feed st.cells st.cur st.mix).2.2 := Int.emod_nonneg _ (by decide)
    have x1 : mixed (st.cnt + 1) (feed st.cells st.cur st.mix).2.2 < 2147483587 := Int.emod_lt_of_pos _ (by decide)
    have g2 : pow64 (mixed (st.cnt + 1) (feed st.cells st.cur st.mix).2.2 * 40009 + 20011 * (st.cnt + 1) + 31) = true := pow64_of (by omega) (by omega)
    rw [g1, g2]
    exact ⟨_, _, rfl, Int.emod_nonneg _ (by omega), Int.emod_lt_of_pos _ hm, by show 0 ≤ st.cnt + 1; omega, by show st.cnt + 1 ≤ B + 1; omega, f0, f1⟩
theorem draw_call {tab : List Ent} {W n k : Nat} (hk : tab[k]? = some (.own 2 drawV)) {B m : Int} {st : Strm} (h : SOk B st) (hB : B ≤ 1099511627776) (hm : 0 < m) (hm2 : m < 2 ^ 64) : ∃ r st', callN tab W (n + 1) k [.strm, .int m] (some st) = .ok (.int r, some st') ∧ 0 ≤ r ∧ r < m ∧ SOk (B + 1) st' := by
  obtain ⟨r, st', h1, h2⟩ := draw_run h hB hm hm2
  refine ⟨r, st', ?_, h2⟩
  show (match tab[k]? with | some e => entGo (callN tab W n) W e _ _ | none => .stuck) = _
  rw [hk]
  exact h1
end VL
end

/-! text: VSim -/
section
set_option autoImplicit false
/-! VSim: what a text comes to, by simp. -/
namespace VL
open L2

/-- so that simp leaves what is wanted as it stands -/
inductive Dep {α : Type} (Q : α → Prop) : Type where
  | it | no
def Run {α : Type} (x : Res α) (Q : α → Prop) (_ : Dep Q := Dep.it) : Prop := ∃ a, x = .ok a ∧ Q a
section
variable {α β : Type}
@[simp ↓] theorem run_ok {a : α} {Q : α → Prop} : Run (.ok a) Q ↔ Q a := ⟨fun ⟨_, e, h⟩ => by cases e; exact h, fun h => ⟨a, rfl, h⟩⟩
@[simp ↓] theorem run_stuck {Q : α → Prop} : Run (.stuck : Res α) Q ↔ False := ⟨fun ⟨_, h⟩ => (by cases h.1), fun h => h.elim⟩
@[simp ↓] theorem run_bind {x : Res α} {f : α → Res β} {Q : β → Prop} : Run (x >>= f) Q ↔ Run x fun a => Run (f a) Q :=
  ⟨fun ⟨b, e, h⟩ => by obtain ⟨a, e1, e2⟩ := bind_ok e; exact ⟨a, e1, b, e2, h⟩, fun ⟨a, e, b, e2, h⟩ => ⟨b, by rw [e, ok_bind, e2], h⟩⟩
@[simp ↓] theorem run_ite {c : Prop} [Decidable c] {x y : Res α} {Q : α → Prop} : Run (if c then x else y) Q ↔ if c then Run x Q else Run y Q := by split <;> rfl
@[simp ↓] theorem run_guard {b : Bool} {a : α} {Q : α → Prop} : Run (guardR b a) Q ↔ b = true ∧ Q a := by
  cases b with
  | true => exact ⟨fun h => ⟨rfl, run_ok.mp h⟩, fun h => run_ok.mpr h.2⟩
  | false => exact ⟨fun h => (run_stuck.mp h).elim, fun h => by cases h.1⟩
theorem ex_bind {x : Res α} {f : α → Res β} {Q : β → Prop} : (∃ b, (x >>= f) = .ok b ∧ Q b) ↔ ∃ a, x = .ok a ∧ ∃ b, f a = .ok b ∧ Q b := run_bind
theorem ex_ok {a : α} {Q : α → Prop} : (∃ b, Res.ok a = .ok b ∧ Q b) ↔ Q a := run_ok
theorem ex_guard {b : Bool} {a : α} {Q : α → Prop} : (∃ c, guardR b a = .ok c ∧ Q c) ↔ b = true ∧ Q a := run_guard
theorem Run.mono {x : Res α} {Q R : α → Prop} (h : Run x Q) (i : ∀ a, Q a → R a) : Run x R := let ⟨a, e, q⟩ := h; ⟨a, e, i a q⟩
theorem Run.eq {x : Res α} {a : α} (h : Run x fun b => b = a) : x = .ok a := by obtain ⟨b, e, rfl⟩ := h; exact e
theorem run_of {x : Res α} {a : α} {Q : α → Prop} (h : x = .ok a) (q : Q a) : Run x Q := ⟨a, h, q⟩
theorem and_t {p : Prop} : (true = true ∧ p) ↔ p := ⟨fun h => h.2, fun h => ⟨rfl, h⟩⟩
end

/-! ### texts of expressions -/
section
variable {Φ : Calls} {s : VS}
variable {Q : D × VS → Prop} {QL : List D × VS → Prop} {QB : Bool × VS → Prop} {QP : Option Int × VS → Prop} {QI : (List D × List D) × VS → Prop}
@[simp] theorem ev_name {i : Nat} : ev Φ (.name i) = .of (nameM i) := rfl
@[simp] theorem ev_non : ev Φ .non = .of fun s => .ok (.non, s) := rfl
@[simp] theorem ev_bl {b : Bool} : ev Φ (.bl b) = .of fun s => .ok (.bl b, s) := rfl
@[simp] theorem ev_int {i : Int} : ev Φ (.int i) = .of fun s => .ok (.int i, s) := rfl
@[simp] theorem ev_str {x : PySem.Str} : ev Φ (.str x) = .of fun s => .ok (.str x, s) := rfl
@[simp] theorem ev_bin {op : Op} {a b : VE} : ev Φ (.bin op a b) = .of (binM op (ev Φ a).E (ev Φ b).E) := rfl
@[simp] theorem ev_neg {a : VE} : ev Φ (.neg a) = .of (negM (ev Φ a).E) := rfl
@[simp] theorem ev_not {t : VE} : ev Φ (.not_ t) = .ofT (notT (ev Φ t).T) (eOfT (notT (blOnly (ev Φ t).E))) := rfl
@[simp] theorem ev_and {a b : VE} : ev Φ (.and_ a b) = .ofT (andT (ev Φ a).T (ev Φ b).T) (eOfT (andT (blOnly (ev Φ a).E) (blOnly (ev Φ b).E))) := rfl
@[simp] theorem ev_or {a b : VE} : ev Φ (.or_ a b) = .ofT (orT (ev Φ a).T (ev Φ b).T) (eOfT (orT (blOnly (ev Φ a).E) (blOnly (ev Φ b).E))) := rfl
@[simp] theorem ev_emp {own : List Nat} {i : Nat} : ev Φ (.emp own i) = .of (empM i) := rfl
@[simp] theorem empM_eq {i : Nat} {ρ : VEnv} {st : Option Strm} : empM i ⟨ρ, st⟩ = (match ρ[i]? with | some (some (.dk _ [] [])) => .ok (.lst .own [], ⟨ρ, st⟩) | _ => .stuck) := rfl
@[simp] theorem ev_chain {k k' : Cm} {a b c : VE} : ev Φ (.chain k k' a b c) = .of (chainM k k' (ev Φ a).E (ev Φ b).E (ev Φ c).E) := rfl
@[simp] theorem ev_cmp {c : Cm} {a b : VE} : ev Φ (.cmp c a b) = .of (cmpM c (ev Φ a).E (ev Φ b).E) := rfl
@[simp] theorem ev_ife {t a b : VE} : ev Φ (.ife t a b) = .of (ifeM (ev Φ t).T (ev Φ a).E (ev Φ b).E) := rfl
@[simp] theorem ev_nil : ev Φ .nil = ⟨fun _ => .stuck, fun s => .ok ([], s), fun _ => .stuck, fun s => .ok (none, s), fun s => .ok (true, s), fun _ => .stuck⟩ := rfl
@[simp] theorem ev_cons {a as : VE} : ev Φ (.cons a as) = .ofL (consM (ev Φ a).E (ev Φ as).L) := rfl
@[simp] theorem ev_star {a as : VE} : ev Φ (.star a as) = .ofL (starM (ev Φ a).E (ev Φ as).L) := rfl
@[simp] theorem ev_lst {as : VE} : ev Φ (.lst as) = .of (lstM (ev Φ as).L) := rfl
@[simp] theorem ev_tup {as : VE} : ev Φ (.tup as) = .of (tupM (ev Φ as).L) := rfl
@[simp] theorem ev_dnew : ev Φ .dnew = .of fun s => .ok (.dk .own [] [], s) := rfl
@[simp] theorem ev_ix {a i : VE} : ev Φ (.ix a i) = .of (ixM (ev Φ a).E (ev Φ i).E) := rfl
@[simp] theorem ev_sl {a lo hi : VE} : ev Φ (.sl a lo hi) = .of (slM (ev Φ a).E (ev Φ lo).P (ev Φ hi).P) := rfl
@[simp] theorem ev_rev {a : VE} : ev Φ (.rev a) = .of (revM (ev Φ a).E) := rfl
@[simp] theorem ev_comp {own : List Nat} {g : VG} {it ifs elt : VE} : ev Φ (.comp own g it ifs elt) = .of (compM own g (ev Φ it).I (ev Φ ifs).F (ev Φ elt).E) := rfl
@[simp] theorem ev_call {f : Nat} {as : VE} : ev Φ (.call f as) = .of (callM Φ f (ev Φ as).L) := rfl
@[simp] theorem ev_callK {f np : Nat} {as ks : VE} {names : List PySem.Str} {perm : List Nat} : ev Φ (.callK f as ks np names perm) = .of (callKM Φ f np names.length (ev Φ as).L (ev Φ ks).L perm) := rfl
@[simp] theorem ev_bi {b : Bi} {as : VE} : ev Φ (.bi b as) = .of (biM b (ev Φ as).L) := rfl
@[simp] theorem ev_isi {a : VE} {ts : List Ty} : ev Φ (.isi a ts) = .of (isiM (ev Φ a).E ts) := rfl
@[simp] theorem ev_rng1 {a : VE} : ev Φ (.rng1 a) = .ofI (rng1M (ev Φ a).E) := rfl
@[simp] theorem ev_rng2 {a b : VE} : ev Φ (.rng2 a b) = .ofI (rng2M (ev Φ a).E (ev Φ b).E) := rfl
@[simp] theorem ev_zip {a b : VE} : ev Φ (.zip a b) = .ofI (zipM (ev Φ a).E (ev Φ b).E) := rfl
@[simp] theorem ev_enum {a : VE} : ev Φ (.enum a) = .ofI (enumM (ev Φ a).E) := rfl
@[simp] theorem ev_keys {a : VE} : ev Φ (.keys a) = .ofI (keysM (ev Φ a).E) := rfl
section
variable {E : VS → Res (D × VS)} {Tt : VS → Res (Bool × VS)} {L : VS → Res (List D × VS)} {I : VS → Res ((List D × List D) × VS)}
@[simp] theorem of_E : (Modes.of E).E = E := rfl
@[simp] theorem of_T : (Modes.of E).T = tOf E := rfl
@[simp] theorem of_P : (Modes.of E).P = pOf E := rfl
@[simp] theorem of_F : (Modes.of E).F = tOf E := rfl
@[simp] theorem of_I : (Modes.of E).I = iOf E := rfl
@[simp] theorem ofT_E : (Modes.ofT Tt E).E = E := rfl
@[simp] theorem ofT_T : (Modes.ofT Tt E).T = Tt := rfl
@[simp] theorem ofT_P : (Modes.ofT Tt E).P = pOf E := rfl
@[simp] theorem ofT_F : (Modes.ofT Tt E).F = Tt := rfl
@[simp] theorem ofL_L : (Modes.ofL L).L = L := rfl
@[simp] theorem ofI_I : (Modes.ofI I).I = I := rfl
end
variable {E E2 E3 : VS → Res (D × VS)} {Tt T2 : VS → Res (Bool × VS)} {L L2 : VS → Res (List D × VS)} {I : VS → Res ((List D × List D) × VS)} {P P2 : VS → Res (Option Int × VS)}
@[simp ↓] theorem run_tOf : Run (tOf E s) QB ↔ Run (E s) fun x => Run (truD x.1) fun b => QB (b, x.2) := by unfold tOf; simp only [Run, ex_bind, ex_ok]
@[simp ↓] theorem run_pOf : Run (pOf E s) QP ↔ Run (E s) fun x => Run (match x.1 with | .int i => Res.ok (some i, x.2) | _ => .stuck) QP := by unfold pOf; rw [run_bind] <;> exact Iff.rfl
@[simp ↓] theorem run_iOf : Run (iOf E s) QI ↔ Run (E s) fun x => Run (seqD x.1) fun xs => QI ((xs, [x.1]), x.2) := by unfold iOf; simp only [Run, ex_bind, ex_ok]
@[simp ↓] theorem run_notT : Run (notT Tt s) QB ↔ Run (Tt s) fun b => QB (!b.1, b.2) := by unfold notT; simp only [Run, ex_bind, ex_ok]
@[simp ↓] theorem run_andT : Run (andT Tt T2 s) QB ↔ Run (Tt s) fun x => Run (if x.1 then T2 x.2 else .ok (false, x.2)) QB := by unfold andT; rw [run_bind]
@[simp ↓] theorem run_orT : Run (orT Tt T2 s) QB ↔ Run (Tt s) fun x => Run (if x.1 then .ok (true, x.2) else T2 x.2) QB := by unfold orT; rw [run_bind]
@[simp ↓] theorem run_eOfT : Run (eOfT Tt s) Q ↔ Run (Tt s) fun b => Q (.bl b.1, b.2) := by unfold eOfT; simp only [Run, ex_bind, ex_ok]
@[simp ↓] theorem run_blOnly : Run (blOnly E s) QB ↔ Run (E s) fun x => Run (match x.1 with | .bl b => Res.ok (b, x.2) | _ => .stuck) QB := by unfold blOnly; rw [run_bind] <;> exact Iff.rfl
@[simp ↓] theorem run_binM {op : Op} : Run (binM op E E2 s) Q ↔ Run (E s) fun x => Run (E2 x.2) fun y => Run (binD op x.1 y.1) fun d => Q (d, y.2) := by unfold binM; simp only [Run, ex_bind, ex_ok]
@[simp ↓] theorem run_chainM {k k' : Cm} {E3 : VS → Res (D × VS)} : Run (chainM k k' E E2 E3 s) Q ↔ Run (E s) fun x => Run (E2 x.2) fun y => Run (cmpD k x.1 y.1) fun d => if d = true then Run (E3 y.2) fun z => Run (cmpD k' y.1 z.1) fun d' => Q (.bl d', z.2) else Q (.bl false, y.2) := by
  unfold chainM
  rw [run_bind]
  have e : ∀ (x y : D × VS) (d : Bool), Run (if d = true then E3 y.2 >>= fun z => cmpD k' y.1 z.1 >>= fun d' => Res.ok (D.bl d', z.2) else .ok (.bl false, y.2)) Q ↔ (if d = true then Run (E3 y.2) fun z => Run (cmpD k' y.1 z.1) fun d' => Q (.bl d', z.2) else Q (.bl false, y.2)) := by
    intro x y d
    cases d with
    | false => exact run_ok
    | true => simp only [Run, ex_bind, ex_ok, if_true]
  exact ⟨fun h => h.mono fun x hx => (run_bind.mp hx).mono fun y hy => (run_bind.mp hy).mono fun d hd => (e x y d).mp hd, fun h => h.mono fun x hx => run_bind.mpr (hx.mono fun y hy => run_bind.mpr (hy.mono fun d hd => (e x y d).mpr hd))⟩
@[simp ↓] theorem run_cmpM {c : Cm} : Run (cmpM c E E2 s) Q ↔ Run (E s) fun x => Run (E2 x.2) fun y => Run (cmpD c x.1 y.1) fun d => Q (.bl d, y.2) := by unfold cmpM; simp only [Run, ex_bind, ex_ok]
@[simp] theorem nameM_eq {i : Nat} {ρ : VEnv} {st : Option Strm} : nameM i ⟨ρ, st⟩ = (match ρ[i]? with | some (some d) => .ok (d.rd i, ⟨ρ, st⟩) | _ => .stuck) := rfl
@[simp ↓] theorem run_negM : Run (negM E s) Q ↔ Run (E s) fun x => Run (match x.1 with | .int i => Res.ok (.int (-i), x.2) | _ => .stuck) Q := by unfold negM; rw [run_bind] <;> exact Iff.rfl
@[simp ↓] theorem run_ifeM : Run (ifeM Tt E E2 s) Q ↔ Run (Tt s) fun x => Run (if x.1 then E x.2 else E2 x.2) Q := by unfold ifeM; rw [run_bind]
@[simp ↓] theorem run_lstM : Run (lstM L s) Q ↔ Run (L s) fun x => decide (x.1.length ≤ maxLen) = true ∧ Q (.lst .own x.1, x.2) := by unfold lstM; simp only [Run, ex_bind, ex_guard]
@[simp ↓] theorem run_tupM : Run (tupM L s) Q ↔ Run (L s) fun x => decide (x.1.length ≤ maxLen) = true ∧ Q (.tup x.1, x.2) := by unfold tupM; simp only [Run, ex_bind, ex_guard]
@[simp ↓] theorem run_ixM : Run (ixM E E2 s) Q ↔ Run (E s) fun x => Run (E2 x.2) fun y => Run (ixD x.1 y.1) fun d => Q (d, y.2) := by unfold ixM; simp only [Run, ex_bind, ex_ok]
@[simp ↓] theorem run_slM : Run (slM E P P2 s) Q ↔ Run (E s) fun x => Run (P x.2) fun l => Run (P2 l.2) fun h => Run (slD x.1 l.1 h.1) fun d => Q (d, h.2) := by unfold slM; simp only [Run, ex_bind, ex_ok]
@[simp ↓] theorem run_revM : Run (revM E s) Q ↔ Run (E s) fun x => Run (revD x.1) fun d => Q (d, x.2) := by unfold revM; simp only [Run, ex_bind, ex_ok]
@[simp ↓] theorem run_callM {f : Nat} : Run (callM Φ f L s) Q ↔ Run (L s) fun x => Run (callF Φ f x.1 x.1 x.2) Q := by unfold callM; simp only [Run, ex_bind, ex_ok]
@[simp ↓] theorem run_callF {f : Nat} {all ds : List D} : Run (callF Φ f all ds s) Q ↔ Run (Φ f (D.mas (fun _ => .fz) ds) s.st) fun r => Q (r.1, ⟨if r.1.any Tag.isFz then settle all s.ρ else s.ρ, r.2⟩) := by unfold callF; simp only [Run, ex_bind, ex_ok]
@[simp ↓] theorem run_callKM {f np nk : Nat} {perm : List Nat} : Run (callKM Φ f np nk L L2 perm s) Q ↔ Run (L s) fun x => Run (L2 x.2) fun y => Run (if x.1.length = np ∧ y.1.length = nk then (match permL (x.1 ++ y.1) perm with
    | some ds => callF Φ f (x.1 ++ y.1) ds y.2
    | none => .stuck) else .stuck) Q := by unfold callKM; simp only [Run, ex_bind, ex_ok] <;> exact Iff.rfl
@[simp ↓] theorem run_biM {b : Bi} : Run (biM b L s) Q ↔ Run (L s) fun x => Run (biD b x.1) fun d => Q (d, x.2) := by unfold biM; simp only [Run, ex_bind, ex_ok]
@[simp ↓] theorem run_isiM {ts : List Ty} : Run (isiM E ts s) Q ↔ Run (E s) fun x => Run (tysD x.1 ts) fun b => Q (.bl b, x.2) := by unfold isiM; simp only [Run, ex_bind, ex_ok]
@[simp ↓] theorem run_consM : Run (consM E L s) QL ↔ Run (E s) fun x => Run (L x.2) fun y => QL (x.1 :: y.1, y.2) := by unfold consM; simp only [Run, ex_bind, ex_ok]
@[simp ↓] theorem run_starM : Run (starM E L s) QL ↔ Run (E s) fun x => Run (seqD x.1) fun xs => Run (L x.2) fun y => QL (xs ++ y.1, y.2) := by unfold starM; simp only [Run, ex_bind, ex_ok]
@[simp ↓] theorem run_rng1M : Run (rng1M E s) QI ↔ Run (E s) fun x => Run (rngD (.int 0) x.1) fun ds => QI ((ds, []), x.2) := by unfold rng1M; simp only [Run, ex_bind, ex_ok]
@[simp ↓] theorem run_rng2M : Run (rng2M E E2 s) QI ↔ Run (E s) fun x => Run (E2 x.2) fun y => Run (rngD x.1 y.1) fun ds => QI ((ds, []), y.2) := by unfold rng2M; simp only [Run, ex_bind, ex_ok]
@[simp ↓] theorem run_zipM : Run (zipM E E2 s) QI ↔ Run (E s) fun x => Run (E2 x.2) fun y => Run (seq2 x.1 y.1) fun z => QI ((zipD z.1 z.2, [x.1, y.1]), y.2) := by unfold zipM; simp only [Run, ex_bind, ex_ok]
@[simp ↓] theorem run_enumM : Run (enumM E s) QI ↔ Run (E s) fun x => Run (seqD x.1) fun xs => QI ((enumD 0 xs, [x.1]), x.2) := by unfold enumM; simp only [Run, ex_bind, ex_ok]
@[simp ↓] theorem run_keysM : Run (keysM E s) QI ↔ Run (E s) fun x => Run (match x.1 with | .dk .own ks vs => Res.ok ((ks.map keyD, [x.1]), x.2) | _ => .stuck) QI := by unfold keysM; rw [run_bind] <;> exact Iff.rfl
@[simp ↓] theorem run_compM {own : List Nat} {g : VG} : Run (compM own g I Tt E s) Q ↔ Run (I s) fun x => parked x.2.ρ own = true ∧
    Run (compGo (fun d s => asgG g d (wipeV s.ρ own) >>= fun ρ => .ok ⟨ρ, s.st⟩) Tt (fun s => E s >>= fun y => .ok (y.1.ma Tag.un, ⟨settle [y.1] y.2.ρ, y.2.st⟩)) (D.mas (fun _ => .fz) x.1.1) ⟨settle x.1.1 x.2.ρ, x.2.st⟩)
      fun r => decide (r.1.length ≤ maxLen) = true ∧ Q (.lst .own r.1, ⟨backV x.2.ρ r.2.ρ own, r.2.st⟩) := by
  unfold compM
  rw [run_bind]
  have e : ∀ x : (List D × List D) × VS, Run (if parked x.2.ρ own then
    compGo (fun d s => asgG g d (wipeV s.ρ own) >>= fun ρ => .ok ⟨ρ, s.st⟩) Tt (fun s => E s >>= fun y => .ok (y.1.ma Tag.un, ⟨settle [y.1] y.2.ρ, y.2.st⟩)) (D.mas (fun _ => .fz) x.1.1)
      ⟨settle x.1.1 x.2.ρ, x.2.st⟩ >>= fun r => guardR (decide (r.1.length ≤ maxLen)) ((.lst .own r.1, ⟨backV x.2.ρ r.2.ρ own, r.2.st⟩) : D × VS)
  else .stuck) Q ↔ (parked x.2.ρ own = true ∧ Run (compGo (fun d s => asgG g d (wipeV s.ρ own) >>= fun ρ => .ok ⟨ρ, s.st⟩) Tt (fun s => E s >>= fun y => .ok (y.1.ma Tag.un, ⟨settle [y.1] y.2.ρ, y.2.st⟩)) (D.mas (fun _ => .fz) x.1.1) ⟨settle x.1.1 x.2.ρ, x.2.st⟩)
      fun r => decide (r.1.length ≤ maxLen) = true ∧ Q (.lst .own r.1, ⟨backV x.2.ρ r.2.ρ own, r.2.st⟩)) := fun x => by
    rw [run_ite, run_stuck, run_bind]
    have : (fun a : List D × VS => Run (guardR (decide (a.1.length ≤ maxLen)) ((.lst .own a.1, ⟨backV x.2.ρ a.2.ρ own, a.2.st⟩) : D × VS)) Q) = fun r => decide (r.1.length ≤ maxLen) = true ∧ Q (.lst .own r.1, ⟨backV x.2.ρ r.2.ρ own, r.2.st⟩) := funext fun a => propext run_guard
    rw [this]
    exact ⟨fun h => by split at h; exact ⟨by assumption, h⟩; exact h.elim, fun h => by rw [if_pos h.1]; exact h.2⟩
  exact ⟨fun h => h.mono fun x hx => (e x).mp hx, fun h => h.mono fun x hx => (e x).mpr hx⟩

/-! ### texts of statements -/
variable {W : Nat} {QF : Fl → Prop} {B B2 : VS → Res Fl}
@[simp ↓] theorem run_seq {a b : VB} : Run (exec Φ W (.seq a b) s) QF ↔ Run (exec Φ W a s) fun r => Run (match r with | .nx s => exec Φ W b s | r => .ok r) QF := by rw [exec]; unfold seqM; rw [run_bind] <;> exact Iff.rfl
@[simp ↓] theorem run_pass : Run (exec Φ W .pass s) QF ↔ QF (.nx s) := by rw [exec]; exact run_ok
@[simp ↓] theorem run_doc : Run (exec Φ W .doc s) QF ↔ QF (.nx s) := by rw [exec]; exact run_ok
@[simp ↓] theorem run_cont : Run (exec Φ W .cont s) QF ↔ QF (.ct s) := by rw [exec]; exact run_ok
@[simp ↓] theorem run_retN : Run (exec Φ W .retN s) QF ↔ QF (.rt .non s.st) := by rw [exec]; exact run_ok
@[simp ↓] theorem run_asg {g : VG} {e : VE} : Run (exec Φ W (.asg g e) s) QF ↔ Run ((ev Φ e).E s) fun x => Run (asgG g (x.1.ma Tag.un) (settle [x.1] x.2.ρ)) fun ρ => QF (.nx ⟨ρ, x.2.st⟩) := by rw [exec]; unfold asgM storeG; simp only [Run, ex_bind, ex_ok]
@[simp ↓] theorem run_if {c : VE} {a b : VB} : Run (exec Φ W (.if_ c a b) s) QF ↔ Run ((ev Φ c).T s) fun x => Run (if x.1 then exec Φ W a x.2 else exec Φ W b x.2) QF := by rw [exec]; unfold ifM; rw [run_bind]
@[simp ↓] theorem run_for {g : VG} {it : VE} {b : VB} : Run (exec Φ W (.for_ g it b) s) QF ↔ Run ((ev Φ it).I s) fun x => Run (forGo (fun d s => asgG g d s.ρ >>= fun ρ => .ok ⟨ρ, s.st⟩) (exec Φ W b) (D.mas (fun _ => .fz) x.1.1) ⟨settle (x.1.2 ++ x.1.1) x.2.ρ, x.2.st⟩) QF := by rw [exec]; unfold forM; rw [run_bind]
@[simp ↓] theorem run_while {c : VE} {b : VB} : Run (exec Φ W (.while_ c b) s) QF ↔ Run (whileGo (ev Φ c).T (exec Φ W b) W s) QF := by rw [exec]
@[simp ↓] theorem run_ret {e : VE} : Run (exec Φ W (.ret e) s) QF ↔ Run ((ev Φ e).E s) fun x => QF (.rt (outD x.1 x.2.ρ) x.2.st) := by rw [exec]; unfold retM; simp only [Run, ex_bind, ex_ok]
@[simp ↓] theorem run_retC {c : VE} {i : Nat} : Run (exec Φ W (.retC c i) s) QF ↔ Run ((ev Φ c).T s) fun b => Run (match at0 b.2.ρ i with
  | some (.lst .own xs) => Res.ok (Fl.rt (if b.1 = true then .lst .own xs else .tup xs) b.2.st)
  | _ => .stuck) QF := by rw [exec]; unfold retcM; rw [run_bind] <;> exact Iff.rfl
@[simp ↓] theorem run_ex {e : VE} : Run (exec Φ W (.ex e) s) QF ↔ Run ((ev Φ e).E s) fun x => QF (.nx x.2) := by rw [exec]; unfold exM; simp only [Run, ex_bind, ex_ok]
@[simp ↓] theorem run_par2 {i j : Nat} {as : VE} : Run (exec Φ W (.par2 i j as) s) QF ↔ Run ((ev Φ as).L s) fun x => Run (asgC (.cons (.nm i) (.cons (.nm j) .nil)) (D.mas Tag.un x.1) (settle x.1 x.2.ρ)) fun ρ => QF (.nx ⟨ρ, x.2.st⟩) := by rw [exec]; unfold par2M; simp only [Run, ex_bind, ex_ok]
@[simp ↓] theorem run_par3 {i j l : Nat} {as : VE} : Run (exec Φ W (.par3 i j l as) s) QF ↔ Run ((ev Φ as).L s) fun x => Run (asgC (.cons (.nm i) (.cons (.nm j) (.cons (.nm l) .nil))) (D.mas Tag.un x.1) (settle x.1 x.2.ρ)) fun ρ => QF (.nx ⟨ρ, x.2.st⟩) := by rw [exec]; unfold par3M; simp only [Run, ex_bind, ex_ok]
@[simp ↓] theorem run_app {i : Nat} {e : VE} : Run (exec Φ W (.app i e) s) QF ↔ Run (if isLst (at0 s.ρ i) then (ev Φ e).E s >>= fun x => appV i x.1 x.2 >>= fun s => .ok (.nx s) else .stuck) QF := by rw [exec]; rfl
@[simp ↓] theorem run_ext {i : Nat} {e : VE} : Run (exec Φ W (.ext i e) s) QF ↔ Run (if isLst (at0 s.ρ i) then (ev Φ e).E s >>= fun x => extV i x.1 x.2 >>= fun s => .ok (.nx s) else .stuck) QF := by rw [exec]; rfl
@[simp ↓] theorem run_appx {i : Nat} {k : Int} {x : PySem.Str} {ρ : VEnv} {st : Option Strm} : Run (exec Φ W (.appx i k x) ⟨ρ, st⟩) QF ↔ Run (match at0 ρ i with
  | some (.lst .own xs) => (match appxL k x xs with
    | some ys => Res.ok (Fl.nx ⟨ρ.set i (some (.lst .own ys)), st⟩)
    | none => .stuck)
  | some (.tup xs) => (match appxL k x xs with
    | some ys => .ok (.nx ⟨ρ.set i (some (.tup ys)), st⟩)
    | none => .stuck)
  | _ => .stuck) QF := by rw [exec]; rfl
@[simp ↓] theorem run_setix {dk : Bool} {i : Nat} {k e : VE} : Run (exec Φ W (.setix dk i k e) s) QF ↔ Run ((ev Φ e).E s) fun x => Run (if (at0 x.2.ρ i).isSome then (ev Φ k).E x.2 >>= fun y => setV dk i y.1 x.1 y.2 >>= fun s => .ok (.nx s) else .stuck) QF := by rw [exec]; unfold setM; rw [run_bind]
end
end VL
end

/-! text: VSim2 -/
section
set_option autoImplicit false
/-! VSim2: data by simp; loops by rules. -/
namespace VL
open L2
section
variable {t : Tag} {xs ys : List D} {ks : List Key} {i j : Int} {b c : Bool} {s : PySem.Str} {n : Nat} {f : Tag → Tag} {p : Tag → Bool} {d e : D}
@[simp] theorem rd_int : (D.int i).rd n = .int i := rfl
@[simp] theorem rd_bl : (D.bl b).rd n = .bl b := rfl
@[simp] theorem rd_non : D.non.rd n = .non := rfl
@[simp] theorem rd_str : (D.str s).rd n = .str s := rfl
@[simp] theorem rd_strm : D.strm.rd n = .strm := rfl
@[simp] theorem rd_lst : (D.lst t xs).rd n = .lst (t.rr n) (D.mas (Tag.rc n) xs) := rfl
@[simp] theorem rd_tup : (D.tup xs).rd n = .tup (D.mas (Tag.rc n) xs) := rfl
@[simp] theorem rd_dk : (D.dk t ks xs).rd n = .dk (t.rr n) ks (D.mas (Tag.rc n) xs) := rfl
@[simp] theorem ma_int : (D.int i).ma f = .int i := rfl
@[simp] theorem ma_bl : (D.bl b).ma f = .bl b := rfl
@[simp] theorem ma_non : D.non.ma f = .non := rfl
@[simp] theorem ma_str : (D.str s).ma f = .str s := rfl
@[simp] theorem ma_strm : D.strm.ma f = .strm := rfl
@[simp] theorem ma_lst : (D.lst t xs).ma f = .lst (f t) (D.mas f xs) := rfl
@[simp] theorem ma_tup : (D.tup xs).ma f = .tup (D.mas f xs) := rfl
@[simp] theorem ma_dk : (D.dk t ks xs).ma f = .dk (f t) ks (D.mas f xs) := rfl
@[simp] theorem mas_nil : D.mas f [] = [] := rfl
@[simp] theorem mas_cons : D.mas f (d :: xs) = d.ma f :: D.mas f xs := rfl
@[simp] theorem any_int : (D.int i).any p = false := rfl
@[simp] theorem any_bl : (D.bl b).any p = false := rfl
@[simp] theorem any_non : D.non.any p = false := rfl
@[simp] theorem any_str : (D.str s).any p = false := rfl
@[simp] theorem any_strm : D.strm.any p = false := rfl
@[simp] theorem any_lst : (D.lst t xs).any p = (p t || D.anys p xs) := rfl
@[simp] theorem any_tup : (D.tup xs).any p = D.anys p xs := rfl
@[simp] theorem any_dk : (D.dk t ks xs).any p = (p t || D.anys p xs) := rfl
@[simp] theorem anys_nil : D.anys p [] = false := rfl
@[simp] theorem anys_cons : D.anys p (d :: xs) = (d.any p || D.anys p xs) := rfl
@[simp] theorem anys_append : ∀ {xs ys : List D}, D.anys p (xs ++ ys) = (D.anys p xs || D.anys p ys)
  | [], ys => rfl
  | x :: xs, ys => by show (D.any p x || D.anys p (xs ++ ys)) = _; rw [anys_append, anys_cons, Bool.or_assoc]
@[simp] theorem mas_append' : ∀ {xs ys : List D}, D.mas f (xs ++ ys) = D.mas f xs ++ D.mas f ys
  | [], ys => rfl
  | x :: xs, ys => by show D.ma f x :: D.mas f (xs ++ ys) = _; rw [mas_append']; rfl
@[simp] theorem mas_length : ∀ {xs : List D}, (D.mas f xs).length = xs.length
  | [] => rfl
  | x :: xs => by show (D.mas f xs).length + 1 = xs.length + 1; rw [mas_length]
/-- ints -/
@[simp] theorem mas_ints {ns : List Int} : D.mas f (ns.map D.int) = ns.map D.int := mas_flat f _ fun x hx => by obtain ⟨i, _, rfl⟩ := List.mem_map.mp hx; rfl
@[simp] theorem anys_ints : ∀ {ns : List Int}, D.anys p (ns.map D.int) = false
  | [] => rfl
  | n :: ns => by show (false || D.anys p (ns.map D.int)) = false; rw [anys_ints]; rfl
@[simp] theorem rr_own : Tag.rr n .own = .br n := rfl
@[simp] theorem rr_fz : Tag.rr n .fz = .fz := rfl
@[simp] theorem rc_own : Tag.rc n .own = .bc n := rfl
@[simp] theorem rc_fz : Tag.rc n .fz = .fz := rfl
@[simp] theorem un_own : Tag.un .own = .own := rfl
@[simp] theorem un_fz : Tag.un .fz = .fz := rfl
@[simp] theorem un_br : Tag.un (.br n) = .fz := rfl
@[simp] theorem un_bc : Tag.un (.bc n) = .fz := rfl
@[simp] theorem isB_own : Tag.isB .own = false := rfl
@[simp] theorem isB_fz : Tag.isB .fz = false := rfl
@[simp] theorem isB_br : Tag.isB (.br n) = true := rfl
@[simp] theorem isB_bc : Tag.isB (.bc n) = true := rfl
@[simp] theorem isFz_own : Tag.isFz .own = false := rfl
@[simp] theorem isFz_fz : Tag.isFz .fz = true := rfl
@[simp] theorem isFz_br : Tag.isFz (.br n) = false := rfl
@[simp] theorem isFz_bc : Tag.isFz (.bc n) = false := rfl
@[simp] theorem isOwn_own : Tag.isOwn .own = true := rfl
@[simp] theorem isOwn_fz : Tag.isOwn .fz = false := rfl
theorem settle_no {ds : List D} {ρ : VEnv} (h : D.anys Tag.isB ds = false) : settle ds ρ = ρ := by unfold settle; rw [h]; rfl
@[simp] theorem settle_def {ds : List D} {ρ : VEnv} : settle ds ρ = if D.anys Tag.isB ds = true then settleE ds ρ else ρ := rfl
@[simp] theorem binD_add : binD .add (.int i) (.int j) = .ok (.int (i + j)) := rfl
@[simp] theorem binD_sub : binD .sub (.int i) (.int j) = .ok (.int (i - j)) := rfl
@[simp] theorem binD_mul : binD .mul (.int i) (.int j) = guardR (mulOk i j) (.int (i * j)) := rfl
@[simp] theorem binD_fdiv : binD .fdiv (.int i) (.int j) = guardR (divOk j) (.int (i / j)) := rfl
@[simp] theorem binD_mod : binD .mod (.int i) (.int j) = guardR (decide (0 < j)) (.int (i % j)) := rfl
@[simp] theorem binD_pow : binD .pow (.int i) (.int j) = guardR (decide (0 ≤ j) && decide (j ≤ 100) && small i) (.int (i ^ j.toNat)) := rfl
@[simp] theorem binD_cat {u : Tag} : binD .add (.lst t xs) (.lst u ys) = guardR (decide (xs.length + ys.length ≤ maxLen)) (.lst .own (xs ++ ys)) := rfl
@[simp] theorem binD_catT : binD .add (.tup xs) (.tup ys) = guardR (decide (xs.length + ys.length ≤ maxLen) && !xs.isEmpty && !ys.isEmpty) (.tup (xs ++ ys)) := rfl
@[simp] theorem binD_rep : binD .mul (.lst t xs) (.int i) = guardR (decide (-(2 ^ 62) ≤ i) && decide (i < 2 ^ 62) && decide (xs.length * i.toNat ≤ maxLen) && noOwns xs) (.lst .own (List.replicate i.toNat xs).flatten) := rfl
theorem mulOk_l (h : -18446744073709551616 < i ∧ i < 18446744073709551616) : mulOk i j = true := by
  unfold mulOk small
  rw [decide_eq_true (by omega : -(2 ^ 64) < i), decide_eq_true (by omega : i < 2 ^ 64)]; rfl
theorem mulOk_r (h : -18446744073709551616 < j ∧ j < 18446744073709551616) : mulOk i j = true := by
  unfold mulOk small
  rw [decide_eq_true (by omega : -(2 ^ 64) < j), decide_eq_true (by omega : j < 2 ^ 64)]; simp
theorem divOk_of (h : 0 < j ∧ j < 18446744073709551616) : divOk j = true := by
  unfold divOk
  rw [decide_eq_true (by omega : 0 < j), decide_eq_true (by omega : j < 2 ^ 64)]; rfl
theorem small_of (h : -18446744073709551616 < i ∧ i < 18446744073709551616) : small i = true := by
  unfold small
  rw [decide_eq_true (by omega : -(2 ^ 64) < i), decide_eq_true (by omega : i < 2 ^ 64)]; rfl
@[simp] theorem maxLen_num : maxLen = 16777216 := rfl
@[simp] theorem cmp_eqI : cmpD .eq (.int i) (.int j) = .ok (decide (i = j)) := by
  show (guardR true (PySem.PyData.eqv (.int i) (.int j)) >>= fun b => .ok b) = _
  rw [guard_t]
  show Res.ok (PySem.PyData.eqv (.int i) (.int j)) = _
  congr 1
@[simp] theorem cmp_neI : cmpD .ne (.int i) (.int j) = .ok (!decide (i = j)) := by
  show (eqD (.int i) (.int j) >>= fun b => Res.ok (!b)) = _
  have := cmp_eqI (i := i) (j := j)
  rw [show eqD (.int i) (.int j) = cmpD .eq (.int i) (.int j) from rfl, this]
  rfl
@[simp] theorem cmp_lt : cmpD .lt (.int i) (.int j) = .ok (decide (i < j)) := rfl
@[simp] theorem cmp_le : cmpD .le (.int i) (.int j) = .ok (decide (i ≤ j)) := rfl
@[simp] theorem cmp_gt : cmpD .gt (.int i) (.int j) = .ok (decide (j < i)) := rfl
@[simp] theorem cmp_ge : cmpD .ge (.int i) (.int j) = .ok (decide (j ≤ i)) := rfl
@[simp] theorem cmp_isN : cmpD .isN d .non = .ok (isNonD d) := by cases d <;> rfl
@[simp] theorem cmp_notN : cmpD .notN d .non = .ok (!isNonD d) := by cases d <;> rfl
@[simp] theorem cmp_in : cmpD .in_ d e = inD d e := by cases d <;> cases e <;> rfl
@[simp] theorem cmp_notIn : cmpD .notIn d e = (inD d e >>= fun b => .ok (!b)) := by cases d <;> cases e <;> rfl
@[simp] theorem cmp_eqB : cmpD .eq (.bl b) (.bl c) = .ok (b == c) := by cases b <;> cases c <;> rfl
@[simp] theorem cmp_neB : cmpD .ne (.bl b) (.bl c) = .ok (b != c) := by cases b <;> cases c <;> rfl
@[simp] theorem isNon_int : isNonD (.int i) = false := rfl
@[simp] theorem isNon_non : isNonD .non = true := rfl
@[simp] theorem isNon_bl : isNonD (.bl b) = false := rfl
@[simp] theorem isNon_str : isNonD (.str s) = false := rfl
@[simp] theorem isNon_lst : isNonD (.lst t xs) = false := rfl
@[simp] theorem isNon_tup : isNonD (.tup xs) = false := rfl
@[simp] theorem isNon_dk : isNonD (.dk t ks xs) = false := rfl
@[simp] theorem tru_non : truD .non = .ok false := rfl
@[simp] theorem tru_bl : truD (.bl b) = .ok b := rfl
@[simp] theorem tru_int : truD (.int i) = .ok (i != 0) := rfl
@[simp] theorem tru_lst : truD (.lst t xs) = .ok (!xs.isEmpty) := rfl
@[simp] theorem tru_tup : truD (.tup xs) = .ok (!xs.isEmpty) := rfl
@[simp] theorem tru_dk : truD (.dk t ks xs) = .ok (!ks.isEmpty) := rfl
@[simp] theorem ix_lst : ixD (.lst t xs) (.int i) = (match atI xs i with | some x => .ok x | none => .stuck) := rfl
@[simp] theorem ix_tup : ixD (.tup xs) (.int i) = (match atI xs i with | some x => .ok x | none => .stuck) := rfl
@[simp] theorem ix_dk : ixD (.dk t ks xs) d = (match d.key with | some k => (match look k ks xs with | some x => .ok x | none => .stuck) | none => .stuck) := by cases d <;> rfl
@[simp] theorem sl_tupD {lo hi : Option Int} : slD (.tup xs) lo hi = .ok (.tup (cutD xs lo hi)) := rfl
@[simp] theorem sl_lst {lo hi : Option Int} : slD (.lst t xs) lo hi = .ok (.lst .own (cutD xs lo hi)) := rfl
@[simp] theorem rev_lst : revD (.lst t xs) = .ok (.lst .own xs.reverse) := rfl
@[simp] theorem rev_tup : revD (.tup xs) = .ok (.tup xs.reverse) := rfl
@[simp] theorem len_lst : lenD (.lst t xs) = .ok xs.length := rfl
@[simp] theorem len_tup : lenD (.tup xs) = .ok xs.length := rfl
@[simp] theorem bi_len : biD .len [d] = (lenD d >>= fun n => .ok (.int n)) := rfl
@[simp] theorem bi_listL : biD .list [.lst t xs] = .ok (.lst .own xs) := rfl
@[simp] theorem bi_listT : biD .list [.tup xs] = .ok (.lst .own xs) := rfl
@[simp] theorem bi_tupL : biD .tuple [.lst t xs] = .ok (.tup xs) := rfl
@[simp] theorem bi_tupT : biD .tuple [.tup xs] = .ok (.tup xs) := rfl
@[simp] theorem bi_int : biD .int [.int i] = .ok (.int i) := rfl
@[simp] theorem bi_abs : biD .abs [.int i] = .ok (.int (if i < 0 then -i else i)) := rfl
@[simp] theorem bi_min2 : biD .min2 [.int i, .int j] = .ok (.int (if j < i then j else i)) := rfl
@[simp] theorem bi_max2 : biD .max2 [.int i, .int j] = .ok (.int (if j > i then j else i)) := rfl
@[simp] theorem bi_sum : biD .sum [.lst t xs] = guardR (xs.all isIntD) (.int (xs.map intD).sum) := rfl
@[simp] theorem bi_any : biD .any [.lst t xs] = guardR (xs.all isBlD) (.bl ((xs.map blD).any id)) := rfl
@[simp] theorem bi_all : biD .all [.lst t xs] = guardR (xs.all isBlD) (.bl ((xs.map blD).all id)) := rfl
@[simp] theorem bi_reprL : biD .repr [.lst t xs] = guardR (reprOk (.list (D.erases xs))) (.str (PySem.PyData.shown (.list (D.erases xs)))) := rfl
@[simp] theorem bi_reprT : biD .repr [.tup xs] = guardR (reprOk (.tuple (D.erases xs))) (.str (PySem.PyData.shown (.tuple (D.erases xs)))) := rfl
@[simp] theorem bi_reprN : biD .repr [.non] = .ok (.str (PySem.Str.ofString "None")) := rfl
@[simp] theorem bi_reprB {b : Bool} : biD .repr [.bl b] = .ok (.str (if b then PySem.Str.ofString "True" else PySem.Str.ofString "False")) := rfl
@[simp] theorem bi_reprI {i : Int} : biD .repr [.int i] = guardR (decide (i.natAbs.log2 < 1920)) (.str (PySem.Str.ofString (toString i))) := rfl
@[simp] theorem bi_reprS {x : PySem.Str} : biD .repr [.str x] = guardR (Nat.ble (PySem.reprText x).length maxLen) (.str (PySem.reprText x)) := rfl
@[simp] theorem bi_reprD {t : Tag} : biD .repr [.dk t [] []] = .ok (.str (PySem.PyData.shown (.dict []))) := rfl
@[simp] theorem bi_dictP : biD .dictP [.lst t xs] = (match mergeD [] [] xs with | some r => .ok (.dk .own r.1 r.2) | none => .stuck) := rfl
@[simp] theorem cmp_eqS {a b : PySem.Str} : cmpD .eq (.str a) (.str b) = .ok (decide (a = b)) := rfl
@[simp] theorem cmp_neS {a b : PySem.Str} : cmpD .ne (.str a) (.str b) = .ok (!decide (a = b)) := rfl
@[simp] theorem ty_int {y : Ty} : tyD (.int i) y = .ok (decide (y = .int)) := rfl
@[simp] theorem ty_bl {y : Ty} : tyD (.bl b) y = .ok (decide (y = .bool) || decide (y = .int)) := rfl
@[simp] theorem ty_str {y : Ty} : tyD (.str s) y = .ok (decide (y = .str)) := rfl
@[simp] theorem ty_non {y : Ty} : tyD .non y = .ok (decide (y = .non)) := rfl
@[simp] theorem ty_lst {y : Ty} : tyD (.lst t xs) y = .ok (decide (y = .list)) := rfl
@[simp] theorem ty_tup {y : Ty} : tyD (.tup xs) y = .ok (decide (y = .tuple)) := rfl
@[simp] theorem ty_dk {y : Ty} : tyD (.dk t ks xs) y = .ok (decide (y = .dict)) := rfl
@[simp] theorem tys_nil : tysD d [] = .ok false := rfl
@[simp] theorem tys_cons {y : Ty} {r : List Ty} : tysD d (y :: r) = (tyD d y >>= fun b => if b then .ok true else tysD d r) := rfl
@[simp] theorem rng_eq : rngD (.int i) (.int j) = guardR (rngOk i && rngOk j && decide ((j - i).toNat ≤ maxLen)) (rangeD i j) := rfl
theorem rngOk_num (h : -4611686018427387904 ≤ i ∧ i < 4611686018427387904) : rngOk i = true := by
  unfold rngOk
  rw [decide_eq_true (by omega : -(2 ^ 62) ≤ i), decide_eq_true (by omega : i < 2 ^ 62)]; rfl
@[simp] theorem mas_range : D.mas f (rangeD i j) = rangeD i j := mas_flat f _ fun x hx => by
  unfold rangeD at hx
  obtain ⟨k, _, rfl⟩ := List.mem_map.mp hx
  rfl
@[simp] theorem anys_range : D.anys p (rangeD i j) = false := by
  have e : rangeD i j = ((List.range (j - i).toNat).map fun (k : Nat) => i + (k : Int)).map D.int := by unfold rangeD; rw [List.map_map]; rfl
  rw [e]; exact anys_ints
@[simp] theorem range_len : (rangeD i j).length = (j - i).toNat := by unfold rangeD; simp
theorem range_get {k : Nat} (h : (rangeD i j)[k]? = some d) : d = .int (i + k) ∧ (k : Int) < j - i := by
  unfold rangeD at h
  rw [List.getElem?_map] at h
  cases e : (List.range (j - i).toNat)[k]? with
  | none => rw [e] at h; cases h
  | some m =>
    rw [e] at h
    cases h
    obtain ⟨hi', ej⟩ := List.getElem?_eq_some_iff.mp e
    rw [List.length_range] at hi'
    rw [List.getElem_range] at ej
    subst ej
    exact ⟨rfl, by omega⟩
@[simp] theorem seq_lst : seqD (.lst t xs) = .ok xs := rfl
@[simp] theorem seq_tup : seqD (.tup xs) = .ok xs := rfl
@[simp] theorem seqL_lst : seqL (.lst t xs) = .ok xs := rfl
@[simp] theorem seq2_lst {u : Tag} : seq2 (.lst t xs) (.lst u ys) = .ok (xs, ys) := rfl
@[simp] theorem seq2_tup : seq2 (.tup xs) (.tup ys) = .ok (xs, ys) := rfl
section
variable {g gs : VG} {ρ : VEnv} {m : Nat}
@[simp] theorem asg_nm : asgG (.nm m) d ρ = guardR (decide (m < ρ.length)) (ρ.set m (some d)) := by rw [asgG]
@[simp] theorem asg_tup : asgG (.cons g gs) (.tup (d :: xs)) ρ = (asgG g d ρ >>= fun ρ => asgC gs xs ρ) := by rw [asgG]; rfl
@[simp] theorem asg_lst : asgG (.cons g gs) (.lst t (d :: xs)) ρ = (asgG g d ρ >>= fun ρ => asgC gs xs ρ) := by rw [asgG]; rfl
@[simp] theorem asgC_nil : asgC .nil [] ρ = .ok ρ := by rw [asgC]
@[simp] theorem asgC_cons : asgC (.cons g gs) (d :: xs) ρ = (asgG g d ρ >>= fun ρ => asgC gs xs ρ) := by rw [asgC]
@[simp] theorem wipe_nil : wipeV ρ [] = ρ := rfl
@[simp] theorem wipe_cons {v : Nat} {vs : List Nat} : wipeV ρ (v :: vs) = (wipeV ρ vs).set v none := rfl
@[simp] theorem back_nil {ρ' : VEnv} : backV ρ ρ' [] = ρ' := rfl
@[simp] theorem back_cons {ρ' : VEnv} {v : Nat} {vs : List Nat} : backV ρ ρ' (v :: vs) = (backV ρ ρ' vs).set v ((ρ[v]?).getD none) := rfl
@[simp] theorem at0_def : at0 ρ m = (ρ[m]?).getD none := rfl
@[simp] theorem isLst_lst : isLst (some (.lst t xs)) = true := rfl
@[simp] theorem slots0_eq {ds : List D} : slots0 n ds = ds.map some ++ List.replicate (n - ds.length) none := rfl
@[simp] theorem appV_eq {st : Option Strm} : appV m d ⟨ρ, st⟩ = (match at0 (settle [d] ρ) m with
  | some (.lst .own xs) => guardR (decide (xs.length < maxLen)) ⟨(settle [d] ρ).set m (some (.lst .own (xs ++ [d.ma Tag.un]))), st⟩
  | _ => .stuck) := rfl
end
@[simp] theorem out_int {ρ : VEnv} : outD (.int i) ρ = .int i := rfl
@[simp] theorem out_bl {ρ : VEnv} : outD (.bl b) ρ = .bl b := rfl
@[simp] theorem out_non {ρ : VEnv} : outD .non ρ = .non := rfl
@[simp] theorem out_str {ρ : VEnv} : outD (.str s) ρ = .str s := rfl
@[simp] theorem out_fz {ρ : VEnv} : outD (.lst .fz xs) ρ = .lst .fz (D.mas Tag.un xs) := rfl
@[simp] theorem out_tup {ρ : VEnv} : outD (.tup xs) ρ = .tup (outL xs ρ) := rfl
@[simp] theorem out_own {ρ : VEnv} : outD (.lst .own xs) ρ = .lst .own (outL xs ρ) := rfl
@[simp] theorem outL_nil {ρ : VEnv} : outL [] ρ = [] := rfl
@[simp] theorem outL_int {ρ : VEnv} : outL (.int i :: xs) ρ = .int i :: outL xs ρ := rfl
@[simp] theorem outL_str {ρ : VEnv} : outL (.str s :: xs) ρ = .str s :: outL xs ρ := rfl
@[simp] theorem outL_bl {ρ : VEnv} : outL (.bl b :: xs) ρ = .bl b :: outL xs ρ := rfl
@[simp] theorem outL_non {ρ : VEnv} : outL (.non :: xs) ρ = .non :: outL xs ρ := rfl
@[simp] theorem outL_ints {ρ : VEnv} : ∀ {ns : List Int}, outL (ns.map D.int) ρ = ns.map D.int
  | [] => rfl
  | n :: ns => by show D.int n :: outL (ns.map D.int) ρ = _; rw [outL_ints]; rfl
end
@[simp] theorem endOf_rt {d : D} {st : Option Strm} : endOf (.rt d st) = .ok (d, st) := rfl
@[simp] theorem endOf_nx {s : VS} : endOf (.nx s) = .ok (.non, s.st) := rfl

/-! ### arithmetic told by omega -/
section
variable {a b : Int} {m n : Nat}
theorem ilt_t (h : a < b) : (a < b) = True := by simp [h]
theorem ilt_f (h : b ≤ a) : (a < b) = False := by simp; omega
theorem ile_t (h : a ≤ b) : (a ≤ b) = True := by simp [h]
theorem ile_f (h : b < a) : (a ≤ b) = False := by simp; omega
theorem ieq_t (h : a = b) : (a = b) = True := by simp [h]
theorem ieq_f (h : a ≠ b) : (a = b) = False := by simp [h]
theorem nlt_t (h : m < n) : (m < n) = True := by simp [h]
theorem nlt_f (h : n ≤ m) : (m < n) = False := by simp; omega
theorem nle_t (h : m ≤ n) : (m ≤ n) = True := by simp [h]
theorem nle_f (h : n < m) : (m ≤ n) = False := by simp; omega
theorem neq_t (h : m = n) : (m = n) = True := by simp [h]
theorem neq_f (h : m ≠ n) : (m = n) = False := by simp [h]
end

/-! ### rules -/
theorem run_callN {tab : List Ent} {W n f : Nat} {ds : List D} {st : Option Strm} {d : Def} {Q : D × Option Strm → Prop} (h : tab[f]? = some (.v d)) (hl : ds.length = d.np) (q : Run (exec (callN tab W n) W d.body ⟨slots0 d.n ds, st⟩) fun r => Run (endOf r) Q) : Run (callN tab W (n + 1) f ds st) Q := by
  rw [callN_v h hl, run_bind]; exact q
/-- a while, by an invariant and a measure -/
theorem while_by {c : VS → Res (Bool × VS)} {b : VS → Res Fl} {Q : Fl → Prop} (I : VS → Prop) (m : VS → Nat) (h : ∀ s, I s → Run (c s) fun x => if x.1 = true then Run (b x.2) fun r => match r with | .nx s2 => I s2 ∧ m s2 < m s | .ct s2 => I s2 ∧ m s2 < m s | .rt d st => Q (.rt d st) else Q (.nx x.2)) : ∀ (n : Nat) (s : VS), I s → m s < n → Run (whileGo c b n s) Q
  | 0, s, _, hm => by omega
  | n + 1, s, hI, hm => by
    unfold whileGo
    rw [run_bind]
    refine (h s hI).mono fun x hx => ?_
    rw [run_ite]
    split
    · rename_i hc
      rw [if_pos hc] at hx
      rw [run_bind]
      refine hx.mono fun r hr => ?_
      cases r with
      | nx s2 => exact while_by I m h n s2 hr.1 (by have := hr.2; omega)
      | ct s2 => exact while_by I m h n s2 hr.1 (by have := hr.2; omega)
      | rt d st => exact run_ok.mpr hr
    · rename_i hc
      rw [if_neg hc] at hx
      exact run_ok.mpr hx
/-- a for, by an invariant -/
theorem for_by {bind : D → VS → Res VS} {b : VS → Res Fl} {Q : Fl → Prop} : ∀ (ds : List D) (P : Nat → VS → Prop) {s : VS}, P 0 s → (∀ i d s, ds[i]? = some d → P i s → Run (bind d s) fun s1 => Run (b s1) fun r => match r with | .nx s2 => P (i + 1) s2 | .ct s2 => P (i + 1) s2 | .rt d st => Q (.rt d st)) → (∀ s, P ds.length s → Q (.nx s)) → Run (forGo bind b ds s) Q
  | [], P, s, h0, _, hQ => run_ok.mpr (hQ s h0)
  | d :: ds, P, s, h0, h, hQ => by
    unfold forGo
    rw [run_bind]
    refine (h 0 d s rfl h0).mono fun s1 h1 => ?_
    rw [run_bind]
    refine h1.mono fun r hr => ?_
    cases r with
    | nx s2 => exact for_by ds (fun i => P (i + 1)) hr (fun i d' s' hi hp => h (i + 1) d' s' hi hp) hQ
    | ct s2 => exact for_by ds (fun i => P (i + 1)) hr (fun i d' s' hi hp => h (i + 1) d' s' hi hp) hQ
    | rt d st => exact run_ok.mpr hr
/-- a comprehension, by an invariant over what is made so far -/
theorem comp_by {bind : D → VS → Res VS} {t : VS → Res (Bool × VS)} {elt : VS → Res (D × VS)} {Q : List D × VS → Prop} : ∀ (ds : List D) (P : Nat → List D → VS → Prop) {s : VS}, P 0 [] s → (∀ i d ys s, ds[i]? = some d → P i ys s → Run (bind d s) fun s1 => Run (t s1) fun b => if b.1 = true then Run (elt b.2) fun y => P (i + 1) (ys ++ [y.1]) y.2 else P (i + 1) ys b.2) → (∀ ys s, P ds.length ys s → Q (ys, s)) → Run (compGo bind t elt ds s) Q
  | [], P, s, h0, _, hQ => run_ok.mpr (hQ _ s h0)
  | d :: ds, P, s, h0, h, hQ => by
    unfold compGo
    rw [run_bind]
    refine (h 0 d [] s rfl h0).mono fun s1 h1 => ?_
    rw [run_bind]
    refine h1.mono fun b hb => ?_
    rw [run_ite]
    split
    · rename_i hc
      rw [if_pos hc] at hb
      rw [run_bind]
      refine hb.mono fun y hy => ?_
      rw [run_bind]
      refine (comp_by ds (fun i ys => P (i + 1) (y.1 :: ys)) hy (fun i d' ys' s' hi hp => h (i + 1) d' (y.1 :: ys') s' hi hp) (Q := fun r => Q (y.1 :: r.1, r.2)) fun ys s hp => hQ _ s hp).mono fun r hr => run_ok.mpr hr
    · rename_i hc
      rw [if_neg hc] at hb
      exact comp_by ds (fun i ys => P (i + 1) ys) hb (fun i d' ys' s' hi hp => h (i + 1) d' ys' s' hi hp) hQ
theorem run_draw {tab : List Ent} {W n k : Nat} (hk : tab[k]? = some (.own 2 drawV)) {B m : Int} {st : Strm} (h : SOk B st) (hB : B ≤ 1099511627776) (hm : 0 < m) (hm2 : m < 18446744073709551616) {Q : D × Option Strm → Prop} (q : ∀ r st', 0 ≤ r → r < m → SOk (B + 1) st' → Q (.int r, some st')) : Run (callN tab W (n + 1) k [.strm, .int m] (some st)) Q := by
  obtain ⟨r, st', h1, h2, h3, h4⟩ := draw_call (W := W) (n := n) hk h hB hm (by omega)
  exact run_of h1 (q r st' h2 h3 h4)
theorem atI_at {α : Type} {xs : List α} {i : Nat} {x : α} (h : xs[i]? = some x) : atI xs (i : Int) = some x := by
  have hi : i < xs.length := (List.getElem?_eq_some_iff.mp h).1
  unfold atI
  rw [show ixN xs.length (i : Int) = some i from by unfold ixN; simp; omega]
  exact h
/-- the number in a slot -/
def slotN (i : Nat) (s : VS) : Nat := match s.ρ[i]? with | some (some (.int v)) => v.toNat | _ => 0
@[simp] theorem slotN_eq {i : Nat} {ρ : VEnv} {st : Option Strm} : slotN i ⟨ρ, st⟩ = (match ρ[i]? with | some (some (.int v)) => v.toNat | _ => 0) := rfl
@[simp] theorem permL_nil {ds : List D} : permL ds [] = some [] := rfl
@[simp] theorem permL_cons {ds : List D} {i : Nat} {is : List Nat} : permL ds (i :: is) = (match ds[i]?, permL ds is with | some d, some r => some (d :: r) | _, _ => none) := rfl
section
variable {α : Type} {x y z u : α} {xs : List α}
@[simp] theorem atI_0 : atI (x :: xs) 0 = some x := atI_at (i := 0) rfl
@[simp] theorem atI_1 : atI (x :: y :: xs) 1 = some y := atI_at (i := 1) rfl
@[simp] theorem atI_2 : atI (x :: y :: z :: xs) 2 = some z := atI_at (i := 2) rfl
@[simp] theorem atI_3 : atI (x :: y :: z :: u :: xs) 3 = some u := atI_at (i := 3) rfl
end
@[simp] theorem parked_nil {ρ : VEnv} : parked ρ [] = true := rfl
@[simp] theorem parked_cons {ρ : VEnv} {v : Nat} {vs : List Nat} : parked ρ (v :: vs) = ((match ρ[v]? with
  | some (some d) => !d.any Tag.isOwn
  | some none => true
  | none => false) && parked ρ vs) := rfl
@[simp] theorem out_br {ρ : VEnv} {i : Nat} {xs : List D} : outD (.lst (.br i) xs) ρ = (match at0 ρ i with | some (.lst .own ys) => .lst .own ys | some (.dk .own ks ys) => .dk .own ks ys | _ => .lst .fz (D.mas Tag.un xs)) := by
  unfold outD out1 rootB mvO
  simp only [has, anys_nil, Bool.or_false, Bool.false_eq_true, if_false]
  cases h : at0 ρ i with
  | none => simp [h]
  | some d =>
    cases d with
    | lst t ys => cases t <;> simp [h]
    | dk t ks ys => cases t <;> simp [h]
    | _ => simp [h]
@[simp] theorem setV_f {ρ : VEnv} {st : Option Strm} {m : Nat} {k : Int} {d : D} : setV false m (.int k) d ⟨ρ, st⟩ = (match at0 (settle [d] ρ) m with
  | some (.lst .own xs) => (match ixN xs.length k with
    | some j => .ok ⟨(settle [d] ρ).set m (some (.lst .own (xs.set j (d.ma Tag.un)))), st⟩
    | none => .stuck)
  | _ => .stuck) := by
  unfold setV
  cases h : at0 (settle [d] ρ) m with
  | none => simp only [h]
  | some x =>
    cases x with
    | lst t ys => cases t <;> first | (simp [h]; done) | (simp [h]; rfl)
    | dk t ks ys => cases t <;> first | (simp [h]; done) | (simp [h]; rfl)
    | _ => simp only [h]
theorem SOk.start {ns : List Int} : SOk 0 ⟨ns, 0, 0, 19⟩ := ⟨Int.le_refl 0, Int.le_refl 0, by show (0 : Int) ≤ 19; omega, by show (19 : Int) < 2147483629; omega⟩
end VL
end

/-! text: VLib -/
section
set_option autoImplicit false
set_option maxHeartbeats 4000000
/-! VLib: helpers that many laws have, over any table. -/
namespace VL
open PySem PySem.Spec PyProof.Rows L2
local macro_rules | `(tactic| walk_at "v") => `(tactic| simp (config := {maxSteps := 4000000}) (disch := omega) [List.getElem?_cons_zero, ilt_t, ilt_f, ile_t, ile_f, ieq_t, ieq_f, nlt_t, nlt_f, nle_t, nle_f, neq_t, neq_f, mulOk_l, mulOk_r, divOk_of, small_of, rngOk_num])

def bPick (kd : Nat) : VB :=
    (.seq (.ret (.ix (.name 1) (.call kd (.cons (.name 0) (.cons (.bi .len (.cons (.name 1) .nil)) .nil)))))
    .pass)
def bSame (k : Nat) : VB :=
    (.seq (.if_ (.isi (.name 1) [.list, .tuple])
    (.seq (.if_ (.or_ (.cmp .ne (.isi (.name 0) [.list]) (.isi (.name 1) [.list])) (.cmp .ne (.isi (.name 0) [.tuple]) (.isi (.name 1) [.tuple])))
    (.seq (.ret (.bl false))
    .pass)
    .pass)
    (.seq (.ret (.and_ (.cmp .eq (.bi .len (.cons (.name 0) .nil)) (.bi .len (.cons (.name 1) .nil))) (.bi .all (.cons (.comp [2, 3] (.cons (.nm 2) (.cons (.nm 3) .nil)) (.zip (.name 0) (.name 1)) .nil (.call k (.cons (.name 2) (.cons (.name 3) .nil)))) .nil))))
    .pass))
    .pass)
    (.seq (.if_ (.isi (.name 1) [.dict])
    (.seq (.ret (.and_ (.isi (.name 0) [.dict]) (.call k (.cons (.bi .list (.cons .bad .nil)) (.cons (.bi .list (.cons .bad .nil)) .nil)))))
    .pass)
    .pass)
    (.seq (.if_ (.or_ (.isi (.name 1) [.bool]) (.isi (.name 0) [.bool]))
    (.seq (.ret (.and_ (.isi (.name 1) [.bool]) (.and_ (.isi (.name 0) [.bool]) (.cmp .eq (.name 0) (.name 1)))))
    .pass)
    .pass)
    (.seq (.if_ (.or_ (.cmp .isN (.name 1) .non) (.cmp .isN (.name 0) .non))
    (.seq (.ret (.and_ (.cmp .isN (.name 1) .non) (.cmp .isN (.name 0) .non)))
    .pass)
    .pass)
    (.seq (.if_ (.or_ (.cmp .ne (.isi (.name 1) [.int]) (.isi (.name 0) [.int])) (.cmp .ne (.isi (.name 1) [.str]) (.isi (.name 0) [.str])))
    (.seq (.ret (.bl false))
    .pass)
    .pass)
    (.seq (.ret (.and_ (.not_ (.isi (.name 0) [.list, .tuple, .dict])) (.cmp .eq (.name 0) (.name 1))))
    .pass))))))

mutual
/-- how deep lists and tuples lie -/
def dep : D → Nat
  | .lst _ xs => deps xs + 1
  | .tup xs => deps xs + 1
  | _ => 0
def deps : List D → Nat
  | [] => 0
  | x :: xs => max (dep x) (deps xs)
end
mutual
/-- lists, tuples, ints, texts, None, bools, all of nobody's -/
def okD : D → Bool
  | .lst t xs => decide (t = .fz) && okDs xs && decide (xs.length < 1000000)
  | .tup xs => okDs xs && decide (xs.length < 1000000)
  | .non => true | .bl _ => true | .int _ => true | .str _ => true
  | _ => false
def okDs : List D → Bool
  | [] => true
  | x :: xs => okD x && okDs xs
end
mutual
theorem ok_ma {f : Tag → Tag} (hf : f .fz = .fz) : ∀ d, okD d = true → d.ma f = d
  | .lst t xs, h => by
    simp only [okD, Bool.and_eq_true, decide_eq_true_eq] at h
    obtain ⟨⟨rfl, h⟩, _⟩ := h
    rw [ma_lst, hf, ok_mas hf xs h]
  | .tup xs, h => by
    simp only [okD, Bool.and_eq_true] at h
    rw [ma_tup, ok_mas hf xs h.1]
  | .non, _ => rfl | .bl _, _ => rfl | .int _, _ => rfl | .str _, _ => rfl
  | .dk _ _ _, h => by cases h
  | .strm, h => by cases h
theorem ok_mas {f : Tag → Tag} (hf : f .fz = .fz) : ∀ xs, okDs xs = true → D.mas f xs = xs
  | [], _ => rfl
  | x :: xs, h => by
    simp only [okDs, Bool.and_eq_true] at h
    rw [mas_cons, ok_ma hf x h.1, ok_mas hf xs h.2]
end
mutual
theorem ok_any {p : Tag → Bool} (hp : p .fz = false) : ∀ d, okD d = true → d.any p = false
  | .lst t xs, h => by
    simp only [okD, Bool.and_eq_true, decide_eq_true_eq] at h
    obtain ⟨⟨rfl, h⟩, _⟩ := h
    rw [any_lst, hp, ok_anys hp xs h]; rfl
  | .tup xs, h => by
    simp only [okD, Bool.and_eq_true] at h
    rw [any_tup, ok_anys hp xs h.1]
  | .non, _ => rfl | .bl _, _ => rfl | .int _, _ => rfl | .str _, _ => rfl
  | .dk _ _ _, h => by cases h
  | .strm, h => by cases h
theorem ok_anys {p : Tag → Bool} (hp : p .fz = false) : ∀ xs, okDs xs = true → D.anys p xs = false
  | [], _ => rfl
  | x :: xs, h => by
    simp only [okDs, Bool.and_eq_true] at h
    rw [anys_cons, ok_any hp x h.1, ok_anys hp xs h.2]; rfl
end
theorem ok_rd {n : Nat} {d : D} (h : okD d = true) : d.rd n = d := by
  cases d with
  | lst t xs =>
    simp only [okD, Bool.and_eq_true, decide_eq_true_eq] at h
    obtain ⟨⟨rfl, h⟩, _⟩ := h
    rw [rd_lst, ok_mas rfl xs h]; rfl
  | tup xs =>
    simp only [okD, Bool.and_eq_true] at h
    rw [rd_tup, ok_mas rfl xs h.1]
  | dk _ _ _ => cases h
  | strm => cases h
  | _ => rfl
theorem okDs_mem : ∀ {xs : List D} {d : D}, okDs xs = true → d ∈ xs → okD d = true
  | x :: xs, d, h, hm => by
    simp only [okDs, Bool.and_eq_true] at h
    rcases List.mem_cons.mp hm with rfl | hm
    · exact h.1
    · exact okDs_mem h.2 hm
theorem deps_mem : ∀ {xs : List D} {d : D} {n : Nat}, deps xs ≤ n → d ∈ xs → dep d ≤ n
  | x :: xs, d, n, h, hm => by
    simp only [deps] at h
    rcases List.mem_cons.mp hm with rfl | hm
    · omega
    · exact deps_mem (by omega) hm
theorem zip_self : ∀ (xs : List D), zipD xs xs = xs.map fun x => .tup [x, x]
  | [] => rfl
  | x :: xs => by rw [zipD, zip_self]; rfl
theorem okDs_pairs : ∀ (xs : List D), okDs xs = true → okDs (xs.map fun x => .tup [x, x]) = true
  | [], _ => rfl
  | x :: xs, h => by
    simp only [okDs, Bool.and_eq_true] at h
    simp only [List.map_cons, okDs, okD, h.1, okDs_pairs xs h.2, Bool.and_true, List.length_cons, List.length_nil, Bool.true_and]
    rfl
theorem all_true (n : Nat) : (List.replicate n (D.bl true)).all isBlD = true ∧ ((List.replicate n (D.bl true)).map blD).all id = true := by
  induction n with
  | zero => exact ⟨rfl, rfl⟩
  | succ n ih => rw [List.replicate_succ]; exact ⟨by simpa [isBlD] using ih.1, by simpa [blD] using ih.2⟩
section
variable {tab : List Ent} {W k : Nat} (hk : tab[k]? = some (.v ⟨4, 2, bSame k⟩))
include hk
theorem same_refl : ∀ (n : Nat) (d : D) (st : Option Strm), dep d ≤ n → okD d = true → callN tab W (n + 1) k [d, d] st = .ok (.bl true, st) := by
  intro n
  induction n with
  | zero =>
    intro d st hd ho
    cases d with
    | lst t xs => simp only [dep] at hd; omega
    | tup xs => simp only [dep] at hd; omega
    | dk _ _ _ => cases ho
    | strm => cases ho
    | non => apply Run.eq; refine run_callN hk rfl ?_; unfold bSame; walk_at "v"
    | bl b => apply Run.eq; refine run_callN hk rfl ?_; unfold bSame; walk_at "v"
    | int i => apply Run.eq; refine run_callN hk rfl ?_; unfold bSame; walk_at "v"
    | str s => apply Run.eq; refine run_callN hk rfl ?_; unfold bSame; walk_at "v"
  | succ n ih =>
    intro d st hd ho
    cases d with
    | lst t xs =>
      apply Run.eq; refine run_callN hk rfl ?_; unfold bSame
      simp only [okD, Bool.and_eq_true, decide_eq_true_eq] at ho
      obtain ⟨⟨rfl, ho⟩, hl⟩ := ho
      simp only [dep] at hd
      walk_at "v"
      simp only [ok_mas (f := Tag.rc 0) rfl xs ho, ok_mas (f := Tag.rc 1) rfl xs ho, zip_self, ok_mas (f := fun _ => Tag.fz) rfl _ (okDs_pairs xs ho), ok_anys (p := Tag.isB) rfl _ (okDs_pairs xs ho)]
      walk_at "v"
      refine comp_by _ (fun i ys s => ys = List.replicate i (.bl true) ∧ ∃ o2 o3, s = ⟨[some (.lst .fz xs), some (.lst .fz xs), o2, o3], st⟩) ⟨rfl, _, _, rfl⟩ ?_ ?_
      · rintro i d ys s hi ⟨rfl, o2, o3, rfl⟩
        rw [List.getElem?_map] at hi
        cases e : xs[i]? with
        | none => rw [e] at hi; cases hi
        | some x =>
          rw [e] at hi
          cases hi
          have hx := okDs_mem ho (List.mem_of_getElem? e)
          have hx2 := deps_mem (n := n) (by omega) (List.mem_of_getElem? e)
          walk_at "v"
          simp only [ok_rd hx, ok_ma (f := fun _ => Tag.fz) rfl x hx, ih x st hx2 hx, run_ok]
          walk_at "v"
          exact (List.replicate_succ').symm
      · rintro ys s ⟨rfl, o2, o3, rfl⟩
        walk_at "v"
        exact ⟨.inr rfl, .inr rfl⟩
    | tup xs =>
      apply Run.eq; refine run_callN hk rfl ?_; unfold bSame
      simp only [okD, Bool.and_eq_true, decide_eq_true_eq] at ho
      obtain ⟨ho, hl⟩ := ho
      simp only [dep] at hd
      walk_at "v"
      simp only [ok_mas (f := Tag.rc 0) rfl xs ho, ok_mas (f := Tag.rc 1) rfl xs ho, zip_self, ok_mas (f := fun _ => Tag.fz) rfl _ (okDs_pairs xs ho), ok_anys (p := Tag.isB) rfl _ (okDs_pairs xs ho)]
      walk_at "v"
      refine comp_by _ (fun i ys s => ys = List.replicate i (.bl true) ∧ ∃ o2 o3, s = ⟨[some (.tup xs), some (.tup xs), o2, o3], st⟩) ⟨rfl, _, _, rfl⟩ ?_ ?_
      · rintro i d ys s hi ⟨rfl, o2, o3, rfl⟩
        rw [List.getElem?_map] at hi
        cases e : xs[i]? with
        | none => rw [e] at hi; cases hi
        | some x =>
          rw [e] at hi
          cases hi
          have hx := okDs_mem ho (List.mem_of_getElem? e)
          have hx2 := deps_mem (n := n) (by omega) (List.mem_of_getElem? e)
          walk_at "v"
          simp only [ok_rd hx, ok_ma (f := fun _ => Tag.fz) rfl x hx, ih x st hx2 hx, run_ok]
          walk_at "v"
          exact (List.replicate_succ').symm
      · rintro ys s ⟨rfl, o2, o3, rfl⟩
        walk_at "v"
        exact ⟨.inr rfl, .inr rfl⟩
    | dk _ _ _ => cases ho
    | strm => cases ho
    | non => apply Run.eq; refine run_callN hk rfl ?_; unfold bSame; walk_at "v"
    | bl b => apply Run.eq; refine run_callN hk rfl ?_; unfold bSame; walk_at "v"
    | int i => apply Run.eq; refine run_callN hk rfl ?_; unfold bSame; walk_at "v"
    | str s => apply Run.eq; refine run_callN hk rfl ?_; unfold bSame; walk_at "v"
end
end VL
end

/-! text: VLib2 -/
section
set_option autoImplicit false
set_option maxHeartbeats 4000000
/-! VLib2: comprehensions; checks of primes and rests; loose copies. -/
namespace VL
open PySem PySem.Spec PyProof.Rows L2
local macro_rules | `(tactic| walk_at "v") => `(tactic| simp (config := {maxSteps := 4000000}) (disch := omega) [List.getElem?_cons_zero, ilt_t, ilt_f, ile_t, ile_f, ieq_t, ieq_f, nlt_t, nlt_f, nle_t, nle_f, neq_t, neq_f, mulOk_l, mulOk_r, divOk_of, small_of, rngOk_num])

/-! ### comprehensions -/
section
variable {bind : D → VS → Res VS} {t : VS → Res (Bool × VS)} {elt : VS → Res (D × VS)} {Q : List D × VS → Prop}
/-- one value each, told by the place; the states are of a kind -/
theorem comp_all (ds : List D) (F : Nat → D) (I : VS → Prop) {s : VS} (h0 : I s) (h : ∀ i d s, ds[i]? = some d → I s → Run (bind d s) fun s1 => Run (t s1) fun b => b.1 = true ∧ Run (elt b.2) fun y => y.1 = F i ∧ I y.2) (hq : ∀ s, I s → Q ((List.range ds.length).map F, s)) : Run (compGo bind t elt ds s) Q := by
  refine comp_by ds (fun i ys s => ys = (List.range i).map F ∧ I s) ⟨rfl, h0⟩ ?_ ?_
  · rintro i d ys s hi ⟨rfl, hs⟩
    refine (h i d s hi hs).mono fun s1 h1 => h1.mono fun b hb => ?_
    rw [if_pos hb.1]
    refine hb.2.mono fun y hy => ⟨?_, hy.2⟩
    rw [hy.1, List.range_succ, List.map_append]
    rfl
  · rintro ys s ⟨rfl, hs⟩
    exact hq s hs
end
theorem zip_get {xs ys : List Int} {i : Nat} {d : D} (h : (zipD (xs.map D.int) (ys.map D.int))[i]? = some d) : ∃ a b, xs[i]? = some a ∧ ys[i]? = some b ∧ d = .tup [.int a, .int b] := by
  induction xs generalizing ys i with
  | nil => cases h
  | cons x xs ih =>
    cases ys with
    | nil => cases h
    | cons y ys =>
      cases i with
      | zero => cases h; exact ⟨x, y, rfl, rfl, rfl⟩
      | succ i => exact ih h
theorem zip_len : ∀ (xs ys : List Int), (zipD (xs.map D.int) (ys.map D.int)).length = min xs.length ys.length
  | [], ys => by cases ys <;> simp [zipD]
  | x :: xs, [] => by simp [zipD]
  | x :: xs, y :: ys => by simp only [List.map_cons, zipD, List.length_cons, zip_len xs ys]; omega
@[simp] theorem mas_zip {f : Tag → Tag} : ∀ {xs ys : List Int}, D.mas f (zipD (xs.map D.int) (ys.map D.int)) = zipD (xs.map D.int) (ys.map D.int)
  | [], ys => by cases ys <;> rfl
  | x :: xs, [] => rfl
  | x :: xs, y :: ys => by
    show D.ma f (.tup [.int x, .int y]) :: D.mas f (zipD (xs.map D.int) (ys.map D.int)) = _
    rw [mas_zip]; rfl
@[simp] theorem anys_zip {p : Tag → Bool} : ∀ {xs ys : List Int}, D.anys p (zipD (xs.map D.int) (ys.map D.int)) = false
  | [], ys => by cases ys <;> rfl
  | x :: xs, [] => rfl
  | x :: xs, y :: ys => by
    show (false || D.anys p (zipD (xs.map D.int) (ys.map D.int))) = false
    rw [anys_zip]; rfl
theorem enum_get {xs : List Int} {i : Nat} {n : Int} {d : D} (h : (enumD n (xs.map D.int))[i]? = some d) : ∃ a, xs[i]? = some a ∧ d = .tup [.int (n + i), .int a] := by
  induction xs generalizing i n with
  | nil => cases h
  | cons x xs ih =>
    cases i with
    | zero => cases h; exact ⟨x, rfl, by simp⟩
    | succ i =>
      obtain ⟨a, h1, h2⟩ := ih (n := n + 1) h
      exact ⟨a, h1, by rw [h2]; congr 3; omega⟩
theorem enum_len : ∀ (n : Int) (xs : List Int), (enumD n (xs.map D.int)).length = xs.length
  | _, [] => rfl
  | n, x :: xs => by simp only [List.map_cons, enumD, List.length_cons, enum_len (n + 1) xs]
@[simp] theorem mas_enum {f : Tag → Tag} : ∀ {n : Int} {xs : List Int}, D.mas f (enumD n (xs.map D.int)) = enumD n (xs.map D.int)
  | _, [] => rfl
  | n, x :: xs => by
    show D.ma f (.tup [.int n, .int x]) :: D.mas f (enumD (n + 1) (xs.map D.int)) = _
    rw [mas_enum]; rfl
@[simp] theorem anys_enum {p : Tag → Bool} : ∀ {n : Int} {xs : List Int}, D.anys p (enumD n (xs.map D.int)) = false
  | _, [] => rfl
  | n, x :: xs => by
    show (false || D.anys p (enumD (n + 1) (xs.map D.int))) = false
    rw [anys_enum]; rfl
@[simp] theorem mas_mapR {f : Tag → Tag} {g : Nat → Int} {l : List Nat} : D.mas f (l.map fun k => D.int (g k)) = l.map fun k => D.int (g k) := by
  have : (l.map fun k => D.int (g k)) = (l.map g).map D.int := by rw [List.map_map]; rfl
  rw [this, mas_ints]

/-! ### ints in a list or a tuple, of nobody's -/
def sqD (b : Bool) (ns : List Int) : D := if b then .lst .fz (ns.map D.int) else .tup (ns.map D.int)
@[simp] theorem sq_ma {f : Tag → Tag} {b : Bool} {ns : List Int} (hf : f .fz = .fz) : (sqD b ns).ma f = sqD b ns := by cases b <;> simp [sqD, hf]
@[simp] theorem sq_maF {b : Bool} {ns : List Int} : (sqD b ns).ma (fun _ => .fz) = sqD b ns := by cases b <;> simp [sqD]
@[simp] theorem sq_maU {b : Bool} {ns : List Int} : (sqD b ns).ma Tag.un = sqD b ns := by cases b <;> simp [sqD]
@[simp] theorem sq_rd {b : Bool} {ns : List Int} {n : Nat} : (sqD b ns).rd n = sqD b ns := by cases b <;> simp [sqD]
@[simp] theorem sq_isB {b : Bool} {ns : List Int} : (sqD b ns).any Tag.isB = false := by cases b <;> simp [sqD]
@[simp] theorem sq_len {b : Bool} {ns : List Int} : lenD (sqD b ns) = .ok ns.length := by cases b <;> simp [sqD]
@[simp] theorem sq_seq {b : Bool} {ns : List Int} : seqD (sqD b ns) = .ok (ns.map D.int) := by cases b <;> simp [sqD]
@[simp] theorem sq_tyL {b : Bool} {ns : List Int} : tyD (sqD b ns) .list = .ok b := by cases b <;> rfl
@[simp] theorem sq_tyT {b : Bool} {ns : List Int} : tyD (sqD b ns) .tuple = .ok (!b) := by cases b <;> rfl
@[simp] theorem sq_tyI {b : Bool} {ns : List Int} : tyD (sqD b ns) .int = .ok false := by cases b <;> rfl
@[simp] theorem sq_tyB {b : Bool} {ns : List Int} : tyD (sqD b ns) .bool = .ok false := by cases b <;> rfl
@[simp] theorem sq_tyS {b : Bool} {ns : List Int} : tyD (sqD b ns) .str = .ok false := by cases b <;> rfl
@[simp] theorem sq_tyD {b : Bool} {ns : List Int} : tyD (sqD b ns) .dict = .ok false := by cases b <;> rfl
@[simp] theorem sq_list {b : Bool} {ns : List Int} : biD .list [sqD b ns] = .ok (.lst .own (ns.map D.int)) := by cases b <;> rfl
theorem sq_lst (ns : List Int) : D.lst .fz (ns.map D.int) = sqD true ns := rfl
theorem sq_tup (ns : List Int) : D.tup (ns.map D.int) = sqD false ns := rfl

/-! ### the program's checks -/
def bIsList : VB :=
    (.seq (.ret (.isi (.name 0) [.list, .tuple]))
    .pass)
def bIsWhole : VB :=
    (.seq (.ret (.and_ (.isi (.name 0) [.int]) (.not_ (.isi (.name 0) [.bool]))))
    .pass)
def bIsNumber (kw : Nat) : VB :=
    (.seq (.ret (.and_ (.call kw (.cons (.name 0) .nil)) (.cmp .ge (.name 0) (.int 0))))
    .pass)
def bIsPrime (kw : Nat) : VB :=
    (.seq (.if_ (.or_ (.not_ (.call kw (.cons (.name 0) .nil))) (.cmp .lt (.name 0) (.int 2)))
    (.seq (.ret (.bl false))
    .pass)
    .pass)
    (.seq (.asg (.nm 1) (.int 2))
    (.seq (.while_ (.cmp .le (.bin .mul (.name 1) (.name 1)) (.name 0))
    (.seq (.if_ (.cmp .eq (.bin .mod (.name 0) (.name 1)) (.int 0))
    (.seq (.ret (.bl false))
    .pass)
    .pass)
    (.seq (.asg (.nm 1) (.bin .add (.name 1) (.int 1)))
    .pass)))
    (.seq (.ret (.bl true))
    .pass))))
def bCheck1 (kp : Nat) : VB :=
    (.seq (.if_ (.not_ (.call kp (.cons (.name 0) .nil)))
    (.seq .bad
    .pass)
    .pass)
    .pass)
def bFirstBad (kl kn : Nat) : VB :=
    (.seq (.if_ (.not_ (.call kl (.cons (.name 1) .nil)))
    (.seq (.ret (.int 0))
    .pass)
    .pass)
    (.seq (.for_ (.cons (.nm 2) (.cons (.nm 3) .nil)) (.enum (.name 1))
    (.seq (.if_ (.or_ (.not_ (.call kn (.cons (.name 3) .nil))) (.cmp .ge (.name 3) (.name 0)))
    (.seq (.ret (.name 2))
    .pass)
    .pass)
    .pass))
    (.seq (.ret .non)
    .pass)))
def bCheckNums (kp kb : Nat) : VB :=
    (.seq (.ex (.call kp (.cons (.name 0) .nil)))
    (.seq (.asg (.nm 2) (.call kb (.cons (.name 0) (.cons (.name 1) .nil))))
    (.seq (.if_ (.cmp .notN (.name 2) .non)
    (.seq .bad
    .pass)
    .pass)
    .pass)))
/-- no divisor between 1 and it -/
structure Pr (p : Int) : Prop where
  two : 2 ≤ p
  small : p < 1000000
  no : ∀ d : Int, 2 ≤ d → d * d ≤ p → p % d ≠ 0
/-- rests -/
def Rests (p : Int) (ns : List Int) : Prop := ∀ x ∈ ns, 0 ≤ x ∧ x < p
section
variable {tab : List Ent} {W n : Nat} {st : Option Strm}
theorem islist_run {k : Nat} (h : tab[k]? = some (.v ⟨1, 1, bIsList⟩)) {b : Bool} {ns : List Int} : callN tab W (n + 1) k [sqD b ns] st = .ok (.bl true, st) := by
  apply Run.eq; refine run_callN h rfl ?_; unfold bIsList
  cases b <;> walk_at "v"
theorem whole_run {k : Nat} (h : tab[k]? = some (.v ⟨1, 1, bIsWhole⟩)) {i : Int} : callN tab W (n + 1) k [.int i] st = .ok (.bl true, st) := by
  apply Run.eq; refine run_callN h rfl ?_; unfold bIsWhole
  walk_at "v"
theorem number_run {k kw : Nat} (hw : tab[kw]? = some (.v ⟨1, 1, bIsWhole⟩)) (h : tab[k]? = some (.v ⟨1, 1, bIsNumber kw⟩)) {i : Int} (hi : 0 ≤ i) : callN tab W (n + 2) k [.int i] st = .ok (.bl true, st) := by
  apply Run.eq; refine run_callN h rfl ?_; unfold bIsNumber
  have := fun n st => whole_run (W := W) (n := n) (st := st) hw (i := i)
  walk_at "v"
  simp only [this, run_ok]
  walk_at "v"
theorem prime_run {k kw : Nat} (hw : tab[kw]? = some (.v ⟨1, 1, bIsWhole⟩)) (h : tab[k]? = some (.v ⟨2, 1, bIsPrime kw⟩)) {p : Int} (hp : Pr p) (hW : 2000000 < W) : callN tab W (n + 2) k [.int p] st = .ok (.bl true, st) := by
  apply Run.eq; refine run_callN h rfl ?_; unfold bIsPrime
  have := fun n st => whole_run (W := W) (n := n) (st := st) hw (i := p)
  have h2 := hp.two
  have h3 := hp.small
  walk_at "v"
  simp only [this, run_ok]
  walk_at "v"
  refine while_by (fun s => ∃ d : Int, s = ⟨[some (.int p), some (.int d)], st⟩ ∧ 2 ≤ d ∧ d ≤ p + 1) (fun s => (p + 2).toNat - slotN 1 s) ?_ W _ ⟨2, rfl, by omega, by omega⟩ (by simp; omega)
  rintro s ⟨d, rfl, d0, d1⟩
  walk_at "v"
  intro hd
  have no := hp.no d d0 hd
  have dp : d ≤ p := by
    have : d * 1 ≤ d * d := Int.mul_le_mul_of_nonneg_left (by omega) (by omega)
    omega
  have e1 : (d + 1).toNat = d.toNat + 1 := by rw [Int.toNat_add (by omega) (by omega)]; rfl
  have e2 : d.toNat < (p + 2).toNat := by rw [Int.toNat_lt_toNat (by omega)]; omega
  exact ⟨no, dp, by rw [e1]; exact Nat.sub_lt_sub_left e2 (Nat.lt_succ_self _)⟩
theorem check1_run {k kp : Nat} (h : tab[k]? = some (.v ⟨1, 1, bCheck1 kp⟩)) {d : D} (hp : callN tab W n kp [d] st = .ok (.bl true, st)) (hd : (d.rd 0).ma (fun _ => Tag.fz) = d) : callN tab W (n + 1) k [d] st = .ok (.non, st) := by
  apply Run.eq; refine run_callN h rfl ?_; unfold bCheck1
  walk_at "v"
  simp only [hd, hp, run_ok]
  walk_at "v"
theorem firstbad_run {k kl kn kw : Nat} (hl : tab[kl]? = some (.v ⟨1, 1, bIsList⟩)) (hw : tab[kw]? = some (.v ⟨1, 1, bIsWhole⟩)) (hn : tab[kn]? = some (.v ⟨1, 1, bIsNumber kw⟩)) (h : tab[k]? = some (.v ⟨4, 2, bFirstBad kl kn⟩)) {p : Int} {b : Bool} {ns : List Int} (hr : Rests p ns) :
    callN tab W (n + 3) k [.int p, sqD b ns] st = .ok (.non, st) := by
  apply Run.eq; refine run_callN h rfl ?_; unfold bFirstBad
  have e1 := fun n st => islist_run (W := W) (n := n) (st := st) hl (b := b) (ns := ns)
  walk_at "v"
  simp only [e1, run_ok]
  walk_at "v"
  refine for_by _ (fun i s => ∃ o2 o3, s = ⟨[some (.int p), some (sqD b ns), o2, o3], st⟩) ⟨_, _, rfl⟩ ?_ ?_
  · rintro i d s hi ⟨o2, o3, rfl⟩
    obtain ⟨a, ha, rfl⟩ := enum_get hi
    obtain ⟨h0, h1⟩ := hr a (List.mem_of_getElem? ha)
    have e2 := fun n st => number_run (W := W) (n := n) (st := st) hw hn h0
    walk_at "v"
    simp only [e2, run_ok]
    walk_at "v"
  · rintro s ⟨o2, o3, rfl⟩
    walk_at "v"
end
end VL
namespace VL
open PySem PySem.Spec PyProof.Rows L2
theorem mapR_int {l : List Nat} {g : Nat → Int} : (l.map fun k => D.int (g k)) = (l.map g).map D.int := by rw [List.map_map]; rfl
theorem map_int {l : List Int} {g : Int → Int} : (l.map fun k => D.int (g k)) = (l.map g).map D.int := by rw [List.map_map]; rfl
/-- a for over ints that folds -/
theorem for_fold {α : Type} {bind : D → VS → Res VS} {b : VS → Res Fl} {Q : Fl → Prop} (f : α → Int → α) (I : α → VS → Prop) : ∀ (xs : List Int) (a : α) {s : VS}, I a s → (∀ a x s, x ∈ xs → I a s → Run (bind (.int x) s) fun s1 => Run (b s1) fun r => match r with | .nx s2 => I (f a x) s2 | .ct s2 => I (f a x) s2 | .rt _ _ => False) → (∀ s, I (xs.foldl f a) s → Q (.nx s)) → Run (forGo bind b (xs.map D.int) s) Q
  | [], a, s, h0, _, hq => run_ok.mpr (hq s h0)
  | x :: xs, a, s, h0, h, hq => by
    show Run (forGo bind b (D.int x :: xs.map D.int) s) Q
    unfold forGo
    rw [run_bind]
    refine (h a x s List.mem_cons_self h0).mono fun s1 h1 => ?_
    rw [run_bind]
    refine h1.mono fun r hr => ?_
    cases r with
    | nx s2 => exact for_fold f I xs (f a x) hr (fun a y s hy => h a y s (List.mem_cons_of_mem _ hy)) hq
    | ct s2 => exact for_fold f I xs (f a x) hr (fun a y s hy => h a y s (List.mem_cons_of_mem _ hy)) hq
    | rt d st => exact hr.elim
theorem cut_all {xs : List D} : cutD xs none none = xs := by
  unfold cutD
  rw [HT.sIx_none, HT.sIx_none, List.drop_zero, Nat.sub_zero, List.take_length]
theorem cut_from {xs : List D} {k : Nat} : cutD xs (some (k : Int)) none = xs.drop k := by
  unfold cutD
  rw [HT.sIx_nat, HT.sIx_none]
  by_cases h : k ≤ xs.length
  · rw [Nat.min_eq_left h, List.take_of_length_le (by rw [List.length_drop]; exact Nat.le_refl _)]
  · rw [Nat.min_eq_right (by omega), List.drop_of_length_le (by omega), List.drop_of_length_le (by omega)]; simp
theorem cut_to {xs : List D} {k : Nat} : cutD xs none (some (k : Int)) = xs.take k := by
  unfold cutD
  rw [HT.sIx_nat, HT.sIx_none, List.drop_zero, Nat.sub_zero]
  by_cases h : k ≤ xs.length
  · rw [Nat.min_eq_left h]
  · rw [Nat.min_eq_right (by omega), List.take_length, List.take_of_length_le (by omega)]
@[simp] theorem cut_1 {xs : List D} : cutD xs (some 1) none = xs.tail := by
  have := cut_from (xs := xs) (k := 1)
  rw [show ((1 : Nat) : Int) = 1 from rfl] at this
  rw [this]
  cases xs <;> rfl
@[simp] theorem cut_n {xs : List D} : cutD xs none none = xs := cut_all
theorem snoc_int {l : List Int} {a : Int} : l.map D.int ++ [D.int a] = (l ++ [a]).map D.int := by simp
theorem tail_ints {ns : List Int} : (ns.map D.int).tail = ns.tail.map D.int := by cases ns <;> rfl
theorem rev_ints {ns : List Int} : (ns.map D.int).reverse = ns.reverse.map D.int := (List.map_reverse).symm
end VL
namespace VL
open PySem PySem.Spec PyProof.Rows L2
/-! ### lists of ints, compared and told -/
theorem erases_ints : ∀ ns : List Int, D.erases (ns.map D.int) = ns.map PyData.int
  | [] => rfl
  | n :: ns => by show PyData.int n :: D.erases (ns.map D.int) = _; rw [erases_ints ns]; rfl
theorem lay_ints : ∀ ns : List Int, PyData.canLayAll0 (ns.map PyData.int) = true
  | [] => by simp [PyData.canLayAll0]
  | n :: ns => by simp [PyData.canLayAll0, PyData.canLay0, lay_ints ns]
theorem dep_ints : ∀ ns : List Int, PyData.depthAll (ns.map PyData.int) = 0
  | [] => by simp [PyData.depthAll]
  | n :: ns => by simp [PyData.depthAll, PyData.depth, dep_ints ns]
theorem eqv_ints : ∀ xs ys : List Int, PyData.eqvAll (xs.map PyData.int) (ys.map PyData.int) = decide (xs = ys)
  | [], [] => by simp [PyData.eqvAll]
  | [], y :: ys => by simp [PyData.eqvAll]
  | x :: xs, [] => by simp [PyData.eqvAll]
  | x :: xs, y :: ys => by
    simp only [List.map_cons, PyData.eqvAll, PyData.eqv, eqv_ints xs ys]
    by_cases h : x = y <;> simp [h]
theorem shaped_intL (ns : List Int) : SeqAt.shaped (.list (ns.map PyData.int)) = true := by
  unfold SeqAt.shaped
  simp [PyData.canLay0, PyData.depth, lay_ints, dep_ints]
@[simp] theorem eq_ints {t u : Tag} {xs ys : List Int} : cmpD .eq (.lst t (xs.map D.int)) (.lst u (ys.map D.int)) = .ok (decide (xs = ys)) := by
  show guardR (SeqAt.shaped (.list (D.erases (xs.map D.int))) && SeqAt.shaped (.list (D.erases (ys.map D.int)))) (PyData.eqv (.list (D.erases (xs.map D.int))) (.list (D.erases (ys.map D.int)))) = _
  rw [erases_ints, erases_ints, shaped_intL, shaped_intL]
  show Res.ok (PyData.eqv _ _) = _
  rw [PyData.eqv, eqv_ints]
@[simp] theorem ne_ints {t u : Tag} {xs ys : List Int} : cmpD .ne (.lst t (xs.map D.int)) (.lst u (ys.map D.int)) = .ok (!decide (xs = ys)) := by
  show (cmpD .eq (.lst t (xs.map D.int)) (.lst u (ys.map D.int)) >>= fun b => Res.ok (!b)) = _
  rw [eq_ints]; rfl
@[simp] theorem ne_ints0 {t u : Tag} {xs : List Int} : cmpD .ne (.lst t (xs.map D.int)) (.lst u []) = .ok (!decide (xs = [])) := ne_ints (ys := [])
@[simp] theorem ne_nil {t u : Tag} : cmpD .ne (.lst t []) (.lst u []) = .ok false := ne_ints (xs := []) (ys := [])
theorem weight_ints (ns : List Int) (h : ∀ x ∈ ns, 0 ≤ x ∧ x < 1000000) : PyData.weightAll (ns.map PyData.int) ≤ 21 * ns.length := by
  induction ns with
  | nil => simp [PyData.weightAll]
  | cons n ns ih =>
    have h1 := ih fun x hx => h x (List.mem_cons_of_mem _ hx)
    obtain ⟨h2, h3⟩ := h n List.mem_cons_self
    simp only [List.map_cons, PyData.weightAll, PyData.weight, List.length_cons]
    have : n.natAbs.log2 < 20 := by
      by_cases e : n.natAbs = 0
      · rw [e]; decide
      · rw [Nat.log2_lt e]; have : (2 : Nat) ^ 20 = 1048576 := by decide
        omega
    split <;> omega
theorem showable_ints (ns : List Int) (h : ∀ x ∈ ns, 0 ≤ x ∧ x < 1000000) : PyData.showableAll (ns.map PyData.int) = true := by
  induction ns with
  | nil => simp [PyData.showableAll]
  | cons n ns ih =>
    have h1 := ih fun x hx => h x (List.mem_cons_of_mem _ hx)
    obtain ⟨h2, h3⟩ := h n List.mem_cons_self
    simp only [List.map_cons, PyData.showableAll, PyData.showable, h1, Bool.and_true, decide_eq_true_eq]
    by_cases e : n.natAbs = 0
    · rw [e]; decide
    · rw [Nat.log2_lt e]
      exact Nat.lt_of_lt_of_le (show n.natAbs < 2 ^ 20 by have : (2 : Nat) ^ 20 = 1048576 := by decide
                                                          omega) (Nat.pow_le_pow_right (by decide) (by decide))
theorem hasd_ints (ns : List Int) : PyData.hasDictAll (ns.map PyData.int) = false := by
  induction ns with
  | nil => simp [PyData.hasDictAll]
  | cons n ns ih => simp [PyData.hasDictAll, PyData.hasDict, ih]
theorem reprOk_of {d : PyData} (h1 : PyData.canLay0 d = true) (h2 : PyData.depth d ≤ 64) (h3 : PyData.weight d ≤ 2 ^ 20) (h4 : PyData.showable d = true) (h5 : PyData.hasDict d = false) (h6 : PyData.intsShort 13 d = true) : reprOk d = true := by
  have hl : PyData.layable0 d = true := by
    unfold PyData.layable0
    rw [h1, decide_eq_true h2, decide_eq_true h3]; rfl
  unfold reprOk
  rw [hl, h4, h5]
  have := shown_le13 hl h6
  have hm : Nat.ble (PyData.shown d).length maxLen = true := Nat.ble_eq.mpr (by rw [maxLen_num]; omega)
  rw [hm]; rfl
theorem short_ints : ∀ ns : List Int, (∀ x ∈ ns, 0 ≤ x ∧ x < 1000000) → PyData.intsShortAll 13 (ns.map PyData.int) = true
  | [], _ => by simp [PyData.intsShortAll]
  | n :: ns, h => by
    obtain ⟨h2, h3⟩ := h n List.mem_cons_self
    simp only [List.map_cons, PyData.intsShortAll, PyData.intsShort, short_ints ns fun x hx => h x (List.mem_cons_of_mem _ hx), Bool.and_true, decide_eq_true_eq]
    exact PyData.shown_int_le (by have : (10 : Nat) ^ 12 = 1000000000000 := by decide
                                  omega)
theorem repr_okL {ns : List Int} (h : ∀ x ∈ ns, 0 ≤ x ∧ x < 1000000) (hl : ns.length ≤ 40000) : reprOk (.list (ns.map PyData.int)) = true := by
  have := weight_ints ns h
  refine reprOk_of (by simp [PyData.canLay0, lay_ints]) (by simp [PyData.depth, dep_ints]) ?_ (by simp [PyData.showable, showable_ints ns h]) (by simp [PyData.hasDict, hasd_ints]) (by simp [PyData.intsShort, short_ints ns h])
  have e : (2 : Nat) ^ 20 = 1048576 := by decide
  simp only [PyData.weight]; omega
theorem repr_okT {ns : List Int} (h : ∀ x ∈ ns, 0 ≤ x ∧ x < 1000000) (hl : ns.length ≤ 40000) : reprOk (.tuple (ns.map PyData.int)) = true := by
  have := weight_ints ns h
  refine reprOk_of (by simp [PyData.canLay0, lay_ints]) (by simp [PyData.depth, dep_ints]) ?_ (by simp [PyData.showable, showable_ints ns h]) (by simp [PyData.hasDict, hasd_ints]) (by simp [PyData.intsShort, short_ints ns h])
  have e : (2 : Nat) ^ 20 = 1048576 := by decide
  simp only [PyData.weight]; omega
/-- repr of ints in a list or a tuple -/
def reS (b : Bool) (ns : List Int) : Str := if b then PyData.shown (.list (ns.map PyData.int)) else PyData.shown (.tuple (ns.map PyData.int))
theorem repr_lst {t : Tag} {ns : List Int} (h : ∀ x ∈ ns, 0 ≤ x ∧ x < 1000000) (hl : ns.length ≤ 40000) : biD .repr [.lst t (ns.map D.int)] = .ok (.str (reS true ns)) := by
  rw [bi_reprL, erases_ints, repr_okL h hl]; rfl
theorem repr_tup {ns : List Int} (h : ∀ x ∈ ns, 0 ≤ x ∧ x < 1000000) (hl : ns.length ≤ 40000) : biD .repr [.tup (ns.map D.int)] = .ok (.str (reS false ns)) := by
  rw [bi_reprT, erases_ints, repr_okT h hl]; rfl
theorem repr_sq {b : Bool} {ns : List Int} (h : ∀ x ∈ ns, 0 ≤ x ∧ x < 1000000) (hl : ns.length ≤ 40000) : biD .repr [sqD b ns] = .ok (.str (reS b ns)) := by
  cases b
  · exact repr_tup h hl
  · exact repr_lst h hl
/-- a comprehension over things written out -/
theorem comp_nil {bind : D → VS → Res VS} {t : VS → Res (Bool × VS)} {elt : VS → Res (D × VS)} {s : VS} {Q : List D × VS → Prop} : Run (compGo bind t elt [] s) Q ↔ Q ([], s) := run_ok
theorem comp_cons {bind : D → VS → Res VS} {t : VS → Res (Bool × VS)} {elt : VS → Res (D × VS)} {d : D} {ds : List D} {s : VS} {Q : List D × VS → Prop} : Run (compGo bind t elt (d :: ds) s) Q ↔ Run (bind d s) fun s1 => Run (t s1) fun b => Run (if b.1 = true then elt b.2 >>= fun y => compGo bind t elt ds y.2 >>= fun r => .ok (y.1 :: r.1, r.2) else compGo bind t elt ds b.2) Q := by
  rw [compGo, run_bind]
  exact ⟨fun h => h.mono fun s1 h1 => run_bind.mp h1, fun h => h.mono fun s1 h1 => run_bind.mpr h1⟩
end VL
end

/-! text: VLib3 -/
section
set_option autoImplicit false
set_option maxHeartbeats 4000000
/-! VLib3: draws, picks, loose copies. -/
namespace VL
open PySem PySem.Spec PyProof.Rows L2
local macro_rules | `(tactic| walk_at "v") => `(tactic| simp (config := {maxSteps := 4000000}) (disch := omega) [List.getElem?_cons_zero, ilt_t, ilt_f, ile_t, ile_f, ieq_t, ieq_f, nlt_t, nlt_f, nle_t, nle_f, neq_t, neq_f, mulOk_l, mulOk_r, divOk_of, small_of, rngOk_num, comp_cons, comp_nil, -List.map_reverse, -List.map_tail, -List.map_map, rev_ints, tail_ints])
def bLoose (k kd : Nat) : VB :=
    (.seq (.if_ (.isi (.name 1) [.list, .tuple])
    (.seq (.asg (.nm 2) (.comp [3] (.nm 3) (.name 1) .nil (.call k (.cons (.name 0) (.cons (.name 3) .nil)))))
    (.seq (.retC (.cmp .eq (.call kd (.cons (.name 0) (.cons (.int 2) .nil))) (.int 0)) 2)
    .pass))
    .pass)
    (.seq (.ret (.name 1))
    .pass))
/-- the loose copy: a list of its own, or a tuple -/
def looD (b : Bool) (ns : List Int) : D := if b then .lst .own (ns.map D.int) else .tup (ns.map D.int)
@[simp] theorem loo_fz {b : Bool} {ns : List Int} : (looD b ns).ma (fun _ => .fz) = sqD b ns := by cases b <;> simp [looD, sqD]
@[simp] theorem loo_un {b : Bool} {ns : List Int} : (looD b ns).ma Tag.un = looD b ns := by cases b <;> simp [looD]
@[simp] theorem loo_isB {b : Bool} {ns : List Int} : (looD b ns).any Tag.isB = false := by cases b <;> simp [looD]
@[simp] theorem loo_isFz {b : Bool} {ns : List Int} : (looD b ns).any Tag.isFz = false := by cases b <;> simp [looD]
/-- the loose copy as it is read off a slot -/
def lorD (n : Nat) (b : Bool) (ns : List Int) : D := if b then .lst (.br n) (ns.map D.int) else .tup (ns.map D.int)
@[simp] theorem loo_rd {b : Bool} {ns : List Int} {n : Nat} : (looD b ns).rd n = lorD n b ns := by cases b <;> simp [looD, lorD]
@[simp] theorem lor_fz {b : Bool} {ns : List Int} {n : Nat} : (lorD n b ns).ma (fun _ => .fz) = sqD b ns := by cases b <;> simp [lorD, sqD]
@[simp] theorem lor_isFz {b : Bool} {ns : List Int} {n : Nat} : (lorD n b ns).any Tag.isFz = false := by cases b <;> simp [lorD]
theorem repr_lor {b : Bool} {n : Nat} {ns : List Int} (h : ∀ x ∈ ns, 0 ≤ x ∧ x < 1000000) (hl : ns.length ≤ 40000) : biD .repr [lorD n b ns] = .ok (.str (reS b ns)) := by
  cases b
  · exact repr_tup h hl
  · exact repr_lst h hl
/-- a rest has been drawn -/
structure Drawn1 (p B : Int) (I : Strm → VS → Prop) (d : D) (s : VS) : Prop where
  ex : ∃ r st, d = .int r ∧ 0 ≤ r ∧ r < p ∧ SOk B st ∧ I st s
theorem comp_drawn {bind : D → VS → Res VS} {t : VS → Res (Bool × VS)} {elt : VS → Res (D × VS)} {Q : List D × VS → Prop} {st : Strm} (ds : List D) (p B : Int) (I : Strm → VS → Prop) {s : VS} (hb : SOk B st) (h0 : I st s)
    (h : ∀ d s st (i : Nat), d ∈ ds → I st s → SOk (B + i) st → i < ds.length → Run (bind d s) fun s1 => Run (t s1) fun b => b.1 = true ∧ Run (elt b.2) fun y => Drawn1 p (B + i + 1) I y.1 y.2)
    (q : ∀ ns st s, ns.length = ds.length → Rests p ns → SOk (B + ds.length) st → I st s → Q (ns.map D.int, s)) : Run (compGo bind t elt ds s) Q := by
  refine comp_by ds (fun i ys s => ∃ ns st', ys = ns.map D.int ∧ ns.length = i ∧ Rests p ns ∧ SOk (B + i) st' ∧ I st' s) ⟨[], st, rfl, rfl, (fun x hx => by cases hx), by simpa using hb, h0⟩ ?_ ?_
  · rintro i d ys s hi ⟨ns, st', rfl, hl, hr, hs, hI⟩
    have hi' : i < ds.length := (List.getElem?_eq_some_iff.mp hi).1
    refine (h d s st' i (List.mem_of_getElem? hi) hI hs hi').mono fun s1 h1 => h1.mono fun b hb => ?_
    rw [if_pos hb.1]
    refine hb.2.mono fun y ⟨r, st2, e, r0, r1, hs2, hI2⟩ => ⟨ns ++ [r], st2, by rw [e]; simp, by simp [hl], fun x hx => ?_, hs2.up (by omega), hI2⟩
    rcases List.mem_append.mp hx with hx | hx
    · exact hr x hx
    · rw [List.mem_singleton.mp hx]; exact ⟨r0, r1⟩
  · rintro ys s ⟨ns, st', rfl, hl, hr, hs, hI⟩
    exact q ns st' s hl hr hs hI
section
variable {tab : List Ent} {W n kd : Nat} {B : Int} {st : Strm} (hd : tab[kd]? = some (.own 2 drawV))
include hd
theorem pickg_run {k : Nat} (hk : tab[k]? = some (.v ⟨2, 2, bPick kd⟩)) (h : SOk B st) (hB : B ≤ 1099511627776) {t : Tag} {xs : List Int} (h0 : 0 < xs.length) (h1 : xs.length < 1000000) {Q : D × Option Strm → Prop} (q : ∀ x st', x ∈ xs → SOk (B + 1) st' → Q (.int x, some st')) : Run (callN tab W (n + 2) k [.strm, .lst t (xs.map D.int)] (some st)) Q := by
  refine run_callN hk rfl ?_
  unfold bPick
  walk_at "v"
  refine run_draw hd h hB (by omega) (by omega) fun r st' r0 r1 h' => ?_
  obtain ⟨k, rfl⟩ := Int.eq_ofNat_of_zero_le r0
  have hk : k < xs.length := by omega
  have e : atI (xs.map D.int) (k : Int) = some (.int xs[k]) := atI_at (by simp [hk])
  walk_at "v"
  simp only [e]
  walk_at "v"
  exact q _ _ (List.getElem_mem _) h'
theorem loose_run {k : Nat} (hk : tab[k]? = some (.v ⟨4, 2, bLoose k kd⟩)) (h : SOk B st) (hB : B ≤ 1000000000) {ns : List Int} {b : Bool} (hl : ns.length ≤ 1000) {Q : D × Option Strm → Prop} (q : ∀ b st', SOk (B + 1) st' → Q (looD b ns, some st')) : Run (callN tab W (n + 2) k [.strm, sqD b ns] (some st)) Q := by
  have one : ∀ (n : Nat) (x : Int) (st : Option Strm), callN tab W (n + 1) k [.strm, .int x] st = .ok (.int x, st) := fun n x st => by
    apply Run.eq; refine run_callN hk rfl ?_; unfold bLoose
    walk_at "v"
  refine run_callN hk rfl ?_
  unfold bLoose
  walk_at "v"
  have main : ∀ (R : List D × VS → Prop), (∀ o, R (ns.map D.int, ⟨[some .strm, some (sqD b ns), none, o], some st⟩)) → Run (compGo (fun d s => guardR (decide (3 < s.ρ.length)) (s.ρ.set 3 (some d)) >>= fun ρ => Res.ok (⟨ρ, s.st⟩ : VS)) (fun s => Res.ok (true, s)) (fun s => callM (callN tab W (n + 1)) k (consM (nameM 0) (consM (nameM 3) fun s => Res.ok ([], s))) s >>= fun y => Res.ok (y.1.ma Tag.un, (⟨if D.any Tag.isB y.1 = true then settleE [y.1] y.2.ρ else y.2.ρ, y.2.st⟩ : VS))) (ns.map D.int) ⟨[some .strm, some (sqD b ns), none, none], some st⟩) R := by
    intro R hR
    refine comp_all _ (fun i => .int (ns[i]?.getD 0)) (fun s => ∃ o, s = ⟨[some .strm, some (sqD b ns), none, o], some st⟩) ⟨_, rfl⟩ ?_ ?_
    · rintro i d s hi ⟨o, rfl⟩
      rw [List.getElem?_map] at hi
      cases e : ns[i]? with
      | none => rw [e] at hi; cases hi
      | some x =>
        rw [e] at hi
        cases hi
        walk_at "v"
        simp only [one, run_ok]
        walk_at "v"
    · rintro s ⟨o, rfl⟩
      have e : (List.range (ns.map D.int).length).map (fun i => D.int (ns[i]?.getD 0)) = ns.map D.int := by
        apply List.ext_getElem?
        intro i
        rw [List.getElem?_map, List.getElem?_map, List.length_map]
        by_cases hi : i < ns.length
        · rw [List.getElem?_range hi]
          have h1 : ns[i]? = some ns[i] := List.getElem?_eq_getElem hi
          simp only [Option.map_some, h1, Option.getD_some]
        · rw [List.getElem?_eq_none (by simpa using hi), List.getElem?_eq_none (l := ns) (by omega)]
          rfl
      rw [e]
      exact hR o
  have fin : ∀ (b' : Bool), b' = true ∨ b' = false := fun b' => by cases b' <;> simp
  cases b
  · walk_at "v"
    refine main _ fun o => ?_
    walk_at "v"
    refine run_draw hd h (by omega) (by omega) (by omega) fun r st' r0 r1 h' => ?_
    walk_at "v"
    split
    · exact q true st' h'
    · exact q false st' h'
  · walk_at "v"
    refine main _ fun o => ?_
    walk_at "v"
    refine run_draw hd h (by omega) (by omega) (by omega) fun r st' r0 r1 h' => ?_
    walk_at "v"
    split
    · exact q true st' h'
    · exact q false st' h'
end
end VL
end

/-! text: VLib4 -/
section
set_option autoImplicit false
set_option maxHeartbeats 4000000
/-! VLib4: things of any form: copies, loose copies, their texts. -/
namespace VL
open PySem PySem.Spec PyProof.Rows L2
local macro_rules | `(tactic| walk_at "v") => `(tactic| simp (config := {maxSteps := 4000000}) (disch := omega) [List.getElem?_cons_zero, ilt_t, ilt_f, ile_t, ile_f, ieq_t, ieq_f, nlt_t, nlt_f, nle_t, nle_f, neq_t, neq_f, mulOk_l, mulOk_r, divOk_of, small_of, rngOk_num, comp_cons, comp_nil, -List.map_reverse, -List.map_tail, -List.map_map, rev_ints, tail_ints, -bi_reprL, -bi_reprT])
/-- own -/
def Tag.nice : Tag → Bool | .own => true | _ => false
mutual
/-- lists and tuples, flat things; nothing borrowed -/
def ownD : D → Bool
  | .lst t xs => t.nice && ownDs xs && decide (xs.length < 1000000)
  | .tup xs => ownDs xs && decide (xs.length < 1000000)
  | .non => true | .bl _ => true | .int _ => true | .str _ => true
  | _ => false
def ownDs : List D → Bool
  | [] => true
  | x :: xs => ownD x && ownDs xs
end
mutual
/-- tuples as lists, nobody's -/
def nrm : D → D
  | .lst _ xs => .lst .fz (nrms xs)
  | .tup xs => .lst .fz (nrms xs)
  | .dk _ _ _ => .dk .fz [] []
  | d => d
def nrms : List D → List D
  | [] => []
  | x :: xs => nrm x :: nrms xs
end
mutual
/-- how many lists and tuples -/
def wt : D → Nat
  | .lst _ xs => wts xs + 1
  | .tup xs => wts xs + 1
  | _ => 0
def wts : List D → Nat
  | [] => 0
  | x :: xs => wt x + wts xs
end
mutual
theorem own_ma {f : Tag → Tag} (hf : f .own = .own) : ∀ d, ownD d = true → d.ma f = d
  | .lst t xs, h => by
    simp only [ownD, Bool.and_eq_true, decide_eq_true_eq] at h
    obtain ⟨⟨ht, h⟩, _⟩ := h
    rw [ma_lst, own_mas hf xs h]
    cases t <;> first | rw [hf] | cases ht
  | .tup xs, h => by
    simp only [ownD, Bool.and_eq_true, decide_eq_true_eq] at h
    rw [ma_tup, own_mas hf xs h.1]
  | .non, _ => rfl | .bl _, _ => rfl | .int _, _ => rfl | .str _, _ => rfl
  | .strm, h => by cases h
  | .dk _ _ _, h => by cases h
theorem own_mas {f : Tag → Tag} (hf : f .own = .own) : ∀ xs, ownDs xs = true → D.mas f xs = xs
  | [], _ => rfl
  | x :: xs, h => by
    simp only [ownDs, Bool.and_eq_true] at h
    rw [mas_cons, own_ma hf x h.1, own_mas hf xs h.2]
end
mutual
theorem own_any {p : Tag → Bool} (hp : p .own = false) : ∀ d, ownD d = true → d.any p = false
  | .lst t xs, h => by
    simp only [ownD, Bool.and_eq_true, decide_eq_true_eq] at h
    obtain ⟨⟨ht, h⟩, _⟩ := h
    rw [any_lst, own_anys hp xs h]
    cases t <;> first | (rw [hp]; rfl) | cases ht
  | .tup xs, h => by
    simp only [ownD, Bool.and_eq_true, decide_eq_true_eq] at h
    rw [any_tup, own_anys hp xs h.1]
  | .non, _ => rfl | .bl _, _ => rfl | .int _, _ => rfl | .str _, _ => rfl
  | .strm, h => by cases h
  | .dk _ _ _, h => by cases h
theorem own_anys {p : Tag → Bool} (hp : p .own = false) : ∀ xs, ownDs xs = true → D.anys p xs = false
  | [], _ => rfl
  | x :: xs, h => by
    simp only [ownDs, Bool.and_eq_true] at h
    rw [anys_cons, own_any hp x h.1, own_anys hp xs h.2]; rfl
end
mutual
theorem own_nice {f : Tag → Tag} (hf : (f .own).nice = true) : ∀ d, ownD d = true → ownD (d.ma f) = true
  | .lst t xs, h => by
    simp only [ownD, Bool.and_eq_true, decide_eq_true_eq] at h
    obtain ⟨⟨ht, h⟩, hl⟩ := h
    rw [ma_lst]
    simp only [ownD, Bool.and_eq_true, decide_eq_true_eq]
    refine ⟨⟨?_, own_nices hf xs h⟩, by rw [mas_len]; exact hl⟩
    cases t <;> first | exact hf | cases ht
  | .tup xs, h => by
    simp only [ownD, Bool.and_eq_true, decide_eq_true_eq] at h
    rw [ma_tup]
    simp only [ownD, Bool.and_eq_true, decide_eq_true_eq]
    exact ⟨own_nices hf xs h.1, by rw [mas_len]; exact h.2⟩
  | .non, _ => rfl | .bl _, _ => rfl | .int _, _ => rfl | .str _, _ => rfl
  | .strm, h => by cases h
  | .dk _ _ _, h => by cases h
theorem own_nices {f : Tag → Tag} (hf : (f .own).nice = true) : ∀ xs, ownDs xs = true → ownDs (D.mas f xs) = true
  | [], _ => rfl
  | x :: xs, h => by
    simp only [ownDs, Bool.and_eq_true] at h
    rw [mas_cons]
    simp only [ownDs, own_nice hf x h.1, own_nices hf xs h.2, Bool.and_self]
end
mutual
theorem own_ok : ∀ d, ownD d = true → okD (d.ma fun _ => .fz) = true
  | .lst t xs, h => by
    simp only [ownD, Bool.and_eq_true, decide_eq_true_eq] at h
    rw [ma_lst]
    simp only [okD, own_oks xs h.1.2, mas_len, h.2, decide_true, Bool.and_self]
  | .tup xs, h => by
    simp only [ownD, Bool.and_eq_true, decide_eq_true_eq] at h
    rw [ma_tup]
    simp only [okD, own_oks xs h.1, mas_len, h.2, decide_true, Bool.and_self]
  | .non, _ => rfl | .bl _, _ => rfl | .int _, _ => rfl | .str _, _ => rfl
  | .strm, h => by cases h
  | .dk _ _ _, h => by cases h
theorem own_oks : ∀ xs, ownDs xs = true → okDs (D.mas (fun _ => .fz) xs) = true
  | [], _ => rfl
  | x :: xs, h => by
    simp only [ownDs, Bool.and_eq_true] at h
    rw [mas_cons]
    simp only [okDs, own_ok x h.1, own_oks xs h.2, Bool.and_self]
end
mutual
theorem ma_ma {f g : Tag → Tag} : ∀ d : D, (d.ma f).ma g = d.ma (fun t => g (f t))
  | .lst t xs => by rw [ma_lst, ma_lst, ma_lst, mas_mas xs]
  | .tup xs => by rw [ma_tup, ma_tup, ma_tup, mas_mas xs]
  | .non => rfl | .bl _ => rfl | .int _ => rfl | .str _ => rfl
  | .strm => rfl
  | .dk _ _ xs => by show D.dk _ _ (D.mas g (D.mas f xs)) = D.dk _ _ (D.mas _ xs); rw [mas_mas xs]
theorem mas_mas {f g : Tag → Tag} : ∀ xs, D.mas g (D.mas f xs) = D.mas (fun t => g (f t)) xs
  | [] => rfl
  | x :: xs => by rw [mas_cons, mas_cons, mas_cons, ma_ma x, mas_mas xs]
end
/-- what goes out with a tuple or a list of what lies in a slot -/
theorem outL_rc {n : Nat} : ∀ (xs : List D) (ρ : VEnv), ownDs xs = true → outL (D.mas (Tag.rc n) xs) ρ = D.mas (fun t => Tag.un (Tag.rc n t)) xs
  | [], _, _ => rfl
  | x :: xs, ρ, h => by
    simp only [ownDs, Bool.and_eq_true] at h
    have hr : rootB (x.ma (Tag.rc n)) = none := by
      cases x with
      | lst t ys =>
        have := h.1
        simp only [ownD, Bool.and_eq_true] at this
        cases t <;> first | rfl | (have := this.1.1; cases this)
      | dk _ _ _ => cases h.1
      | _ => rfl
    rw [mas_cons, outL]
    unfold out1
    rw [hr, mas_cons, outL_rc xs _ h.2, ma_ma]
mutual
theorem nrm_ma {f : Tag → Tag} : ∀ d, nrm (d.ma f) = nrm d
  | .lst t xs => by rw [ma_lst, nrm, nrm, nrms_mas xs]
  | .tup xs => by rw [ma_tup, nrm, nrm, nrms_mas xs]
  | .non => rfl | .bl _ => rfl | .int _ => rfl | .str _ => rfl
  | .strm => rfl
  | .dk _ _ _ => rfl
theorem nrms_mas {f : Tag → Tag} : ∀ xs, nrms (D.mas f xs) = nrms xs
  | [] => rfl
  | x :: xs => by rw [mas_cons, nrms, nrms, nrm_ma x, nrms_mas xs]
end
theorem nrms_len : ∀ xs, (nrms xs).length = xs.length
  | [] => rfl
  | x :: xs => by rw [nrms, List.length_cons, nrms_len xs, List.length_cons]
theorem nrms_app : ∀ xs ys, nrms (xs ++ ys) = nrms xs ++ nrms ys
  | [], ys => rfl
  | x :: xs, ys => by rw [List.cons_append, nrms, nrms, nrms_app xs ys]; rfl
theorem ownDs_app : ∀ xs ys, ownDs (xs ++ ys) = (ownDs xs && ownDs ys)
  | [], ys => rfl
  | x :: xs, ys => by rw [List.cons_append, ownDs, ownDs, ownDs_app xs ys, Bool.and_assoc]
theorem wts_app : ∀ xs ys, wts (xs ++ ys) = wts xs + wts ys
  | [], ys => by rw [List.nil_append]; simp [wts]
  | x :: xs, ys => by rw [List.cons_append, wts, wts, wts_app xs ys]; omega
mutual
theorem erase_ma {f : Tag → Tag} : ∀ d : D, D.erase (d.ma f) = D.erase d
  | .lst t xs => by rw [ma_lst, D.erase, D.erase, erases_mas xs]
  | .tup xs => by rw [ma_tup, D.erase, D.erase, erases_mas xs]
  | .non => rfl | .bl _ => rfl | .int _ => rfl | .str _ => rfl
  | .strm => rfl
  | .dk _ _ _ => rfl
theorem erases_mas {f : Tag → Tag} : ∀ xs, D.erases (D.mas f xs) = D.erases xs
  | [] => rfl
  | x :: xs => by rw [mas_cons, D.erases, D.erases, erase_ma x, erases_mas xs]
end
theorem fz_rd {n : Nat} (d : D) : (d.rd n).ma (fun _ => .fz) = d.ma (fun _ => .fz) := by
  cases d with
  | lst t xs => show D.lst _ (D.mas _ (D.mas _ xs)) = _; rw [mas_mas]; rfl
  | tup xs => show D.tup (D.mas _ (D.mas _ xs)) = _; rw [mas_mas]; rfl
  | dk t ks xs => show D.dk _ ks (D.mas _ (D.mas _ xs)) = _; rw [mas_mas]; rfl
  | _ => rfl
theorem erase_rd {n : Nat} (d : D) : D.erase (d.rd n) = D.erase d := by
  cases d with
  | lst t xs => show PyData.list (D.erases (D.mas _ xs)) = _; rw [erases_mas]; rfl
  | tup xs => show PyData.tuple (D.erases (D.mas _ xs)) = _; rw [erases_mas]; rfl
  | _ => rfl
theorem take_snoc {α : Type} {xs : List α} {i : Nat} {x : α} (h : xs[i]? = some x) : xs.take (i + 1) = xs.take i ++ [x] := by
  obtain ⟨hi, e⟩ := List.getElem?_eq_some_iff.mp h
  rw [List.take_add_one, h]; rfl
section
variable {tab : List Ent} {W k kd : Nat} (hd : tab[kd]? = some (.own 2 drawV)) (hk : tab[k]? = some (.v ⟨4, 2, bLoose k kd⟩))
include hd hk
theorem loose_gen : ∀ (n : Nat) (d : D) (st : Strm) (B : Int) (Q : D × Option Strm → Prop), dep d ≤ n → okD d = true → SOk B st → B + wt d ≤ 1000000000 → (∀ e st', nrm e = nrm d → ownD e = true → SOk (B + wt d) st' → Q (e, some st')) → Run (callN tab W (n + 2) k [.strm, d] (some st)) Q := by
  intro n
  induction n with
  | zero =>
    intro d st B Q hdp ho hs hB q
    have hs0 : SOk (B + ((0 : Nat) : Int)) st := hs.up (by simp)
    cases d with
    | lst t xs => simp only [dep] at hdp; omega
    | tup xs => simp only [dep] at hdp; omega
    | dk _ _ _ => cases ho
    | strm => cases ho
    | non => refine run_callN hk rfl ?_; unfold bLoose; walk_at "v"; exact q _ _ rfl rfl hs0
    | bl b => refine run_callN hk rfl ?_; unfold bLoose; walk_at "v"; exact q _ _ rfl rfl hs0
    | int i => refine run_callN hk rfl ?_; unfold bLoose; walk_at "v"; exact q _ _ rfl rfl hs0
    | str s => refine run_callN hk rfl ?_; unfold bLoose; walk_at "v"; exact q _ _ rfl rfl hs0
  | succ n ih =>
    intro d st B Q hdp ho hs hB q
    have hs0 : SOk (B + ((0 : Nat) : Int)) st := hs.up (by simp)
    have main : ∀ (d : D) (xs : List D) (R : List D × VS → Prop), okDs xs = true → deps xs ≤ n → B + wts xs ≤ 1000000000 → (∀ ys st' o, nrms ys = nrms xs → ownDs ys = true → ys.length = xs.length → SOk (B + wts xs) st' → R (ys, ⟨[some .strm, some d, none, o], some st'⟩)) → Run (compGo (fun d s => guardR (decide (3 < s.ρ.length)) (s.ρ.set 3 (some d)) >>= fun ρ => Res.ok (⟨ρ, s.st⟩ : VS)) (fun s => Res.ok (true, s)) (fun s => callM (callN tab W (n + 2)) k (consM (nameM 0) (consM (nameM 3) fun s => Res.ok ([], s))) s >>= fun y => Res.ok (y.1.ma Tag.un, (⟨if D.any Tag.isB y.1 = true then settleE [y.1] y.2.ρ else y.2.ρ, y.2.st⟩ : VS))) xs ⟨[some .strm, some d, none, none], some st⟩) R := by
      intro d xs R ho hdp hB hR
      refine comp_by _ (fun i ys s => nrms ys = nrms (xs.take i) ∧ ownDs ys = true ∧ ys.length = i ∧ ∃ o st', s = ⟨[some .strm, some d, none, o], some st'⟩ ∧ SOk (B + wts (xs.take i)) st') ⟨rfl, rfl, rfl, _, _, rfl, by simpa [wts] using hs⟩ ?_ ?_
      · rintro i x ys s hi ⟨e1, e2, e3, o, st', rfl, hs'⟩
        have hx := okDs_mem ho (List.mem_of_getElem? hi)
        have hx2 := deps_mem hdp (List.mem_of_getElem? hi)
        have et := take_snoc hi
        have hwt : wts (xs.take (i + 1)) ≤ wts xs := by
          have := wts_app (xs.take (i + 1)) (xs.drop (i + 1))
          rw [List.take_append_drop] at this
          omega
        rw [et, wts_app] at hwt
        simp only [wts] at hwt
        walk_at "v"
        simp only [ok_rd hx, ok_ma (f := fun _ => Tag.fz) rfl x hx]
        refine ih x st' _ _ hx2 hx hs' (by omega) fun e st2 n1 n2 n3 => ?_
        have h1 := own_ma (f := Tag.un) rfl e n2
        have e3' : (ys ++ [e]).length = i + 1 := by rw [List.length_append, e3]; rfl
        have h2 := own_any (p := Tag.isB) rfl e n2
        have h3 := ok_any (p := Tag.isB) rfl x hx
        have h4 : D.any Tag.isB (x.rd 3) = false := by rw [ok_rd hx]; exact h3
        simp only [h1, h2, h4, ite_self, if_false, Bool.false_eq_true, run_ok]
        refine ⟨?_, ?_, e3', some x, st2, by cases D.any Tag.isFz e <;> rfl, ?_⟩
        · rw [et, nrms_app, nrms_app, e1]; simp only [nrms, n1]
        · rw [ownDs_app, e2]; simp only [ownDs, n2, Bool.and_self]
        · rw [et, wts_app]; simp only [wts]
          exact n3.up (by omega)
      · rintro ys s ⟨e1, e2, e3, o, st', rfl, hs'⟩
        rw [List.take_length] at e1 hs'
        exact hR ys st' o e1 e2 e3 hs'
    cases d with
    | dk _ _ _ => cases ho
    | strm => cases ho
    | non => refine run_callN hk rfl ?_; unfold bLoose; walk_at "v"; exact q _ _ rfl rfl hs0
    | bl b => refine run_callN hk rfl ?_; unfold bLoose; walk_at "v"; exact q _ _ rfl rfl hs0
    | int i => refine run_callN hk rfl ?_; unfold bLoose; walk_at "v"; exact q _ _ rfl rfl hs0
    | str s => refine run_callN hk rfl ?_; unfold bLoose; walk_at "v"; exact q _ _ rfl rfl hs0
    | lst t xs =>
      simp only [okD, Bool.and_eq_true, decide_eq_true_eq] at ho
      obtain ⟨⟨rfl, ho⟩, hl⟩ := ho
      simp only [dep] at hdp
      simp only [wt] at hB
      refine run_callN hk rfl ?_; unfold bLoose
      have g1 := ok_mas (f := Tag.rc 1) rfl xs ho
      have g2 := ok_mas (f := fun _ => Tag.fz) rfl xs ho
      have g3 := ok_anys (p := Tag.isB) rfl xs ho
      walk_at "v"
      simp only [g1, g2, g3]
      walk_at "v"
      have fin : ∀ (ys : List D) (st' : Strm), nrms ys = nrms xs → ownDs ys = true → ys.length = xs.length → SOk (B + wts xs) st' → True := fun _ _ _ _ _ _ => trivial
      refine main _ xs _ ho (by omega) (by omega) fun ys st' o e1 e2 e3 hs' => ?_
      have f1 := own_mas (f := Tag.un) rfl ys e2
      have f2 := own_anys (p := Tag.isB) rfl ys e2
      walk_at "v"
      simp only [f1, f2]
      walk_at "v"
      refine run_draw hd hs' (by omega) (by omega) (by omega) fun r st2 r0 r1 h2 => ?_
      walk_at "v"
      split
      · exact q _ _ (by simp only [nrm, e1]) (by simp [ownD, e2, Tag.nice]; omega) (h2.up (by simp only [wt]; omega))
      · exact q _ _ (by simp only [nrm, e1]) (by simp [ownD, e2]; omega) (h2.up (by simp only [wt]; omega))
    | tup xs =>
      simp only [okD, Bool.and_eq_true, decide_eq_true_eq] at ho
      obtain ⟨ho, hl⟩ := ho
      simp only [dep] at hdp
      simp only [wt] at hB
      refine run_callN hk rfl ?_; unfold bLoose
      have g1 := ok_mas (f := Tag.rc 1) rfl xs ho
      have g2 := ok_mas (f := fun _ => Tag.fz) rfl xs ho
      have g3 := ok_anys (p := Tag.isB) rfl xs ho
      walk_at "v"
      simp only [g1, g2, g3]
      walk_at "v"
      have fin : ∀ (ys : List D) (st' : Strm), nrms ys = nrms xs → ownDs ys = true → ys.length = xs.length → SOk (B + wts xs) st' → True := fun _ _ _ _ _ _ => trivial
      refine main _ xs _ ho (by omega) (by omega) fun ys st' o e1 e2 e3 hs' => ?_
      have f1 := own_mas (f := Tag.un) rfl ys e2
      have f2 := own_anys (p := Tag.isB) rfl ys e2
      walk_at "v"
      simp only [f1, f2]
      walk_at "v"
      refine run_draw hd hs' (by omega) (by omega) (by omega) fun r st2 r0 r1 h2 => ?_
      walk_at "v"
      split
      · exact q _ _ (by simp only [nrm, e1]) (by simp [ownD, e2, Tag.nice]; omega) (h2.up (by simp only [wt]; omega))
      · exact q _ _ (by simp only [nrm, e1]) (by simp [ownD, e2]; omega) (h2.up (by simp only [wt]; omega))
end
/-! ### copies -/
def bCopied (k : Nat) : VB :=
    (.seq (.if_ (.isi (.name 0) [.list, .tuple])
    (.seq (.asg (.nm 1) (.comp [2] (.nm 2) (.name 0) .nil (.call k (.cons (.name 2) .nil))))
    (.seq (.retC (.isi (.name 0) [.list]) 1)
    .pass))
    .pass)
    (.seq (.if_ (.isi (.name 0) [.dict])
    (.seq (.ret (.bi .dictP (.cons (.emp [3] 0) .nil)))
    .pass)
    .pass)
    (.seq (.ret (.name 0))
    .pass)))
mutual
/-- the copy -/
def cp : D → D
  | .lst _ xs => .lst .own (cps xs)
  | .tup xs => .tup (cps xs)
  | d => d
def cps : List D → List D
  | [] => []
  | x :: xs => cp x :: cps xs
end
theorem cps_len : ∀ xs, (cps xs).length = xs.length
  | [] => rfl
  | x :: xs => by rw [cps, List.length_cons, cps_len xs, List.length_cons]
theorem cps_app : ∀ xs ys, cps (xs ++ ys) = cps xs ++ cps ys
  | [], ys => rfl
  | x :: xs, ys => by rw [List.cons_append, cps, cps, cps_app xs ys]; rfl
mutual
theorem cp_own : ∀ d, okD d = true → ownD (cp d) = true
  | .lst t xs, h => by
    simp only [okD, Bool.and_eq_true, decide_eq_true_eq] at h
    simp only [cp, ownD, Tag.nice, cps_own xs h.1.2, cps_len, h.2, decide_true, Bool.and_self]
  | .tup xs, h => by
    simp only [okD, Bool.and_eq_true, decide_eq_true_eq] at h
    simp only [cp, ownD, cps_own xs h.1, cps_len, h.2, decide_true, Bool.and_self]
  | .non, _ => rfl | .bl _, _ => rfl | .int _, _ => rfl | .str _, _ => rfl
  | .strm, h => by cases h
  | .dk _ _ _, h => by cases h
theorem cps_own : ∀ xs, okDs xs = true → ownDs (cps xs) = true
  | [], _ => rfl
  | x :: xs, h => by
    simp only [okDs, Bool.and_eq_true] at h
    simp only [cps, ownDs, cp_own x h.1, cps_own xs h.2, Bool.and_self]
end
mutual
theorem cp_fz : ∀ d, okD d = true → (cp d).ma (fun _ => .fz) = d
  | .lst t xs, h => by
    simp only [okD, Bool.and_eq_true, decide_eq_true_eq] at h
    obtain ⟨⟨rfl, h⟩, _⟩ := h
    rw [cp, ma_lst, cps_fz xs h]
  | .tup xs, h => by
    simp only [okD, Bool.and_eq_true, decide_eq_true_eq] at h
    rw [cp, ma_tup, cps_fz xs h.1]
  | .non, _ => rfl | .bl _, _ => rfl | .int _, _ => rfl | .str _, _ => rfl
  | .strm, h => by cases h
  | .dk _ _ _, h => by cases h
theorem cps_fz : ∀ xs, okDs xs = true → D.mas (fun _ => .fz) (cps xs) = xs
  | [], _ => rfl
  | x :: xs, h => by
    simp only [okDs, Bool.and_eq_true] at h
    rw [cps, mas_cons, cp_fz x h.1, cps_fz xs h.2]
end
section
variable {tab : List Ent} {W k : Nat} (hk : tab[k]? = some (.v ⟨4, 1, bCopied k⟩))
include hk
theorem copied_gen : ∀ (n : Nat) (d : D) (st : Option Strm), dep d ≤ n → okD d = true → callN tab W (n + 1) k [d] st = .ok (cp d, st) := by
  intro n
  induction n with
  | zero =>
    intro d st hdp ho
    cases d with
    | lst t xs => simp only [dep] at hdp; omega
    | tup xs => simp only [dep] at hdp; omega
    | dk _ _ _ => cases ho
    | strm => cases ho
    | non => apply Run.eq; refine run_callN hk rfl ?_; unfold bCopied; walk_at "v"; rfl
    | bl b => apply Run.eq; refine run_callN hk rfl ?_; unfold bCopied; walk_at "v"; rfl
    | int i => apply Run.eq; refine run_callN hk rfl ?_; unfold bCopied; walk_at "v"; rfl
    | str s => apply Run.eq; refine run_callN hk rfl ?_; unfold bCopied; walk_at "v"; rfl
  | succ n ih =>
    intro d st hdp ho
    have main : ∀ (d : D) (xs : List D) (R : List D × VS → Prop), okDs xs = true → deps xs ≤ n → (∀ o, R (cps xs, ⟨[some d, none, o, none], st⟩)) → Run (compGo (fun d s => guardR (decide (2 < s.ρ.length)) (s.ρ.set 2 (some d)) >>= fun ρ => Res.ok (⟨ρ, s.st⟩ : VS)) (fun s => Res.ok (true, s)) (fun s => callM (callN tab W (n + 1)) k (consM (nameM 2) fun s => Res.ok ([], s)) s >>= fun y => Res.ok (y.1.ma Tag.un, (⟨if D.any Tag.isB y.1 = true then settleE [y.1] y.2.ρ else y.2.ρ, y.2.st⟩ : VS))) xs ⟨[some d, none, none, none], st⟩) R := by
      intro d xs R ho hdp hR
      refine comp_by _ (fun i ys s => ys = cps (xs.take i) ∧ ∃ o, s = ⟨[some d, none, o, none], st⟩) ⟨rfl, _, rfl⟩ ?_ ?_
      · rintro i x ys s hi ⟨rfl, o, rfl⟩
        have hx := okDs_mem ho (List.mem_of_getElem? hi)
        have hx2 := deps_mem hdp (List.mem_of_getElem? hi)
        have et := take_snoc hi
        have n2 := cp_own x hx
        walk_at "v"
        simp only [ok_rd hx, ok_ma (f := fun _ => Tag.fz) rfl x hx, ih x st hx2 hx, run_ok]
        have h1 := own_ma (f := Tag.un) rfl _ n2
        have h2 := own_any (p := Tag.isB) rfl _ n2
        have h3 := ok_any (p := Tag.isB) rfl x hx
        have h4 : D.any Tag.isB (x.rd 2) = false := by rw [ok_rd hx]; exact h3
        walk_at "v"
        simp only [h1, h2, h3, h4, ite_self, if_false, Bool.false_eq_true, run_ok]
        refine ⟨by rw [et, cps_app]; rfl, some x, by cases D.any Tag.isFz (cp x) <;> rfl⟩
      · rintro ys s ⟨rfl, o, rfl⟩
        rw [List.take_length]
        exact hR o
    cases d with
    | dk _ _ _ => cases ho
    | strm => cases ho
    | non => apply Run.eq; refine run_callN hk rfl ?_; unfold bCopied; walk_at "v"; rfl
    | bl b => apply Run.eq; refine run_callN hk rfl ?_; unfold bCopied; walk_at "v"; rfl
    | int i => apply Run.eq; refine run_callN hk rfl ?_; unfold bCopied; walk_at "v"; rfl
    | str s => apply Run.eq; refine run_callN hk rfl ?_; unfold bCopied; walk_at "v"; rfl
    | lst t xs =>
      simp only [okD, Bool.and_eq_true, decide_eq_true_eq] at ho
      obtain ⟨⟨rfl, ho⟩, hl⟩ := ho
      simp only [dep] at hdp
      apply Run.eq; refine run_callN hk rfl ?_; unfold bCopied
      have g1 := ok_mas (f := Tag.rc 0) rfl xs ho
      have g2 := ok_mas (f := fun _ => Tag.fz) rfl xs ho
      have g3 := ok_anys (p := Tag.isB) rfl xs ho
      walk_at "v"
      simp only [g1, g2, g3]
      walk_at "v"
      refine main _ xs _ ho (by omega) fun o => ?_
      have e2 := cps_own xs ho
      have f1 := own_mas (f := Tag.un) rfl _ e2
      have f2 := own_anys (p := Tag.isB) rfl _ e2
      have f3 := cps_len xs
      walk_at "v"
      simp only [f1, f2]
      walk_at "v"
      rfl
    | tup xs =>
      simp only [okD, Bool.and_eq_true, decide_eq_true_eq] at ho
      obtain ⟨ho, hl⟩ := ho
      simp only [dep] at hdp
      apply Run.eq; refine run_callN hk rfl ?_; unfold bCopied
      have g1 := ok_mas (f := Tag.rc 0) rfl xs ho
      have g2 := ok_mas (f := fun _ => Tag.fz) rfl xs ho
      have g3 := ok_anys (p := Tag.isB) rfl xs ho
      walk_at "v"
      simp only [g1, g2, g3]
      walk_at "v"
      refine main _ xs _ ho (by omega) fun o => ?_
      have e2 := cps_own xs ho
      have f1 := own_mas (f := Tag.un) rfl _ e2
      have f2 := own_anys (p := Tag.isB) rfl _ e2
      have f3 := cps_len xs
      walk_at "v"
      simp only [f1, f2]
      walk_at "v"
      rfl
theorem copied_dict {n : Nat} {t : Tag} {st : Option Strm} : callN tab W (n + 1) k [.dk .fz [] []] st = .ok (.dk .own [] [], st) := by
  apply Run.eq; refine run_callN hk rfl ?_; unfold bCopied
  have e : mergeD [] [] [] = some ([], []) := rfl
  walk_at "v"
  simp only [e]
  walk_at "v"
  rfl
end
section
variable {tab : List Ent} {W k kd : Nat} (hk : tab[k]? = some (.v ⟨4, 2, bLoose k kd⟩))
include hk
theorem loose_dict {n : Nat} {st : Option Strm} : callN tab W (n + 1) k [.strm, .dk .fz [] []] st = .ok (.dk .fz [] [], st) := by
  apply Run.eq; refine run_callN hk rfl ?_; unfold bLoose
  walk_at "v"
  rfl
end
end VL
end

/-! text: VLib5 -/
section
set_option autoImplicit false
set_option maxHeartbeats 4000000
/-! VLib5: repr of things of any form. -/
namespace VL
open PySem PySem.Spec PyProof.Rows L2
mutual
/-- small things within -/
def smD : D → Bool
  | .lst _ xs => smDs xs
  | .tup xs => smDs xs
  | .int i => decide (-1000000 < i) && decide (i < 1000000)
  | .str x => PyData.strOk x && decide (x.cps.size ≤ 100) && Nat.ble (reprText x).length maxLen
  | .non => true | .bl _ => true
  | _ => false
def smDs : List D → Bool
  | [] => true
  | x :: xs => smD x && smDs xs
end
mutual
def nsz : D → Nat
  | .lst _ xs => nszs xs
  | .tup xs => nszs xs
  | _ => 0
def nszs : List D → Nat
  | [] => 0
  | x :: xs => nsz x + 101 + nszs xs
end
theorem log_small {i : Int} (h1 : -1000000 < i) (h2 : i < 1000000) : i.natAbs.log2 < 20 := by
  by_cases e : i.natAbs = 0
  · rw [e]; decide
  · rw [Nat.log2_lt e]; have : (2 : Nat) ^ 20 = 1048576 := by decide
    omega
structure Fine (d : PyData) (dp w : Nat) : Prop where
  lay : PyData.canLay0 d = true
  depth : PyData.depth d ≤ dp
  weight : PyData.weight d ≤ w
  show' : PyData.showable d = true
  noD : PyData.hasDict d = false
  short : PyData.intsShort 13 d = true
structure Fines (ds : List PyData) (dp w : Nat) : Prop where
  lay : PyData.canLayAll0 ds = true
  depth : PyData.depthAll ds ≤ dp
  weight : PyData.weightAll ds ≤ w
  show' : PyData.showableAll ds = true
  noD : PyData.hasDictAll ds = false
  short : PyData.intsShortAll 13 ds = true
mutual
theorem sm_fine : ∀ d, smD d = true → Fine (D.erase d) (dep d) (100 + nsz d)
  | .lst t xs, h => by
    have f := sm_fines xs (by simpa only [smD] using h)
    have h1 := f.depth
    have h2 := f.weight
    exact ⟨by simp [D.erase, PyData.canLay0, f.lay], by simp only [D.erase, PyData.depth, dep]; omega, by simp only [D.erase, PyData.weight, nsz]; omega, by simp [D.erase, PyData.showable, f.show'], by simp [D.erase, PyData.hasDict, f.noD], by simp [D.erase, PyData.intsShort, f.short]⟩
  | .tup xs, h => by
    have f := sm_fines xs (by simpa only [smD] using h)
    have h1 := f.depth
    have h2 := f.weight
    exact ⟨by simp [D.erase, PyData.canLay0, f.lay], by simp only [D.erase, PyData.depth, dep]; omega, by simp only [D.erase, PyData.weight, nsz]; omega, by simp [D.erase, PyData.showable, f.show'], by simp [D.erase, PyData.hasDict, f.noD], by simp [D.erase, PyData.intsShort, f.short]⟩
  | .int i, h => by
    simp only [smD, Bool.and_eq_true, decide_eq_true_eq] at h
    have hl := log_small h.1 h.2
    refine ⟨by simp [D.erase, PyData.canLay0], by simp [D.erase, PyData.depth], ?_, ?_, by simp [D.erase, PyData.hasDict], ?_⟩
    · simp only [D.erase, PyData.weight]
      split <;> omega
    · simp only [D.erase, PyData.showable, decide_eq_true_eq]; omega
    · simp only [D.erase, PyData.intsShort, decide_eq_true_eq]
      exact PyData.shown_int_le (by have : (10 : Nat) ^ 12 = 1000000000000 := by decide
                                    omega)
  | .str x, h => by
    simp only [smD, Bool.and_eq_true, decide_eq_true_eq] at h
    exact ⟨by simp [D.erase, PyData.canLay0, h.1.1], by simp [D.erase, PyData.depth], by simp only [D.erase, PyData.weight]; omega, by simp [D.erase, PyData.showable], by simp [D.erase, PyData.hasDict], by simp [D.erase, PyData.intsShort]⟩
  | .non, _ => ⟨by simp [D.erase, PyData.canLay0], by simp [D.erase, PyData.depth], by simp [D.erase, PyData.weight], by simp [D.erase, PyData.showable], by simp [D.erase, PyData.hasDict], by simp [D.erase, PyData.intsShort]⟩
  | .bl b, _ => ⟨by simp [D.erase, PyData.canLay0], by simp [D.erase, PyData.depth], by simp [D.erase, PyData.weight], by simp [D.erase, PyData.showable], by simp [D.erase, PyData.hasDict], by simp [D.erase, PyData.intsShort]⟩
  | .strm, h => by cases h
  | .dk _ _ _, h => by cases h
theorem sm_fines : ∀ xs, smDs xs = true → Fines (D.erases xs) (deps xs) (nszs xs)
  | [], _ => ⟨by simp [D.erases, PyData.canLayAll0], by simp [D.erases, PyData.depthAll], by simp [D.erases, PyData.weightAll], by simp [D.erases, PyData.showableAll], by simp [D.erases, PyData.hasDictAll], by simp [D.erases, PyData.intsShortAll]⟩
  | x :: xs, h => by
    simp only [smDs, Bool.and_eq_true] at h
    have f := sm_fine x h.1
    have g := sm_fines xs h.2
    have h1 := f.depth
    have h2 := f.weight
    have h3 := g.depth
    have h4 := g.weight
    exact ⟨by simp [D.erases, PyData.canLayAll0, f.lay, g.lay], by simp only [D.erases, PyData.depthAll, deps]; omega, by simp only [D.erases, PyData.weightAll, nszs]; omega, by simp [D.erases, PyData.showableAll, f.show', g.show'], by simp [D.erases, PyData.hasDictAll, f.noD, g.noD], by simp [D.erases, PyData.intsShortAll, f.short, g.short]⟩
end
/-- the text of a thing -/
def reG : D → Str
  | .non => "None"
  | .bl b => if b then "True" else "False"
  | .int i => toString i
  | .str x => reprText x
  | .lst _ xs => PyData.shown (.list (D.erases xs))
  | .tup xs => PyData.shown (.tuple (D.erases xs))
  | _ => PyData.shown (.dict [])
theorem repr_gen {d : D} {n : Nat} (h : smD d = true) (h1 : dep d ≤ 64) (h2 : nsz d ≤ 1000000) : biD .repr [d.rd n] = .ok (.str (reG d)) := by
  have f := sm_fine d h
  have e20 : (2 : Nat) ^ 20 = 1048576 := by decide
  have hw := f.weight
  have hdp := f.depth
  cases d with
  | lst t xs =>
    have ok := reprOk_of f.lay (by omega) (by omega) f.show' f.noD f.short
    show guardR (reprOk (.list (D.erases (D.mas _ xs)))) (D.str (PyData.shown (.list (D.erases (D.mas _ xs))))) = _
    rw [erases_mas]
    have ok : reprOk (.list (D.erases xs)) = true := ok
    rw [ok]; rfl
  | tup xs =>
    have ok := reprOk_of f.lay (by omega) (by omega) f.show' f.noD f.short
    show guardR (reprOk (.tuple (D.erases (D.mas _ xs)))) (D.str (PyData.shown (.tuple (D.erases (D.mas _ xs))))) = _
    rw [erases_mas]
    have ok : reprOk (.tuple (D.erases xs)) = true := ok
    rw [ok]; rfl
  | int i =>
    simp only [smD, Bool.and_eq_true, decide_eq_true_eq] at h
    have hl := log_small h.1 h.2
    show guardR (decide (i.natAbs.log2 < 1920)) _ = _
    rw [decide_eq_true (by omega)]; rfl
  | str x =>
    simp only [smD, Bool.and_eq_true, decide_eq_true_eq] at h
    show guardR (Nat.ble (reprText x).length maxLen) _ = _
    rw [h.2]; rfl
  | non => rfl
  | bl b => rfl
  | strm => cases h
  | dk _ _ _ => cases h
mutual
theorem sm_nrm : ∀ d, smD (nrm d) = smD d
  | .lst _ xs => by simp only [nrm, smD, sm_nrms xs]
  | .tup xs => by simp only [nrm, smD, sm_nrms xs]
  | .non => rfl | .bl _ => rfl | .int _ => rfl | .str _ => rfl | .strm => rfl | .dk _ _ _ => rfl
theorem sm_nrms : ∀ xs, smDs (nrms xs) = smDs xs
  | [] => rfl
  | x :: xs => by simp only [nrms, smDs, sm_nrm x, sm_nrms xs]
end
mutual
theorem dep_nrm : ∀ d, dep (nrm d) = dep d
  | .lst _ xs => by simp only [nrm, dep, dep_nrms xs]
  | .tup xs => by simp only [nrm, dep, dep_nrms xs]
  | .non => rfl | .bl _ => rfl | .int _ => rfl | .str _ => rfl | .strm => rfl | .dk _ _ _ => rfl
theorem dep_nrms : ∀ xs, deps (nrms xs) = deps xs
  | [] => rfl
  | x :: xs => by simp only [nrms, deps, dep_nrm x, dep_nrms xs]
end
mutual
theorem nsz_nrm : ∀ d, nsz (nrm d) = nsz d
  | .lst _ xs => by simp only [nrm, nsz, nsz_nrms xs]
  | .tup xs => by simp only [nrm, nsz, nsz_nrms xs]
  | .non => rfl | .bl _ => rfl | .int _ => rfl | .str _ => rfl | .strm => rfl | .dk _ _ _ => rfl
theorem nsz_nrms : ∀ xs, nszs (nrms xs) = nszs xs
  | [] => rfl
  | x :: xs => by simp only [nrms, nszs, nsz_nrm x, nsz_nrms xs]
end
/-- a loose copy has a text -/
theorem repr_like {d e : D} {n : Nat} (hn : nrm e = nrm d) (h : smD d = true) (h1 : dep d ≤ 64) (h2 : nsz d ≤ 1000000) : biD .repr [e.rd n] = .ok (.str (reG e)) :=
  repr_gen (by rw [← sm_nrm, hn, sm_nrm]; exact h) (by rw [← dep_nrm, hn, dep_nrm]; exact h1) (by rw [← nsz_nrm, hn, nsz_nrm]; exact h2)
@[simp] theorem smDs_ints : ∀ {ns : List Int}, (∀ x ∈ ns, -1000000 < x ∧ x < 1000000) → smDs (ns.map D.int) = true
  | [], _ => rfl
  | n :: ns, h => by
    have h1 := h n List.mem_cons_self
    simp only [List.map_cons, smDs, smD, smDs_ints fun x hx => h x (List.mem_cons_of_mem _ hx), Bool.and_true, Bool.and_eq_true, decide_eq_true_eq]
    exact h1
@[simp] theorem nszs_ints : ∀ ns : List Int, nszs (ns.map D.int) = 101 * ns.length
  | [] => rfl
  | n :: ns => by simp only [List.map_cons, nszs, nsz, nszs_ints ns, List.length_cons]; omega
@[simp] theorem wts_ints : ∀ ns : List Int, wts (ns.map D.int) = 0
  | [] => rfl
  | n :: ns => by simp only [List.map_cons, wts, wt, wts_ints ns]
end VL
end

/-! text: VLib6 -/
section
set_option maxHeartbeats 4000000
/-! VLib6: dicts of keys, equal things, x[k].append. -/
namespace VL
open PySem PySem.Spec PyProof.Rows L2
@[simp] theorem deps_ints : ∀ ns : List Int, deps (ns.map D.int) = 0
  | [] => rfl
  | n :: ns => by simp only [List.map_cons, deps, dep, deps_ints ns]; rfl
@[simp] theorem okDs_ints : ∀ ns : List Int, okDs (ns.map D.int) = true
  | [] => rfl
  | n :: ns => by simp only [List.map_cons, okDs, okD, okDs_ints ns]; rfl
theorem appx_0 {x : Str} {ys rest : List D} (h : ys.length < 1000000) : appxL 0 x (.lst .own ys :: rest) = some (.lst .own (ys ++ [.str x]) :: rest) := by
  have e : ixN (.lst .own ys :: rest : List D).length 0 = some 0 := by
    unfold ixN
    rw [if_pos (by decide), if_pos (by simp only [List.length_cons]; omega)]
    rfl
  unfold appxL
  rw [e]
  show (if ys.length < maxLen then _ else none) = _
  rw [if_pos (by unfold maxLen; omega)]
  rfl
theorem appx_1 {x : Str} {y : D} {ys rest : List D} (h : ys.length < 1000000) : appxL 1 x (y :: .lst .own ys :: rest) = some (y :: .lst .own (ys ++ [.str x]) :: rest) := by
  have e : ixN (y :: .lst .own ys :: rest : List D).length 1 = some 1 := by
    unfold ixN
    rw [if_pos (by decide), if_pos (by simp only [List.length_cons]; omega)]
    rfl
  unfold appxL
  rw [e]
  show (if ys.length < maxLen then _ else none) = _
  rw [if_pos (by unfold maxLen; omega)]
  rfl
theorem cnt_ints (x : Int) : ∀ ys : List Int, ys.Nodup → cntK (.inl x) (ys.map Sum.inl) = if x ∈ ys then 1 else 0
  | [], _ => rfl
  | y :: ys, h => by
    obtain ⟨h1, h2⟩ := List.nodup_cons.mp h
    rw [List.map_cons, cntK, cnt_ints x ys h2]
    by_cases e : y = x
    · subst e; simp [h1]
    · have e' : ¬ x = y := fun h => e h.symm
      have : ¬ (Sum.inl y : Key) = Sum.inl x := fun h => e (Sum.inl.inj h)
      simp [this, e']
theorem put_ints (x : Int) : ∀ (ys ws : List Int), ws.length = ys.length → ∃ ws' : List Int, putK (.inl x) (D.int 0) (ys.map Sum.inl) (ws.map D.int) = ((if x ∈ ys then ys else ys ++ [x]).map Sum.inl, ws'.map D.int) ∧ ws'.length = (if x ∈ ys then ys else ys ++ [x]).length
  | [], [], _ => ⟨[0], rfl, rfl⟩
  | [], _ :: _, h => by cases h
  | _ :: _, [], h => by cases h
  | y :: ys, w :: vs, h => by
    obtain ⟨vs', e1, e2⟩ := put_ints x ys vs (by simpa using h)
    rw [List.map_cons, List.map_cons, putK]
    by_cases e : y = x
    · subst e
      rw [if_pos rfl]
      exact ⟨0 :: vs, by simp, by simpa using h⟩
    · have e' : ¬ x = y := fun h => e h.symm
      have : ¬ (Sum.inl y : Key) = Sum.inl x := fun h => e (Sum.inl.inj h)
      rw [if_neg this, e1]
      refine ⟨w :: vs', ?_, ?_⟩
      · by_cases hm : x ∈ ys <;> simp [hm, e']
      · by_cases hm : x ∈ ys <;> simp [hm, e'] at e2 ⊢ <;> exact e2
theorem merge_ints : ∀ (xs ys ws : List Int), ys.Nodup → ws.length = ys.length → ∃ (zs ws' : List Int), mergeD (ys.map Sum.inl) (ws.map D.int) (xs.map fun x => .tup [.int x, .int 0]) = some (zs.map Sum.inl, ws'.map D.int) ∧ (∀ z ∈ zs, z ∈ ys ∨ z ∈ xs)
  | [], ys, ws, _, _ => ⟨ys, ws, rfl, fun z hz => .inl hz⟩
  | x :: xs, ys, ws, h, hl => by
    obtain ⟨ws', e1, e2⟩ := put_ints x ys ws hl
    have hn : (if x ∈ ys then ys else ys ++ [x]).Nodup := by
      by_cases hm : x ∈ ys
      · rw [if_pos hm]; exact h
      · rw [if_neg hm]
        rw [List.nodup_append]
        refine ⟨h, by simp, fun a ha b hb => ?_⟩
        rw [List.mem_singleton.mp hb]
        exact fun e => hm (e ▸ ha)
    obtain ⟨zs, ws, e3, e4⟩ := merge_ints xs _ ws' hn e2
    refine ⟨zs, ws, ?_, fun z hz => ?_⟩
    · rw [List.map_cons, mergeD]
      show (if cntK (.inl x) (ys.map Sum.inl) ≤ 1 then mergeD (putK (.inl x) (D.int 0) (ys.map Sum.inl) _).1 (putK (.inl x) (D.int 0) (ys.map Sum.inl) _).2 _ else none) = _
      rw [cnt_ints x ys h, if_pos (by split <;> omega), e1]
      exact e3
    · rcases e4 z hz with h | h
      · by_cases hm : x ∈ ys
        · rw [if_pos hm] at h; exact .inl h
        · rw [if_neg hm] at h
          rcases List.mem_append.mp h with h | h
          · exact .inl h
          · rw [List.mem_singleton.mp h]; exact .inr List.mem_cons_self
      · exact .inr (List.mem_cons_of_mem _ h)
theorem keys_ints (zs : List Int) : (zs.map Sum.inl).map keyD = zs.map D.int := by rw [List.map_map]; rfl
end VL
end

/-! text: K76 -/
section

namespace VL.K76
open PySem PySem.Spec PyProof.Rows L2 VL
/-! the texts -/
def stm (i : Nat) : PySem.Stmt := PySem.Challenge.pw_nextbylast_k76_whole_main_powers_or_a_st.main.body.getD i (.Pass ⟨0, 0, 0, 0⟩)
def b_is_list : VB :=
    (.seq (.ret (.isi (.name 0) [.list, .tuple]))
    .pass)
def n_is_list : List Str := ["thing"]
def b_is_whole : VB :=
    (.seq (.ret (.and_ (.isi (.name 0) [.int]) (.not_ (.isi (.name 0) [.bool]))))
    .pass)
def n_is_whole : List Str := ["thing"]
def b_is_number : VB :=
    (.seq (.ret (.and_ (.call 1 (.cons (.name 0) .nil)) (.cmp .ge (.name 0) (.int 0))))
    .pass)
def n_is_number : List Str := ["thing"]
def b_is_row : VB :=
    (.seq (.ret (.and_ (.call 0 (.cons (.name 0) .nil)) (.cmp .eq (.bi .len (.cons (.name 0) .nil)) (.name 1))))
    .pass)
def n_is_row : List Str := ["thing", "many"]
def b_is_prime_number : VB :=
    (.seq (.if_ (.or_ (.not_ (.call 1 (.cons (.name 0) .nil))) (.cmp .lt (.name 0) (.int 2)))
    (.seq (.ret (.bl false))
    .pass)
    .pass)
    (.seq (.asg (.nm 1) (.int 2))
    (.seq (.while_ (.cmp .le (.bin .mul (.name 1) (.name 1)) (.name 0))
    (.seq (.if_ (.cmp .eq (.bin .mod (.name 0) (.name 1)) (.int 0))
    (.seq (.ret (.bl false))
    .pass)
    .pass)
    (.seq (.asg (.nm 1) (.bin .add (.name 1) (.int 1)))
    .pass)))
    (.seq (.ret (.bl true))
    .pass))))
def n_is_prime_number : List Str := ["thing", "divisor"]
def b_check_prime : VB :=
    (.seq (.if_ (.not_ (.call 4 (.cons (.name 0) .nil)))
    (.seq .bad
    .pass)
    .pass)
    .pass)
def n_check_prime : List Str := ["prime"]
def b_first_bad_rest : VB :=
    (.seq (.if_ (.not_ (.call 0 (.cons (.name 1) .nil)))
    (.seq (.ret (.int 0))
    .pass)
    .pass)
    (.seq (.for_ (.cons (.nm 2) (.cons (.nm 3) .nil)) (.enum (.name 1))
    (.seq (.if_ (.or_ (.not_ (.call 2 (.cons (.name 3) .nil))) (.cmp .ge (.name 3) (.name 0)))
    (.seq (.ret (.name 2))
    .pass)
    .pass)
    .pass))
    (.seq (.ret .non)
    .pass)))
def n_first_bad_rest : List Str := ["prime", "thing", "index", "number"]
def b_check_numbers : VB :=
    (.seq (.ex (.call 5 (.cons (.name 0) .nil)))
    (.seq (.asg (.nm 2) (.call 6 (.cons (.name 0) (.cons (.name 1) .nil))))
    (.seq (.if_ (.cmp .notN (.name 2) .non)
    (.seq .bad
    .pass)
    .pass)
    .pass)))
def n_check_numbers : List Str := ["prime", "numbers", "wrong"]
def b_undone : VB :=
    (.seq (.par3 2 3 4 (.cons (.int 1) (.cons (.name 1) (.cons (.bin .sub (.name 0) (.int 2)) .nil))))
    (.seq (.while_ (.cmp .gt (.name 4) (.int 0))
    (.seq (.if_ (.cmp .eq (.bin .mod (.name 4) (.int 2)) (.int 1))
    (.seq (.asg (.nm 2) (.bin .mod (.bin .mul (.name 2) (.name 3)) (.name 0)))
    .pass)
    .pass)
    (.seq (.par2 3 4 (.cons (.bin .mod (.bin .mul (.name 3) (.name 3)) (.name 0)) (.cons (.bin .fdiv (.name 4) (.int 2)) .nil)))
    .pass)))
    (.seq (.ret (.name 2))
    .pass)))
def n_undone : List Str := ["prime", "number", "found", "power", "left"]
def b_value_of : VB :=
    (.seq (.asg (.nm 3) (.int 0))
    (.seq (.for_ (.nm 4) (.rev (.name 1))
    (.seq (.asg (.nm 3) (.bin .mod (.bin .add (.bin .mul (.name 3) (.name 2)) (.name 4)) (.name 0)))
    .pass))
    (.seq (.ret (.name 3))
    .pass)))
def n_value_of : List Str := ["prime", "powers", "place", "total", "part"]
def b_differences_of : VB :=
    (.seq (.asg (.nm 3) (.bi .list (.cons (.name 1) .nil)))
    (.seq (.for_ (.nm 4) (.rng1 (.bi .min2 (.cons (.name 2) (.cons (.bi .len (.cons (.name 1) .nil)) .nil))))
    (.seq (.asg (.nm 3) (.comp [5, 6] (.cons (.nm 5) (.cons (.nm 6) .nil)) (.zip (.name 3) (.sl (.name 3) (.int 1) .nil)) .nil (.bin .mod (.bin .sub (.name 6) (.name 5)) (.name 0))))
    .pass))
    (.seq (.ret (.name 3))
    .pass)))
def n_differences_of : List Str := ["prime", "numbers", "times", "found", "_", "one", "two"]
def b_without_noughts : VB :=
    (.seq (.asg (.nm 1) (.bi .len (.cons (.name 0) .nil)))
    (.seq (.while_ (.and_ (.cmp .gt (.name 1) (.int 0)) (.cmp .eq (.ix (.name 0) (.bin .sub (.name 1) (.int 1))) (.int 0)))
    (.seq (.asg (.nm 1) (.bin .sub (.name 1) (.int 1)))
    .pass))
    (.seq (.ret (.sl (.name 0) .nil (.name 1)))
    .pass)))
def n_without_noughts : List Str := ["powers", "many"]
def b_times_place : VB :=
    (.seq (.asg (.nm 3) (.lst (.cons (.int 0) (.star (.name 1) .nil))))
    (.seq (.ret (.comp [4, 5] (.cons (.nm 4) (.cons (.nm 5) .nil)) (.zip (.name 3) (.lst (.star (.name 1) (.cons (.int 0) .nil)))) .nil (.bin .mod (.bin .sub (.name 4) (.bin .mul (.name 2) (.name 5))) (.name 0))))
    .pass))
def n_times_place : List Str := ["prime", "powers", "place", "longer", "one", "two"]
def b_through_of : VB :=
    (.seq (.par2 2 3 (.cons (.lst .nil) (.cons (.lst (.cons (.int 1) .nil)) .nil)))
    (.seq (.for_ (.cons (.nm 4) (.cons (.nm 5) .nil)) (.name 1)
    (.seq (.asg (.nm 6) (.call 8 (.cons (.name 0) (.cons (.call 9 (.cons (.name 0) (.cons (.name 3) (.cons (.name 4) .nil)))) .nil))))
    (.seq (.asg (.nm 7) (.bin .mod (.bin .mul (.bin .sub (.name 5) (.call 9 (.cons (.name 0) (.cons (.name 2) (.cons (.name 4) .nil))))) (.name 6)) (.name 0)))
    (.seq (.asg (.nm 2) (.comp [8, 9] (.cons (.nm 8) (.cons (.nm 9) .nil)) (.zip (.lst (.star (.name 2) (.cons (.int 0) .nil))) (.name 3)) .nil (.bin .mod (.bin .add (.name 8) (.bin .mul (.name 7) (.name 9))) (.name 0))))
    (.seq (.asg (.nm 3) (.call 12 (.cons (.name 0) (.cons (.name 3) (.cons (.name 4) .nil)))))
    .pass)))))
    (.seq (.ret (.call 11 (.cons (.name 2) .nil)))
    .pass)))
def n_through_of : List Str := ["prime", "pairs", "found", "whole", "place", "rest", "by", "step", "one", "two"]
def b_check_many : VB :=
    (.seq (.if_ (.or_ (.not_ (.call 2 (.cons (.name 1) .nil))) (.cmp .gt (.name 1) (.name 0)))
    (.seq .bad
    .pass)
    .pass)
    .pass)
def n_check_many : List Str := ["prime", "many"]
def b_powers_or_step : VB :=
    (.seq (.ex (.call 7 (.cons (.name 0) (.cons (.name 1) .nil))))
    (.seq (.ex (.call 14 (.cons (.name 0) (.cons (.name 2) .nil))))
    (.seq (.for_ (.cons (.nm 3) (.cons (.nm 4) .nil)) (.enum (.call 10 (.cons (.name 0) (.cons (.name 1) (.cons (.name 2) .nil)))))
    (.seq (.if_ (.cmp .ne (.name 4) (.int 0))
    (.seq (.ret (.tup (.cons (.str "step") (.cons (.name 3) .nil))))
    .pass)
    .pass)
    .pass))
    (.seq (.ret (.tup (.cons (.str "powers") (.cons (.call 13 (.cons (.name 0) (.cons (.comp [5, 4] (.cons (.nm 5) (.cons (.nm 4) .nil)) (.enum (.sl (.name 1) .nil (.name 2))) .nil (.tup (.cons (.name 5) (.cons (.name 4) .nil)))) .nil))) .nil))))
    .pass))))
def n_powers_or_step : List Str := ["prime", "numbers", "many", "index", "number", "place"]
def b_powers_fault : VB :=
    (.seq (.ex (.call 7 (.cons (.name 0) (.cons (.name 1) .nil))))
    (.seq (.ex (.call 14 (.cons (.name 0) (.cons (.name 2) .nil))))
    (.seq (.if_ (.or_ (.not_ (.call 3 (.cons (.name 3) (.cons (.int 2) .nil)))) (.or_ (.not_ (.isi (.ix (.name 3) (.int 0)) [.str])) (.cmp .notIn (.ix (.name 3) (.int 0)) (.tup (.cons (.str "powers") (.cons (.str "step") .nil))))))
    (.seq (.ret (.tup (.cons (.str "form") .nil)))
    .pass)
    .pass)
    (.seq (.if_ (.cmp .eq (.ix (.name 3) (.int 0)) (.str "powers"))
    (.seq (.if_ (.or_ (.cmp .notN (.call 6 (.cons (.name 0) (.cons (.ix (.name 3) (.int 1)) .nil))) .non) (.cmp .gt (.bi .len (.cons (.ix (.name 3) (.int 1)) .nil)) (.name 2)))
    (.seq (.ret (.tup (.cons (.str "powers") .nil)))
    .pass)
    .pass)
    (.seq (.for_ (.cons (.nm 5) (.cons (.nm 6) .nil)) (.enum (.name 1))
    (.seq (.if_ (.cmp .ne (.call 9 (.cons (.name 0) (.cons (.ix (.name 3) (.int 1)) (.cons (.name 5) .nil)))) (.name 6))
    (.seq (.ret (.tup (.cons (.str "value") (.cons (.name 5) .nil))))
    .pass)
    .pass)
    .pass))
    (.seq (.ret .non)
    .pass)))
    .pass)
    (.seq (.asg (.nm 4) (.call 10 (.cons (.name 0) (.cons (.name 1) (.cons (.name 2) .nil)))))
    (.seq (.if_ (.or_ (.not_ (.call 2 (.cons (.ix (.name 3) (.int 1)) .nil))) (.cmp .ge (.ix (.name 3) (.int 1)) (.bi .len (.cons (.name 4) .nil))))
    (.seq (.ret (.tup (.cons (.str "index") .nil)))
    .pass)
    .pass)
    (.seq (.ret (.ife (.cmp .eq (.ix (.name 4) (.ix (.name 3) (.int 1))) (.int 0)) (.tup (.cons (.str "nought") .nil)) .non))
    .pass)))))))
def n_powers_fault : List Str := ["prime", "numbers", "many", "thing", "steps", "index", "number"]
def b__law_pick : VB :=
    (.seq (.ret (.ix (.name 1) (.call 17 (.cons (.name 0) (.cons (.bi .len (.cons (.name 1) .nil)) .nil)))))
    .pass)
def n__law_pick : List Str := ["stream", "things"]
def b__law_same : VB :=
    (.seq (.if_ (.isi (.name 1) [.list, .tuple])
    (.seq (.if_ (.or_ (.cmp .ne (.isi (.name 0) [.list]) (.isi (.name 1) [.list])) (.cmp .ne (.isi (.name 0) [.tuple]) (.isi (.name 1) [.tuple])))
    (.seq (.ret (.bl false))
    .pass)
    .pass)
    (.seq (.ret (.and_ (.cmp .eq (.bi .len (.cons (.name 0) .nil)) (.bi .len (.cons (.name 1) .nil))) (.bi .all (.cons (.comp [2, 3] (.cons (.nm 2) (.cons (.nm 3) .nil)) (.zip (.name 0) (.name 1)) .nil (.call 19 (.cons (.name 2) (.cons (.name 3) .nil)))) .nil))))
    .pass))
    .pass)
    (.seq (.if_ (.isi (.name 1) [.dict])
    (.seq (.ret (.and_ (.isi (.name 0) [.dict]) (.call 19 (.cons (.bi .list (.cons .bad .nil)) (.cons (.bi .list (.cons .bad .nil)) .nil)))))
    .pass)
    .pass)
    (.seq (.if_ (.or_ (.isi (.name 1) [.bool]) (.isi (.name 0) [.bool]))
    (.seq (.ret (.and_ (.isi (.name 1) [.bool]) (.and_ (.isi (.name 0) [.bool]) (.cmp .eq (.name 0) (.name 1)))))
    .pass)
    .pass)
    (.seq (.if_ (.or_ (.cmp .isN (.name 1) .non) (.cmp .isN (.name 0) .non))
    (.seq (.ret (.and_ (.cmp .isN (.name 1) .non) (.cmp .isN (.name 0) .non)))
    .pass)
    .pass)
    (.seq (.if_ (.or_ (.cmp .ne (.isi (.name 1) [.int]) (.isi (.name 0) [.int])) (.cmp .ne (.isi (.name 1) [.str]) (.isi (.name 0) [.str])))
    (.seq (.ret (.bl false))
    .pass)
    .pass)
    (.seq (.ret (.and_ (.not_ (.isi (.name 0) [.list, .tuple, .dict])) (.cmp .eq (.name 0) (.name 1))))
    .pass))))))
def n__law_same : List Str := ["found", "due", "mine", "theirs"]
def b__law_loose : VB :=
    (.seq (.if_ (.isi (.name 1) [.list, .tuple])
    (.seq (.asg (.nm 2) (.comp [3] (.nm 3) (.name 1) .nil (.call 20 (.cons (.name 0) (.cons (.name 3) .nil)))))
    (.seq (.retC (.cmp .eq (.call 17 (.cons (.name 0) (.cons (.int 2) .nil))) (.int 0)) 2)
    .pass))
    .pass)
    (.seq (.ret (.name 1))
    .pass))
def n__law_loose : List Str := ["stream", "thing", "some", "one"]
def b__law_copied : VB :=
    (.seq (.if_ (.isi (.name 0) [.list, .tuple])
    (.seq (.asg (.nm 1) (.comp [2] (.nm 2) (.name 0) .nil (.call 21 (.cons (.name 2) .nil))))
    (.seq (.retC (.isi (.name 0) [.list]) 1)
    .pass))
    .pass)
    (.seq (.if_ (.isi (.name 0) [.dict])
    (.seq (.ret (.bi .dictP (.cons (.emp [3] 0) .nil)))
    .pass)
    .pass)
    (.seq (.ret (.name 0))
    .pass)))
def n__law_copied : List Str := ["thing", "some", "one", "key"]
def b__law_is_whole : VB :=
    (.seq (.ret (.and_ (.isi (.name 0) [.int]) (.not_ (.isi (.name 0) [.bool]))))
    .pass)
def n__law_is_whole : List Str := ["thing"]
def b__law_wrong_rest : VB :=
    (.seq (.if_ (.not_ (.isi (.name 1) [.list, .tuple]))
    (.seq (.ret (.int 0))
    .pass)
    .pass)
    (.seq (.asg (.nm 2) (.comp [3, 4] (.cons (.nm 3) (.cons (.nm 4) .nil)) (.enum (.name 1)) (.or_ (.not_ (.call 22 (.cons (.name 4) .nil))) (.or_ (.cmp .lt (.name 4) (.int 0)) (.cmp .ge (.name 4) (.name 0)))) (.name 3)))
    (.seq (.ret (.ife (.cmp .ne (.name 2) (.lst .nil)) (.ix (.name 2) (.int 0)) .non))
    .pass)))
def n__law_wrong_rest : List Str := ["prime", "thing", "wrong", "k", "number"]
def b__law_value : VB :=
    (.seq (.asg (.cons (.nm 4) (.cons (.nm 5) .nil)) (.tup (.cons (.int 0) (.cons (.int 1) .nil))))
    (.seq (.for_ (.nm 3) (.name 1)
    (.seq (.par2 4 5 (.cons (.bin .mod (.bin .add (.name 4) (.bin .mul (.name 3) (.name 5))) (.name 0)) (.cons (.bin .mod (.bin .mul (.name 5) (.name 2)) (.name 0)) .nil)))
    .pass))
    (.seq (.ret (.name 4))
    .pass)))
def n__law_value : List Str := ["prime", "powers", "place", "part", "total", "power"]
def b__law_steps : VB :=
    (.seq (.asg (.nm 3) (.bi .list (.cons (.name 1) .nil)))
    (.seq (.for_ (.nm 4) (.rng1 (.bi .min2 (.cons (.name 2) (.cons (.bi .len (.cons (.name 1) .nil)) .nil))))
    (.seq (.asg (.nm 3) (.comp [5, 6] (.cons (.nm 5) (.cons (.nm 6) .nil)) (.zip (.name 3) (.sl (.name 3) (.int 1) .nil)) .nil (.bin .mod (.bin .sub (.name 6) (.name 5)) (.name 0))))
    .pass))
    (.seq (.ret (.name 3))
    .pass)))
def n__law_steps : List Str := ["prime", "numbers", "times", "found", "turn", "one", "two"]
def b__law_some_powers : VB :=
    (.seq (.asg (.nm 3) (.call 17 (.cons (.name 0) (.cons (.bin .add (.bi .min2 (.cons (.name 1) (.cons (.name 2) .nil))) (.int 1)) .nil))))
    (.seq (.asg (.nm 4) (.comp [5] (.nm 5) (.rng1 (.name 3)) .nil (.call 17 (.cons (.name 0) (.cons (.name 1) .nil)))))
    (.seq (.if_ (.and_ (.cmp .gt (.name 3) (.int 0)) (.cmp .eq (.call 17 (.cons (.name 0) (.cons (.int 3) .nil))) (.int 0)))
    (.seq (.setix false 4 (.neg (.int 1)) (.int 0))
    .pass)
    .pass)
    (.seq (.ret (.name 4))
    .pass))))
def n__law_some_powers : List Str := ["stream", "prime", "most", "many", "found", "part"]
def b__law_some_values : VB :=
    (.seq (.asg (.cons (.nm 4) (.cons (.nm 5) .nil)) (.tup (.cons (.call 26 (.cons (.name 0) (.cons (.name 1) (.cons (.int 5) .nil)))) (.cons (.call 17 (.cons (.name 0) (.cons (.bin .add (.name 2) (.int 1)) .nil))) .nil))))
    (.seq (.asg (.nm 3) (.comp [6] (.nm 6) (.rng1 (.name 5)) .nil (.call 24 (.cons (.name 1) (.cons (.name 4) (.cons (.name 6) .nil))))))
    (.seq (.if_ (.and_ (.cmp .eq (.call 17 (.cons (.name 0) (.cons (.int 4) .nil))) (.int 0)) (.cmp .gt (.name 5) (.int 0)))
    (.seq (.setix false 3 (.call 17 (.cons (.name 0) (.cons (.name 5) .nil))) (.call 17 (.cons (.name 0) (.cons (.name 1) .nil))))
    .pass)
    .pass)
    (.seq (.ret (.ife (.cmp .gt (.call 17 (.cons (.name 0) (.cons (.int 5) .nil))) (.int 0)) (.name 3) (.comp [6] (.nm 6) (.rng1 (.name 5)) .nil (.call 17 (.cons (.name 0) (.cons (.name 1) .nil))))))
    .pass))))
def n__law_some_values : List Str := ["stream", "prime", "most", "found", "powers", "many", "place"]
def b__law_fault : VB :=
    (.seq (.if_ (.or_ (.not_ (.isi (.name 3) [.list, .tuple])) (.or_ (.cmp .ne (.bi .len (.cons (.name 3) .nil)) (.int 2)) (.not_ (.isi (.ix (.name 3) (.int 0)) [.str]))))
    (.seq (.ret (.tup (.cons (.str "form") .nil)))
    .pass)
    .pass)
    (.seq (.if_ (.cmp .notIn (.ix (.name 3) (.int 0)) (.tup (.cons (.str "powers") (.cons (.str "step") .nil))))
    (.seq (.ret (.tup (.cons (.str "form") .nil)))
    .pass)
    .pass)
    (.seq (.asg (.nm 4) (.ix (.name 3) (.int 1)))
    (.seq (.if_ (.cmp .eq (.ix (.name 3) (.int 0)) (.str "powers"))
    (.seq (.if_ (.or_ (.cmp .notN (.call 23 (.cons (.name 0) (.cons (.name 4) .nil))) .non) (.cmp .gt (.bi .len (.cons (.name 4) .nil)) (.name 2)))
    (.seq (.ret (.tup (.cons (.str "powers") .nil)))
    .pass)
    .pass)
    (.seq (.asg (.nm 6) (.comp [7, 8] (.cons (.nm 7) (.cons (.nm 8) .nil)) (.enum (.name 1)) (.cmp .ne (.call 24 (.cons (.name 0) (.cons (.name 4) (.cons (.name 7) .nil)))) (.name 8)) (.name 7)))
    (.seq (.ret (.ife (.cmp .ne (.name 6) (.lst .nil)) (.tup (.cons (.str "value") (.cons (.ix (.name 6) (.int 0)) .nil))) .non))
    .pass)))
    .pass)
    (.seq (.asg (.nm 5) (.call 25 (.cons (.name 0) (.cons (.name 1) (.cons (.name 2) .nil)))))
    (.seq (.if_ (.or_ (.not_ (.call 22 (.cons (.name 4) .nil))) (.not_ (.chain .le .lt (.int 0) (.name 4) (.bi .len (.cons (.name 5) .nil)))))
    (.seq (.ret (.tup (.cons (.str "index") .nil)))
    .pass)
    .pass)
    (.seq (.ret (.ife (.cmp .eq (.ix (.name 5) (.name 4)) (.int 0)) (.tup (.cons (.str "nought") .nil)) .non))
    .pass)))))))
def n__law_fault : List Str := ["prime", "numbers", "many", "thing", "some", "steps", "wrong", "place", "number"]
def b__law_things : VB :=
    (.seq (.asg (.nm 4) (.lst (.cons (.name 3) (.cons (.bi .list (.cons (.name 3) .nil)) (.cons (.bin .add (.name 3) (.tup (.cons (.int 1) .nil))) (.cons (.rev (.name 3)) (.cons .non (.cons (.int 5) (.cons (.str "step") (.cons .dnew (.cons (.lst .nil) (.cons (.tup (.cons (.str "Step") (.cons (.int 0) .nil))) (.cons (.tup (.cons .non (.cons (.lst .nil) .nil))) .nil)))))))))))))
    (.seq (.app 4 (.tup (.cons (.str "powers") (.cons .non .nil))))
    (.seq (.for_ (.nm 5) (.rng1 (.int 6))
    (.seq (.asg (.nm 6) (.ife (.and_ (.cmp .eq (.ix (.name 3) (.int 0)) (.str "powers")) (.cmp .lt (.name 5) (.int 3))) (.bi .list (.cons (.ix (.name 3) (.int 1)) .nil)) (.call 26 (.cons (.name 0) (.cons (.name 1) (.cons (.int 5) .nil))))))
    (.seq (.asg (.nm 7) (.call 17 (.cons (.name 0) (.cons (.bin .add (.bi .len (.cons (.name 6) .nil)) (.int 1)) .nil))))
    (.seq (.asg (.nm 8) (.call 18 (.cons (.name 0) (.cons (.lst (.cons .non (.cons (.name 1) (.cons (.neg (.int 1)) (.cons (.bl true) (.cons (.str "1") (.cons (.int 0) (.cons (.int 1) .nil)))))))) .nil))))
    (.seq (.ext 4 (.lst (.cons (.tup (.cons (.str "powers") (.cons (.name 6) .nil))) (.cons (.tup (.cons (.str "powers") (.cons (.bin .add (.name 6) (.lst (.cons (.int 0) .nil))) .nil))) (.cons (.tup (.cons (.str "powers") (.cons (.bin .add (.bin .add (.sl (.name 6) .nil (.name 7)) (.lst (.cons (.name 8) .nil))) (.sl (.name 6) (.bin .add (.name 7) (.int 1)) .nil)) .nil))) .nil)))))
    (.seq (.ext 4 (.lst (.cons (.tup (.cons (.str "step") (.cons (.call 17 (.cons (.name 0) (.cons (.bin .add (.bi .len (.cons (.name 2) .nil)) (.int 2)) .nil))) .nil))) (.cons (.tup (.cons (.str "step") (.cons (.name 8) .nil))) (.cons (.tup (.cons (.str "powers") (.cons (.sl (.name 6) .nil (.neg (.int 1))) .nil))) .nil)))))
    .pass))))))
    (.seq (.ret (.name 4))
    .pass))))
def n__law_things : List Str := ["stream", "prime", "numbers", "told", "found", "turn", "some", "at", "odd"]
def b__law_right : VB :=
    (.seq (.par2 7 8 (.cons (.call 25 (.cons (.name 1) (.cons (.name 2) (.cons (.name 3) .nil)))) (.cons (.call 20 (.cons (.name 0) (.cons (.bi .tuple (.cons (.name 2) .nil)) .nil))) .nil)))
    (.seq (.asg (.nm 4) (.comp [14, 15] (.cons (.nm 14) (.cons (.nm 15) .nil)) (.enum (.name 7)) (.cmp .ne (.name 15) (.int 0)) (.name 14)))
    (.seq (.par2 9 10 (.cons (.bi .repr (.cons (.name 8) .nil)) (.cons (.call 15 (.cons (.name 1) (.cons (.name 8) (.cons (.name 3) .nil)))) .nil)))
    (.seq (.asg (.nm 5) (.call 21 (.cons (.name 10) .nil)))
    (.seq (.if_ (.or_ (.not_ (.isi (.name 10) [.tuple])) (.cmp .ne (.bi .repr (.cons (.name 8) .nil)) (.name 9)))
    (.seq (.ret (.bl false))
    .pass)
    .pass)
    (.seq (.if_ (.cmp .ne (.name 4) (.lst .nil))
    (.seq (.if_ (.not_ (.call 19 (.cons (.name 5) (.cons (.tup (.cons (.str "step") (.cons (.ix (.name 4) (.int 0)) .nil))) .nil))))
    (.seq (.ret (.bl false))
    .pass)
    .pass)
    .pass)
    (.seq (.if_ (.or_ (.not_ (.call 19 (.cons (.ix (.name 5) (.int 0)) (.cons (.str "powers") .nil)))) (.not_ (.isi (.ix (.name 10) (.int 1)) [.list])))
    (.seq (.ret (.bl false))
    .pass)
    .pass)
    (.seq (.if_ (.or_ (.cmp .notN (.call 28 (.cons (.name 1) (.cons (.name 2) (.cons (.name 3) (.cons (.name 5) .nil))))) .non) (.and_ (.cmp .ne (.ix (.name 5) (.int 1)) (.lst .nil)) (.cmp .eq (.ix (.ix (.name 5) (.int 1)) (.neg (.int 1))) (.int 0))))
    (.seq (.ret (.bl false))
    .pass)
    .pass)
    (.seq (.if_ (.cmp .gt (.bi .len (.cons (.ix (.name 5) (.int 1)) .nil)) (.bi .len (.cons (.name 2) .nil)))
    (.seq (.ret (.bl false))
    .pass)
    .pass)
    (.seq (.appx 10 1 "late")
    .pass)))))
    (.seq (.if_ (.not_ (.call 19 (.cons (.callK 15 .nil (.cons (.name 3) (.cons (.bi .list (.cons (.name 2) .nil)) (.cons (.name 1) .nil))) 0 ["many", "numbers", "prime"] [2, 1, 0]) (.cons (.name 5) .nil))))
    (.seq (.ret (.bl false))
    .pass)
    .pass)
    (.seq (.for_ (.nm 6) (.call 29 (.cons (.name 0) (.cons (.name 1) (.cons (.name 2) (.cons (.name 5) .nil)))))
    (.seq (.par2 11 12 (.cons (.call 28 (.cons (.name 1) (.cons (.name 2) (.cons (.name 3) (.cons (.name 6) .nil))))) (.cons (.call 20 (.cons (.name 0) (.cons (.call 21 (.cons (.name 6) .nil)) .nil))) .nil)))
    (.seq (.par2 9 13 (.cons (.bi .repr (.cons (.name 12) .nil)) (.cons (.lst (.cons (.call 16 (.cons (.name 1) (.cons (.bi .list (.cons (.name 2) .nil)) (.cons (.name 3) (.cons (.name 12) .nil))))) .nil)) .nil)))
    (.seq (.if_ (.cmp .eq (.call 17 (.cons (.name 0) (.cons (.int 3) .nil))) (.int 0))
    (.seq (.app 13 (.callK 16 .nil (.cons (.name 12) (.cons (.name 3) (.cons (.bi .tuple (.cons (.name 2) .nil)) (.cons (.name 1) .nil)))) 0 ["thing", "many", "numbers", "prime"] [3, 2, 1, 0]))
    .pass)
    .pass)
    (.seq (.if_ (.or_ (.not_ (.call 19 (.cons (.name 13) (.cons (.bin .mul (.lst (.cons (.name 11) .nil)) (.bi .len (.cons (.name 13) .nil))) .nil)))) (.cmp .ne (.bi .repr (.cons (.name 12) .nil)) (.name 9)))
    (.seq (.ret (.bl false))
    .pass)
    .pass)
    .pass)))))
    (.seq (.ret (.bl true))
    .pass)))))))))
def n__law_right : List Str := ["stream", "prime", "numbers", "many", "there", "kept", "thing", "steps", "handed", "was", "told", "due", "passed", "found", "index", "step"]
def b_law : VB :=
    (.seq (.for_ (.nm 2) (.rng1 (.int 6))
    (.seq (.asg (.nm 4) (.call 18 (.cons (.name 1) (.cons (.lst (.cons (.int 2) (.cons (.int 3) (.cons (.int 5) (.cons (.int 7) (.cons (.int 31) .nil)))))) .nil))))
    (.seq (.asg (.nm 5) (.call 27 (.cons (.name 1) (.cons (.name 4) (.cons (.int 20) .nil)))))
    (.seq (.asg (.nm 6) (.bi .repr (.cons (.name 5) .nil)))
    (.seq (.for_ (.nm 7) (.keys (.bi .dictP (.cons (.comp [8] (.nm 8) (.tup (.cons (.bi .min2 (.cons (.name 4) (.cons (.int 5) .nil))) (.cons (.call 17 (.cons (.name 1) (.cons (.bin .add (.name 4) (.int 1)) .nil))) (.cons (.name 4) .nil)))) .nil (.tup (.cons (.name 8) (.cons (.int 0) .nil)))) .nil)))
    (.seq (.if_ (.or_ (.not_ (.call 30 (.cons (.name 1) (.cons (.name 4) (.cons (.name 5) (.cons (.name 7) .nil)))))) (.cmp .ne (.bi .repr (.cons (.name 5) .nil)) (.name 6)))
    (.seq (.ret (.bl false))
    .pass)
    .pass)
    .pass))
    .pass)))))
    (.seq (.asg (.nm 3) (.lst (.cons (.call 15 (.cons (.int 7) (.cons (.lst (.cons (.int 0) (.cons (.int 1) (.cons (.int 4) (.cons (.int 2) .nil))))) (.cons (.int 3) .nil)))) (.cons (.call 15 (.cons (.int 7) (.cons (.lst (.cons (.int 0) (.cons (.int 1) (.cons (.int 4) (.cons (.int 2) .nil))))) (.cons (.int 2) .nil)))) (.cons (.call 15 (.cons (.int 5) (.cons (.lst .nil) (.cons (.int 0) .nil)))) .nil)))))
    (.seq (.ret (.call 19 (.cons (.name 3) (.cons (.lst (.cons (.tup (.cons (.str "powers") (.cons (.lst (.cons (.int 0) (.cons (.int 0) (.cons (.int 1) .nil)))) .nil))) (.cons (.tup (.cons (.str "step") (.cons (.int 0) .nil))) (.cons (.tup (.cons (.str "powers") (.cons (.lst .nil) .nil))) .nil)))) .nil))))
    .pass)))
def n_law : List Str := ["script", "stream", "turn", "found", "prime", "numbers", "kept", "many", "one"]
def tT : Tb := ⟨[⟨"is_list", ["thing"]⟩,
  ⟨"is_whole", ["thing"]⟩,
  ⟨"is_number", ["thing"]⟩,
  ⟨"is_row", ["thing", "many"]⟩,
  ⟨"is_prime_number", ["thing"]⟩,
  ⟨"check_prime", ["prime"]⟩,
  ⟨"first_bad_rest", ["prime", "thing"]⟩,
  ⟨"check_numbers", ["prime", "numbers"]⟩,
  ⟨"undone", ["prime", "number"]⟩,
  ⟨"value_of", ["prime", "powers", "place"]⟩,
  ⟨"differences_of", ["prime", "numbers", "times"]⟩,
  ⟨"without_noughts", ["powers"]⟩,
  ⟨"times_place", ["prime", "powers", "place"]⟩,
  ⟨"through_of", ["prime", "pairs"]⟩,
  ⟨"check_many", ["prime", "many"]⟩,
  ⟨"powers_or_step", ["prime", "numbers", "many"]⟩,
  ⟨"powers_fault", ["prime", "numbers", "many", "thing"]⟩,
  ⟨"_law_draw", ["stream", "many"]⟩,
  ⟨"_law_pick", ["stream", "things"]⟩,
  ⟨"_law_same", ["found", "due"]⟩,
  ⟨"_law_loose", ["stream", "thing"]⟩,
  ⟨"_law_copied", ["thing"]⟩,
  ⟨"_law_is_whole", ["thing"]⟩,
  ⟨"_law_wrong_rest", ["prime", "thing"]⟩,
  ⟨"_law_value", ["prime", "powers", "place"]⟩,
  ⟨"_law_steps", ["prime", "numbers", "times"]⟩,
  ⟨"_law_some_powers", ["stream", "prime", "most"]⟩,
  ⟨"_law_some_values", ["stream", "prime", "most"]⟩,
  ⟨"_law_fault", ["prime", "numbers", "many", "thing"]⟩,
  ⟨"_law_things", ["stream", "prime", "numbers", "told"]⟩,
  ⟨"_law_right", ["stream", "prime", "numbers", "many"]⟩],
  [⟨16, 0, ["thing", "many", "numbers", "prime"], [3, 2, 1, 0]⟩, ⟨15, 0, ["many", "numbers", "prime"], [2, 1, 0]⟩]⟩
def tab : List Ent := [.v ⟨1, 1, b_is_list⟩,
  .v ⟨1, 1, b_is_whole⟩,
  .v ⟨1, 1, b_is_number⟩,
  .v ⟨2, 2, b_is_row⟩,
  .v ⟨2, 1, b_is_prime_number⟩,
  .v ⟨1, 1, b_check_prime⟩,
  .v ⟨4, 2, b_first_bad_rest⟩,
  .v ⟨3, 2, b_check_numbers⟩,
  .v ⟨5, 2, b_undone⟩,
  .v ⟨5, 3, b_value_of⟩,
  .v ⟨7, 3, b_differences_of⟩,
  .v ⟨2, 1, b_without_noughts⟩,
  .v ⟨6, 3, b_times_place⟩,
  .v ⟨10, 2, b_through_of⟩,
  .v ⟨2, 2, b_check_many⟩,
  .v ⟨6, 3, b_powers_or_step⟩,
  .v ⟨7, 4, b_powers_fault⟩,
  .own 2 drawV,
  .v ⟨2, 2, b__law_pick⟩,
  .v ⟨4, 2, b__law_same⟩,
  .v ⟨4, 2, b__law_loose⟩,
  .v ⟨4, 1, b__law_copied⟩,
  .v ⟨1, 1, b__law_is_whole⟩,
  .v ⟨5, 2, b__law_wrong_rest⟩,
  .v ⟨6, 3, b__law_value⟩,
  .v ⟨7, 3, b__law_steps⟩,
  .v ⟨6, 3, b__law_some_powers⟩,
  .v ⟨7, 3, b__law_some_values⟩,
  .v ⟨9, 4, b__law_fault⟩,
  .v ⟨9, 4, b__law_things⟩,
  .v ⟨16, 4, b__law_right⟩]
theorem c_is_list : (chkB tT b_is_list).B ⟨n_is_list, defScope (stm 1), fun _ => true⟩ (defBody (stm 1)) = true := by decide +kernel
theorem c_is_whole : (chkB tT b_is_whole).B ⟨n_is_whole, defScope (stm 2), fun _ => true⟩ (defBody (stm 2)) = true := by decide +kernel
theorem c_is_number : (chkB tT b_is_number).B ⟨n_is_number, defScope (stm 3), fun _ => true⟩ (defBody (stm 3)) = true := by decide +kernel
theorem c_is_row : (chkB tT b_is_row).B ⟨n_is_row, defScope (stm 4), fun _ => true⟩ (defBody (stm 4)) = true := by decide +kernel
theorem c_is_prime_number : (chkB tT b_is_prime_number).B ⟨n_is_prime_number, defScope (stm 11), fun _ => true⟩ (defBody (stm 11)) = true := by decide +kernel
theorem c_check_prime : (chkB tT b_check_prime).B ⟨n_check_prime, defScope (stm 12), fun _ => true⟩ (defBody (stm 12)) = true := by decide +kernel
theorem c_first_bad_rest : (chkB tT b_first_bad_rest).B ⟨n_first_bad_rest, defScope (stm 13), fun _ => true⟩ (defBody (stm 13)) = true := by decide +kernel
theorem c_check_numbers : (chkB tT b_check_numbers).B ⟨n_check_numbers, defScope (stm 14), fun _ => true⟩ (defBody (stm 14)) = true := by decide +kernel
theorem c_undone : (chkB tT b_undone).B ⟨n_undone, defScope (stm 16), fun _ => true⟩ (defBody (stm 16)) = true := by decide +kernel
theorem c_value_of : (chkB tT b_value_of).B ⟨n_value_of, defScope (stm 18), fun _ => true⟩ (defBody (stm 18)) = true := by decide +kernel
theorem c_differences_of : (chkB tT b_differences_of).B ⟨n_differences_of, defScope (stm 19), fun _ => true⟩ (defBody (stm 19)) = true := by decide +kernel
theorem c_without_noughts : (chkB tT b_without_noughts).B ⟨n_without_noughts, defScope (stm 20), fun _ => true⟩ (defBody (stm 20)) = true := by decide +kernel
theorem c_times_place : (chkB tT b_times_place).B ⟨n_times_place, defScope (stm 21), fun _ => true⟩ (defBody (stm 21)) = true := by decide +kernel
theorem c_through_of : (chkB tT b_through_of).B ⟨n_through_of, defScope (stm 22), fun _ => true⟩ (defBody (stm 22)) = true := by decide +kernel
theorem c_check_many : (chkB tT b_check_many).B ⟨n_check_many, defScope (stm 23), fun _ => true⟩ (defBody (stm 23)) = true := by decide +kernel
theorem c_powers_or_step : (chkB tT b_powers_or_step).B ⟨n_powers_or_step, defScope (stm 24), fun _ => true⟩ (defBody (stm 24)) = true := by decide +kernel
theorem c_powers_fault : (chkB tT b_powers_fault).B ⟨n_powers_fault, defScope (stm 25), fun _ => true⟩ (defBody (stm 25)) = true := by decide +kernel
theorem c__law_pick : (chkB tT b__law_pick).B ⟨n__law_pick, defScope (stm 29), fun _ => true⟩ (defBody (stm 29)) = true := by decide +kernel
theorem c__law_same : (chkB tT b__law_same).B ⟨n__law_same, defScope (stm 30), fun _ => true⟩ (defBody (stm 30)) = true := by decide +kernel
theorem c__law_loose : (chkB tT b__law_loose).B ⟨n__law_loose, defScope (stm 31), fun _ => true⟩ (defBody (stm 31)) = true := by decide +kernel
theorem c__law_copied : (chkB tT b__law_copied).B ⟨n__law_copied, defScope (stm 32), fun _ => true⟩ (defBody (stm 32)) = true := by decide +kernel
theorem c__law_is_whole : (chkB tT b__law_is_whole).B ⟨n__law_is_whole, defScope (stm 33), fun _ => true⟩ (defBody (stm 33)) = true := by decide +kernel
theorem c__law_wrong_rest : (chkB tT b__law_wrong_rest).B ⟨n__law_wrong_rest, defScope (stm 34), fun _ => true⟩ (defBody (stm 34)) = true := by decide +kernel
theorem c__law_value : (chkB tT b__law_value).B ⟨n__law_value, defScope (stm 35), fun _ => true⟩ (defBody (stm 35)) = true := by decide +kernel
theorem c__law_steps : (chkB tT b__law_steps).B ⟨n__law_steps, defScope (stm 36), fun _ => true⟩ (defBody (stm 36)) = true := by decide +kernel
theorem c__law_some_powers : (chkB tT b__law_some_powers).B ⟨n__law_some_powers, defScope (stm 37), fun _ => true⟩ (defBody (stm 37)) = true := by decide +kernel
theorem c__law_some_values : (chkB tT b__law_some_values).B ⟨n__law_some_values, defScope (stm 38), fun _ => true⟩ (defBody (stm 38)) = true := by decide +kernel
theorem c__law_fault : (chkB tT b__law_fault).B ⟨n__law_fault, defScope (stm 39), fun _ => true⟩ (defBody (stm 39)) = true := by decide +kernel
theorem c__law_things : (chkB tT b__law_things).B ⟨n__law_things, defScope (stm 40), fun _ => true⟩ (defBody (stm 40)) = true := by decide +kernel
theorem c__law_right : (chkB tT b__law_right).B ⟨n__law_right, defScope (stm 41), fun _ => true⟩ (defBody (stm 41)) = true := by decide +kernel
theorem c_law : (chkB tT b_law).B ⟨n_law, defScope (stm 42), fun _ => true⟩ (defBody (stm 42)).tail = true := by decide +kernel
theorem s_draw : FnScope ["stream", "many", "cell", "digit", "mixed"] ["stream", "many"] (defScope (stm 28)) := ⟨rfl, rfl, rfl, by decide +kernel, rfl, by decide +kernel, by decide +kernel⟩
theorem ps_draw {X : Cx} (hN : X.N = (["stream", "many", "cell", "digit", "mixed"] : List Str)) (hs : X.env.scope = defScope (stm 28)) (hc : X.calm = true) (hfn : X.fn = fun _ => true) (hx : X.xe = fun _ _ => False) (ma : X.mg "abs" = none) (mi : X.mg "int" = none) (hu : X.A.units + 64 < cLine) : PSs X (defBody (stm 28)) (tDraw X.K) := by
  have nd : X.N.Nodup := by rw [hN]; exact s_draw.nd
  have v : ∀ (i : Nat) (x : Str) (pos : Pos), (["stream", "many", "cell", "digit", "mixed"] : List Str)[i]? = some x → (defScope (stm 28)).names.lookup x = some .local → (x == ("__debug__" : Str)) = false → (x == ("__classdict__" : Str)) = false → PE X (.Name x pos) (tVar i) := fun i x pos h1 h2 h3 h4 => pe_var (by rw [hN]; exact h1) (.inl (by rw [hs]; exact h2)) h3 h4
  have g : ∀ x : Str, (defScope (stm 28)).names.lookup x = some .globalImplicit → Gl X x := fun x h => by
    unfold Gl Env.kindOf
    rw [hs]
    exact h
  have st : ∀ {k : Int} {j : Nat} {p1 p2 p3 : Pos}, PE X (.Subscript (.Name "stream" p1) (.Constant (.int k) j p2) p3) (tSt X.K k) := fun {k j p1 p2 p3} => pe_ix ix_list (v 0 "stream" p1 rfl rfl (by decide) (by decide)) pe_int (fun _ _ => rfl)
  have gs : ∀ {k : Int} {j : Nat} {p1 p2 p3 : Pos}, PG X (.Subscript (.Name "stream" p1) (.Constant (.int k) j p2) p3) (gSt k) := fun {k j p1 p2 p3} => pg_sub (v 0 "stream" p1 rfl rfl (by decide) (by decide)) pe_int set_list
  have po : PassesOwn (model X.prog X.w) X.A X.env X.xe := by rw [hx]; exact PassesOwn.never
  have io : ∀ {e : PySem.Expr} {t : TE} {p pos : Pos}, PE X e t → starEach [e] X.env = [(false, eval e X.env)] → PE X (.Call (.Name "int" p) [e] [] pos) (tIntOf t) := fun {e t p pos} h hst => pe_callTy call_int1 (g "int" rfl) mi boot_int (pa_cons h pa_nil hst) (by decide) (by decide) hst rfl
  have nm : ∀ {i : Nat} {x : Str} {e : PySem.Expr} {te : TE} {p pos : Pos}, (["stream", "many", "cell", "digit", "mixed"] : List Str)[i]? = some x → (defScope (stm 28)).names.lookup x = some .local → PE X e te → swapsWith e (some (.Name x p)) pos.line X.env = pure false → PS X (.Assign [.Name x p] e pos) (tAsg te (gName i)) := fun {i x e te p pos} h1 h2 h hsw =>
    ps_set nd (by rw [hN]; exact h1) (.inl (by rw [hs]; exact h2)) h hsw (.inr (by rw [hs]; exact h2))
  refine pss_cons (ps_asg (pe_op op_add st pe_int) gs) ?_
  refine pss_cons (ps_while po (PW.pt (pw_and (pt_cmpR (op_eqD hu) st pe_int (nomark _)) (pw_and1 (pt_cmpR (op_neD hu) st (pe_lst pa_nil) (nomark _))))) ?_) ?_
  · refine pss_cons (nm (i := 2) rfl rfl (pe_callB call_abs (g "abs" rfl) ma boot_abs (pa_cons (pe_bm PySem.F.plainAttrs_list PySem.F.slot_list_pop PySem.F.type_list_pop mt_popAt st (pa_cons pe_int pa_nil)) pa_nil)) rfl) ?_
    refine pss_cons (ps_asg (pe_op op_mod (io (pe_op op_add (pe_op op_add (pe_op op_mul st pe_int) (v 2 "cell" _ rfl rfl (by decide) (by decide))) pe_int) rfl) pe_int) gs) ?_
    exact pss_one (ps_asg (pe_ifExp (pt_cmpR op_ge (v 2 "cell" _ rfl rfl (by decide) (by decide)) (pe_op op_pow pe_int pe_int) (nomark _)) (v 2 "cell" _ rfl rfl (by decide) (by decide)) pe_int) gs)
  · refine pss_cons (ps_if (pt_cmpR op_gt st pe_int (nomark _)) (pss_cons (nm (i := 3) rfl rfl (pe_op op_mod (io st rfl) (v 1 "many" _ rfl rfl (by decide) (by decide))) rfl) (pss_cons (ps_asg (pe_op op_fdivW st (v 1 "many" _ rfl rfl (by decide) (by decide))) gs) (pss_one (ps_ret (v 3 "digit" _ rfl rfl (by decide) (by decide)))))) pss_nil) ?_
    refine pss_cons (nm (i := 4) rfl rfl (pe_op op_mod (io (pe_op op_pow (pe_op op_add (pe_op op_add st (pe_op op_mul pe_int st)) pe_int) pe_int) rfl) pe_int) rfl) ?_
    exact pss_one (ps_ret (pe_op op_mod (pe_op op_mod (io (pe_op op_pow (pe_op op_add (pe_op op_add (pe_op op_mul (v 4 "mixed" _ rfl rfl (by decide) (by decide)) pe_int) (pe_op op_mul pe_int st)) pe_int) pe_int) rfl) pe_int) (v 1 "many" _ rfl rfl (by decide) (by decide))))
def LEN : Nat := 63
def WW : Nat := 2 ^ 64
end VL.K76
end

/-! text: K76A -/
section
set_option maxHeartbeats 4000000
namespace VL.K76
open PySem PySem.Spec PyProof.Rows L2 VL
local macro_rules | `(tactic| walk_at "v") => `(tactic| simp (config := {maxSteps := 4000000}) (disch := omega) [List.getElem?_cons_zero, ilt_t, ilt_f, ile_t, ile_f, ieq_t, ieq_f, nlt_t, nlt_f, nle_t, nle_f, neq_t, neq_f, mulOk_l, mulOk_r, divOk_of, small_of, rngOk_num, comp_cons, comp_nil, -List.map_reverse, -List.map_tail, -List.map_map, rev_ints, tail_ints, -bi_reprL, -bi_reprT])
section
variable {n : Nat} {st : Option Strm} {p : Int} {b : Bool} {ns : List Int}
theorem WW_big : 2000000 < WW := by unfold WW; decide
theorem chkprime (hp : Pr p) : callN tab WW (n + 3) 5 [.int p] st = .ok (.non, st) := check1_run (kp := 4) rfl (prime_run (kw := 1) rfl rfl hp WW_big) rfl
theorem bad (hr : Rests p ns) : callN tab WW (n + 3) 6 [.int p, sqD b ns] st = .ok (.non, st) := firstbad_run (kl := 0) (kn := 2) (kw := 1) rfl rfl rfl rfl hr
theorem islist : callN tab WW (n + 1) 0 [sqD b ns] st = .ok (.bl true, st) := islist_run rfl
theorem chknums (hp : Pr p) (hr : Rests p ns) : callN tab WW (n + 4) 7 [.int p, sqD b ns] st = .ok (.non, st) := by
  apply Run.eq; refine run_callN (d := ⟨3, 2, b_check_numbers⟩) rfl rfl ?_; unfold b_check_numbers
  walk_at "v"
  simp only [chkprime hp, run_ok]
  walk_at "v"
  simp only [bad hr, run_ok]
  walk_at "v"
def evalM (p : Int) (cs : List Int) (x : Int) : Int := cs.reverse.foldl (fun acc c => (acc * x + c) % p) 0
theorem value_of_run (hp : Pr p) (hr : Rests p ns) {x : Int} (hx : 0 ≤ x ∧ x ≤ 1000000) : callN tab WW (n + 1) 9 [.int p, sqD b ns, .int x] st = .ok (.int (evalM p ns x), st) := by
  apply Run.eq; refine run_callN (d := ⟨5, 3, b_value_of⟩) rfl rfl ?_; unfold b_value_of
  have h1 := hp.two
  have h2 := hp.small
  have hrev : revD (sqD b ns) = .ok (if b then .lst .own (ns.reverse.map D.int) else .tup (ns.reverse.map D.int)) := by cases b <;> simp [sqD]
  walk_at "v"
  simp only [hrev, run_ok]
  have main : ∀ (Q : Fl → Prop), (∀ o, Q (.nx ⟨[some (.int p), some (sqD b ns), some (.int x), some (.int (evalM p ns x)), o], st⟩)) → Run (forGo (fun d s => guardR (decide (4 < s.ρ.length)) (s.ρ.set 4 (some d)) >>= fun ρ => Res.ok (⟨ρ, s.st⟩ : VS)) (exec (callN tab WW n) WW ((VB.asg (VG.nm 3) (VE.bin Op.mod (VE.bin Op.add (VE.bin Op.mul (VE.name 3) (VE.name 2)) (VE.name 4)) (VE.name 0))).seq VB.pass)) (ns.reverse.map D.int) ⟨[some (.int p), some (sqD b ns), some (.int x), some (.int 0), none], st⟩) Q := by
    intro Q hq
    refine for_fold (fun acc c => (acc * x + c) % p) (fun a s => 0 ≤ a ∧ a < p ∧ ∃ o, s = ⟨[some (.int p), some (sqD b ns), some (.int x), some (.int a), o], st⟩) ns.reverse 0 ⟨by omega, by omega, _, rfl⟩ ?_ ?_
    · rintro a c s hc ⟨a0, a1, o, rfl⟩
      walk_at "v"
      exact ⟨Int.emod_nonneg _ (by omega), Int.emod_lt_of_pos _ (by omega)⟩
    · rintro s ⟨_, _, o, rfl⟩
      exact hq o
  cases b
  · walk_at "v"
    refine main _ fun o => ?_
    walk_at "v"
  · walk_at "v"
    refine main _ fun o => ?_
    walk_at "v"
def valsL (p : Int) (cs : List Int) (m : Nat) : List Int := (List.range m).map fun (k : Nat) => evalM p cs k
def dstep (p : Int) (l : List Int) : List Int := List.zipWith (fun one two => (two - one) % p) l l.tail
def diffs (p : Int) (l : List Int) : Nat → List Int
  | 0 => l
  | k + 1 => dstep p (diffs p l k)
theorem zipW_get {xs ys : List Int} {f : Int → Int → Int} : ((List.range (min xs.length ys.length)).map fun i => D.int (f (xs[i]?.getD 0) (ys[i]?.getD 0))) = (List.zipWith f xs ys).map D.int := by
  apply List.ext_getElem?
  intro i
  rw [List.getElem?_map, List.getElem?_map, List.getElem?_zipWith]
  by_cases h : i < min xs.length ys.length
  · rw [List.getElem?_range h]
    have h1 : xs[i]? = some xs[i] := List.getElem?_eq_getElem (show i < xs.length by omega)
    have h2 : ys[i]? = some ys[i] := List.getElem?_eq_getElem (show i < ys.length by omega)
    rw [h1, h2]
    show some _ = some _
    simp only [h1, h2, Option.getD_some]
  · rw [List.getElem?_eq_none (by simpa using h)]
    by_cases h1 : i < xs.length
    · rw [List.getElem?_eq_none (l := ys) (by omega)]
      cases xs[i]? <;> rfl
    · rw [List.getElem?_eq_none (l := xs) (by omega)]
      rfl
theorem dstep_len (p : Int) (l : List Int) : (dstep p l).length ≤ l.length := by unfold dstep; simp
theorem diffs_len (p : Int) (l : List Int) : ∀ k, (diffs p l k).length ≤ l.length
  | 0 => Nat.le_refl _
  | k + 1 => Nat.le_trans (dstep_len p _) (diffs_len p l k)
theorem diffs_of_run (hp : Pr p) (hl : ns.length ≤ 1000) {t : Int} (ht : 0 ≤ t ∧ t < 1000000) : callN tab WW (n + 1) 10 [.int p, sqD b ns, .int t] st = .ok (.lst .own ((diffs p ns (min t.toNat ns.length)).map D.int), st) := by
  apply Run.eq; refine run_callN (d := ⟨7, 3, b_differences_of⟩) rfl rfl ?_; unfold b_differences_of
  have h2 := hp.two
  walk_at "v"
  refine for_by _ (fun i s => ∃ o4, s = ⟨[some (.int p), some (sqD b ns), some (.int t), some (.lst .own ((diffs p ns i).map D.int)), o4, none, none], st⟩) ⟨_, rfl⟩ ?_ ?_
  · rintro i d s hi ⟨o4, rfl⟩
    obtain ⟨rfl, h⟩ := range_get hi
    have hdl := diffs_len p ns i
    walk_at "v"
    refine comp_all _ (fun k => .int (((diffs p ns i).tail[k]?.getD 0 - (diffs p ns i)[k]?.getD 0) % p)) (fun s => ∃ o5 o6, s = ⟨[some (.int p), some (sqD b ns), some (.int t), some (.lst .own ((diffs p ns i).map D.int)), some (.int i), o5, o6], st⟩) ⟨_, _, rfl⟩ ?_ ?_
    · rintro k d s hk ⟨o5, o6, rfl⟩
      obtain ⟨x, y, h1, h2, rfl⟩ := zip_get hk
      rw [h1, h2]
      walk_at "v"
    · rintro s ⟨o5, o6, rfl⟩
      have e : (List.range (min (diffs p ns i).length (diffs p ns i).tail.length)).map (fun k => D.int (((diffs p ns i).tail[k]?.getD 0 - (diffs p ns i)[k]?.getD 0) % p)) = (diffs p ns (i + 1)).map D.int := zipW_get (xs := diffs p ns i) (ys := (diffs p ns i).tail) (f := fun one two => (two - one) % p)
      have hdl2 := diffs_len p ns (i + 1)
      rw [zip_len, e]
      walk_at "v"
  · rintro s ⟨o4, rfl⟩
    walk_at "v"
    congr 3
    split <;> omega
theorem diffs_len_eq (p : Int) (l : List Int) : ∀ k, (diffs p l k).length = l.length - k
  | 0 => rfl
  | k + 1 => by
    show (dstep p (diffs p l k)).length = _
    unfold dstep
    rw [List.length_zipWith, List.length_tail, diffs_len_eq p l k]
    omega
def evalL (p : Int) (cs : List Int) (x : Int) : Int := (cs.foldl (fun (a : Int × Int) c => ((a.1 + c * a.2) % p, a.2 * x % p)) (0, 1)).1
theorem lvalue_run (hp : Pr p) (hr : Rests p ns) {x : Int} (hx : 0 ≤ x ∧ x ≤ 1000000) : callN tab WW (n + 1) 24 [.int p, sqD b ns, .int x] st = .ok (.int (evalL p ns x), st) := by
  apply Run.eq; refine run_callN (d := ⟨6, 3, b__law_value⟩) rfl rfl ?_; unfold b__law_value
  have h1 := hp.two
  have h2 := hp.small
  walk_at "v"
  refine for_fold (fun (a : Int × Int) c => ((a.1 + c * a.2) % p, a.2 * x % p)) (fun a s => 0 ≤ a.1 ∧ a.1 < p ∧ 0 ≤ a.2 ∧ a.2 < p ∧ ∃ o, s = ⟨[some (.int p), some (sqD b ns), some (.int x), o, some (.int a.1), some (.int a.2)], st⟩) ns (0, 1) ⟨by simp, by simp; omega, by simp, by simp; omega, _, rfl⟩ ?_ ?_
  · rintro ⟨t, q⟩ c s hc ⟨a0, a1, a2, a3, o, rfl⟩
    simp only at a0 a1 a2 a3
    walk_at "v"
    exact ⟨Int.emod_nonneg _ (by omega), Int.emod_lt_of_pos _ (by omega), Int.emod_nonneg _ (by omega), Int.emod_lt_of_pos _ (by omega)⟩
  · rintro s ⟨_, _, _, _, o, rfl⟩
    walk_at "v"
    rfl
theorem lsteps_run (hp : Pr p) (hl : ns.length ≤ 1000) {t : Int} (ht : 0 ≤ t ∧ t < 1000000) : callN tab WW (n + 1) 25 [.int p, sqD b ns, .int t] st = .ok (.lst .own ((diffs p ns (min t.toNat ns.length)).map D.int), st) := by
  have h : callN tab WW (n + 1) 10 [.int p, sqD b ns, .int t] st = callN tab WW (n + 1) 25 [.int p, sqD b ns, .int t] st := rfl
  rw [← h]
  exact diffs_of_run hp hl ht
theorem some_powers_run {s0 : Strm} {B : Int} {most : Int} (h : SOk B s0) (hB : B ≤ 1000000000) (hp : Pr p) (hm : 0 ≤ most ∧ most ≤ 1000) {Q : D × Option Strm → Prop} (q : ∀ ns st', Rests p ns → (ns.length : Int) ≤ p → (ns.length : Int) ≤ most → SOk (B + 1002) st' → Q (.lst .own (ns.map D.int), some st')) :
    Run (callN tab WW (n + 2) 26 [.strm, .int p, .int most] (some s0)) Q := by
  refine run_callN (d := ⟨6, 3, b__law_some_powers⟩) rfl rfl ?_; unfold b__law_some_powers
  have h1 := hp.two
  have h2 := hp.small
  walk_at "v"
  refine run_draw rfl h (by omega) (by split <;> omega) (by split <;> omega) fun r st' r0 r1 h' => ?_
  have hrm : r ≤ most ∧ r ≤ p := by split at r1 <;> omega
  obtain ⟨m, rfl⟩ := Int.eq_ofNat_of_zero_le r0
  walk_at "v"
  refine comp_drawn _ p (B + 1) (fun st' s => ∃ o, s = ⟨[some .strm, some (.int p), some (.int most), some (.int m), none, o], some st'⟩) h' ⟨_, rfl⟩ ?_ ?_
  · rintro d s st2 i hd ⟨o, rfl⟩ hs hi
    walk_at "v"
    refine run_draw rfl hs (by rw [range_len] at hi; omega) (by omega) (by omega) fun r st3 r0 r1 h3 => ?_
    walk_at "v"
    exact ⟨r, st3, rfl, r0, r1, h3, _, rfl⟩
  · rintro ns st2 s hl hr hs ⟨o, rfl⟩
    rw [range_len] at hl hs
    have hl : ns.length = m := by omega
    have hs : SOk (B + 1 + m) st2 := hs.up (by omega)
    walk_at "v"
    split
    · rename_i h0
      refine run_draw rfl hs (by omega) (by omega) (by omega) fun r st3 r0 r1 h3 => ?_
      walk_at "v"
      split
      · have hix : ixN (ns.map D.int).length (-1) = some (m - 1) := by
          unfold ixN
          rw [List.length_map, hl, if_neg (by omega), if_pos (by omega)]
          congr 1
          omega
        simp only [List.length_map] at hix
        simp only [hix]
        walk_at "v"
        rw [← List.map_set]
        refine q (ns.set (m - 1) 0) st3 (fun x hx => ?_) (by rw [List.length_set]; omega) (by rw [List.length_set]; omega) (h3.up (by omega))
        rcases List.mem_or_eq_of_mem_set hx with hx | hx
        · exact hr x hx
        · rw [hx]; omega
      · exact q ns st3 hr (by omega) (by omega) (h3.up (by omega))
    · exact q ns st2 hr (by omega) (by omega) (hs.up (by omega))
theorem evalM_rest (hp : Pr p) (ns : List Int) (x : Int) : 0 ≤ evalM p ns x ∧ evalM p ns x < p := by
  have h2 := hp.two
  unfold evalM
  cases ns.reverse.eq_nil_or_concat with
  | inl h => rw [h]; simp; omega
  | inr h =>
    obtain ⟨l, a, e⟩ := h
    rw [e, List.concat_eq_append, List.foldl_append]
    exact ⟨Int.emod_nonneg _ (by omega), Int.emod_lt_of_pos _ (by omega)⟩
theorem evalL_gen (p x : Int) : ∀ (cs : List Int) (t q : Int), ((cs.foldl (fun (a : Int × Int) c => ((a.1 + c * a.2) % p, a.2 * x % p)) (t, q)).1) % p = (t + q * cs.foldr (fun c a => a * x + c) 0) % p
  | [], t, q => by simp
  | c :: cs, t, q => by
    rw [List.foldl_cons, evalL_gen p x cs, List.foldr_cons]
    generalize cs.foldr (fun c a => a * x + c) 0 = E
    show ((t + c * q) % p + q * x % p * E) % p = _
    rw [Int.add_emod, Int.emod_emod, Int.mul_emod (q * x % p), Int.emod_emod, ← Int.mul_emod, ← Int.add_emod]
    congr 1
    rw [Int.mul_add, Int.mul_comm c q, Int.mul_comm E x, ← Int.mul_assoc]
    omega
theorem evalM_gen (p x : Int) : ∀ (cs : List Int), (cs.foldr (fun c acc => (acc * x + c) % p) 0) % p = (cs.foldr (fun c a => a * x + c) 0) % p
  | [] => rfl
  | c :: cs => by
    rw [List.foldr_cons, List.foldr_cons, Int.emod_emod]
    rw [Int.add_emod, Int.mul_emod, evalM_gen p x cs, ← Int.mul_emod, ← Int.add_emod]
theorem evalL_rest (hp : Pr p) (ns : List Int) (x : Int) : 0 ≤ evalL p ns x ∧ evalL p ns x < p := by
  have h2 := hp.two
  unfold evalL
  cases ns.eq_nil_or_concat with
  | inl h => rw [h]; simp; omega
  | inr h =>
    obtain ⟨l, a, e⟩ := h
    rw [e, List.concat_eq_append, List.foldl_append]
    exact ⟨Int.emod_nonneg _ (by omega), Int.emod_lt_of_pos _ (by omega)⟩
theorem evalL_eq (hp : Pr p) (ns : List Int) (x : Int) : evalL p ns x = evalM p ns x := by
  have h1 := evalL_rest hp ns x
  have h2 := evalM_rest hp ns x
  rw [← Int.emod_eq_of_lt h1.1 h1.2, ← Int.emod_eq_of_lt h2.1 h2.2]
  have e : evalM p ns x = ns.foldr (fun c acc => (acc * x + c) % p) 0 := by unfold evalM; rw [List.foldl_reverse]
  rw [e, evalM_gen]
  unfold evalL
  rw [evalL_gen]
  simp
theorem some_values_run {s0 : Strm} {B : Int} {most : Int} (h : SOk B s0) (hB : B ≤ 1000000) (hp : Pr p) (hm : 0 ≤ most ∧ most ≤ 500) {Q : D × Option Strm → Prop} (q : ∀ ns st', Rests p ns → (ns.length : Int) ≤ most → SOk (B + 4000) st' → Q (.lst .own (ns.map D.int), some st')) :
    Run (callN tab WW (n + 3) 27 [.strm, .int p, .int most] (some s0)) Q := by
  refine run_callN (d := ⟨7, 3, b__law_some_values⟩) rfl rfl ?_; unfold b__law_some_values
  have h1 := hp.two
  have h2 := hp.small
  walk_at "v"
  refine some_powers_run h (by omega) hp (by omega) fun cs st1 hcr hc1 hc2 hs1 => ?_
  walk_at "v"
  refine run_draw rfl hs1 (by omega) (by omega) (by omega) fun r st2 r0 r1 hs2 => ?_
  obtain ⟨m, rfl⟩ := Int.eq_ofNat_of_zero_le r0
  walk_at "v"
  refine comp_all _ (fun k => .int (evalM p cs k)) (fun s => ∃ o, s = ⟨[some .strm, some (.int p), some (.int most), none, some (.lst .own (cs.map D.int)), some (.int m), o], some st2⟩) ⟨_, rfl⟩ ?_ ?_
  · rintro i d s hi ⟨o, rfl⟩
    obtain ⟨rfl, hlt⟩ := range_get hi
    walk_at "v"
    simp only [sq_lst, lvalue_run hp hcr (show 0 ≤ (i : Int) ∧ (i : Int) ≤ 1000000 by omega), run_ok]
    walk_at "v"
    exact evalL_eq hp cs i
  · rintro s ⟨o, rfl⟩
    have e : (List.range (rangeD 0 (m : Int)).length).map (fun (k : Nat) => D.int (evalM p cs k)) = (valsL p cs m).map D.int := by
      rw [mapR_int, range_len]
      unfold valsL
      simp
    rw [e]
    have hvl : (valsL p cs m).length = m := by unfold valsL; simp
    have hvr : Rests p (valsL p cs m) := fun x hx => by
      unfold valsL at hx
      obtain ⟨k, _, rfl⟩ := List.mem_map.mp hx
      exact evalM_rest hp cs k
    walk_at "v"
    refine run_draw rfl hs2 (by omega) (by omega) (by omega) fun r st3 r0 r1 hs3 => ?_
    walk_at "v"
    split
    · split
      · refine run_draw rfl hs3 (by omega) (by omega) (by omega) fun r st4 r0 r1 hs4 => ?_
        walk_at "v"
        refine run_draw rfl hs4 (by omega) (by omega) (by omega) fun r' st5 r0 r1 hs5 => ?_
        obtain ⟨k, rfl⟩ := Int.eq_ofNat_of_zero_le r0
        have hix : ixN (valsL p cs m).length (k : Int) = some k := by
          unfold ixN
          rw [hvl, if_pos (by omega)]
          first | (simp; omega) | simp
        walk_at "v"
        simp only [hix]
        walk_at "v"
        rw [← List.map_set]
        have hr' : Rests p ((valsL p cs m).set k r) := fun x hx => by
          rcases List.mem_or_eq_of_mem_set hx with hx | hx
          · exact hvr x hx
          · rw [hx]; omega
        have hl' : ((valsL p cs m).set k r).length = m := by rw [List.length_set, hvl]
        generalize (valsL p cs m).set k r = vs at hr' hl' ⊢
        refine run_draw rfl hs5 (by omega) (by omega) (by omega) fun r9 st9 _ _ h9 => ?_
        walk_at "v"
        split
        · exact q _ _ hr' (by omega) (h9.up (by omega))
        · refine comp_drawn _ p (B + 2000) (fun st' s => ∃ o, s = ⟨[some .strm, some (.int p), some (.int most), some (.lst .own (vs.map D.int)), some (.lst .own (cs.map D.int)), some (.int m), o], some st'⟩) (h9.up (by omega)) ⟨_, rfl⟩ ?_ ?_
          · rintro d s st2 i hd ⟨o, rfl⟩ hs hi
            walk_at "v"
            refine run_draw rfl hs (by rw [range_len] at hi; omega) (by omega) (by omega) fun r st3 r0 r1 h3 => ?_
            walk_at "v"
            exact ⟨r, st3, rfl, r0, r1, h3, _, rfl⟩
          · rintro ns st2 s hl hr hs ⟨o, rfl⟩
            rw [range_len] at hl hs
            walk_at "v"
            exact q ns st2 hr (by omega) (hs.up (by omega))
      · refine run_draw rfl hs3 (by omega) (by omega) (by omega) fun r9 st9 _ _ h9 => ?_
        walk_at "v"
        split
        · exact q _ _ hvr (by omega) (h9.up (by omega))
        · refine comp_drawn _ p (B + 2000) (fun st' s => ∃ o, s = ⟨[some .strm, some (.int p), some (.int most), some (.lst .own ((valsL p cs m).map D.int)), some (.lst .own (cs.map D.int)), some (.int m), o], some st'⟩) (h9.up (by omega)) ⟨_, rfl⟩ ?_ ?_
          · rintro d s st2 i hd ⟨o, rfl⟩ hs hi
            walk_at "v"
            refine run_draw rfl hs (by rw [range_len] at hi; omega) (by omega) (by omega) fun r st3 r0 r1 h3 => ?_
            walk_at "v"
            exact ⟨r, st3, rfl, r0, r1, h3, _, rfl⟩
          · rintro ns st2 s hl hr hs ⟨o, rfl⟩
            rw [range_len] at hl hs
            walk_at "v"
            exact q ns st2 hr (by omega) (hs.up (by omega))
    · refine run_draw rfl hs3 (by omega) (by omega) (by omega) fun r9 st9 _ _ h9 => ?_
      walk_at "v"
      split
      · exact q _ _ hvr (by omega) (h9.up (by omega))
      · refine comp_drawn _ p (B + 2000) (fun st' s => ∃ o, s = ⟨[some .strm, some (.int p), some (.int most), some (.lst .own ((valsL p cs m).map D.int)), some (.lst .own (cs.map D.int)), some (.int m), o], some st'⟩) (h9.up (by omega)) ⟨_, rfl⟩ ?_ ?_
        · rintro d s st2 i hd ⟨o, rfl⟩ hs hi
          walk_at "v"
          refine run_draw rfl hs (by rw [range_len] at hi; omega) (by omega) (by omega) fun r st3 r0 r1 h3 => ?_
          walk_at "v"
          exact ⟨r, st3, rfl, r0, r1, h3, _, rfl⟩
        · rintro ns st2 s hl hr hs ⟨o, rfl⟩
          rw [range_len] at hl hs
          walk_at "v"
          exact q ns st2 hr (by omega) (hs.up (by omega))
end
end VL.K76
end

/-! text: K76B -/
section
set_option maxHeartbeats 4000000
namespace VL.K76
open PySem PySem.Spec PyProof.Rows L2 VL
local macro_rules | `(tactic| walk_at "v") => `(tactic| simp (config := {maxSteps := 4000000}) (disch := omega) [List.getElem?_cons_zero, ilt_t, ilt_f, ile_t, ile_f, ieq_t, ieq_f, nlt_t, nlt_f, nle_t, nle_f, neq_t, neq_f, mulOk_l, mulOk_r, divOk_of, small_of, rngOk_num, comp_cons, comp_nil, -List.map_reverse, -List.map_tail, -List.map_map, rev_ints, tail_ints, -bi_reprL, -bi_reprT])
section
variable {n : Nat} {st : Option Strm} {p : Int} {b : Bool} {ns : List Int}
theorem pw_even (f w k P : Nat) : f * w ^ (2 * k) % P = f * (w * w % P) ^ k % P := by
  rw [Nat.pow_mul, show w ^ 2 = w * w by rw [Nat.pow_succ, Nat.pow_one], Nat.mul_mod, Nat.pow_mod (w * w), ← Nat.mul_mod]
theorem pw_odd (f w k P : Nat) : f * w ^ (2 * k + 1) % P = (f * w % P) * (w * w % P) ^ k % P := by
  rw [Nat.pow_succ, show f * (w ^ (2 * k) * w) = f * w * w ^ (2 * k) by rw [Nat.mul_comm (w ^ (2 * k)), Nat.mul_assoc], pw_even]
  rw [Nat.mul_mod (f * w % P), Nat.mod_mod, ← Nat.mul_mod]
theorem undone_run {P x : Nat} (hp : Pr P) (hx : x < P) : callN tab WW (n + 1) 8 [.int P, .int x] st = .ok (.int ((x ^ (P - 2) % P : Nat) : Int), st) := by
  apply Run.eq; refine run_callN (d := ⟨5, 2, b_undone⟩) rfl rfl ?_; unfold b_undone
  have h1 := hp.two
  have h2 := hp.small
  have hW := WW_big
  have h3 : P - 2 < WW := by omega
  walk_at "v"
  refine while_by (fun s => ∃ f w l : Nat, s = ⟨[some (.int P), some (.int x), some (.int f), some (.int w), some (.int l)], st⟩ ∧ f < P ∧ w < P ∧ l < P ∧ f * w ^ l % P = x ^ (P - 2) % P) (slotN 4) ?_ WW _ ⟨1, x, P - 2, by simp; omega, by omega, hx, by omega, by simp⟩ (by rw [show (P : Int) - 2 = ((P - 2 : Nat) : Int) by omega]; simpa using h3)
  rintro s ⟨f, w, l, rfl, hf, hw, hl, e⟩
  walk_at "v"
  split
  · split
    · rename_i h0 hc
      refine ⟨f * w % P, w * w % P, l / 2, ⟨by simp, by simp, by simp⟩, Nat.mod_lt _ (by omega), Nat.mod_lt _ (by omega), by omega, ?_⟩
      have hl2 : l = 2 * (l / 2) + 1 := by omega
      rw [hl2, pw_odd] at e
      exact e
    · rename_i h0 hc
      refine ⟨f, w * w % P, l / 2, ⟨rfl, by simp, by simp⟩, hf, Nat.mod_lt _ (by omega), by omega, ?_⟩
      have hl2 : l = 2 * (l / 2) := by omega
      rw [hl2, pw_even] at e
      exact e
  · rename_i h0
    have hl0 : l = 0 := by omega
    subst hl0
    rw [Nat.pow_zero, Nat.mul_one, Nat.mod_eq_of_lt hf] at e
    rw [e]; simp
end
end VL.K76
end

/-! text: K76M -/
section
set_option maxHeartbeats 4000000
namespace VL.K76
open PySem PySem.Spec PyProof.Rows L2 VL
/-! ### congruence -/
def Cg (p a b : Int) : Prop := ∃ k, a = b + p * k
theorem Cg.refl (p a : Int) : Cg p a a := ⟨0, by simp⟩
theorem Cg.of {p a b : Int} (h : a = b) : Cg p a b := h ▸ .refl p a
theorem Cg.symm {p a b : Int} : Cg p a b → Cg p b a := fun ⟨k, h⟩ => ⟨-k, by rw [h, Int.mul_neg]; omega⟩
theorem Cg.trans {p a b c : Int} : Cg p a b → Cg p b c → Cg p a c := fun ⟨k, h⟩ ⟨l, g⟩ => ⟨l + k, by rw [h, g, Int.mul_add]; omega⟩
theorem Cg.add {p a b c d : Int} : Cg p a b → Cg p c d → Cg p (a + c) (b + d) := fun ⟨k, h⟩ ⟨l, g⟩ => ⟨k + l, by rw [h, g, Int.mul_add]; omega⟩
theorem Cg.sub {p a b c d : Int} : Cg p a b → Cg p c d → Cg p (a - c) (b - d) := fun ⟨k, h⟩ ⟨l, g⟩ => ⟨k - l, by rw [h, g, Int.mul_sub]; omega⟩
theorem Cg.mul {p a b c d : Int} : Cg p a b → Cg p c d → Cg p (a * c) (b * d) := fun ⟨k, h⟩ ⟨l, g⟩ => ⟨k * d + b * l + p * k * l, by
  rw [h, g, Int.add_mul, Int.mul_add, Int.mul_add, Int.mul_add, Int.mul_add]
  rw [show b * (p * l) = p * (b * l) by rw [← Int.mul_assoc, Int.mul_comm b p, Int.mul_assoc], show p * k * d = p * (k * d) by rw [Int.mul_assoc], show p * k * (p * l) = p * (p * k * l) by rw [Int.mul_assoc p k, Int.mul_assoc p k, ← Int.mul_assoc k p l, Int.mul_comm k p]; simp only [Int.mul_assoc]]
  omega⟩
theorem Cg.mod (p a : Int) : Cg p (a % p) a := ⟨-(a / p), by have := Int.emod_add_mul_ediv a p; rw [Int.mul_neg]; omega⟩
theorem Cg.eq {p a b : Int} (h : Cg p a b) : a % p = b % p := by
  obtain ⟨k, rfl⟩ := h
  exact Int.add_mul_emod_self_left b p k
theorem Cg.eq_of {p a b : Int} (h : Cg p a b) (ha : 0 ≤ a ∧ a < p) (hb : 0 ≤ b ∧ b < p) : a = b := by
  have := h.eq
  rwa [Int.emod_eq_of_lt ha.1 ha.2, Int.emod_eq_of_lt hb.1 hb.2] at this
theorem Cg.of_eq {p a b : Int} (h : a % p = b % p) : Cg p a b := (Cg.mod p a).symm.trans (h ▸ Cg.mod p b)
/-! ### values -/
def E (cs : List Int) (x : Int) : Int := cs.foldr (fun c a => a * x + c) 0
theorem E_snoc0 (x : Int) : ∀ cs, E (cs ++ [0]) x = E cs x
  | [] => by simp [E]
  | c :: cs => by
    have := E_snoc0 x cs
    unfold E at this ⊢
    rw [List.cons_append, List.foldr_cons, List.foldr_cons, this]
theorem evalM_E (p : Int) (cs : List Int) (x : Int) (hp : Pr p) : evalM p cs x = E cs x % p := by
  have h2 := evalM_rest hp cs x
  have e : evalM p cs x = cs.foldr (fun c acc => (acc * x + c) % p) 0 := by unfold evalM; rw [List.foldl_reverse]
  rw [← Int.emod_eq_of_lt h2.1 h2.2, e, evalM_gen]
  rfl
theorem E_zip (p s x : Int) : ∀ (xs ys : List Int), xs.length = ys.length → Cg p (E (List.zipWith (fun one two => (one + s * two) % p) xs ys) x) (E xs x + s * E ys x)
  | [], [], _ => by simp [E]; exact .refl _ _
  | a :: xs, b :: ys, h => by
    have ih := E_zip p s x xs ys (by simpa using h)
    show Cg p (E _ x * x + (a + s * b) % p) ((E xs x * x + a) + s * (E ys x * x + b))
    refine ((ih.mul (.refl p x)).add (.mod p _)).trans (.of ?_)
    rw [Int.add_mul, Int.mul_add, Int.mul_assoc]
    omega
/-! ### the products of n, n - 1, .. -/
def W : Nat → Int → Int
  | 0, _ => 1
  | i + 1, x => W i x * (x - i)
theorem W_zero : ∀ i j : Nat, j < i → W i j = 0
  | i + 1, j, h => by
    rw [W]
    by_cases e : j = i
    · subst e; simp
    · rw [W_zero i j (by omega), Int.zero_mul]
theorem W_shift (x : Int) : ∀ i : Nat, W (i + 1) (x + 1) = (x + 1) * W i x
  | 0 => by simp [W]
  | i + 1 => by
    rw [W, W_shift x i, W, Int.mul_assoc]
    congr 2
    omega
theorem W_diff (x : Int) (i : Nat) : W (i + 1) (x + 1) - W (i + 1) x = (i + 1) * W i x := by
  rw [W_shift, W, Int.mul_comm (W i x), ← Int.sub_mul]
  congr 1
  omega
/-- the sum of c i times W i, i below m -/
def S (c : Nat → Int) : Nat → Int → Int
  | 0, _ => 0
  | m + 1, x => S c m x + c m * W m x
theorem S_diff (c : Nat → Int) (x : Int) : ∀ m, S c (m + 1) (x + 1) - S c (m + 1) x = S (fun i => c (i + 1) * (i + 1)) m x
  | 0 => by simp [S, W]
  | m + 1 => by
    have ih := S_diff c x m
    have w := W_diff x m
    show S c (m + 1) (x + 1) + c (m + 1) * W (m + 1) (x + 1) - (S c (m + 1) x + c (m + 1) * W (m + 1) x) = S (fun i => c (i + 1) * (i + 1)) m x + c (m + 1) * ((m : Int) + 1) * W m x
    rw [← ih, Int.mul_assoc, ← w, Int.mul_sub]
    omega
/-- differences of a function -/
def dF (f : Nat → Int) : Nat → Nat → Int
  | 0, i => f i
  | k + 1, i => dF f k (i + 1) - dF f k i
theorem dF_shift (f : Nat → Int) : ∀ k i, dF f (k + 1) i = dF (fun i => f (i + 1) - f i) k i
  | 0, i => rfl
  | k + 1, i => by rw [dF, dF_shift f k (i + 1), dF_shift f k i]; rfl
theorem dF_S : ∀ (m : Nat) (c : Nat → Int) (i : Nat), dF (fun i => S c m i) m i = 0
  | 0, c, i => rfl
  | m + 1, c, i => by
    rw [dF_shift]
    have e : (fun i : Nat => S c (m + 1) ((i + 1 : Nat) : Int) - S c (m + 1) (i : Int)) = fun i : Nat => S (fun i => c (i + 1) * (i + 1)) m i := by
      funext i
      rw [← S_diff]; rfl
    rw [e]
    exact dF_S m _ i
theorem dF_more (f : Nat → Int) (m : Nat) (h : ∀ i, dF f m i = 0) : ∀ k i, dF f (m + k) i = 0
  | 0, i => h i
  | k + 1, i => by rw [← Nat.add_assoc, dF, dF_more f m h k (i + 1), dF_more f m h k i]; rfl
/-- differences of a list, by the prime -/
theorem diffs_cg {p : Int} (l : List Int) : ∀ k i, i + k < l.length → Cg p ((diffs p l k)[i]?.getD 0) (dF (fun i => l[i]?.getD 0) k i)
  | 0, i, _ => .refl _ _
  | k + 1, i, h => by
    have h1 := diffs_cg (p := p) l k (i + 1) (by omega)
    have h2 := diffs_cg (p := p) l k i (by omega)
    have hl := diffs_len_eq p l k
    have e1 : (diffs p l k)[i]? = some ((diffs p l k)[i]?.getD 0) := by rw [List.getElem?_eq_getElem (by omega)]; rfl
    have e2 : (diffs p l k).tail[i]? = some ((diffs p l k)[i + 1]?.getD 0) := by
      rw [List.getElem?_tail, List.getElem?_eq_getElem (by omega)]; rfl
    show Cg p ((dstep p (diffs p l k))[i]?.getD 0) (dF _ k (i + 1) - dF _ k i)
    unfold dstep
    rw [List.getElem?_zipWith, e1, e2]
    exact (Cg.mod p _).trans (h1.sub h2)
theorem dF_sub (f g : Nat → Int) : ∀ k i, dF (fun i => f i - g i) k i = dF f k i - dF g k i
  | 0, i => rfl
  | k + 1, i => by rw [dF, dF_sub f g k (i + 1), dF_sub f g k i, dF, dF]; omega
/-- differences 0, and the first values 0: all 0 -/
theorem all_zero {p : Int} (g : Nat → Int) (m n : Nat) (h1 : ∀ i, i + m < n → Cg p (dF g m i) 0) (h2 : ∀ i, i < m → i < n → Cg p (g i) 0) : ∀ i, i < n → Cg p (g i) 0 := by
  have low : ∀ k i, i + k < m → i + k < n → Cg p (dF g k i) 0 := by
    intro k
    induction k with
    | zero => intro i h h'; exact h2 i h h'
    | succ k ih =>
      intro i h h'
      exact ((ih (i + 1) (by omega) (by omega)).sub (ih i (by omega) (by omega))).trans (.of rfl)
  have all : ∀ j k, k + j = m → ∀ i, i + k < n → Cg p (dF g k i) 0 := by
    intro j
    induction j with
    | zero => intro k e i h; have : k = m := e; subst this; exact h1 i h
    | succ j ih =>
      intro k e i
      induction i with
      | zero => intro h; exact low k 0 (by omega) (by omega)
      | succ i ih2 =>
        intro h
        have a := ih2 (by omega)
        have b := ih (k + 1) (by omega) i (by omega)
        have : dF g k (i + 1) = dF g k i + dF g (k + 1) i := by rw [dF.eq_def g (k + 1)]; show _ = dF g k i + (dF g k (i + 1) - dF g k i); omega
        rw [this]
        exact (a.add b).trans (.of rfl)
  intro i h
  exact all m 0 (by omega) i (by omega)
/-- a sum of m products that fits the first m numbers fits all, if the differences are 0 -/
theorem fits_all {p : Int} (l : List Int) (c : Nat → Int) (m many : Nat) (hm : m = min many l.length) (hd : ∀ i, i + many < l.length → (diffs p l many)[i]?.getD 0 = 0) (hf : ∀ i, i < m → Cg p (S c m i) (l[i]?.getD 0)) : ∀ i, i < l.length → Cg p (S c m i) (l[i]?.getD 0) := by
  intro i hi
  have := all_zero (p := p) (fun i => l[i]?.getD 0 - S c m i) many l.length (fun i h => ?_) (fun i h h' => ?_) i hi
  · obtain ⟨k, e⟩ := this.symm
    exact ⟨k, by omega⟩
  · rw [dF_sub]
    have h1 := diffs_cg (p := p) l many i h
    rw [hd i h] at h1
    have hz : dF (fun i => S c m i) many i = 0 := by
      have e : many = m := by omega
      rw [e]; exact dF_S m c i
    rw [hz]
    exact (h1.symm.sub (.refl p 0)).trans (.of rfl)
  · obtain ⟨k, e⟩ := (hf i (by omega)).symm
    exact ⟨k, by omega⟩
end VL.K76
end

/-! text: K76N -/
section
set_option maxHeartbeats 4000000
namespace VL.K76
open PySem PySem.Spec PyProof.Rows L2 VL
/-! ### the powers through the first values -/
def P5 (P : Nat) : Prop := P ∈ [2, 3, 5, 7, 31]
theorem P5.pr {P : Nat} (h : P5 P) : Pr (P : Int) ∧ P ≤ 31 := by
  have hx : P = 2 ∨ P = 3 ∨ P = 5 ∨ P = 7 ∨ P = 31 := by simpa [P5] using h
  refine ⟨⟨by omega, by omega, fun d h2 hd => ?_⟩, by omega⟩
  have h6 : d < 6 := by
    apply Int.not_le.mp
    intro h6
    have : 6 * d ≤ d * d := Int.mul_le_mul_of_nonneg_right h6 (by omega)
    omega
  have hc : d = 2 ∨ d = 3 ∨ d = 4 ∨ d = 5 := by omega
  rcases hx with rfl | rfl | rfl | rfl | rfl <;> rcases hc with rfl | rfl | rfl | rfl <;> revert hd <;> decide
def und (P x : Nat) : Nat := x ^ (P - 2) % P
theorem und_ok {P i : Nat} (h : P5 P) (hi : i < P) : (W i i * (und P (W i i % P).toNat : Int)) % P = 1 := by
  have h5 : ∀ P ∈ [2, 3, 5, 7, 31], ∀ i, i < P → (W i i * (und P (W i i % (P : Int)).toNat : Int)) % (P : Int) = 1 := by decide +kernel
  exact h5 P h i hi
def timesL (p : Int) (w : List Int) (place : Int) : List Int := List.zipWith (fun one two => (one - place * two) % p) (0 :: w) (w ++ [0])
def stepOf (P : Nat) (f w : List Int) (i : Nat) (v : Int) : Int := (v - evalM P f i) * (und P (evalM P w i).toNat : Int) % P
def thr (P : Nat) (vs : List Int) : Nat → List Int × List Int
  | 0 => ([], [1])
  | i + 1 => (List.zipWith (fun one two => (one + stepOf P (thr P vs i).1 (thr P vs i).2 i (vs[i]?.getD 0) * two) % (P : Int)) ((thr P vs i).1 ++ [0]) (thr P vs i).2, timesL P (thr P vs i).2 i)
theorem zip_rests {p : Int} (hp : Pr p) (f : Int → Int → Int) (xs ys : List Int) : Rests p (List.zipWith (fun a b => f a b % p) xs ys) := by
  intro x hx
  have := hp.two
  obtain ⟨i, hi⟩ := List.mem_iff_getElem?.mp hx
  rw [List.getElem?_zipWith] at hi
  cases h1 : xs[i]? with
  | none => rw [h1] at hi; cases hi
  | some a =>
    cases h2 : ys[i]? with
    | none => rw [h1, h2] at hi; cases hi
    | some b =>
      rw [h1, h2] at hi
      cases hi
      exact ⟨Int.emod_nonneg _ (by omega), Int.emod_lt_of_pos _ (by omega)⟩
section
variable {P : Nat} (h5 : P5 P) (vs : List Int)
include h5
theorem thr_len : ∀ i, (thr P vs i).1.length = i ∧ (thr P vs i).2.length = i + 1
  | 0 => ⟨rfl, rfl⟩
  | i + 1 => by
    obtain ⟨h1, h2⟩ := thr_len i
    constructor
    · show (List.zipWith _ _ _).length = _
      rw [List.length_zipWith, List.length_append, h1, h2, List.length_singleton]; omega
    · show (timesL _ _ _).length = _
      unfold timesL
      rw [List.length_zipWith, List.length_append, List.length_cons, h2, List.length_singleton]; omega
theorem thr_rests : ∀ i, Rests P (thr P vs i).1 ∧ Rests P (thr P vs i).2
  | 0 => ⟨fun x hx => (by cases hx), fun x hx => (by have := h5.pr.1.two; rw [List.mem_singleton.mp hx]; omega)⟩
  | i + 1 => ⟨zip_rests h5.pr.1 _ _ _, zip_rests h5.pr.1 _ _ _⟩
theorem thr_W (x : Int) : ∀ i, Cg P (E (thr P vs i).2 x) (W i x)
  | 0 => by show Cg P (0 * x + 1) 1; exact .of (by simp)
  | i + 1 => by
    have ih := thr_W x i
    show Cg P (E (timesL P (thr P vs i).2 i) x) (W i x * (x - i))
    have hz := E_zip (P : Int) (-(i : Int)) x (0 :: (thr P vs i).2) ((thr P vs i).2 ++ [0]) (by simp)
    have e : timesL P (thr P vs i).2 i = List.zipWith (fun one two => (one + -(i : Int) * two) % (P : Int)) (0 :: (thr P vs i).2) ((thr P vs i).2 ++ [0]) := by
      unfold timesL
      congr 1
      funext a b
      rw [Int.neg_mul]; rfl
    rw [e]
    refine hz.trans ?_
    rw [E_snoc0]
    have e2 : E (0 :: (thr P vs i).2) x = E (thr P vs i).2 x * x := by show E _ x * x + 0 = _; omega
    rw [e2]
    refine ((ih.mul (.refl _ x)).add ((Cg.refl _ (-(i : Int))).mul ih)).trans (.of ?_)
    rw [Int.mul_sub, Int.neg_mul, Int.mul_comm (i : Int)]
    omega
/-- the steps -/
def stp (P : Nat) (vs : List Int) (i : Nat) : Int := stepOf P (thr P vs i).1 (thr P vs i).2 i (vs[i]?.getD 0)
theorem thr_S (x : Int) : ∀ i, Cg P (E (thr P vs i).1 x) (S (stp P vs) i x)
  | 0 => .of rfl
  | i + 1 => by
    have ih := thr_S x i
    obtain ⟨l1, l2⟩ := thr_len h5 vs i
    have hz := E_zip (P : Int) (stp P vs i) x ((thr P vs i).1 ++ [0]) (thr P vs i).2 (by rw [List.length_append, l1, l2]; rfl)
    show Cg P (E (List.zipWith (fun one two => (one + stp P vs i * two) % (P : Int)) ((thr P vs i).1 ++ [0]) (thr P vs i).2) x) (S (stp P vs) i x + stp P vs i * W i x)
    refine hz.trans ?_
    rw [E_snoc0]
    exact ih.add ((Cg.refl _ _).mul (thr_W h5 vs x i))
theorem stp_fit (i : Nat) (hi : i < P) : Cg P (S (stp P vs) (i + 1) i) (vs[i]?.getD 0) := by
  have hp := h5.pr.1
  show Cg P (S (stp P vs) i i + stp P vs i * W i i) _
  have e1 : Cg P (evalM P (thr P vs i).1 i) (S (stp P vs) i i) := by rw [evalM_E _ _ _ hp]; exact (Cg.mod _ _).trans (thr_S h5 vs i i)
  have e2 : evalM P (thr P vs i).2 i = W i i % P := by rw [evalM_E _ _ _ hp]; exact (thr_W h5 vs i i).eq
  have u := und_ok h5 hi
  have e3 : Cg P (stp P vs i * W i i) (vs[i]?.getD 0 - S (stp P vs) i i) := by
    have a : Cg P (stp P vs i) ((vs[i]?.getD 0 - S (stp P vs) i i) * (und P (W i i % P).toNat : Int)) := by
      unfold stp stepOf
      rw [e2]
      exact (Cg.mod _ _).trans (((Cg.refl _ _).sub e1).mul (.refl _ _))
    have b : Cg P (W i i * (und P (W i i % P).toNat : Int)) 1 := Cg.of_eq (by rw [u]; exact (Int.emod_eq_of_lt (by omega) (by have := hp.two; omega)).symm)
    refine (a.mul (.refl _ (W i i))).trans ?_
    rw [Int.mul_assoc, Int.mul_comm _ (W i i)]
    exact ((Cg.refl _ _).mul b).trans (.of (by simp))
  exact ((Cg.refl _ _).add e3).trans (.of (by omega))
theorem S_fit : ∀ m, m ≤ P → ∀ i, i < m → Cg P (S (stp P vs) m i) (vs[i]?.getD 0)
  | 0, _, i, h => by omega
  | m + 1, hm, i, h => by
    by_cases e : i = m
    · subst e; exact stp_fit h5 vs i (by omega)
    · show Cg P (S (stp P vs) m i + stp P vs m * W m i) _
      rw [W_zero m i (by omega), Int.mul_zero, Int.add_zero]
      exact S_fit m (by omega) i (by omega)
/-- where the differences are 0 the powers through the first numbers tell all -/
theorem thr_all (many : Nat) (hm : many ≤ P) (hr : Rests P vs) (hd : ∀ i, i + many < vs.length → (diffs P vs many)[i]?.getD 0 = 0) (i : Nat) (hi : i < vs.length) : evalM P (thr P vs (min many vs.length)).1 i = vs[i]?.getD 0 := by
  have hp := h5.pr.1
  have h := fits_all vs (stp P vs) (min many vs.length) many rfl hd (fun i hi => S_fit h5 vs _ (by omega) i hi) i hi
  refine Cg.eq_of (p := P) ?_ (evalM_rest hp _ _) ?_
  · rw [evalM_E _ _ _ hp]
    exact ((Cg.mod _ _).trans (thr_S h5 vs i _)).trans h
  · rw [List.getElem?_eq_getElem hi]
    exact hr _ (List.getElem_mem hi)
end
end VL.K76
end

/-! text: K76C -/
section
set_option maxHeartbeats 4000000
namespace VL.K76
open PySem PySem.Spec PyProof.Rows L2 VL
local macro_rules | `(tactic| walk_at "v") => `(tactic| simp (config := {maxSteps := 4000000}) (disch := omega) [List.getElem?_cons_zero, ilt_t, ilt_f, ile_t, ile_f, ieq_t, ieq_f, nlt_t, nlt_f, nle_t, nle_f, neq_t, neq_f, mulOk_l, mulOk_r, divOk_of, small_of, rngOk_num, comp_cons, comp_nil, -List.map_reverse, -List.map_tail, -List.map_map, rev_ints, tail_ints, -bi_reprL, -bi_reprT])
def strip : List Int → List Int
  | [] => []
  | x :: xs => if strip xs = [] ∧ x = 0 then [] else x :: strip xs
theorem strip_take : ∀ (xs : List Int) (k : Nat), k ≤ xs.length → (∀ j, k ≤ j → xs[j]?.getD 0 = 0) → (k = 0 ∨ xs[k - 1]?.getD 0 ≠ 0) → xs.take k = strip xs
  | [], k, h, _, _ => by simp [strip]
  | x :: xs, 0, _, hz, _ => by
    have := strip_take xs 0 (by omega) (fun j hj => by have := hz (j + 1) (by omega); simpa using this) (.inl rfl)
    rw [List.take_zero] at this
    have h0 := hz 0 (by omega)
    simp at h0
    rw [strip, if_pos ⟨this.symm, h0⟩, List.take_zero]
  | x :: xs, k + 1, h, hz, hn => by
    have hn : (x :: xs)[k]?.getD 0 ≠ 0 := by
      rcases hn with hn | hn
      · omega
      · exact hn
    have ih := strip_take xs k (by simpa using h) (fun j hj => by have := hz (j + 1) (by omega); simpa using this) (by
      cases k with
      | zero => exact .inl rfl
      | succ k => right; simpa using hn)
    rw [strip, if_neg ?_, List.take_succ_cons, ih]
    rintro ⟨e1, e2⟩
    rw [e1] at ih
    cases k with
    | zero => simp at hn; exact hn e2
    | succ k =>
      have : (xs.take (k + 1)).length = 0 := by rw [ih]; rfl
      rw [List.length_take] at this
      have h : k + 2 ≤ xs.length + 1 := h
      omega
theorem strip_len : ∀ xs, (strip xs).length ≤ xs.length
  | [] => Nat.le_refl _
  | x :: xs => by
    have := strip_len xs
    rw [strip]
    split
    · simp
    · simp; omega
theorem strip_E (x : Int) : ∀ xs, E (strip xs) x = E xs x
  | [] => rfl
  | a :: xs => by
    have ih := strip_E x xs
    have e : E (a :: xs) x = E xs x * x + a := rfl
    rw [strip]
    split
    · rename_i h
      rw [h.1] at ih
      rw [e, ← ih, h.2]
      simp [E]
    · show E (strip xs) x * x + a = _
      rw [ih, e]
theorem strip_mem {x : Int} : ∀ {xs : List Int}, x ∈ strip xs → x ∈ xs
  | [], h => h
  | a :: xs, h => by
    rw [strip] at h
    split at h
    · cases h
    · rcases List.mem_cons.mp h with h | h
      · rw [h]; exact List.mem_cons_self
      · exact List.mem_cons_of_mem _ (strip_mem h)
theorem strip_last : ∀ (xs : List Int) (k : Nat), (strip xs).length = k + 1 → (strip xs)[k]?.getD 0 ≠ 0
  | [], k, h => by cases h
  | a :: xs, k, h => by
    rw [strip] at h ⊢
    split at h
    · cases h
    · rename_i hc
      rw [if_neg hc]
      cases k with
      | zero =>
        have e : strip xs = [] := List.eq_nil_of_length_eq_zero (by simpa using h)
        simp
        exact fun z => hc ⟨e, z⟩
      | succ k =>
        have := strip_last xs k (by simpa using h)
        simpa using this
section
variable {n : Nat} {st : Option Strm} {p : Int} {b : Bool} {ns : List Int}
theorem noughts_run {xs : List Int} (hl : xs.length ≤ 1000) : callN tab WW (n + 1) 11 [.lst .fz (xs.map D.int)] st = .ok (.lst .own ((strip xs).map D.int), st) := by
  apply Run.eq; refine run_callN (d := ⟨2, 1, b_without_noughts⟩) rfl rfl ?_; unfold b_without_noughts
  have hW := WW_big
  have h3 : xs.length < WW := by omega
  walk_at "v"
  refine while_by (fun s => ∃ k : Nat, s = ⟨[some (.lst .fz (xs.map D.int)), some (.int k)], st⟩ ∧ k ≤ xs.length ∧ (∀ j, k ≤ j → xs[j]?.getD 0 = 0)) (slotN 1) ?_ WW _ ⟨xs.length, rfl, Nat.le_refl _, fun j hj => by rw [List.getElem?_eq_none hj]; rfl⟩ (by simpa using h3)
  rintro s ⟨k, rfl, hk, hz⟩
  cases k with
  | zero =>
    have e := strip_take xs 0 hk hz (.inl rfl)
    rw [List.take_zero] at e
    have e2 : cutD (xs.map D.int) none (some 0) = (strip xs).map D.int := by
      have := cut_to (xs := xs.map D.int) (k := 0)
      rw [← e]
      exact this
    walk_at "v"
    rw [e2, outL_ints]
  | succ k =>
    have e : atI (xs.map D.int) (k : Int) = some (.int (xs[k]?.getD 0)) := atI_at (by rw [List.getElem?_map, List.getElem?_eq_getElem (by omega)]; rfl)
    have e1 : ((k + 1 : Nat) : Int) - 1 = k := by omega
    have e4 : cutD (xs.map D.int) none (some ((k : Int) + 1)) = (xs.take (k + 1)).map D.int := by
      have := cut_to (xs := xs.map D.int) (k := k + 1)
      rw [show ((k : Int) + 1) = ((k + 1 : Nat) : Int) by omega, this, List.map_take]
    walk_at "v"
    simp only [e]
    walk_at "v"
    split
    · rename_i h0
      refine ⟨k, by simp, by omega, fun j hj => ?_⟩
      by_cases ej : j = k
      · subst ej; rw [List.getElem?_eq_getElem (by omega)]; exact h0
      · exact hz j (by omega)
    · rename_i h0
      have := strip_take xs (k + 1) hk hz (.inr (by rw [List.getElem?_eq_getElem (by omega)]; exact h0))
      rw [e4, outL_ints, this]
theorem times_run {w : List Int} (hl : w.length ≤ 1000) (hp : Pr p) {i : Nat} (hi : i ≤ 1000) : callN tab WW (n + 1) 12 [.int p, .lst .fz (w.map D.int), .int i] st = .ok (.lst .own ((timesL p w i).map D.int), st) := by
  apply Run.eq; refine run_callN (d := ⟨6, 3, b_times_place⟩) rfl rfl ?_; unfold b_times_place
  have h1 := hp.two
  walk_at "v"
  have e0 : D.int 0 :: w.map D.int = ((0 : Int) :: w).map D.int := rfl
  have hz : (List.range (min ((0 : Int) :: w).length (w ++ [0]).length)).map (fun k => D.int (((((0 : Int) :: w)[k]?.getD 0) - i * ((w ++ [0])[k]?.getD 0)) % p)) = (timesL p w i).map D.int := zipW_get (f := fun one two => (one - i * two) % p)
  have htl : (timesL p w i).length = w.length + 1 := by unfold timesL; simp
  simp only [e0, snoc_int, mas_zip, anys_zip, Bool.false_eq_true, if_false]
  refine comp_all _ (fun k => .int ((((((0 : Int) :: w)[k]?.getD 0) - i * ((w ++ [0])[k]?.getD 0)) % p))) (fun s => ∃ o4 o5, s = ⟨[some (.int p), some (.lst .fz (w.map D.int)), some (.int i), some (.lst .own (((0 : Int) :: w).map D.int)), o4, o5], st⟩) ⟨_, _, rfl⟩ ?_ ?_
  · rintro k d s hk ⟨o4, o5, rfl⟩
    obtain ⟨x, y, h1, h2, rfl⟩ := zip_get hk
    rw [h1, h2]
    walk_at "v"
  · rintro s ⟨o4, o5, rfl⟩
    rw [zip_len, hz]
    walk_at "v"
theorem check_many_run {i : Nat} (hi : (i : Int) ≤ p) : callN tab WW (n + 4) 14 [.int p, .int i] st = .ok (.non, st) := by
  apply Run.eq; refine run_callN (d := ⟨2, 2, b_check_many⟩) rfl rfl ?_; unfold b_check_many
  have hn := fun n st => number_run (tab := tab) (W := WW) (n := n) (st := st) (k := 2) (kw := 1) rfl rfl (show (0 : Int) ≤ i by omega)
  walk_at "v"
  simp only [hn, run_ok]
  walk_at "v"
end
end VL.K76
end

/-! text: K76D0 -/
section
set_option maxHeartbeats 4000000
namespace VL.K76
open PySem PySem.Spec PyProof.Rows L2 VL
local macro_rules | `(tactic| walk_at "v") => `(tactic| simp (config := {maxSteps := 4000000}) (disch := omega) [List.getElem?_cons_zero, ilt_t, ilt_f, ile_t, ile_f, ieq_t, ieq_f, nlt_t, nlt_f, nle_t, nle_f, neq_t, neq_f, mulOk_l, mulOk_r, divOk_of, small_of, rngOk_num, comp_cons, comp_nil, -List.map_reverse, -List.map_tail, -List.map_map, rev_ints, tail_ints, -bi_reprL, -bi_reprT])
section
variable {n : Nat} {st : Option Strm} {p : Int} {b : Bool} {ns : List Int}
theorem through_run {P : Nat} (h5 : P5 P) {xs : List Int} (hr : Rests P xs) (hl : xs.length ≤ P) : callN tab WW (n + 2) 13 [.int P, .lst .fz (enumD 0 (xs.map D.int))] st = .ok (.lst .own ((strip (thr P xs xs.length).1).map D.int), st) := by
  apply Run.eq; refine run_callN (d := ⟨10, 2, b_through_of⟩) rfl rfl ?_; unfold b_through_of
  have hp := h5.pr.1
  have hP := h5.pr.2
  have h1 := hp.two
  walk_at "v"
  refine for_by _ (fun i s => ∃ o4 o5 o6 o7, s = ⟨[some (.int P), some (.lst .fz (enumD 0 (xs.map D.int))), some (.lst .own ((thr P xs i).1.map D.int)), some (.lst .own ((thr P xs i).2.map D.int)), o4, o5, o6, o7, none, none], st⟩) ⟨_, _, _, _, rfl⟩ ?_ ?_
  · rintro i d s hi ⟨o4, o5, o6, o7, rfl⟩
    obtain ⟨x, hx, rfl⟩ := enum_get hi
    have hix : i < xs.length := (List.getElem?_eq_some_iff.mp hx).1
    obtain ⟨l1, l2⟩ := thr_len h5 xs i
    obtain ⟨r1, r2⟩ := thr_rests h5 xs i
    have hxr := hr x (List.mem_of_getElem? hx)
    obtain ⟨l1', l2'⟩ := thr_len h5 xs (i + 1)
    have e1 : (thr P xs (i + 1)).1 = List.zipWith (fun one two => (one + stepOf P (thr P xs i).1 (thr P xs i).2 i x * two) % (P : Int)) ((thr P xs i).1 ++ [0]) (thr P xs i).2 := by rw [thr, hx]; rfl
    have e2 : (thr P xs (i + 1)).2 = timesL P (thr P xs i).2 i := rfl
    generalize (thr P xs i).1 = f at *
    generalize (thr P xs i).2 = w at *
    have v1 := evalM_rest hp w i
    have v2 := evalM_rest hp f i
    obtain ⟨u, hu⟩ := Int.eq_ofNat_of_zero_le v1.1
    have hst : stepOf P f w i x = (x - evalM P f i) * ((u ^ (P - 2) % P : Nat) : Int) % P := by unfold stepOf und; rw [hu]; rfl
    have hund : u ^ (P - 2) % P < P := Nat.mod_lt _ (by omega)
    have hur := undone_run (n := n) (st := st) hp (show u < P by omega)
    generalize u ^ (P - 2) % P = y at *
    have hs0 : 0 ≤ stepOf P f w i x := by rw [hst]; exact Int.emod_nonneg _ (by omega)
    have hs1 : stepOf P f w i x < P := by rw [hst]; exact Int.emod_lt_of_pos _ (by omega)
    have hvw := value_of_run (n := n) (st := st) (b := true) hp r2 (show 0 ≤ (i : Int) ∧ (i : Int) ≤ 1000000 by omega)
    have hvf := value_of_run (n := n) (st := st) (b := true) hp r1 (show 0 ≤ (i : Int) ∧ (i : Int) ≤ 1000000 by omega)
    rw [hu] at hvw
    generalize evalM P f i = vf at *
    walk_at "v"
    simp only [sq_lst, hvw, run_ok]
    walk_at "v"
    simp only [hur, run_ok]
    walk_at "v"
    simp only [sq_lst, hvf, run_ok]
    walk_at "v"
    rw [← hst]
    rw [e1, e2]
    generalize stepOf P f w i x = z at *
    have hz : (List.range (min (f ++ [0]).length w.length)).map (fun k => D.int (((f ++ [0])[k]?.getD 0 + z * (w[k]?.getD 0)) % P)) = (List.zipWith (fun one two => (one + z * two) % (P : Int)) (f ++ [0]) w).map D.int := zipW_get (f := fun one two => (one + z * two) % (P : Int))
    have hzl : (List.zipWith (fun one two => (one + z * two) % (P : Int)) (f ++ [0]) w).length = i + 1 := by rw [List.length_zipWith, List.length_append, l1, l2]; simp
    have htr := times_run (n := n) (st := st) (w := w) (by omega) hp (show i ≤ 1000 by omega)
    have htl : (timesL P w i).length = i + 2 := by unfold timesL; simp [l2]
    simp only [snoc_int, mas_zip, anys_zip, Bool.false_eq_true, if_false]
    refine comp_all _ (fun k => .int (((f ++ [0])[k]?.getD 0 + z * (w[k]?.getD 0)) % P)) (fun s => ∃ o8 o9, s = ⟨[some (.int P), some (.lst .fz (enumD 0 (xs.map D.int))), some (.lst .own (f.map D.int)), some (.lst .own (w.map D.int)), some (.int i), some (.int x), some (.int y), some (.int z), o8, o9], st⟩) ⟨_, _, rfl⟩ ?_ ?_
    · rintro k d s hk ⟨o8, o9, rfl⟩
      obtain ⟨x1, y1, g1, g2, rfl⟩ := zip_get hk
      rw [g1, g2]
      walk_at "v"
    · rintro s ⟨o8, o9, rfl⟩
      rw [zip_len, hz]
      generalize List.zipWith (fun one two => (one + z * two) % (P : Int)) (f ++ [0]) w = f' at *
      walk_at "v"
      simp only [htr, run_ok]
      walk_at "v"
  · rintro s ⟨o4, o5, o6, o7, rfl⟩
    rw [enum_len]
    obtain ⟨l1, l2⟩ := thr_len h5 xs xs.length
    generalize (thr P xs xs.length).1 = f at *
    walk_at "v"
    simp only [noughts_run (xs := f) (by omega), run_ok]
    walk_at "v"
end
end VL.K76
end

/-! text: K76P -/
section
set_option maxHeartbeats 4000000
namespace VL.K76
open PySem PySem.Spec PyProof.Rows L2 VL
local macro_rules | `(tactic| walk_at "v") => `(tactic| simp (config := {maxSteps := 4000000}) (disch := omega) [List.getElem?_cons_zero, ilt_t, ilt_f, ile_t, ile_f, ieq_t, ieq_f, nlt_t, nlt_f, nle_t, nle_f, neq_t, neq_f, mulOk_l, mulOk_r, divOk_of, small_of, rngOk_num, comp_cons, comp_nil, -List.map_reverse, -List.map_tail, -List.map_map, rev_ints, tail_ints, -bi_reprL, -bi_reprT])
theorem thr_take (P : Nat) (ns : List Int) (m : Nat) : ∀ i, i ≤ m → thr P (ns.take m) i = thr P ns i
  | 0, _ => rfl
  | i + 1, h => by
    have e : (ns.take m)[i]? = ns[i]? := by rw [List.getElem?_take]; rw [if_pos (by omega)]
    rw [thr, thr, thr_take P ns m i (by omega), e]
/-- where the first difference other than 0 is -/
def firstNZ : List Int → Option Nat
  | [] => none
  | x :: xs => if x ≠ 0 then some 0 else (firstNZ xs).map (· + 1)
theorem firstNZ_none : ∀ {l : List Int}, (∀ x ∈ l, x = 0) → firstNZ l = none
  | [], _ => rfl
  | x :: xs, h => by
    rw [firstNZ, if_neg (by simp [h x List.mem_cons_self]), firstNZ_none fun y hy => h y (List.mem_cons_of_mem _ hy)]; rfl
theorem firstNZ_at : ∀ {l : List Int} {i : Nat} {x : Int}, (∀ j, j < i → l[j]?.getD 0 = 0) → l[i]? = some x → x ≠ 0 → firstNZ l = some i
  | [], i, x, _, h, _ => by cases h
  | y :: l, 0, x, _, h, hx => by
    cases h
    rw [firstNZ, if_pos hx]
  | y :: l, i + 1, x, hz, h, hx => by
    have h0 := hz 0 (by omega)
    simp at h0
    rw [firstNZ, if_neg (by simp [h0]), firstNZ_at (l := l) (i := i) (fun j hj => by have := hz (j + 1) (by omega); simpa using this) h hx]; rfl
def diffsM (P : Nat) (ns : List Int) (m : Nat) : List Int := diffs P ns (min m ns.length)
def powsL (P : Nat) (ns : List Int) (m : Nat) : List Int := strip (thr P ns (min m ns.length)).1
/-- what is told -/
def toldD (P : Nat) (ns : List Int) (m : Nat) : D := match firstNZ (diffsM P ns m) with
  | some i => .tup [.str "step", .int i]
  | none => .tup [.str "powers", .lst .own ((powsL P ns m).map D.int)]
section
variable {n : Nat} {st : Option Strm} {p : Int} {b : Bool} {ns : List Int}
theorem pstep_run {P : Nat} (h5 : P5 P) (hr : Rests P ns) (hl : ns.length ≤ 1000) {m : Nat} (hm : m ≤ P) : callN tab WW (n + 5) 15 [.int P, sqD b ns, .int m] st = .ok (toldD P ns m, st) := by
  apply Run.eq; refine run_callN (d := ⟨6, 3, b_powers_or_step⟩) rfl rfl ?_; unfold b_powers_or_step
  have hp := h5.pr.1
  have hP := h5.pr.2
  have h1 := hp.two
  walk_at "v"
  simp only [chknums hp hr, run_ok]
  walk_at "v"
  simp only [check_many_run (p := (P : Int)) (show (m : Int) ≤ P by omega), run_ok]
  walk_at "v"
  have hd := fun n st => diffs_of_run (n := n) (st := st) (b := b) (ns := ns) hp (by omega) (show 0 ≤ (m : Int) ∧ (m : Int) < 1000000 by omega)
  have em : (m : Int).toNat = m := by omega
  have hdl := diffs_len P ns (min m ns.length)
  have ht : toldD P ns m = match firstNZ (diffsM P ns m) with
    | some i => .tup [.str "step", .int i]
    | none => .tup [.str "powers", .lst .own ((powsL P ns m).map D.int)] := rfl
  unfold diffsM at ht
  rw [em] at hd
  generalize diffs P ns (min m ns.length) = df at *
  simp only [hd, run_ok]
  walk_at "v"
  refine for_by _ (fun i s => ∃ o3 q4, (∀ j, j < i → df[j]?.getD 0 = 0) ∧ s = ⟨[some (.int P), some (sqD b ns), some (.int m), o3, Option.map D.int q4, none], st⟩) ⟨_, none, fun j hj => by omega, rfl⟩ ?_ ?_
  · rintro i d s hi ⟨o3, q4, hz, rfl⟩
    obtain ⟨x, hx, rfl⟩ := enum_get hi
    walk_at "v"
    split
    · rename_i h0
      refine ⟨fun j hj => ?_, some x, rfl⟩
      by_cases e : j = i
      · subst e; rw [hx, h0]; rfl
      · exact hz j (by omega)
    · rename_i h0
      rw [ht, firstNZ_at hz hx h0]
  · rintro s ⟨o3, q4, hz, rfl⟩
    rw [enum_len] at hz
    have hnz : firstNZ df = none := firstNZ_none fun x hx => by
      obtain ⟨j, hj⟩ := List.mem_iff_getElem?.mp hx
      have := hz j (List.getElem?_eq_some_iff.mp hj).1
      rw [hj] at this
      exact this
    rw [hnz] at ht
    have hcut : cutD (ns.map D.int) none (some (m : Int)) = (ns.take m).map D.int := by rw [cut_to, List.map_take]
    have hsl : ∃ d, slD (sqD b ns) none (some (m : Int)) = .ok d ∧ seqD d = .ok ((ns.take m).map D.int) := by
      cases b
      · exact ⟨_, rfl, by rw [← hcut]; rfl⟩
      · exact ⟨_, rfl, by rw [← hcut]; rfl⟩
    obtain ⟨dsl, hs1, hs2⟩ := hsl
    have htl : (ns.take m).length = min m ns.length := List.length_take
    have htr := through_run (n := n + 2) (st := st) h5 (xs := ns.take m) (fun x hx => hr x (List.mem_of_mem_take hx)) (by omega)
    rw [thr_take P ns m _ (by omega), htl] at htr
    have hpw : powsL P ns m = strip (thr P ns (min m ns.length)).1 := rfl
    rw [← hpw] at htr
    walk_at "v"
    simp only [hs1, hs2, run_ok]
    walk_at "v"
    refine ⟨by cases q4 <;> rfl, ?_⟩
    rw [← List.map_take]
    generalize ns.take m = xs at *
    simp only [mas_enum, anys_enum, Bool.false_eq_true, if_false]
    refine comp_by _ (fun i ys s => ys = (enumD 0 (xs.map D.int)).take i ∧ ∃ o4 o5, s = ⟨[some (.int P), some (sqD b ns), some (.int m), o3, o4, o5], st⟩) ⟨rfl, _, _, rfl⟩ ?_ ?_
    · rintro i d ys s hi ⟨rfl, o4, o5, rfl⟩
      have et := take_snoc hi
      obtain ⟨x, hx, rfl⟩ := enum_get hi
      rw [et]
      walk_at "v"
    · rintro ys s ⟨rfl, o4, o5, rfl⟩
      rw [List.take_length]
      have hel : (enumD 0 (xs.map D.int)).length = xs.length := enum_len 0 xs
      walk_at "v"
      simp only [htr, run_ok]
      walk_at "v"
      rw [ht]
      show D.tup [.str _, (D.lst .own ((powsL P ns m).map D.int)).ma Tag.un] = _
      rw [ma_lst, mas_ints]
      rfl
end
end VL.K76
end

/-! text: K76Q -/
section
set_option maxHeartbeats 4000000
namespace VL.K76
open PySem PySem.Spec PyProof.Rows L2 VL
local macro_rules | `(tactic| walk_at "v") => `(tactic| simp (config := {maxSteps := 4000000}) (disch := omega) [List.getElem?_cons_zero, ilt_t, ilt_f, ile_t, ile_f, ieq_t, ieq_f, nlt_t, nlt_f, nle_t, nle_f, neq_t, neq_f, mulOk_l, mulOk_r, divOk_of, small_of, rngOk_num, comp_cons, comp_nil, -List.map_reverse, -List.map_tail, -List.map_map, rev_ints, tail_ints, -bi_reprL, -bi_reprT])
/-- a list or a tuple of nobody's -/
def sqG (b : Bool) (xs : List D) : D := if b then .lst .fz xs else .tup xs
/-- a rest by the prime -/
def isRest (P : Nat) : D → Bool
  | .int i => decide (0 ≤ i) && decide (i < P)
  | _ => false
section
variable {n : Nat} {st : Option Strm} {p : Int} {b : Bool} {ns : List Int}
theorem whole_flat {d : D} (h : flatD d = true) : callN tab WW (n + 1) 1 [d] st = .ok (.bl (isIntD d), st) := by
  apply Run.eq; refine run_callN (d := ⟨1, 1, b_is_whole⟩) rfl rfl ?_; unfold b_is_whole
  cases d <;> first | (cases h; done) | skip
  all_goals walk_at "v"
  all_goals rfl
theorem number_flat {d : D} (h : flatD d = true) : callN tab WW (n + 2) 2 [d] st = .ok (.bl (match d with | .int i => decide (0 ≤ i) | _ => false), st) := by
  apply Run.eq; refine run_callN (d := ⟨1, 1, b_is_number⟩) rfl rfl ?_; unfold b_is_number
  have hw := fun n st => whole_flat (n := n) (st := st) h
  cases d <;> first | (cases h; done) | skip
  all_goals walk_at "v"
  all_goals simp only [hw, run_ok]
  all_goals walk_at "v"
  all_goals simp [isIntD]
theorem flats_mas {f : Tag → Tag} : ∀ {ys : List D}, ys.all flatD = true → D.mas f ys = ys
  | [], _ => rfl
  | y :: ys, h => by
    rw [List.all_cons, Bool.and_eq_true] at h
    rw [mas_cons, flats_mas h.2]
    cases y <;> first | (cases h.1; done) | rfl
theorem flats_any {q : Tag → Bool} : ∀ {ys : List D}, ys.all flatD = true → D.anys q ys = false
  | [], _ => rfl
  | y :: ys, h => by
    rw [List.all_cons, Bool.and_eq_true] at h
    rw [anys_cons, flats_any h.2]
    cases y <;> first | (cases h.1; done) | rfl
theorem flats_enum {f : Tag → Tag} : ∀ {ys : List D} {k : Int}, ys.all flatD = true → D.mas f (enumD k ys) = enumD k ys
  | [], _, _ => rfl
  | y :: ys, k, h => by
    rw [List.all_cons, Bool.and_eq_true] at h
    rw [enumD, mas_cons, flats_enum h.2]
    cases y <;> first | (cases h.1; done) | rfl
theorem flats_enumA {q : Tag → Bool} : ∀ {ys : List D} {k : Int}, ys.all flatD = true → D.anys q (enumD k ys) = false
  | [], _, _ => rfl
  | y :: ys, k, h => by
    rw [List.all_cons, Bool.and_eq_true] at h
    rw [enumD, anys_cons, flats_enumA h.2]
    cases y <;> first | (cases h.1; done) | rfl
theorem enum_getD : ∀ {ys : List D} {k : Int} {i : Nat} {d : D}, (enumD k ys)[i]? = some d → ∃ y, ys[i]? = some y ∧ d = .tup [.int (k + i), y]
  | [], _, _, _, h => by cases h
  | y :: ys, k, 0, d, h => by cases h; exact ⟨y, rfl, by simp⟩
  | y :: ys, k, i + 1, d, h => by
    obtain ⟨z, h1, h2⟩ := enum_getD (ys := ys) (k := k + 1) (i := i) h
    exact ⟨z, h1, by rw [h2]; congr 2; congr 1; omega⟩
/-- the first thing that is no rest -/
def badAt (P : Nat) : List D → Option Nat
  | [] => none
  | y :: ys => if isRest P y then (badAt P ys).map (· + 1) else some 0
theorem badAt_none {P : Nat} : ∀ {l : List D}, (∀ (i : Nat) (y : D), l[i]? = some y → isRest P y = true) → badAt P l = none
  | [], _ => rfl
  | x :: xs, h => by
    rw [badAt, if_pos (h 0 x rfl), badAt_none fun i y hy => h (i + 1) y hy]; rfl
theorem badAt_at {P : Nat} : ∀ {l : List D} {i : Nat} {x : D}, (∀ (j : Nat) (y : D), j < i → l[j]? = some y → isRest P y = true) → l[i]? = some x → isRest P x = false → badAt P l = some i
  | [], i, x, _, h, _ => by cases h
  | y :: l, 0, x, _, h, hx => by
    cases h
    rw [badAt, if_neg (by rw [hx]; decide)]
  | y :: l, i + 1, x, hz, h, hx => by
    rw [badAt, if_pos (hz 0 y (by omega) rfl), badAt_at (l := l) (i := i) (fun j z hj hz' => hz (j + 1) z (by omega) hz') h hx]; rfl
def badD (P : Nat) (ys : List D) : D := match badAt P ys with | some k => .int k | none => .non
theorem bad_flat {P : Nat} {ys : List D} (h : ys.all flatD = true) (hl : ys.length ≤ 1000) : callN tab WW (n + 3) 6 [.int P, sqG b ys] st = .ok (badD P ys, st) := by
  have hf := fun (f : Tag → Tag) => flats_mas (f := f) h
  have hg := fun (f : Tag → Bool) => flats_any (q := f) h
  have he := fun (f : Tag → Tag) (k : Int) => flats_enum (f := f) (k := k) h
  have hea := fun (f : Tag → Bool) (k : Int) => flats_enumA (q := f) (k := k) h
  apply Run.eq; refine run_callN (d := ⟨4, 2, b_first_bad_rest⟩) rfl rfl ?_; unfold b_first_bad_rest
  have isl : ∀ n st b, callN tab WW (n + 1) 0 [sqG b ys] st = .ok (.bl true, st) := fun n st b => by
    apply Run.eq; refine run_callN (d := ⟨1, 1, b_is_list⟩) rfl rfl ?_; unfold b_is_list
    cases b <;> simp only [sqG] <;> walk_at "v"
  have main : ∀ (d0 : D) (Q : Fl → Prop), (∀ o2 o3, badAt P ys = none → Q (.nx ⟨[some (.int P), some d0, o2, o3], st⟩)) → (∀ k : Nat, badAt P ys = some k → Q (.rt (.int k) st)) → Run (forGo (fun d s => asgG (.cons (.nm 2) (.cons (.nm 3) .nil)) d s.ρ >>= fun ρ => Res.ok (⟨ρ, s.st⟩ : VS)) (exec (callN tab WW (n + 2)) WW ((VB.if_ (.or_ (.not_ (.call 2 (.cons (.name 3) .nil))) (.cmp .ge (.name 3) (.name 0))) (.seq (.ret (.name 2)) .pass) .pass).seq .pass)) (enumD 0 ys) ⟨[some (.int P), some d0, none, none], st⟩) Q := by
    intro d0 Q q1 q2
    refine for_by _ (fun i s => (∀ (j : Nat) (y : D), j < i → ys[j]? = some y → isRest P y = true) ∧ ∃ o2 o3, s = ⟨[some (.int P), some d0, o2, o3], st⟩) ⟨fun j y hj => by omega, _, _, rfl⟩ ?_ ?_
    · rintro i d s hi ⟨hz, o2, o3, rfl⟩
      obtain ⟨y, hy, rfl⟩ := enum_getD hi
      have hfy : flatD y = true := List.all_eq_true.mp h y (List.mem_of_getElem? hy)
      have snoc : isRest P y = true → ∀ (j : Nat) (z : D), j < i + 1 → ys[j]? = some z → isRest P z = true := fun h1 j z hj hz' => by
        by_cases e : j = i
        · subst e; rw [hy] at hz'; cases hz'; exact h1
        · exact hz j z (by omega) hz'
      have bad1 : isRest P y = false → badAt P ys = some i := fun h1 => badAt_at hz hy h1
      have hn := fun n st => number_flat (n := n) (st := st) hfy
      cases y with
      | non =>
        simp only at hn
        walk_at "v"
        simp only [hn, run_ok]
        walk_at "v"
        exact q2 i (bad1 rfl)
      | bl b1 =>
        simp only at hn
        walk_at "v"
        simp only [hn, run_ok]
        walk_at "v"
        exact q2 i (bad1 rfl)
      | str x =>
        simp only at hn
        walk_at "v"
        simp only [hn, run_ok]
        walk_at "v"
        exact q2 i (bad1 rfl)
      | int x =>
        simp only at hn
        walk_at "v"
        simp only [hn, run_ok]
        walk_at "v"
        split
        · exact q2 i (bad1 (by simp only [isRest, Bool.and_eq_false_iff, decide_eq_false_iff_not]; omega))
        · split
          · exact q2 i (bad1 (by simp only [isRest, Bool.and_eq_false_iff, decide_eq_false_iff_not]; omega))
          · exact snoc (by simp only [isRest, Bool.and_eq_true, decide_eq_true_eq]; omega)
      | strm => cases hfy
      | lst _ _ => cases hfy
      | tup _ => cases hfy
      | dk _ _ _ => cases hfy
    · rintro s ⟨hz, o2, o3, rfl⟩
      refine q1 _ _ (badAt_none fun i y hy => hz i y ?_ hy)
      have : (enumD 0 ys).length = ys.length := by
        have : ∀ (ys : List D) (k : Int), (enumD k ys).length = ys.length := by
          intro ys
          induction ys with
          | nil => intro k; rfl
          | cons y ys ih => intro k; rw [enumD, List.length_cons, ih, List.length_cons]
        exact this ys 0
      rw [this]
      exact (List.getElem?_eq_some_iff.mp hy).1
  cases b
  · have isl2 : ∀ n st, callN tab WW (n + 1) 0 [.tup ys] st = .ok (.bl true, st) := fun n st => isl n st false
    simp only [sqG]
    walk_at "v"
    simp only [hf, hg, he, hea, isl2, run_ok]
    walk_at "v"
    simp only [hf, hg, he, hea, or_self, Bool.false_eq_true, if_false]
    refine main _ _ (fun o2 o3 e => ?_) fun k e => ?_
    · have eb : badD P ys = .non := by unfold badD; rw [e]
      rw [eb]
      walk_at "v"
    · have eb : badD P ys = .int k := by unfold badD; rw [e]
      rw [eb]
      walk_at "v"
  · have isl2 : ∀ n st, callN tab WW (n + 1) 0 [.lst .fz ys] st = .ok (.bl true, st) := fun n st => isl n st true
    simp only [sqG]
    walk_at "v"
    simp only [hf, hg, he, hea, isl2, run_ok]
    walk_at "v"
    simp only [hf, hg, he, hea, or_self, Bool.false_eq_true, if_false]
    refine main _ _ (fun o2 o3 e => ?_) fun k e => ?_
    · have eb : badD P ys = .non := by unfold badD; rw [e]
      rw [eb]
      walk_at "v"
    · have eb : badD P ys = .int k := by unfold badD; rw [e]
      rw [eb]
      walk_at "v"
end
end VL.K76
end

/-! text: K76S -/
section
set_option maxHeartbeats 4000000
namespace VL.K76
open PySem PySem.Spec PyProof.Rows L2 VL
local macro_rules | `(tactic| walk_at "v") => `(tactic| simp (config := {maxSteps := 4000000}) (disch := omega) [List.getElem?_cons_zero, ilt_t, ilt_f, ile_t, ile_f, ieq_t, ieq_f, nlt_t, nlt_f, nle_t, nle_f, neq_t, neq_f, mulOk_l, mulOk_r, divOk_of, small_of, rngOk_num, comp_cons, comp_nil, -List.map_reverse, -List.map_tail, -List.map_map, rev_ints, tail_ints, -bi_reprL, -bi_reprT])
section
variable {n : Nat} {st : Option Strm} {p : Int} {b : Bool} {ns : List Int}
theorem lwhole_flat {d : D} (h : flatD d = true) : callN tab WW (n + 1) 22 [d] st = .ok (.bl (isIntD d), st) := by
  have e : callN tab WW (n + 1) 1 [d] st = callN tab WW (n + 1) 22 [d] st := rfl
  rw [← e]; exact whole_flat h
theorem wrong_flat {P : Nat} {ys : List D} (h : ys.all flatD = true) (hl : ys.length ≤ 1000) : callN tab WW (n + 2) 23 [.int P, sqG b ys] st = .ok (badD P ys, st) := by
  have hf := fun (f : Tag → Tag) => flats_mas (f := f) h
  have hg := fun (f : Tag → Bool) => flats_any (q := f) h
  have he := fun (f : Tag → Tag) (k : Int) => flats_enum (f := f) (k := k) h
  have hea := fun (f : Tag → Bool) (k : Int) => flats_enumA (q := f) (k := k) h
  apply Run.eq; refine run_callN (d := ⟨5, 2, b__law_wrong_rest⟩) rfl rfl ?_; unfold b__law_wrong_rest
  have main : ∀ (d0 : D) (Q : List D × VS → Prop), (∀ zs : List Int, zs.length ≤ ys.length → ∀ o3 o4, ((zs = [] ∧ badAt P ys = none) ∨ (∃ (k : Nat) (r : List Int), zs = (k : Int) :: r ∧ badAt P ys = some k)) → Q (zs.map D.int, ⟨[some (.int P), some d0, none, o3, o4], st⟩)) → Run (compGo (fun d s => asgG (.cons (.nm 3) (.cons (.nm 4) .nil)) d ((s.ρ.set 4 none).set 3 none) >>= fun ρ => Res.ok (⟨ρ, s.st⟩ : VS)) (orT (notT (tOf (callM (callN tab WW (n + 1)) 22 (consM (nameM 4) fun s => Res.ok ([], s))))) (orT (tOf (cmpM Cm.lt (nameM 4) fun s => Res.ok (D.int 0, s))) (tOf (cmpM Cm.ge (nameM 4) (nameM 0))))) (fun s => nameM 3 s >>= fun y => Res.ok (y.1.ma Tag.un, (⟨if D.any Tag.isB y.1 = true then settleE [y.1] y.2.ρ else y.2.ρ, y.2.st⟩ : VS))) (enumD 0 ys) ⟨[some (.int P), some d0, none, none, none], st⟩) Q := by
    intro d0 Q hQ
    have hel : (enumD 0 ys).length = ys.length := by
      have : ∀ (ys : List D) (k : Int), (enumD k ys).length = ys.length := by
        intro ys
        induction ys with
        | nil => intro k; rfl
        | cons y ys ih => intro k; rw [enumD, List.length_cons, ih, List.length_cons]
      exact this ys 0
    refine comp_by _ (fun i zd s => ∃ zs : List Int, zd = zs.map D.int ∧ zs.length ≤ i ∧ ((zs = [] ∧ ∀ (j : Nat) (y : D), j < i → ys[j]? = some y → isRest P y = true) ∨ (∃ (k : Nat) (r : List Int), zs = (k : Int) :: r ∧ badAt P ys = some k)) ∧ ∃ o3 o4, s = ⟨[some (.int P), some d0, none, o3, o4], st⟩) ⟨[], rfl, by simp, .inl ⟨rfl, fun j y hj => by omega⟩, _, _, rfl⟩ ?_ ?_
    · rintro i d zd s hi ⟨zs, rfl, hzl, hz, o3, o4, rfl⟩
      obtain ⟨y, hy, rfl⟩ := enum_getD hi
      have hfy : flatD y = true := List.all_eq_true.mp h y (List.mem_of_getElem? hy)
      have hn := fun n st => lwhole_flat (n := n) (st := st) hfy
      have bad1 : isRest P y = false → ∃ zs' : List Int, zs.map D.int ++ [D.int i] = zs'.map D.int ∧ zs'.length ≤ i + 1 ∧ ((zs' = [] ∧ ∀ (j : Nat) (y : D), j < i + 1 → ys[j]? = some y → isRest P y = true) ∨ (∃ (k : Nat) (r : List Int), zs' = (k : Int) :: r ∧ badAt P ys = some k)) := fun h1 => by
        refine ⟨zs ++ [(i : Int)], by simp, by simp; omega, .inr ?_⟩
        rcases hz with ⟨rfl, hz⟩ | ⟨k, r, rfl, hk⟩
        · exact ⟨i, [], rfl, badAt_at hz hy h1⟩
        · exact ⟨k, r ++ [(i : Int)], rfl, hk⟩
      have good1 : isRest P y = true → ∃ zs' : List Int, zs.map D.int = zs'.map D.int ∧ zs'.length ≤ i + 1 ∧ ((zs' = [] ∧ ∀ (j : Nat) (y : D), j < i + 1 → ys[j]? = some y → isRest P y = true) ∨ (∃ (k : Nat) (r : List Int), zs' = (k : Int) :: r ∧ badAt P ys = some k)) := fun h1 => by
        refine ⟨zs, rfl, by omega, ?_⟩
        rcases hz with ⟨e0, hz⟩ | hz
        · refine .inl ⟨e0, fun j z hj hz' => ?_⟩
          by_cases e : j = i
          · subst e; rw [hy] at hz'; cases hz'; exact h1
          · exact hz j z (by omega) hz'
        · exact .inr hz
      generalize hZ : zs.map D.int = Z at *
      cases y with
      | non =>
        obtain ⟨zs', a1, a2, a3⟩ := bad1 rfl
        have hn2 : ∀ n st, callN tab WW (n + 1) 22 [.non] st = .ok (.bl false, st) := hn
        walk_at "v"
        simp only [hn2, run_ok]
        walk_at "v"
        exact ⟨zs', a1, a2, a3.imp id fun ⟨k, r, e1, e2⟩ => ⟨k, ⟨r, e1⟩, e2⟩⟩
      | bl b1 =>
        obtain ⟨zs', a1, a2, a3⟩ := bad1 rfl
        have hn2 : ∀ n st, callN tab WW (n + 1) 22 [.bl b1] st = .ok (.bl false, st) := hn
        walk_at "v"
        simp only [hn2, run_ok]
        walk_at "v"
        exact ⟨zs', a1, a2, a3.imp id fun ⟨k, r, e1, e2⟩ => ⟨k, ⟨r, e1⟩, e2⟩⟩
      | str x =>
        obtain ⟨zs', a1, a2, a3⟩ := bad1 rfl
        have hn2 : ∀ n st, callN tab WW (n + 1) 22 [.str x] st = .ok (.bl false, st) := hn
        walk_at "v"
        simp only [hn2, run_ok]
        walk_at "v"
        exact ⟨zs', a1, a2, a3.imp id fun ⟨k, r, e1, e2⟩ => ⟨k, ⟨r, e1⟩, e2⟩⟩
      | int x =>
        have hn2 : ∀ n st, callN tab WW (n + 1) 22 [.int x] st = .ok (.bl true, st) := hn
        walk_at "v"
        simp only [hn2, run_ok]
        walk_at "v"
        split
        · obtain ⟨zs', a1, a2, a3⟩ := bad1 (by simp only [isRest, Bool.and_eq_false_iff, decide_eq_false_iff_not]; omega)
          exact ⟨zs', a1, a2, a3.imp id fun ⟨k, r, e1, e2⟩ => ⟨k, ⟨r, e1⟩, e2⟩⟩
        · split
          · obtain ⟨zs', a1, a2, a3⟩ := bad1 (by simp only [isRest, Bool.and_eq_false_iff, decide_eq_false_iff_not]; omega)
            exact ⟨zs', a1, a2, a3.imp id fun ⟨k, r, e1, e2⟩ => ⟨k, ⟨r, e1⟩, e2⟩⟩
          · obtain ⟨zs', a1, a2, a3⟩ := good1 (by simp only [isRest, Bool.and_eq_true, decide_eq_true_eq]; omega)
            exact ⟨zs', a1, a2, a3.imp id fun ⟨k, r, e1, e2⟩ => ⟨k, ⟨r, e1⟩, e2⟩⟩
      | strm => cases hfy
      | lst _ _ => cases hfy
      | tup _ => cases hfy
      | dk _ _ _ => cases hfy
    · rintro zd s ⟨zs, rfl, hzl, hz, o3, o4, rfl⟩
      rw [hel] at hzl
      refine hQ zs hzl o3 o4 (hz.imp (fun ⟨e, hz⟩ => ⟨e, badAt_none fun i y hy => hz i y ?_ hy⟩) id)
      rw [hel]
      exact (List.getElem?_eq_some_iff.mp hy).1
  have fin : ∀ d0 : D, True := fun _ => trivial
  cases b
  · simp only [sqG]
    walk_at "v"
    simp only [hf, hg, he, hea, Bool.false_eq_true, if_false]
    refine main _ _ fun zs hzl o3 o4 hz => ?_
    rcases hz with ⟨rfl, hb⟩ | ⟨k, r, rfl, hb⟩
    · have eb : badD P ys = .non := by unfold badD; rw [hb]
      rw [eb]
      walk_at "v"
    · have eb : badD P ys = .int k := by unfold badD; rw [hb]
      have hne : cmpD .ne (.lst (.br 2) (D.int k :: r.map D.int)) (.lst .own []) = .ok true := by
        have := ne_ints0 (t := .br 2) (u := .own) (xs := (k : Int) :: r)
        simpa using this
      have hzl : r.length + 1 ≤ ys.length := by simpa using hzl
      rw [eb]
      walk_at "v"
      simp only [hne, run_ok]
      walk_at "v"
  · simp only [sqG]
    walk_at "v"
    simp only [hf, hg, he, hea, Bool.false_eq_true, if_false]
    refine main _ _ fun zs hzl o3 o4 hz => ?_
    rcases hz with ⟨rfl, hb⟩ | ⟨k, r, rfl, hb⟩
    · have eb : badD P ys = .non := by unfold badD; rw [hb]
      rw [eb]
      walk_at "v"
    · have eb : badD P ys = .int k := by unfold badD; rw [hb]
      have hne : cmpD .ne (.lst (.br 2) (D.int k :: r.map D.int)) (.lst .own []) = .ok true := by
        have := ne_ints0 (t := .br 2) (u := .own) (xs := (k : Int) :: r)
        simpa using this
      have hzl : r.length + 1 ≤ ys.length := by simpa using hzl
      rw [eb]
      walk_at "v"
      simp only [hne, run_ok]
      walk_at "v"
end
end VL.K76
end

/-! text: K76F -/
section
set_option maxHeartbeats 4000000
namespace VL.K76
open PySem PySem.Spec PyProof.Rows L2 VL
local macro_rules | `(tactic| walk_at "v") => `(tactic| simp (config := {maxSteps := 4000000}) (disch := omega) [List.getElem?_cons_zero, ilt_t, ilt_f, ile_t, ile_f, ieq_t, ieq_f, nlt_t, nlt_f, nle_t, nle_f, neq_t, neq_f, mulOk_l, mulOk_r, divOk_of, small_of, rngOk_num, comp_cons, comp_nil, -List.map_reverse, -List.map_tail, -List.map_map, rev_ints, tail_ints, -bi_reprL, -bi_reprT])
def seqL : D → Option (List D) | .lst _ xs => some xs | .tup xs => some xs | _ => none
@[simp] theorem seqL_lst {t : Tag} {xs : List D} : seqL (.lst t xs) = some xs := rfl
@[simp] theorem seqL_tup {xs : List D} : seqL (.tup xs) = some xs := rfl
@[simp] theorem seqL_non : seqL .non = none := rfl
@[simp] theorem seqL_bl {b : Bool} : seqL (.bl b) = none := rfl
@[simp] theorem seqL_int {i : Int} : seqL (.int i) = none := rfl
@[simp] theorem seqL_str {s : Str} : seqL (.str s) = none := rfl
@[simp] theorem seqL_dk {t : Tag} {ks : List Key} {vs : List D} : seqL (.dk t ks vs) = none := rfl
/-- the first number that the powers do not tell -/
def firstNe (P : Nat) (cs : List Int) : Nat → List Int → Option Nat
  | _, [] => none
  | i, x :: xs => if evalM P cs i = x then firstNe P cs (i + 1) xs else some i
def faultB (P : Nat) (ns : List Int) (m : Nat) (s : Str) (b : D) : D :=
  if s = "powers" then (match seqL b with
    | some ys => if badAt P ys ≠ none ∨ m < ys.length then .tup [.str "powers"] else (match firstNe P (ys.map intD) 0 ns with
      | some i => .tup [.str "value", .int i]
      | none => .non)
    | none => .tup [.str "powers"])
  else if s = "step" then (match b with
    | .int i => if 0 ≤ i ∧ i < (diffsM P ns m).length then (if (diffsM P ns m)[i.toNat]?.getD 0 = 0 then .tup [.str "nought"] else .non) else .tup [.str "index"]
    | _ => .tup [.str "index"])
  else .tup [.str "form"]
/-- why a thing tells neither powers nor a step -/
def faultP (P : Nat) (ns : List Int) (m : Nat) (d : D) : D := match seqL d with
  | some [.str s, b] => faultB P ns m s b
  | _ => .tup [.str "form"]
section
variable {n : Nat} {st : Option Strm} {p : Int} {b : Bool} {ns : List Int}
theorem islist_gen {d : D} (h : okD d = true ∨ d = .dk .fz [] []) : callN tab WW (n + 1) 0 [d] st = .ok (.bl (seqL d).isSome, st) := by
  apply Run.eq; refine run_callN (d := ⟨1, 1, b_is_list⟩) rfl rfl ?_; unfold b_is_list
  rcases h with h | rfl
  · cases d <;> first | (cases h; done) | (walk_at "v"; rfl) | walk_at "v"
  · walk_at "v"
theorem isrow_gen {d : D} (h : okD d = true ∨ d = .dk .fz [] []) : callN tab WW (n + 2) 3 [d, .int 2] st = .ok (.bl (match seqL d with | some xs => decide (xs.length = 2) | none => false), st) := by
  apply Run.eq; refine run_callN (d := ⟨2, 2, b_is_row⟩) rfl rfl ?_; unfold b_is_row
  have hi := fun n st => islist_gen (n := n) (st := st) h
  have hfz : (d.rd 0).ma (fun _ => .fz) = d := by
    rcases h with h | rfl
    · rw [ok_rd h, ok_ma rfl d h]
    · rfl
  walk_at "v"
  simp only [hfz, hi, run_ok]
  cases d <;> first | (rcases h with h | h <;> cases h; done) | skip
  all_goals walk_at "v"
  all_goals first | omega | (simp [mas_len]; done)
/-- powers_fault of what is no pair whose first thing is a text -/
theorem fault_form {P : Nat} (h5 : P5 P) (hr : Rests P ns) (hl : ns.length ≤ 1000) {m : Nat} (hm : m ≤ P) {d : D} (h : okD d = true ∨ d = .dk .fz [] []) (hs : ∀ s b2, seqL d ≠ some [.str s, b2]) : callN tab WW (n + 5) 16 [.int P, sqD b ns, .int m, d] st = .ok (.tup [.str "form"], st) := by
  apply Run.eq; refine run_callN (d := ⟨7, 4, b_powers_fault⟩) rfl rfl ?_; unfold b_powers_fault
  have hp := h5.pr.1
  have hrow := fun n st => isrow_gen (n := n) (st := st) h
  have hfz : (d.rd 3).ma (fun _ => .fz) = d := by
    rcases h with h | rfl
    · rw [ok_rd h, ok_ma rfl d h]
    · rfl
  walk_at "v"
  simp only [chknums hp hr, run_ok]
  walk_at "v"
  simp only [check_many_run (p := (P : Int)) (show (m : Int) ≤ P by omega), run_ok]
  walk_at "v"
  simp only [hfz, hrow, run_ok]
  have hB : D.any Tag.isB (d.rd 3) = false := by
    rcases h with h | rfl
    · rw [ok_rd h]; exact ok_any (p := Tag.isB) rfl d h
    · rfl
  generalize hq : (match seqL d with | some xs => decide (xs.length = 2) | none => false) = q
  cases q with
  | false =>
    walk_at "v"
  | true =>
    cases hd : seqL d with
    | none => rw [hd] at hq; cases hq
    | some xs =>
      rw [hd] at hq
      have hlen : xs.length = 2 := of_decide_eq_true hq
      match xs, hlen, hd with
      | [a, b2], _, hd =>
        have ha : ∀ s, a ≠ .str s := fun s z => hs s b2 (by rw [hd, z])
        have hoa : okD a = true := by
          rcases h with h | rfl
          · cases d <;> first | (cases hd; done) | skip
            all_goals cases hd
            all_goals simp only [okD, okDs, Bool.and_eq_true] at h
            · exact h.1.2.1
            · exact h.1.1
          · cases hd
        have e1 : ixD (d.rd 3) (.int 0) = .ok a := by
          have hk : D.ma (Tag.rc 3) a = a := ok_ma rfl a hoa
          cases d <;> first | (cases hd; done) | skip
          all_goals cases hd
          all_goals show (match atI (D.mas (Tag.rc 3) [a, b2]) 0 with | some x => Res.ok x | none => Res.stuck) = _
          all_goals rw [mas_cons, hk]
          all_goals rfl
        have e2 : tyD a .str = .ok false := by
          cases a <;> first | (cases hoa; done) | rfl | exact absurd rfl (ha _)
        walk_at "v"
        simp only [e1, e2, run_ok]
        walk_at "v"
end
end VL.K76
end

/-! text: K76G -/
section
set_option maxHeartbeats 4000000
namespace VL.K76
open PySem PySem.Spec PyProof.Rows L2 VL
local macro_rules | `(tactic| walk_at "v") => `(tactic| simp (config := {maxSteps := 4000000}) (disch := omega) [List.getElem?_cons_zero, ilt_t, ilt_f, ile_t, ile_f, ieq_t, ieq_f, nlt_t, nlt_f, nle_t, nle_f, neq_t, neq_f, mulOk_l, mulOk_r, divOk_of, small_of, rngOk_num, comp_cons, comp_nil, -List.map_reverse, -List.map_tail, -List.map_map, rev_ints, tail_ints, -bi_reprL, -bi_reprT])
section
variable {n : Nat} {st : Option Strm} {p : Int} {b : Bool} {ns : List Int}
@[simp] theorem seqL_sqG {c : Bool} {xs : List D} : seqL (sqG c xs) = some xs := by cases c <;> rfl
theorem whole_gen {d : D} (h : okD d = true) : callN tab WW (n + 1) 1 [d] st = .ok (.bl (isIntD d), st) := by
  apply Run.eq; refine run_callN (d := ⟨1, 1, b_is_whole⟩) rfl rfl ?_; unfold b_is_whole
  cases d <;> first | (cases h; done) | skip
  all_goals walk_at "v"
  all_goals rfl
theorem number_gen {d : D} (h : okD d = true) : callN tab WW (n + 2) 2 [d] st = .ok (.bl (match d with | .int i => decide (0 ≤ i) | _ => false), st) := by
  have hw := fun n st => whole_gen (n := n) (st := st) h
  have hfz : (d.rd 0).ma (fun _ => .fz) = d := by rw [ok_rd h, ok_ma rfl d h]
  apply Run.eq; refine run_callN (d := ⟨1, 1, b_is_number⟩) rfl rfl ?_; unfold b_is_number
  walk_at "v"
  simp only [hfz, hw, run_ok]
  cases d <;> first | (cases h; done) | skip
  all_goals walk_at "v"
  all_goals simp [isIntD]
theorem badAt_all {P : Nat} : ∀ {ys : List D}, badAt P ys = none → ys = (ys.map intD).map D.int ∧ Rests P (ys.map intD)
  | [], _ => ⟨rfl, fun x hx => by cases hx⟩
  | y :: ys, h => by
    rw [badAt] at h
    split at h
    · rename_i hy
      have h2 : badAt P ys = none := by
        cases e : badAt P ys with
        | none => rfl
        | some k => rw [e] at h; cases h
      obtain ⟨e1, e2⟩ := badAt_all h2
      cases y <;> first | (cases hy; done) | skip
      rename_i i
      simp only [isRest, Bool.and_eq_true, decide_eq_true_eq] at hy
      refine ⟨by rw [List.map_cons, List.map_cons, ← e1]; rfl, fun x hx => ?_⟩
      rcases List.mem_cons.mp hx with hx | hx
      · rw [hx]; exact hy
      · exact e2 x hx
    · cases h
theorem firstNe_none {P : Nat} {cs : List Int} : ∀ {l : List Int} {k : Nat}, (∀ j, j < l.length → evalM P cs ((k + j : Nat) : Int) = l[j]?.getD 0) → firstNe P cs k l = none
  | [], _, _ => rfl
  | x :: l, k, h => by
    have h0 := h 0 (by simp)
    simp at h0
    rw [firstNe, if_pos h0]
    exact firstNe_none fun j hj => by
      have := h (j + 1) (by simpa using hj)
      rw [show k + 1 + j = k + (j + 1) by omega, this]
      simp
theorem firstNe_at {P : Nat} {cs : List Int} : ∀ {l : List Int} {k i : Nat}, (∀ j, j < i → evalM P cs ((k + j : Nat) : Int) = l[j]?.getD 0) → i < l.length → evalM P cs ((k + i : Nat) : Int) ≠ l[i]?.getD 0 → firstNe P cs k l = some (k + i)
  | [], _, _, _, h, _ => by simp at h
  | x :: l, k, 0, _, _, hx => by
    simp at hx
    rw [firstNe, if_neg hx]; rfl
  | x :: l, k, i + 1, h, hi, hx => by
    have h0 := h 0 (by omega)
    simp at h0
    rw [firstNe, if_pos h0]
    have := firstNe_at (P := P) (cs := cs) (l := l) (k := k + 1) (i := i) (fun j hj => by
      have := h (j + 1) (by omega)
      rw [show k + 1 + j = k + (j + 1) by omega, this]
      simp) (by simpa using hi) (by rw [show k + 1 + i = k + (i + 1) by omega]; simpa using hx)
    rw [this]
    congr 1
    omega
theorem bad_none {P : Nat} {d : D} (h : okD d = true) (hs : seqL d = none) : callN tab WW (n + 2) 6 [.int P, d] st = .ok (.int 0, st) := by
  have hi := fun n st => islist_gen (n := n) (st := st) (.inl h)
  have hfz : (d.rd 1).ma (fun _ => .fz) = d := by rw [ok_rd h, ok_ma rfl d h]
  apply Run.eq; refine run_callN (d := ⟨4, 2, b_first_bad_rest⟩) rfl rfl ?_; unfold b_first_bad_rest
  walk_at "v"
  simp only [hfz, hi, hs, run_ok]
  walk_at "v"
theorem fault_pair {P : Nat} (h5 : P5 P) (hr : Rests P ns) (hl : ns.length ≤ 1000) {m : Nat} (hm : m ≤ P) {c : Bool} {s : Str} {b2 : D} (h : okD b2 = true) (hfl : ∀ ys, seqL b2 = some ys → ys.all flatD = true ∧ ys.length ≤ 1000) : callN tab WW (n + 5) 16 [.int P, sqD b ns, .int m, sqG c [.str s, b2]] st = .ok (faultB P ns m s b2, st) := by
  apply Run.eq; refine run_callN (d := ⟨7, 4, b_powers_fault⟩) rfl rfl ?_; unfold b_powers_fault
  have hp := h5.pr.1
  have hok : okD (sqG c [.str s, b2]) = true := by cases c <;> simp [sqG, okD, okDs, h]
  have hrow := fun n st => isrow_gen (n := n) (st := st) (d := sqG c [.str s, b2]) (.inl hok)
  have hrow2 : ∀ n st, callN tab WW (n + 2) 3 [sqG c [.str s, b2], .int 2] st = .ok (.bl true, st) := fun n st => by rw [hrow]; rw [seqL_sqG]; rfl
  have hrd : ∀ k, (sqG c [.str s, b2]).rd k = sqG c [.str s, b2] := fun k => ok_rd hok
  have hfz : (sqG c [.str s, b2]).ma (fun _ => .fz) = sqG c [.str s, b2] := ok_ma rfl _ hok
  have hB : (sqG c [.str s, b2]).any Tag.isB = false := ok_any (p := Tag.isB) rfl _ hok
  have i0 : ixD (sqG c [.str s, b2]) (.int 0) = .ok (.str s) := by cases c <;> rfl
  have i1 : ixD (sqG c [.str s, b2]) (.int 1) = .ok b2 := by cases c <;> rfl
  have b2f : b2.ma (fun _ => .fz) = b2 := ok_ma rfl _ h
  have b2B : b2.any Tag.isB = false := ok_any (p := Tag.isB) rfl _ h
  generalize sqG c [.str s, b2] = th at *
  walk_at "v"
  simp only [chknums hp hr, run_ok]
  walk_at "v"
  simp only [check_many_run (p := (P : Int)) (show (m : Int) ≤ P by omega), run_ok]
  walk_at "v"
  simp only [hrd, hfz, hrow2, run_ok]
  walk_at "v"
  simp only [hrd, i0, run_ok]
  walk_at "v"
  simp only [hrd, i0, run_ok]
  walk_at "v"
  have hin : inD (.str s) (.tup [.str (Str.ofString "powers"), .str (Str.ofString "step")]) = .ok (decide (s = "powers" ∨ s = "step")) := by
    show Res.ok (decide (Str.ofString "powers" = s) || (decide (Str.ofString "step" = s) || false)) = _
    congr 1
    rw [Bool.or_false]
    by_cases e1 : s = "powers"
    · subst e1; simp
    · by_cases e2 : s = "step"
      · subst e2; simp
      · have e1' : ¬ Str.ofString "powers" = s := fun z => e1 z.symm
        have e2' : ¬ Str.ofString "step" = s := fun z => e2 z.symm
        simp [e1, e2, e1', e2']
  simp only [hin, run_ok]
  by_cases hsp : s = "powers"
  · subst hsp
    have hfb : faultB P ns m "powers" b2 = (match seqL b2 with
      | some ys => if badAt P ys ≠ none ∨ m < ys.length then .tup [.str "powers"] else (match firstNe P (ys.map intD) 0 ns with
        | some i => .tup [.str "value", .int i]
        | none => .non)
      | none => .tup [.str "powers"]) := rfl
    rw [hfb]
    walk_at "v"
    simp only [hrd, i0, run_ok]
    walk_at "v"
    simp only [hrd, i1, run_ok]
    walk_at "v"
    cases hb2 : seqL b2 with
    | none =>
      simp only [b2f, bad_none (n := n + 2) h hb2, run_ok]
      walk_at "v"
    | some ys =>
      obtain ⟨hfy, hly⟩ := hfl ys hb2
      have hby : callN tab WW (n + 4) 6 [.int P, b2] st = .ok (badD P ys, st) := by
        cases b2 <;> first | (cases hb2; done) | skip
        · cases hb2
          simp only [okD, Bool.and_eq_true, decide_eq_true_eq] at h
          obtain ⟨⟨rfl, _⟩, _⟩ := h
          exact bad_flat (n := n + 1) (b := true) hfy hly
        · cases hb2
          exact bad_flat (n := n + 1) (b := false) hfy hly
      simp only [b2f, hby, run_ok]
      cases hba : badAt P ys with
      | some k =>
        have e : badD P ys = .int k := by unfold badD; rw [hba]
        rw [e]
        walk_at "v"
      | none =>
        have e : badD P ys = .non := by unfold badD; rw [hba]
        rw [e]
        walk_at "v"
        obtain ⟨ec, hcr⟩ := badAt_all hba
        have hlb : lenD b2 = .ok ys.length := by cases b2 <;> first | (cases hb2; done) | (cases hb2; rfl)
        have hcl : (ys.map intD).length = ys.length := List.length_map _
        have e3 : ∃ c, b2 = sqD c (ys.map intD) := by
          cases b2 <;> first | (cases hb2; done) | skip
          · cases hb2
            simp only [okD, Bool.and_eq_true, decide_eq_true_eq] at h
            obtain ⟨⟨rfl, _⟩, _⟩ := h
            exact ⟨true, by show D.lst .fz ys = D.lst .fz ((ys.map intD).map D.int); rw [← ec]⟩
          · cases hb2
            exact ⟨false, by show D.tup ys = D.tup ((ys.map intD).map D.int); rw [← ec]⟩
        have hv : ∀ (n : Nat) (st : Option Strm) (i : Nat), i ≤ 1000 → callN tab WW (n + 1) 9 [.int P, b2, .int i] st = .ok (.int (evalM P (ys.map intD) i), st) := fun n st i hi => by
          obtain ⟨c, e3⟩ := e3
          rw [e3]
          exact value_of_run hp hcr (show 0 ≤ (i : Int) ∧ (i : Int) ≤ 1000000 by omega)
        generalize ys.map intD = cs at *
        simp only [hrd, i1, run_ok]
        walk_at "v"
        simp only [hlb, run_ok]
        walk_at "v"
        by_cases hle : ys.length ≤ m
        · rw [if_neg (by simp; omega)]
          refine fun _ => ?_
          refine for_by _ (fun i s => (∀ j, j < i → evalM P cs ((0 + j : Nat) : Int) = ns[j]?.getD 0) ∧ ∃ o5 o6, s = ⟨[some (.int P), some (sqD b ns), some (.int m), some th, none, o5, o6], st⟩) ⟨fun j hj => by omega, _, _, rfl⟩ ?_ ?_
          · rintro i d s hi ⟨hz, o5, o6, rfl⟩
            obtain ⟨x, hx, rfl⟩ := enum_get hi
            have hil : i < ns.length := (List.getElem?_eq_some_iff.mp hx).1
            walk_at "v"
            simp only [hrd, i1, run_ok]
            walk_at "v"
            simp only [b2f, hv _ _ i (by omega), run_ok]
            walk_at "v"
            split
            · rename_i h0
              intro j hj
              by_cases e : j = i
              · subst e; rw [hx]; exact h0
              · have := hz j (by omega)
                simpa using this
            · rename_i h0
              rw [firstNe_at hz hil (by rw [hx]; simpa using h0)]
              simp
          · rintro s ⟨hz, o5, o6, rfl⟩
            rw [enum_len] at hz
            rw [firstNe_none hz]
            walk_at "v"
        · rw [if_pos (by right; omega)]
          first | exact fun z => absurd z hle | (walk_at "v"; done)
  · by_cases hss : s = "step"
    · subst hss
      have hd := fun n st => diffs_of_run (n := n) (st := st) (b := b) (ns := ns) hp (by omega) (show 0 ≤ (m : Int) ∧ (m : Int) < 1000000 by have := h5.pr.2; omega)
      have em : (m : Int).toNat = m := by omega
      have hdl := diffs_len P ns (min m ns.length)
      have hdm : diffsM P ns m = diffs P ns (min m ns.length) := rfl
      have hng := fun n st => number_gen (n := n) (st := st) h
      rw [em] at hd
      walk_at "v"
      simp only [hrd, i0, run_ok]
      walk_at "v"
      rw [if_neg (by decide)]
      simp only [hd, run_ok]
      rw [← hdm] at hdl ⊢
      generalize hdf : diffsM P ns m = df at *
      walk_at "v"
      simp only [hrd, i1, run_ok]
      walk_at "v"
      simp only [b2f, hng, run_ok]
      walk_at "v"
      have hfi : ∀ i : Int, faultB P ns m (Str.ofString "step") (.int i) = if 0 ≤ i ∧ i < (diffsM P ns m).length then (if (diffsM P ns m)[i.toNat]?.getD 0 = 0 then .tup [.str "nought"] else .non) else .tup [.str "index"] := fun i => by unfold faultB; rw [if_neg (by decide), if_pos rfl]
      have hfo : (∀ i, b2 ≠ .int i) → faultB P ns m (Str.ofString "step") b2 = .tup [.str "index"] := fun hne => by
        unfold faultB
        rw [if_neg (by decide), if_pos rfl]
        cases b2 <;> first | rfl | exact absurd rfl (hne _)
      cases b2 with
      | int i =>
        rw [hfi, hdf]
        by_cases hi0 : 0 ≤ i
        · rw [if_pos (show decide (0 ≤ i) = true from decide_eq_true hi0)]
          simp only [hrd, i1, run_ok]
          walk_at "v"
          intro hlt
          rw [if_pos ⟨hi0, hlt⟩]
          obtain ⟨j, rfl⟩ := Int.eq_ofNat_of_zero_le hi0
          have hat : atI (df.map D.int) (j : Int) = some (.int (df[j]?.getD 0)) := atI_at (by rw [List.getElem?_map, List.getElem?_eq_getElem (by omega)]; rfl)
          simp only [hrd, i1, run_ok]
          walk_at "v"
          simp only [hat]
          walk_at "v"
        · rw [if_neg (show ¬ decide (0 ≤ i) = true by simp; omega), if_neg (by omega)]
      | non => rw [hfo (fun _ z => nomatch z)]; walk_at "v"
      | bl _ => rw [hfo (fun _ z => nomatch z)]; walk_at "v"
      | str _ => rw [hfo (fun _ z => nomatch z)]; walk_at "v"
      | lst _ _ => rw [hfo (fun _ z => nomatch z)]; walk_at "v"
      | tup _ => rw [hfo (fun _ z => nomatch z)]; walk_at "v"
      | dk _ _ _ => cases h
      | strm => cases h
    · have hfb : faultB P ns m s b2 = .tup [.str "form"] := by unfold faultB; rw [if_neg hsp, if_neg hss]
      have hde : decide (s = "powers" ∨ s = "step") = false := decide_eq_false (by simp [hsp, hss])
      rw [hfb]
      simp only [hde, run_ok]
      walk_at "v"
end
end VL.K76
end

/-! text: K76L -/
section
set_option maxHeartbeats 4000000
namespace VL.K76
open PySem PySem.Spec PyProof.Rows L2 VL
local macro_rules | `(tactic| walk_at "v") => `(tactic| simp (config := {maxSteps := 4000000}) (disch := omega) [List.getElem?_cons_zero, ilt_t, ilt_f, ile_t, ile_f, ieq_t, ieq_f, nlt_t, nlt_f, nle_t, nle_f, neq_t, neq_f, mulOk_l, mulOk_r, divOk_of, small_of, rngOk_num, comp_cons, comp_nil, -List.map_reverse, -List.map_tail, -List.map_map, rev_ints, tail_ints, -bi_reprL, -bi_reprT])
section
variable {n : Nat} {st : Option Strm} {p : Int} {b : Bool} {ns : List Int}
/-- the law's own look at what is no pair whose first thing is a text -/
theorem lfault_form {P : Nat} (h5 : P5 P) (hl : ns.length ≤ 1000) {m : Nat} {d : D} (h : okD d = true ∨ d = .dk .fz [] []) (hs : ∀ s b2, seqL d ≠ some [.str s, b2]) : callN tab WW (n + 5) 28 [.int P, sqD b ns, .int m, d] st = .ok (.tup [.str "form"], st) := by
  apply Run.eq; refine run_callN (d := ⟨9, 4, b__law_fault⟩) rfl rfl ?_; unfold b__law_fault
  have e2 : ∀ a b2, seqL d = some [a, b2] → okD a = true → tyD a .str = .ok false := fun a b2 hd hoa => by
    have ha : ∀ s, a ≠ .str s := fun s z => hs s b2 (by rw [hd, z])
    cases a <;> first | (cases hoa; done) | rfl | exact absurd rfl (ha _)
  rcases h with h | rfl
  · cases d with
    | non => walk_at "v"
    | bl _ => walk_at "v"
    | int _ => walk_at "v"
    | str _ => walk_at "v"
    | strm => cases h
    | dk _ _ _ => cases h
    | lst t xs =>
      simp only [okD, Bool.and_eq_true, decide_eq_true_eq] at h
      obtain ⟨⟨rfl, h⟩, _⟩ := h
      match xs, h, e2 with
      | [], h, e2 => walk_at "v"
      | [a], h, e2 => walk_at "v"
      | a :: b2 :: c :: r, h, e2 => walk_at "v"
      | [a, b2], h, e2 =>
        simp only [okDs, Bool.and_eq_true] at h
        have e3 := e2 a b2 rfl h.1
        have hk : D.ma (Tag.rc 3) a = a := ok_ma rfl a h.1
        walk_at "v"
        simp only [hk, e3, run_ok]
        walk_at "v"
    | tup xs =>
      simp only [okD, Bool.and_eq_true, decide_eq_true_eq] at h
      obtain ⟨h, _⟩ := h
      match xs, h, e2 with
      | [], h, e2 => walk_at "v"
      | [a], h, e2 => walk_at "v"
      | a :: b2 :: c :: r, h, e2 => walk_at "v"
      | [a, b2], h, e2 =>
        simp only [okDs, Bool.and_eq_true] at h
        have e3 := e2 a b2 rfl h.1
        have hk : D.ma (Tag.rc 3) a = a := ok_ma rfl a h.1
        walk_at "v"
        simp only [hk, e3, run_ok]
        walk_at "v"
  · walk_at "v"
theorem wrong_none {P : Nat} {d : D} (h : okD d = true) (hs : seqL d = none) : callN tab WW (n + 1) 23 [.int P, d] st = .ok (.int 0, st) := by
  apply Run.eq; refine run_callN (d := ⟨5, 2, b__law_wrong_rest⟩) rfl rfl ?_; unfold b__law_wrong_rest
  cases d <;> first | (cases h; done) | (cases hs; done) | skip
  all_goals walk_at "v"
theorem lfault_pair {P : Nat} (h5 : P5 P) (hr : Rests P ns) (hl : ns.length ≤ 1000) {m : Nat} (hm : m ≤ P) {c : Bool} {s : Str} {b2 : D} (h : okD b2 = true) (hfl : ∀ ys, seqL b2 = some ys → ys.all flatD = true ∧ ys.length ≤ 1000) : callN tab WW (n + 5) 28 [.int P, sqD b ns, .int m, sqG c [.str s, b2]] st = .ok (faultB P ns m s b2, st) := by
  apply Run.eq; refine run_callN (d := ⟨9, 4, b__law_fault⟩) rfl rfl ?_; unfold b__law_fault
  have hp := h5.pr.1
  have hP := h5.pr.2
  have hok : okD (sqG c [.str s, b2]) = true := by cases c <;> simp [sqG, okD, okDs, h]
  have hrd : ∀ k, (sqG c [.str s, b2]).rd k = sqG c [.str s, b2] := fun k => ok_rd hok
  have i0 : ixD (sqG c [.str s, b2]) (.int 0) = .ok (.str s) := by cases c <;> rfl
  have i1 : ixD (sqG c [.str s, b2]) (.int 1) = .ok b2 := by cases c <;> rfl
  have htl : tyD (sqG c [.str s, b2]) .list = .ok c := by cases c <;> rfl
  have htt : (if c = true then Res.ok true else (tyD (sqG c [.str s, b2]) .tuple >>= fun b => if b = true then Res.ok true else Res.ok false)) = Res.ok true := by cases c <;> rfl
  have hln : lenD (sqG c [.str s, b2]) = .ok 2 := by cases c <;> rfl
  have b2f : b2.ma (fun _ => .fz) = b2 := ok_ma rfl _ h
  have b2u : b2.ma Tag.un = b2 := ok_ma rfl _ h
  have b2B : b2.any Tag.isB = false := ok_any (p := Tag.isB) rfl _ h
  have b2r : ∀ k, b2.rd k = b2 := fun k => ok_rd h
  have hin : inD (.str s) (.tup [.str (Str.ofString "powers"), .str (Str.ofString "step")]) = .ok (decide (s = "powers" ∨ s = "step")) := by
    show Res.ok (decide (Str.ofString "powers" = s) || (decide (Str.ofString "step" = s) || false)) = _
    congr 1
    rw [Bool.or_false]
    by_cases e1 : s = "powers"
    · subst e1; simp
    · by_cases e2 : s = "step"
      · subst e2; simp
      · have e1' : ¬ Str.ofString "powers" = s := fun z => e1 z.symm
        have e2' : ¬ Str.ofString "step" = s := fun z => e2 z.symm
        simp [e1, e2, e1', e2']
  generalize sqG c [.str s, b2] = th at *
  walk_at "v"
  simp only [hrd, htl, run_ok]
  simp only [htt, run_ok]
  walk_at "v"
  simp only [hrd, hln, run_ok]
  walk_at "v"
  simp only [hrd, i0, run_ok]
  walk_at "v"
  simp only [hrd, i0, run_ok]
  walk_at "v"
  simp only [hin, run_ok]
  by_cases hsp : s = "powers"
  · subst hsp
    walk_at "v"
    simp only [hrd, i1, run_ok]
    walk_at "v"
    simp only [b2u, b2B, Bool.false_eq_true, if_false]
    walk_at "v"
    simp only [hrd, i0, run_ok]
    walk_at "v"
    have hfb : faultB P ns m (Str.ofString "powers") b2 = (match seqL b2 with
      | some ys => if badAt P ys ≠ none ∨ m < ys.length then .tup [.str "powers"] else (match firstNe P (ys.map intD) 0 ns with
        | some i => .tup [.str "value", .int i]
        | none => .non)
      | none => .tup [.str "powers"]) := rfl
    rw [hfb]
    cases hb2 : seqL b2 with
    | none =>
      simp only [b2r, b2f, wrong_none (n := n + 3) h hb2, run_ok]
      walk_at "v"
    | some ys =>
      obtain ⟨hfy, hly⟩ := hfl ys hb2
      have hby : callN tab WW (n + 4) 23 [.int P, b2] st = .ok (badD P ys, st) := by
        cases b2 <;> first | (cases hb2; done) | skip
        · cases hb2
          simp only [okD, Bool.and_eq_true, decide_eq_true_eq] at h
          obtain ⟨⟨rfl, _⟩, _⟩ := h
          exact wrong_flat (n := n + 2) (b := true) hfy hly
        · cases hb2
          exact wrong_flat (n := n + 2) (b := false) hfy hly
      simp only [b2r, b2f, hby, run_ok]
      cases hba : badAt P ys with
      | some k =>
        have e : badD P ys = .int k := by unfold badD; rw [hba]
        rw [e]
        walk_at "v"
      | none =>
        have e : badD P ys = .non := by unfold badD; rw [hba]
        rw [e]
        obtain ⟨ec, hcr⟩ := badAt_all hba
        have hlb : lenD b2 = .ok ys.length := by cases b2 <;> first | (cases hb2; done) | (cases hb2; rfl)
        have e3 : ∃ c, b2 = sqD c (ys.map intD) := by
          cases b2 <;> first | (cases hb2; done) | skip
          · cases hb2
            simp only [okD, Bool.and_eq_true, decide_eq_true_eq] at h
            obtain ⟨⟨rfl, _⟩, _⟩ := h
            exact ⟨true, by show D.lst .fz ys = D.lst .fz ((ys.map intD).map D.int); rw [← ec]⟩
          · cases hb2
            exact ⟨false, by show D.tup ys = D.tup ((ys.map intD).map D.int); rw [← ec]⟩
        have hv : ∀ (n : Nat) (st : Option Strm) (i : Nat), i ≤ 1000 → callN tab WW (n + 1) 24 [.int P, b2, .int i] st = .ok (.int (evalM P (ys.map intD) i), st) := fun n st i hi => by
          obtain ⟨c, e3⟩ := e3
          rw [e3, lvalue_run hp hcr (show 0 ≤ (i : Int) ∧ (i : Int) ≤ 1000000 by omega), evalL_eq hp]
        generalize ys.map intD = cs at *
        walk_at "v"
        simp only [b2r, hlb, run_ok]
        walk_at "v"
        by_cases hle : ys.length ≤ m
        · rw [if_neg (by simp; omega)]
          refine fun _ => ?_
          refine comp_by _ (fun i zd s => ∃ zs : List Int, zd = zs.map D.int ∧ zs.length ≤ i ∧ ((zs = [] ∧ ∀ j : Nat, j < i → evalM P cs ((0 + j : Nat) : Int) = ns[j]?.getD 0) ∨ (∃ (k : Nat) (r : List Int), zs = (k : Int) :: r ∧ firstNe P cs 0 ns = some k)) ∧ ∃ o7 o8, s = ⟨[some (.int P), some (sqD b ns), some (.int m), some th, some b2, none, none, o7, o8], st⟩) ⟨[], rfl, by simp, .inl ⟨rfl, fun j hj => by omega⟩, _, _, rfl⟩ ?_ ?_
          · rintro i d zd s hi ⟨zs, rfl, hzl, hz, o7, o8, rfl⟩
            obtain ⟨x, hx, rfl⟩ := enum_get hi
            have hil : i < ns.length := (List.getElem?_eq_some_iff.mp hx).1
            have bad1 : evalM P cs i ≠ x → ∃ zs' : List Int, zs.map D.int ++ [D.int i] = zs'.map D.int ∧ zs'.length ≤ i + 1 ∧ ((zs' = [] ∧ ∀ j : Nat, j < i + 1 → evalM P cs ((0 + j : Nat) : Int) = ns[j]?.getD 0) ∨ (∃ (k : Nat) (r : List Int), zs' = (k : Int) :: r ∧ firstNe P cs 0 ns = some k)) := fun h1 => by
              refine ⟨zs ++ [(i : Int)], by simp, by simp; omega, .inr ?_⟩
              rcases hz with ⟨rfl, hz⟩ | ⟨k, r, rfl, hk⟩
              · exact ⟨i, [], rfl, by rw [firstNe_at hz hil (by rw [hx]; simpa using h1)]; simp⟩
              · exact ⟨k, r ++ [(i : Int)], rfl, hk⟩
            have good1 : evalM P cs i = x → ∃ zs' : List Int, zs.map D.int = zs'.map D.int ∧ zs'.length ≤ i + 1 ∧ ((zs' = [] ∧ ∀ j : Nat, j < i + 1 → evalM P cs ((0 + j : Nat) : Int) = ns[j]?.getD 0) ∨ (∃ (k : Nat) (r : List Int), zs' = (k : Int) :: r ∧ firstNe P cs 0 ns = some k)) := fun h1 => by
              refine ⟨zs, rfl, by omega, ?_⟩
              rcases hz with ⟨e0, hz⟩ | hz
              · refine .inl ⟨e0, fun j hj => ?_⟩
                by_cases e : j = i
                · subst e; rw [hx]; simpa using h1
                · exact hz j (by omega)
              · exact .inr hz
            generalize hZ : zs.map D.int = Z at *
            walk_at "v"
            simp only [b2r, b2f, hv _ _ i (by omega), run_ok]
            walk_at "v"
            simp only [Nat.zero_add] at bad1 good1
            split
            · rename_i h0
              obtain ⟨zs', a1, a2, a3⟩ := good1 h0
              exact ⟨zs', a1, a2, a3.imp id fun ⟨k, r, e1, e2⟩ => ⟨k, ⟨r, e1⟩, e2⟩⟩
            · rename_i h0
              obtain ⟨zs', a1, a2, a3⟩ := bad1 h0
              exact ⟨zs', a1, a2, a3.imp id fun ⟨k, r, e1, e2⟩ => ⟨k, ⟨r, e1⟩, e2⟩⟩
          · rintro zd s ⟨zs, rfl, hzl, hz, o7, o8, rfl⟩
            rw [enum_len] at hzl hz
            rcases hz with ⟨rfl, hz⟩ | ⟨k, r, rfl, hk⟩
            · rw [firstNe_none hz]
              walk_at "v"
            · have hne : cmpD .ne (.lst (.br 6) (D.int k :: r.map D.int)) (.lst .own []) = .ok true := by
                have := ne_ints0 (t := .br 6) (u := .own) (xs := (k : Int) :: r)
                simpa using this
              have hzl : r.length + 1 ≤ ns.length := by simpa using hzl
              rw [hk]
              walk_at "v"
              simp only [hne, run_ok]
              walk_at "v"
        · rw [if_pos (by right; omega)]
          first | exact fun z => absurd z hle | (walk_at "v"; done)
  · by_cases hss : s = "step"
    · subst hss
      have hd := fun n st => lsteps_run (n := n) (st := st) (b := b) (ns := ns) hp (by omega) (show 0 ≤ (m : Int) ∧ (m : Int) < 1000000 by omega)
      have em : (m : Int).toNat = m := by omega
      have hdl := diffs_len P ns (min m ns.length)
      have hdm : diffsM P ns m = diffs P ns (min m ns.length) := rfl
      have hwg : ∀ n st, callN tab WW (n + 1) 22 [b2] st = .ok (.bl (isIntD b2), st) := fun n st => by
        have e : callN tab WW (n + 1) 1 [b2] st = callN tab WW (n + 1) 22 [b2] st := rfl
        rw [← e]; exact whole_gen h
      rw [em] at hd
      walk_at "v"
      simp only [hrd, i1, run_ok]
      walk_at "v"
      simp only [b2u, b2B, Bool.false_eq_true, if_false]
      walk_at "v"
      simp only [hrd, i0, run_ok]
      walk_at "v"
      rw [if_neg (by decide)]
      simp only [hd, run_ok]
      rw [← hdm] at hdl ⊢
      generalize hdf : diffsM P ns m = df at *
      walk_at "v"
      simp only [b2r, b2f, hwg, run_ok]
      walk_at "v"
      have hfi : ∀ i : Int, faultB P ns m (Str.ofString "step") (.int i) = if 0 ≤ i ∧ i < (diffsM P ns m).length then (if (diffsM P ns m)[i.toNat]?.getD 0 = 0 then .tup [.str "nought"] else .non) else .tup [.str "index"] := fun i => by unfold faultB; rw [if_neg (by decide), if_pos rfl]
      have hfo : (∀ i, b2 ≠ .int i) → faultB P ns m (Str.ofString "step") b2 = .tup [.str "index"] := fun hne => by
        unfold faultB
        rw [if_neg (by decide), if_pos rfl]
        cases b2 <;> first | rfl | exact absurd rfl (hne _)
      cases b2 with
      | int i =>
        rw [hfi, hdf, if_pos (show isIntD (.int i) = true from rfl)]
        by_cases hi0 : 0 ≤ i
        · obtain ⟨j, rfl⟩ := Int.eq_ofNat_of_zero_le hi0
          by_cases hlt : j < df.length
          · have hat : atI (df.map D.int) (j : Int) = some (.int (df[j]?.getD 0)) := atI_at (by rw [List.getElem?_map, List.getElem?_eq_getElem (by omega)]; rfl)
            rw [if_pos ⟨hi0, by omega⟩]
            walk_at "v"
            simp only [hat]
            walk_at "v"
          · rw [if_neg (by omega)]
            walk_at "v"
        · rw [if_neg (by omega)]
          walk_at "v"
      | non => rw [hfo (fun _ z => nomatch z)]; simp [isIntD]
      | bl _ => rw [hfo (fun _ z => nomatch z)]; simp [isIntD]
      | str _ => rw [hfo (fun _ z => nomatch z)]; simp [isIntD]
      | lst _ _ => rw [hfo (fun _ z => nomatch z)]; simp [isIntD]
      | tup _ => rw [hfo (fun _ z => nomatch z)]; simp [isIntD]
      | dk _ _ _ => cases h
      | strm => cases h
    · have hfb : faultB P ns m s b2 = .tup [.str "form"] := by unfold faultB; rw [if_neg hsp, if_neg hss]
      have hde : decide (s = "powers" ∨ s = "step") = false := decide_eq_false (by simp [hsp, hss])
      rw [hfb]
      simp only [hde, run_ok]
      walk_at "v"
end
end VL.K76
end

/-! text: K76X -/
section
set_option maxHeartbeats 4000000
namespace VL.K76
open PySem PySem.Spec PyProof.Rows L2 VL
theorem nrm_flat : ∀ {x y : D}, nrm x = nrm y → flatD y = true → x = y
  | x, .non, h, _ => by cases x <;> first | rfl | cases h
  | x, .bl b, h, _ => by cases x <;> first | (cases h; rfl) | cases h
  | x, .int i, h, _ => by cases x <;> first | (cases h; rfl) | cases h
  | x, .str s, h, _ => by cases x <;> first | (cases h; rfl) | cases h
  | _, .lst _ _, _, h => by cases h
  | _, .tup _, _, h => by cases h
  | _, .dk _ _ _, _, h => by cases h
  | _, .strm, _, h => by cases h
theorem nrms_flat : ∀ {xs ys : List D}, nrms xs = nrms ys → ys.all flatD = true → xs = ys
  | [], [], _, _ => rfl
  | [], y :: ys, h, _ => by rw [nrms, nrms] at h; cases h
  | x :: xs, [], h, _ => by rw [nrms, nrms] at h; cases h
  | x :: xs, y :: ys, h, hf => by
    rw [nrms, nrms] at h
    rw [List.all_cons, Bool.and_eq_true] at hf
    injection h with h1 h2
    rw [nrm_flat h1 hf.1, nrms_flat h2 hf.2]
theorem seqL_nrm {x y : D} (h : nrm x = nrm y) : (seqL x = none ∧ seqL y = none) ∨ ∃ xs ys, seqL x = some xs ∧ seqL y = some ys ∧ nrms xs = nrms ys := by
  cases x <;> cases y <;> first | (exact .inl ⟨rfl, rfl⟩) | skip
  all_goals first | (simp only [nrm] at h; cases h; done) | skip
  all_goals (simp only [nrm] at h; injection h with h1 h2; exact .inr ⟨_, _, rfl, rfl, h2⟩)
/-- a thing's look is its loose copy's -/
theorem faultB_nrm {P : Nat} {ns : List Int} {m : Nat} {s : Str} {b b2 : D} (h : nrm b = nrm b2) (hfl : ∀ ys, seqL b2 = some ys → ys.all flatD = true) : faultB P ns m s b = faultB P ns m s b2 := by
  rcases seqL_nrm h with ⟨h1, h2⟩ | ⟨xs, ys, h1, h2, h3⟩
  · cases b2 <;> first | (cases h2; done) | (rw [nrm_flat h rfl]; done) | skip
    all_goals unfold faultB
    all_goals rw [h1, h2]
    all_goals split
    all_goals first | rfl | skip
    all_goals split
    all_goals first | rfl | skip
    all_goals (cases b <;> first | rfl | (cases h; done) | (simp only [nrm] at h; cases h))
  · have e := nrms_flat h3 (hfl ys h2)
    subst e
    unfold faultB
    rw [h1, h2]
    have hb : ∀ i, b ≠ .int i := fun i z => by rw [z] at h1; cases h1
    have hb2 : ∀ i, b2 ≠ .int i := fun i z => by rw [z] at h2; cases h2
    split
    · rfl
    · split
      · cases b <;> cases b2 <;> first | rfl | exact absurd rfl (hb _) | exact absurd rfl (hb2 _)
      · rfl
theorem faultP_nrm {P : Nat} {ns : List Int} {m : Nat} {d e : D} (h : nrm e = nrm d) (hfl : ∀ s b2 ys, seqL d = some [.str s, b2] → seqL b2 = some ys → ys.all flatD = true) : faultP P ns m e = faultP P ns m d := by
  unfold faultP
  rcases seqL_nrm h with ⟨h1, h2⟩ | ⟨xs, ys, h1, h2, h3⟩
  · rw [h1, h2]
  · rw [h1, h2]
    rw [h2] at hfl
    match xs, ys, h3 with
    | [], [], _ => rfl
    | [], _ :: _, h3 => rw [nrms, nrms] at h3; cases h3
    | _ :: _, [], h3 => rw [nrms, nrms] at h3; cases h3
    | [a], [b], _ => cases a <;> cases b <;> rfl
    | [a], _ :: _ :: _, h3 => simp only [nrms] at h3; injection h3 with _ h4; cases h4
    | _ :: _ :: _, [b], h3 => simp only [nrms] at h3; injection h3 with _ h4; cases h4
    | [a, b], [a', b'], h3 =>
      simp only [nrms] at h3
      injection h3 with h4 h5
      injection h5 with h5 _
      cases a' with
      | str s =>
        have : a = .str s := nrm_flat h4 rfl
        subst this
        exact faultB_nrm h5 fun ys hy => hfl s b' ys rfl hy
      | _ => cases a <;> first | rfl | (simp only [nrm] at h4; cases h4)
    | [a, b], _ :: _ :: _ :: _, h3 => simp only [nrms] at h3; injection h3 with _ h4; injection h4 with _ h5; cases h5
    | _ :: _ :: _ :: _, [a, b], h3 => simp only [nrms] at h3; injection h3 with _ h4; injection h4 with _ h5; cases h5
    | a :: _ :: _ :: _, a' :: _ :: _ :: _, _ => cases a <;> cases a' <;> rfl
/-- a thing that the law asks about -/
structure TOk (d : D) : Prop where
  ok : okD d = true ∨ d = .dk .fz [] []
  fl : ∀ s b2 ys, seqL d = some [.str s, b2] → seqL b2 = some ys → ys.all flatD = true ∧ ys.length ≤ 1000
section
variable {n : Nat} {st : Option Strm} {b : Bool} {ns : List Int} {P m : Nat} {d : D}
theorem pair_of (h : okD d = true ∨ d = .dk .fz [] []) {s : Str} {b2 : D} (hd : seqL d = some [.str s, b2]) : ∃ c, d = sqG c [.str s, b2] ∧ okD b2 = true := by
  rcases h with h | rfl
  · cases d <;> first | (cases hd; done) | skip
    · cases hd
      simp only [okD, okDs, Bool.and_eq_true, decide_eq_true_eq] at h
      obtain ⟨⟨rfl, h⟩, _⟩ := h
      exact ⟨true, rfl, h.2.1⟩
    · cases hd
      simp only [okD, okDs, Bool.and_eq_true, decide_eq_true_eq] at h
      exact ⟨false, rfl, h.1.2.1⟩
  · cases hd
theorem faultP_form (hs : ∀ s b2, seqL d ≠ some [.str s, b2]) : faultP P ns m d = .tup [.str "form"] := by
  unfold faultP
  split
  · rename_i s b2 e
    exact absurd e (hs s b2)
  · rfl
theorem fault_run (h5 : P5 P) (hr : Rests P ns) (hl : ns.length ≤ 1000) (hm : m ≤ P) (h : TOk d) : callN tab WW (n + 5) 16 [.int P, sqD b ns, .int m, d] st = .ok (faultP P ns m d, st) := by
  by_cases hs : ∃ s b2, seqL d = some [.str s, b2]
  · obtain ⟨s, b2, hd⟩ := hs
    obtain ⟨c, e, ho⟩ := pair_of h.ok hd
    have e2 : faultP P ns m d = faultB P ns m s b2 := by unfold faultP; rw [hd]
    rw [e2, e]
    exact fault_pair h5 hr hl hm ho fun ys hy => h.fl s b2 ys hd hy
  · have hs : ∀ s b2, seqL d ≠ some [.str s, b2] := fun s b2 e => hs ⟨s, b2, e⟩
    rw [faultP_form hs]
    exact fault_form h5 hr hl hm h.ok hs
theorem lfault_run (h5 : P5 P) (hr : Rests P ns) (hl : ns.length ≤ 1000) (hm : m ≤ P) (h : TOk d) : callN tab WW (n + 5) 28 [.int P, sqD b ns, .int m, d] st = .ok (faultP P ns m d, st) := by
  by_cases hs : ∃ s b2, seqL d = some [.str s, b2]
  · obtain ⟨s, b2, hd⟩ := hs
    obtain ⟨c, e, ho⟩ := pair_of h.ok hd
    have e2 : faultP P ns m d = faultB P ns m s b2 := by unfold faultP; rw [hd]
    rw [e2, e]
    exact lfault_pair h5 hr hl hm ho fun ys hy => h.fl s b2 ys hd hy
  · have hs : ∀ s b2, seqL d ≠ some [.str s, b2] := fun s b2 e => hs ⟨s, b2, e⟩
    rw [faultP_form hs]
    exact lfault_form h5 hl h.ok hs
theorem firstNZ_all : ∀ {l : List Int}, firstNZ l = none → ∀ x ∈ l, x = 0
  | [], _, x, hx => by cases hx
  | y :: l, h, x, hx => by
    rw [firstNZ] at h
    split at h
    · cases h
    · rename_i hy
      have hy : y = 0 := Classical.byContradiction hy
      have h2 : firstNZ l = none := by
        cases e : firstNZ l with
        | none => rfl
        | some k => rw [e] at h; cases h
      rcases List.mem_cons.mp hx with hx | hx
      · rw [hx]; exact hy
      · exact firstNZ_all h2 x hx
theorem pows_rests (h5 : P5 P) : Rests P (powsL P ns m) := fun x hx => (thr_rests h5 ns _).1 x (strip_mem hx)
theorem pows_len (h5 : P5 P) : (powsL P ns m).length ≤ min m ns.length := Nat.le_trans (strip_len _) (Nat.le_of_eq (thr_len h5 ns _).1)
/-- the powers that are told are right by the look -/
theorem told_right (h5 : P5 P) (hr : Rests P ns) (hm : m ≤ P) (hz : firstNZ (diffsM P ns m) = none) : faultB P ns m "powers" (.lst .fz ((powsL P ns m).map D.int)) = .non := by
  have hp := h5.pr.1
  have hpr := pows_rests (ns := ns) (m := m) h5
  have hpl := pows_len (ns := ns) (m := m) h5
  have hb : badAt P ((powsL P ns m).map D.int) = none := badAt_none fun i y hy => by
    rw [List.getElem?_map] at hy
    cases e : (powsL P ns m)[i]? with
    | none => rw [e] at hy; cases hy
    | some x =>
      rw [e] at hy
      cases hy
      have := hpr x (List.mem_of_getElem? e)
      simp only [isRest, Bool.and_eq_true, decide_eq_true_eq]
      exact this
  have hmap : ((powsL P ns m).map D.int).map intD = powsL P ns m := by rw [List.map_map]; exact List.map_id _
  have hne : firstNe P (powsL P ns m) 0 ns = none := firstNe_none fun j hj => by
    rw [Nat.zero_add]
    have := thr_all h5 ns m hm hr (fun i hi => by
      have e : min m ns.length = m := by omega
      have hz' := firstNZ_all hz
      unfold diffsM at hz'
      rw [e] at hz'
      cases hx : (diffs P ns m)[i]? with
      | none => rfl
      | some x => exact hz' x (List.mem_of_getElem? hx)) j hj
    rw [← this, evalM_E _ _ _ hp, evalM_E _ _ _ hp]
    unfold powsL
    rw [strip_E]
  unfold faultB
  rw [if_pos rfl, seqL_lst]
  show (if badAt P _ ≠ none ∨ m < ((powsL P ns m).map D.int).length then _ else _) = _
  rw [if_neg (by rw [hb, List.length_map]; simp; omega)]
  rw [hmap, hne]
end
end VL.K76
end

/-! text: K76T -/
section
set_option maxHeartbeats 4000000
namespace VL.K76
open PySem PySem.Spec PyProof.Rows L2 VL
local macro_rules | `(tactic| walk_at "v") => `(tactic| simp (config := {maxSteps := 4000000}) (disch := omega) [List.getElem?_cons_zero, ilt_t, ilt_f, ile_t, ile_f, ieq_t, ieq_f, nlt_t, nlt_f, nle_t, nle_f, neq_t, neq_f, mulOk_l, mulOk_r, divOk_of, small_of, rngOk_num, comp_cons, comp_nil, -List.map_reverse, -List.map_tail, -List.map_map, rev_ints, tail_ints, -bi_reprL, -bi_reprT])
/-- what the law asks about: small, flat enough -/
structure TT (d : D) : Prop where
  tok : TOk d
  sm : d = .dk .fz [] [] ∨ (smD d = true ∧ dep d ≤ 4 ∧ nsz d ≤ 100000 ∧ wt d ≤ 10)
section
variable {n : Nat} {st : Option Strm} {b : Bool} {ns : List Int} {P m : Nat}
theorem flat_ma {f : Tag → Tag} {x : D} (h : flatD x = true) : x.ma f = x := by cases x <;> first | rfl | cases h
theorem flat_rd {k : Nat} {x : D} (h : flatD x = true) : x.rd k = x := by cases x <;> first | rfl | cases h
theorem flat_out {ρ : VEnv} {x : D} (h : flatD x = true) : outD x ρ = x := by cases x <;> first | rfl | cases h
theorem pickf_run {s0 : Strm} {B : Int} (hs : SOk B s0) (hB : B ≤ 1000000000) {xs : List D} (h : xs.all flatD = true) (h0 : 0 < xs.length) (h1 : xs.length < 1000000) {Q : D × Option Strm → Prop} (q : ∀ x st', x ∈ xs → SOk (B + 1) st' → Q (x, some st')) : Run (callN tab WW (n + 2) 18 [.strm, .lst .fz xs] (some s0)) Q := by
  refine run_callN (d := ⟨2, 2, b__law_pick⟩) rfl rfl ?_; unfold b__law_pick
  have hf := fun (f : Tag → Tag) => flats_mas (f := f) h
  have hg := fun (f : Tag → Bool) => flats_any (q := f) h
  walk_at "v"
  refine run_draw rfl hs (by omega) (by omega) (by omega) fun r st' r0 r1 h' => ?_
  obtain ⟨k, rfl⟩ := Int.eq_ofNat_of_zero_le r0
  have hk : k < xs.length := by omega
  have e : atI xs (k : Int) = some xs[k] := atI_at (List.getElem?_eq_getElem hk)
  have hx : flatD xs[k] = true := List.all_eq_true.mp h _ (List.getElem_mem _)
  walk_at "v"
  simp only [hf, e, run_ok, flat_out hx]
  walk_at "v"
  exact q _ _ (List.getElem_mem _) h'
def bTail : VB := (.seq (.asg (.nm 7) (.call 17 (.cons (.name 0) (.cons (.bin .add (.bi .len (.cons (.name 6) .nil)) (.int 1)) .nil))))
    (.seq (.asg (.nm 8) (.call 18 (.cons (.name 0) (.cons (.lst (.cons .non (.cons (.name 1) (.cons (.neg (.int 1)) (.cons (.bl true) (.cons (.str "1") (.cons (.int 0) (.cons (.int 1) .nil)))))))) .nil))))
    (.seq (.ext 4 (.lst (.cons (.tup (.cons (.str "powers") (.cons (.name 6) .nil))) (.cons (.tup (.cons (.str "powers") (.cons (.bin .add (.name 6) (.lst (.cons (.int 0) .nil))) .nil))) (.cons (.tup (.cons (.str "powers") (.cons (.bin .add (.bin .add (.sl (.name 6) .nil (.name 7)) (.lst (.cons (.name 8) .nil))) (.sl (.name 6) (.bin .add (.name 7) (.int 1)) .nil)) .nil))) .nil)))))
    (.seq (.ext 4 (.lst (.cons (.tup (.cons (.str "step") (.cons (.call 17 (.cons (.name 0) (.cons (.bin .add (.bi .len (.cons (.name 2) .nil)) (.int 2)) .nil))) .nil))) (.cons (.tup (.cons (.str "step") (.cons (.name 8) .nil))) (.cons (.tup (.cons (.str "powers") (.cons (.sl (.name 6) .nil (.neg (.int 1))) .nil))) .nil)))))
    .pass))))
theorem turn_run {s0 : Strm} {B : Int} (hs : SOk B s0) (hB : B ≤ 1000000) (h5 : P5 P) (hl : ns.length ≤ 100) {told : D} {F : List D} (hF : F.length ≤ 100) (hFB : ∀ q : Tag → Bool, q .own = false → q .fz = false → D.anys q F = false) {cs : List Int} (hc : cs.length ≤ 100) {i : Int} {o7 o8 : Option D} {Q : Fl → Prop} (q : ∀ (at_ : Nat) (odd : D) (r : Int) (t3 : List Int) st', at_ ≤ cs.length → odd ∈ [D.non, .int P, .int (-1), .bl true, .str "1", .int 0, .int 1] → 0 ≤ r → r < ns.length + 2 → t3.length ≤ cs.length → (∀ x ∈ t3, x ∈ cs) → SOk (B + 3) st' → Q (.nx ⟨[some .strm, some (.int P), some (sqD true ns), some told, some (.lst .own (F ++ [.tup [.str "powers", .lst .fz (cs.map D.int)], .tup [.str "powers", .lst .own (cs.map D.int ++ [.int 0])], .tup [.str "powers", .lst .own ((cs.take at_).map D.int ++ odd :: (cs.drop (at_ + 1)).map D.int)]] ++ [.tup [.str "step", .int r], .tup [.str "step", odd], .tup [.str "powers", .lst .own (t3.map D.int)]])), some (.int i), some (.lst .fz (cs.map D.int)), some (.int at_), some odd], some st'⟩)) :
    Run (exec (callN tab WW (n + 4)) WW bTail ⟨[some .strm, some (.int P), some (sqD true ns), some told, some (.lst .own F), some (.int i), some (.lst .own (cs.map D.int)), o7, o8], some s0⟩) Q := by
  unfold bTail
  walk_at "v"
  refine run_draw rfl hs (by omega) (by omega) (by omega) fun r st1 r0 r1 hs1 => ?_
  obtain ⟨a, rfl⟩ := Int.eq_ofNat_of_zero_le r0
  walk_at "v"
  refine pickf_run (n := n + 2) (xs := [.non, .int P, .int (-1), .bl true, .str "1", .int 0, .int 1]) hs1 (by omega) rfl (by simp) (by simp) fun odd st2 hodd hs2 => ?_
  have hfo : flatD odd = true := by
    simp only [List.mem_cons, List.not_mem_nil, or_false] at hodd
    rcases hodd with rfl | rfl | rfl | rfl | rfl | rfl | rfl <;> rfl
  have f1 := fun (f : Tag → Tag) => flat_ma (f := f) hfo
  have f2 := fun k => flat_rd (k := k) hfo
  have f3 : ∀ q : Tag → Bool, odd.any q = false := fun q => by cases odd <;> first | rfl | cases hfo
  walk_at "v"
  simp only [f1, f2, f3, Bool.false_eq_true, if_false]
  walk_at "v"
  have k1 : cutD (cs.map D.int) none (some (a : Int)) = (cs.take a).map D.int := by rw [cut_to, List.map_take]
  have k2 : cutD (cs.map D.int) (some ((a : Int) + 1)) none = (cs.drop (a + 1)).map D.int := by
    have := cut_from (xs := cs.map D.int) (k := a + 1)
    rw [show ((a : Int) + 1) = ((a + 1 : Nat) : Int) by omega, this, List.map_drop]
  have l1 : (cs.take a).length ≤ 100 := by rw [List.length_take]; omega
  have l2 : (cs.drop (a + 1)).length ≤ 100 := by rw [List.length_drop]; omega
  simp only [k1, k2, f2, List.length_map]
  refine ⟨by omega, by omega, ?_⟩
  obtain ⟨t3, k3, l3, m3⟩ : ∃ t3 : List Int, cutD (cs.map D.int) none (some (-1)) = t3.map D.int ∧ t3.length ≤ cs.length ∧ ∀ x ∈ t3, x ∈ cs := by
    unfold cutD
    rw [← List.map_drop, ← List.map_take]
    exact ⟨_, rfl, by rw [List.length_take, List.length_drop]; omega, fun x hx => List.mem_of_mem_drop (List.mem_of_mem_take hx)⟩
  have q' := fun r st' => q a odd r t3 st' (by omega) hodd
  generalize cs.take a = t1 at *
  generalize cs.drop (a + 1) = t2 at *
  unfold extV settle settleE settle1
  simp [List.mapIdx_cons, at0, f1, f3, D.fz]
  refine ⟨by omega, ?_⟩
  refine run_draw rfl hs2 (by omega) (by omega) (by omega) fun r st3 r0 r1 hs3 => ?_
  walk_at "v"
  simp only [f1, f2, f3, k3, Bool.false_eq_true, if_false]
  unfold extV settle settleE settle1
  simp [List.mapIdx_cons, at0, f1, f2, f3, D.fz]
  refine ⟨by omega, ?_⟩
  have := q' r st3 r0 r1 l3 m3 (hs3.up (by omega))
  simpa using this
def bSix : VB := (.asg (.nm 6) (.ife (.and_ (.cmp .eq (.ix (.name 3) (.int 0)) (.str "powers")) (.cmp .lt (.name 5) (.int 3))) (.bi .list (.cons (.ix (.name 3) (.int 1)) .nil)) (.call 26 (.cons (.name 0) (.cons (.name 1) (.cons (.int 5) .nil))))))
theorem six_run {s0 : Strm} {B : Int} (hs : SOk B s0) (hB : B ≤ 1000000) (h5 : P5 P) {s : Str} {b2 : D} (h2 : okD b2 = true) (hb : s = "powers" → ∃ ps : List Int, b2 = .lst .fz (ps.map D.int) ∧ ps.length ≤ 40 ∧ Rests P ps) {F : List D} {i : Int} {o6 o7 o8 : Option D} {Q : Fl → Prop} (q : ∀ (cs : List Int) st', cs.length ≤ 40 → Rests P cs → SOk (B + 1002) st' → Q (.nx ⟨[some .strm, some (.int P), some (sqD true ns), some (.tup [.str s, b2]), some (.lst .own F), some (.int i), some (.lst .own (cs.map D.int)), o7, o8], some st'⟩)) :
    Run (exec (callN tab WW (n + 4)) WW bSix ⟨[some .strm, some (.int P), some (sqD true ns), some (.tup [.str s, b2]), some (.lst .own F), some (.int i), o6, o7, o8], some s0⟩) Q := by
  unfold bSix
  have hp := h5.pr.1
  have hk : ∀ k, D.ma (Tag.rc k) b2 = b2 := fun k => ok_ma rfl _ h2
  by_cases hsp : s = "powers"
  · obtain ⟨ps, rfl, hl, hr⟩ := hb hsp
    subst hsp
    walk_at "v"
    split
    · exact q ps s0 hl hr (hs.up (by omega))
    · refine some_powers_run (n := n + 2) (most := 5) hs (by omega) hp (by omega) fun cs st' hr' h1 h2' hs' => ?_
      walk_at "v"
      exact q cs st' (by omega) hr' hs'
  · walk_at "v"
    rw [if_neg hsp]
    refine some_powers_run (n := n + 2) (most := 5) hs (by omega) hp (by omega) fun cs st' hr' h1 h2' hs' => ?_
    walk_at "v"
    exact q cs st' (by omega) hr' hs'
theorem flats_deps : ∀ {xs : List D}, xs.all flatD = true → deps xs = 0
  | [], _ => rfl
  | x :: xs, h => by
    rw [List.all_cons, Bool.and_eq_true] at h
    rw [deps, flats_deps h.2]
    cases x <;> first | rfl | cases h.1
theorem flats_wts : ∀ {xs : List D}, xs.all flatD = true → wts xs = 0
  | [], _ => rfl
  | x :: xs, h => by
    rw [List.all_cons, Bool.and_eq_true] at h
    rw [wts, flats_wts h.2]
    cases x <;> first | rfl | cases h.1
theorem flats_nszs : ∀ {xs : List D}, xs.all flatD = true → nszs xs = 101 * xs.length
  | [], _ => rfl
  | x :: xs, h => by
    rw [List.all_cons, Bool.and_eq_true] at h
    rw [nszs, flats_nszs h.2, List.length_cons]
    cases x <;> first | (simp only [nsz]; omega) | cases h.1
theorem flats_ok : ∀ {xs : List D}, xs.all flatD = true → okDs xs = true
  | [], _ => rfl
  | x :: xs, h => by
    rw [List.all_cons, Bool.and_eq_true] at h
    rw [okDs, flats_ok h.2]
    cases x <;> first | rfl | cases h.1
/-- a thing as it lies in the list -/
structure OT (d : D) : Prop where
  tt : TT (d.ma fun _ => .fz)
  nb : ∀ q : Tag → Bool, q .own = false → q .fz = false → d.any q = false
theorem tt_of {d : D} (h : okD d = true) (hs : smD d = true) (h1 : dep d ≤ 4) (h2 : nsz d ≤ 100000) (h3 : wt d ≤ 10) (hf : ∀ s b2 ys, seqL d = some [.str s, b2] → seqL b2 = some ys → ys.all flatD = true ∧ ys.length ≤ 1000) : TT d := ⟨⟨.inl h, hf⟩, .inr ⟨hs, h1, h2, h3⟩⟩
theorem ot_flat {d : D} (h : flatD d = true) (hs : smD d = true) : OT d := by
  refine ⟨?_, fun q _ _ => by cases d <;> first | rfl | cases h⟩
  rw [flat_ma h]
  cases d <;> first | (cases h; done) | exact tt_of rfl hs (by simp [dep]) (by simp [nsz]) (by simp [wt]) (fun s b2 ys e => by cases e)
def Tag.nf : Tag → Bool | .own => true | .fz => true | _ => false
theorem ot_pairL {s : Str} {xs : List D} {t : Tag} (ht : t = .own ∨ t = .fz) (h : xs.all flatD = true) (hs : smDs xs = true) (hl : xs.length ≤ 100) (hss : smD (.str s) = true) : OT (.tup [.str s, .lst t xs]) := by
  have h1 := flats_mas (f := fun _ => Tag.fz) h
  have h2 := flats_deps h
  have h3 := flats_wts h
  have h4 := flats_nszs h
  have h5 := flats_ok h
  refine ⟨?_, fun q q1 q2 => ?_⟩
  · simp only [ma_tup, mas_cons, mas_nil, ma_str, ma_lst, h1]
    refine tt_of ?_ ?_ ?_ ?_ ?_ ?_
    · simp [okD, okDs, h5]; omega
    · show (smD (.str s) && (smDs xs && true)) = true
      rw [hss, hs]; rfl
    · simp only [dep, deps, h2]; omega
    · simp only [nsz, nszs, h4]; omega
    · simp only [wt, wts, h3]; omega
    · intro s' b2 ys e1 e2
      cases e1
      cases e2
      exact ⟨h, by omega⟩
  · have := flats_any (q := q) h
    simp only [any_tup, anys_cons, anys_nil, any_str, any_lst, this]
    rcases ht with rfl | rfl <;> simp [q1, q2]
theorem ot_pairF {s : Str} {x : D} (h : flatD x = true) (hs : smD x = true) (hss : smD (.str s) = true) : OT (.tup [.str s, x]) := by
  refine ⟨?_, fun q q1 q2 => ?_⟩
  · simp only [ma_tup, mas_cons, mas_nil, ma_str, flat_ma h]
    cases x <;> first | (cases h; done) | skip
    all_goals refine tt_of ?_ ?_ ?_ ?_ ?_ ?_
    all_goals first | (simp [okD, okDs]; done) | (show (smD (.str s) && (smD _ && true)) = true; rw [hss, hs]; rfl) | (simp [dep, deps]; done) | (simp [nsz, nszs]; done) | (simp [wt, wts]; done) | (intro s' b2 ys e1 e2; cases e1; cases e2)
  · cases x <;> first | (cases h; done) | rfl
theorem sm_powers : smD (.str "powers") = true := by decide +kernel
theorem sm_step : smD (.str "step") = true := by decide +kernel
theorem sm_Step : smD (.str "Step") = true := by decide +kernel
theorem sm_1 : smD (.str "1") = true := by decide +kernel
theorem flats_ints {ns : List Int} : (ns.map D.int).all flatD = true := by
  rw [List.all_map]
  exact List.all_eq_true.mpr fun _ _ => rfl
theorem sm_rests {ps : List Int} (h5 : P5 P) (hr : Rests P ps) : smDs (ps.map D.int) = true := smDs_ints fun x hx => by
  have := hr x hx
  have := h5.pr.2
  omega
def bF (s : Str) (b2 : D) : List D := [.tup [.str s, b2], .lst .own [.str s, b2], .tup [.str s, b2, .int 1], .tup [b2, .str s], .non, .int 5, .str (Str.ofString "step"), .dk .own [] [], .lst .own [], .tup [.str (Str.ofString "Step"), .int 0], .tup [.non, .lst .own []], .tup [.str (Str.ofString "powers"), .non]]
theorem bF_ot (h5 : P5 P) {s : Str} {b2 : D} (hb : (s = "powers" ∧ ∃ ps : List Int, b2 = .lst .fz (ps.map D.int) ∧ ps.length ≤ 40 ∧ Rests P ps) ∨ (s = "step" ∧ ∃ i : Int, b2 = .int i ∧ 0 ≤ i ∧ i < 1000)) : ∀ d ∈ bF s b2, OT d := by
  have hss : smD (.str s) = true := by
    rcases hb with ⟨rfl, _⟩ | ⟨rfl, _⟩
    · exact sm_powers
    · exact sm_step
  have hss' := hss
  simp only [smD] at hss'
  have c0 : OT (.lst .own [] : D) := ⟨tt_of rfl rfl (by simp [dep, deps]) (by simp [nsz, nszs]) (by simp [wt, wts]) (fun _ _ _ e => by cases e), fun q h1 h2 => by simp [h1]⟩
  have c1 : OT (.dk .own [] [] : D) := ⟨⟨⟨.inr rfl, fun _ _ _ e => by cases e⟩, .inl rfl⟩, fun q h1 h2 => by simp [h1]⟩
  have c2 : OT (.tup [.non, .lst .own []] : D) := ⟨tt_of rfl rfl (by simp [dep, deps]) (by simp [nsz, nszs]) (by simp [wt, wts]) (fun _ _ _ e => by cases e), fun q h1 h2 => by simp [h1]⟩
  have c3 := ot_pairF (s := "Step") (x := .int 0) rfl rfl sm_Step
  have c4 := ot_pairF (s := "powers") (x := .non) rfl rfl sm_powers
  have hS := sm_step
  intro d hd
  simp only [bF, List.mem_cons, List.not_mem_nil, or_false] at hd
  rcases hb with ⟨rfl, ps, rfl, hl, hr⟩ | ⟨rfl, i, rfl, h0, h1⟩
  · have hsr := sm_rests h5 hr
    have e1 : ∀ xs : List D, (xs = [.str "powers", .lst .fz (ps.map D.int)] ∨ xs = [.str "powers", .lst .fz (ps.map D.int), .int 1] ∨ xs = [.lst .fz (ps.map D.int), .str "powers"]) → okDs xs = true ∧ smDs xs = true ∧ deps xs ≤ 3 ∧ nszs xs ≤ 90000 ∧ wts xs ≤ 9 ∧ D.mas (fun _ => .fz) xs = xs ∧ xs.length < 1000000 ∧ (∀ q : Tag → Bool, q .fz = false → D.anys q xs = false) ∧ ∀ s b2 ys, xs = [.str s, b2] → seqL b2 = some ys → ys.all flatD = true ∧ ys.length ≤ 1000 := by
      intro xs h
      have hk : ∀ s b2 ys, xs = [.str s, b2] → seqL b2 = some ys → ys.all flatD = true ∧ ys.length ≤ 1000 := by
        intro s b2 ys e1 e2
        rcases h with rfl | rfl | rfl
        · cases e1; cases e2; exact ⟨flats_ints, by rw [List.length_map]; omega⟩
        · cases e1
        · cases e1
      rcases h with rfl | rfl | rfl
      all_goals refine ⟨?_, ?_, ?_, ?_, ?_, ?_, ?_, ?_, hk⟩
      all_goals first | (simp [okDs, okD]; omega) | (simp [okDs, okD]; done) | (simp only [smDs, smD, hss', hsr]; rfl) | (simp [deps, dep]; done) | (simp [nszs, nsz]; omega) | (simp [wts, wt]; done) | (simp; done) | (intro q hq; simp [hq])
    have e2 : ∀ xs : List D, (xs = [.str "powers", .lst .fz (ps.map D.int)] ∨ xs = [.str "powers", .lst .fz (ps.map D.int), .int 1] ∨ xs = [.lst .fz (ps.map D.int), .str "powers"]) → OT (.tup xs) ∧ OT (.lst .own xs) := by
      intro xs h
      obtain ⟨a1, a2, a3, a4, a5, a6, a7, a8, a9⟩ := e1 xs h
      refine ⟨⟨?_, fun q q1 q2 => ?_⟩, ⟨?_, fun q q1 q2 => ?_⟩⟩
      · rw [ma_tup, a6]
        exact tt_of (by simp [okD, a1, a7]) (by simpa only [smD] using a2) (by simp only [dep]; omega) (by simp only [nsz]; omega) (by simp only [wt]; omega) (fun s b2 ys e1 e2 => a9 s b2 ys (by injection e1) e2)
      · rw [any_tup]; exact a8 q q2
      · rw [ma_lst, a6]
        exact tt_of (by simp [okD, a1, a7]) (by simpa only [smD] using a2) (by simp only [dep]; omega) (by simp only [nsz]; omega) (by simp only [wt]; omega) (fun s b2 ys e1 e2 => a9 s b2 ys (by injection e1) e2)
      · rw [any_lst, a8 q q2, q1]; rfl
    rcases hd with rfl | rfl | rfl | rfl | rfl | rfl | rfl | rfl | rfl | rfl | rfl | rfl
    · exact (e2 _ (.inl rfl)).1
    · exact (e2 _ (.inl rfl)).2
    · exact (e2 _ (.inr (.inl rfl))).1
    · exact (e2 _ (.inr (.inr rfl))).1
    · exact ot_flat rfl rfl
    · exact ot_flat rfl rfl
    · exact ot_flat rfl hS
    · exact c1
    · exact c0
    · exact c3
    · exact c2
    · exact c4
  · have hi : smD (.int i) = true := by simp only [smD, Bool.and_eq_true, decide_eq_true_eq]; omega
    have hi' := hi
    simp only [smD] at hi'
    have e1 : ∀ xs : List D, (xs = [.str "step", .int i] ∨ xs = [.str "step", .int i, .int 1] ∨ xs = [.int i, .str "step"]) → OT (.tup xs) ∧ OT (.lst .own xs) := by
      intro xs h
      have hk : ∀ s b2 ys, xs = [.str s, b2] → seqL b2 = some ys → ys.all flatD = true ∧ ys.length ≤ 1000 := by
        intro s b2 ys e1 e2
        rcases h with rfl | rfl | rfl
        · cases e1; cases e2
        · cases e1
        · cases e1
      rcases h with rfl | rfl | rfl
      all_goals refine ⟨⟨tt_of rfl ?_ (by simp [dep, deps]) (by simp [nsz, nszs]) (by simp [wt, wts]) (fun s b2 ys e1 e2 => hk s b2 ys (by injection e1) e2), fun q q1 q2 => by simp⟩, ⟨tt_of rfl ?_ (by simp [dep, deps]) (by simp [nsz, nszs]) (by simp [wt, wts]) (fun s b2 ys e1 e2 => hk s b2 ys (by injection e1) e2), fun q q1 q2 => by simp [q1]⟩⟩
      all_goals (simp only [ma_tup, ma_lst, mas_cons, mas_nil, ma_str, ma_int, smD, smDs, hss', hi']; rfl)
    rcases hd with rfl | rfl | rfl | rfl | rfl | rfl | rfl | rfl | rfl | rfl | rfl | rfl
    · exact (e1 _ (.inl rfl)).1
    · exact (e1 _ (.inl rfl)).2
    · exact (e1 _ (.inr (.inl rfl))).1
    · exact (e1 _ (.inr (.inr rfl))).1
    · exact ot_flat rfl rfl
    · exact ot_flat rfl rfl
    · exact ot_flat rfl hS
    · exact c1
    · exact c0
    · exact c3
    · exact c2
    · exact c4
theorem ots_any {F : List D} (h : ∀ d ∈ F, OT d) {q : Tag → Bool} (q1 : q .own = false) (q2 : q .fz = false) : D.anys q F = false := by
  induction F with
  | nil => rfl
  | cons x xs ih => rw [anys_cons, (h x List.mem_cons_self).nb q q1 q2, ih fun d hd => h d (List.mem_cons_of_mem _ hd)]; rfl
theorem things_run {s0 : Strm} {B : Int} (hs : SOk B s0) (hB : B ≤ 900000) (h5 : P5 P) (hl : ns.length ≤ 100) {s : Str} {b2 : D} (hb : (s = "powers" ∧ ∃ ps : List Int, b2 = .lst .fz (ps.map D.int) ∧ ps.length ≤ 40 ∧ Rests P ps) ∨ (s = "step" ∧ ∃ i : Int, b2 = .int i ∧ 0 ≤ i ∧ i < 1000)) {Q : D × Option Strm → Prop} (q : ∀ ds st', ds.length ≤ 100 → (∀ d ∈ ds, OT d) → SOk (B + 7000) st' → Q (.lst .own ds, some st')) :
    Run (callN tab WW (n + 5) 29 [.strm, .int P, sqD true ns, .tup [.str s, b2]] (some s0)) Q := by
  refine run_callN (d := ⟨9, 4, b__law_things⟩) rfl rfl ?_; unfold b__law_things
  have hp := h5.pr.1
  have hot := bF_ot h5 hb
  have h2 : okD b2 = true := by
    rcases hb with ⟨rfl, ps, rfl, hl, hr⟩ | ⟨rfl, i, rfl, h0, h1⟩
    · simp [okD]; omega
    · rfl
  have hk : D.ma (Tag.rc 3) b2 = b2 := ok_ma rfl _ h2
  have b2u : b2.ma Tag.un = b2 := ok_ma rfl _ h2
  have b2B : b2.any Tag.isB = false := ok_any (p := Tag.isB) rfl _ h2
  walk_at "v"
  simp only [hk, b2u, b2B, Bool.false_eq_true, if_false]
  walk_at "v"
  generalize hF : [D.tup [D.str s, b2], D.lst Tag.own [D.str s, b2], D.tup [D.str s, b2, D.int 1], D.tup [b2, D.str s], D.non, D.int 5, D.str (Str.ofString "step"), D.dk Tag.own [] [], D.lst Tag.own [], D.tup [D.str (Str.ofString "Step"), D.int 0], D.tup [D.non, D.lst Tag.own []], D.tup [D.str (Str.ofString "powers"), D.non]] = F
  have hF : bF s b2 = F := hF
  rw [hF] at hot
  have hFl : F.length = 12 := by rw [← hF]; rfl
  refine for_by _ (fun i st => ∃ F o5 o6 o7 o8 s1, F.length = 12 + 6 * i ∧ (∀ d ∈ F, OT d) ∧ SOk (B + 1100 * i) s1 ∧ st = ⟨[some .strm, some (.int P), some (sqD true ns), some (.tup [.str s, b2]), some (.lst .own F), o5, o6, o7, o8], some s1⟩) ⟨F, _, _, _, _, s0, by omega, hot, hs.up (by omega), rfl⟩ ?_ ?_
  · rintro i d st hi ⟨F, o5, o6, o7, o8, s1, hFl, hot, hs1, rfl⟩
    obtain ⟨rfl, hi6⟩ := range_get hi
    simp only [asg_nm, List.length_cons, List.length_nil, List.set_cons_succ, List.set_cons_zero, run_bind, run_guard, run_ok]
    refine ⟨rfl, ?_⟩
    show Run (exec (callN tab WW (n + 4)) WW (.seq bSix bTail) _) _
    rw [run_seq]
    refine six_run (P := P) hs1 (by omega) h5 h2 (fun e => ?_) fun cs st2 hcl hcr hs2 => ?_
    · rcases hb with ⟨rfl, h⟩ | ⟨rfl, h⟩
      · exact h
      · cases e
    · show Run (exec (callN tab WW (n + 4)) WW bTail _) _
      refine turn_run hs2 (by omega) h5 hl (by omega) (fun q q1 q2 => ots_any hot q1 q2) (by omega) fun a odd r t3 st3 ha hodd r0 r1 h3 h3m hs3 => ?_
      have hfo : flatD odd = true ∧ smD odd = true := by
        have := h5.pr.2
        simp only [List.mem_cons, List.not_mem_nil, or_false] at hodd
        rcases hodd with rfl | rfl | rfl | rfl | rfl | rfl | rfl <;> refine ⟨rfl, ?_⟩ <;> first | (simp only [smD]; done) | (simp only [smD, Bool.and_eq_true, decide_eq_true_eq]; omega) | exact sm_1
      have hcs := sm_rests h5 hcr
      have hmem : ∀ {xs : List Int}, (∀ x ∈ xs, x ∈ cs) → smDs (xs.map D.int) = true := fun h => sm_rests h5 fun x hx => hcr x (h x hx)
      refine ⟨_, _, _, _, _, st3, ?_, ?_, hs3.up (by omega), rfl⟩
      · simp only [List.length_append, List.length_cons, List.length_nil, hFl]; omega
      · intro d hd
        simp only [List.mem_append, List.mem_cons, List.not_mem_nil, or_false] at hd
        have smapp : ∀ xs ys : List D, smDs (xs ++ ys) = (smDs xs && smDs ys) := fun xs ys => by
          induction xs with
          | nil => rfl
          | cons x xs ih => rw [List.cons_append, smDs, smDs, ih, Bool.and_assoc]
        rcases hd with (hd | rfl | rfl | rfl) | rfl | rfl | rfl
        · exact hot d hd
        · exact ot_pairL (.inr rfl) flats_ints hcs (by rw [List.length_map]; omega) sm_powers
        · exact ot_pairL (.inl rfl) (by rw [List.all_append, flats_ints]; rfl) (by rw [smapp, hcs]; rfl) (by simp; omega) sm_powers
        · refine ot_pairL (.inl rfl) (by rw [List.all_append, List.all_cons, flats_ints, flats_ints, hfo.1]; rfl) ?_ (by simp; omega) sm_powers
          rw [smapp, smDs, hfo.2, hmem fun x hx => List.mem_of_mem_take hx, hmem fun x hx => List.mem_of_mem_drop hx]; rfl
        · exact ot_pairF rfl (by simp only [smD, Bool.and_eq_true, decide_eq_true_eq]; omega) sm_step
        · exact ot_pairF hfo.1 hfo.2 sm_step
        · exact ot_pairL (.inl rfl) flats_ints (hmem h3m) (by rw [List.length_map]; omega) sm_powers
  · rintro st ⟨F, o5, o6, o7, o8, s1, hFl, hot, hs1, rfl⟩
    rw [range_len] at hFl hs1
    walk_at "v"
    exact q F s1 (by omega) hot (hs1.up (by omega))
end
end VL.K76
end

/-! text: K76U -/
section
set_option maxHeartbeats 4000000
namespace VL.K76
open PySem PySem.Spec PyProof.Rows L2 VL
local macro_rules | `(tactic| walk_at "v") => `(tactic| simp (config := {maxSteps := 4000000}) (disch := omega) [List.getElem?_cons_zero, ilt_t, ilt_f, ile_t, ile_f, ieq_t, ieq_f, nlt_t, nlt_f, nle_t, nle_f, neq_t, neq_f, mulOk_l, mulOk_r, divOk_of, small_of, rngOk_num, comp_cons, comp_nil, -List.map_reverse, -List.map_tail, -List.map_map, rev_ints, tail_ints, -bi_reprL, -bi_reprT])
/-- the indexes of what is not 0 -/
def nzI (k : Nat) : List Int → List Int
  | [] => []
  | x :: xs => if x ≠ 0 then (k : Int) :: nzI (k + 1) xs else nzI (k + 1) xs
theorem nzI_snoc (x : Int) : ∀ (l : List Int) (k : Nat), nzI k (l ++ [x]) = nzI k l ++ (if x ≠ 0 then [((k + l.length : Nat) : Int)] else [])
  | [], k => by simp only [List.nil_append, nzI, List.length_nil, Nat.add_zero]
  | y :: l, k => by
    rw [List.cons_append, nzI, nzI, nzI_snoc x l (k + 1), List.length_cons, show k + 1 + l.length = k + (l.length + 1) by omega]
    split <;> simp
theorem nzI_first : ∀ (l : List Int) (k : Nat), (firstNZ l = none → nzI k l = []) ∧ (∀ i, firstNZ l = some i → ∃ r, nzI k l = ((k + i : Nat) : Int) :: r)
  | [], k => ⟨fun _ => rfl, fun i h => by cases h⟩
  | x :: l, k => by
    obtain ⟨h1, h2⟩ := nzI_first l (k + 1)
    rw [firstNZ, nzI]
    by_cases hx : x ≠ 0
    · rw [if_pos hx, if_pos hx]
      exact ⟨fun h => (by cases h), fun i h => by cases h; exact ⟨_, rfl⟩⟩
    · rw [if_neg hx, if_neg hx]
      refine ⟨fun h => h1 ?_, fun i h => ?_⟩
      · cases e : firstNZ l with
        | none => rfl
        | some j => rw [e] at h; cases h
      · cases e : firstNZ l with
        | none => rw [e] at h; cases h
        | some j =>
          rw [e] at h
          cases h
          obtain ⟨r, hr⟩ := h2 j e
          exact ⟨r, by rw [hr, show k + 1 + j = k + (j + 1) by omega]⟩
theorem firstNZ_lt : ∀ {l : List Int} {i : Nat}, firstNZ l = some i → i < l.length
  | x :: l, i, h => by
    rw [firstNZ] at h
    split at h
    · cases h; simp
    · cases e : firstNZ l with
      | none => rw [e] at h; cases h
      | some j =>
        rw [e] at h
        cases h
        have := firstNZ_lt e
        simp; omega
theorem nzI_len : ∀ (l : List Int) (k : Nat), (nzI k l).length ≤ l.length
  | [], _ => Nat.le_refl _
  | x :: l, k => by
    have := nzI_len l (k + 1)
    rw [nzI]
    split <;> simp <;> omega
/-- what a look tells -/
structure FF (f : D) : Prop where
  ok : okD f = true
  dp : dep f ≤ 1
  an : ∀ p : Tag → Bool, f.any p = false
theorem FF.ma {f : D} (h : FF f) {g : Tag → Tag} (hg : g .fz = .fz) : f.ma g = f := ok_ma hg f h.ok
theorem FF.rd {f : D} (h : FF f) {n : Nat} : f.rd n = f := ok_rd h.ok
section
variable {n : Nat} {st : Option Strm} {b : Bool} {ns : List Int} {P m : Nat}
theorem faultB_FF {s : Str} {b2 : D} : FF (faultB P ns m s b2) := by
  have g : ∀ xs : List D, xs.all flatD = true → xs.length ≤ 10 → FF (.tup xs) := fun xs h hl => ⟨by rw [okD, flats_ok h]; simp; omega, by rw [dep, flats_deps h]; omega, fun p => by rw [any_tup, flats_any h]⟩
  have gn : FF (.non : D) := ⟨rfl, by simp [dep], fun p => rfl⟩
  unfold faultB
  split
  · split
    · split
      · exact g _ rfl (by simp)
      · split
        · exact g _ rfl (by simp)
        · exact gn
    · exact g _ rfl (by simp)
  · split
    · split
      · split
        · split
          · exact g _ rfl (by simp)
          · exact gn
        · exact g _ rfl (by simp)
      · exact g _ rfl (by simp)
    · exact g _ rfl (by simp)
theorem faultP_FF {d : D} : FF (faultP P ns m d) := by
  unfold faultP
  split
  · exact faultB_FF
  · exact ⟨rfl, by simp [dep, deps], fun p => rfl⟩
theorem same_run {d : D} (h1 : dep d ≤ n) (h2 : okD d = true) : callN tab WW (n + 1) 19 [d, d] st = .ok (.bl true, st) := same_refl (k := 19) rfl n d st h1 h2
/-- the copy that is handed in -/
structure PP (P m : Nat) (ns : List Int) (d e : D) : Prop where
  ok : TOk (e.ma fun _ => .fz)
  eq : faultP P ns m (e.ma fun _ => .fz) = faultP P ns m d
  re : ∃ r, ∀ n, biD .repr [e.rd n] = .ok (.str r)
  un : e.ma Tag.un = e
  nb : e.any Tag.isB = false
theorem thing_copy {s0 : Strm} {B : Int} (hs : SOk B s0) (hB : B ≤ 1000000) {d : D} (h : TT d) {Q : D × Option Strm → Prop} (q : ∀ e st', PP P m ns d e → SOk (B + 10) st' → Q (e, some st')) : ∃ c : D, (∀ st, callN tab WW (n + 7) 21 [d] st = .ok (c, st)) ∧ c.ma (fun _ => .fz) = d ∧ c.any Tag.isB = false ∧ Run (callN tab WW (n + 7) 20 [.strm, d] (some s0)) Q := by
  rcases h.sm with rfl | ⟨h1, h2, h3, h4⟩
  · refine ⟨.dk .own [] [], fun st => copied_dict (n := n + 6) (t := .own) rfl, rfl, rfl, ?_⟩
    rw [loose_dict (n := n + 6) (kd := 17) rfl]
    exact run_ok.mpr (q _ _ ⟨h.tok, rfl, ⟨_, fun n => rfl⟩, rfl, rfl⟩ (hs.up (by omega)))
  · have hok : okD d = true := by
      rcases h.tok.ok with h | rfl
      · exact h
      · cases h1
    refine ⟨cp d, fun st => copied_gen (n := n + 6) rfl d st (by omega) hok, cp_fz d hok, own_any rfl _ (cp_own d hok), ?_⟩
    refine loose_gen (n := n + 5) (kd := 17) (k := 20) rfl rfl d s0 B Q (by omega) hok hs (by omega) fun e st' e1 e2 e3 => ?_
    have hrd : dep (e.ma fun _ => .fz) = dep d := by rw [← dep_nrm, nrm_ma, e1, dep_nrm]
    refine q e st' ⟨⟨.inl (own_ok e e2), ?_⟩, ?_, ?_, own_ma rfl e e2, own_any rfl e e2⟩ (e3.up (by omega))
    · intro s b2 ys he hy
      have hn : nrm (e.ma fun _ => .fz) = nrm d := by rw [nrm_ma, e1]
      rcases seqL_nrm hn with ⟨g1, g2⟩ | ⟨xs, zs, g1, g2, g3⟩
      · rw [g1] at he; cases he
      · rw [g1] at he
        cases he
        match zs, g3 with
        | [], g3 => cases g3
        | [a], g3 => simp only [nrms] at g3; injection g3 with _ g4; cases g4
        | [a, b3], g3 =>
          simp only [nrms] at g3
          injection g3 with g4 g5
          injection g5 with g5 _
          cases a with
          | str s' =>
            rcases seqL_nrm g5 with ⟨k1, k2⟩ | ⟨us, ws, k1, k2, k3⟩
            · rw [k1] at hy; cases hy
            · rw [k1] at hy
              cases hy
              obtain ⟨f1, f2⟩ := h.tok.fl s' b3 ws g2 k2
              have := nrms_flat k3 f1
              rw [this]; exact ⟨f1, f2⟩
          | _ => simp only [nrm] at g4; cases g4
        | _ :: _ :: _ :: _, g3 => simp only [nrms] at g3; injection g3 with _ g4; injection g4 with _ g4; cases g4
    · exact faultP_nrm (by rw [nrm_ma, e1]) fun s b2 ys h1 h2 => (h.tok.fl s b2 ys h1 h2).1
    · exact ⟨_, fun n => repr_like e1 h1 (by omega) (by omega)⟩
def bLoop : VB := (.seq (.par2 11 12 (.cons (.call 28 (.cons (.name 1) (.cons (.name 2) (.cons (.name 3) (.cons (.name 6) .nil))))) (.cons (.call 20 (.cons (.name 0) (.cons (.call 21 (.cons (.name 6) .nil)) .nil))) .nil)))
    (.seq (.par2 9 13 (.cons (.bi .repr (.cons (.name 12) .nil)) (.cons (.lst (.cons (.call 16 (.cons (.name 1) (.cons (.bi .list (.cons (.name 2) .nil)) (.cons (.name 3) (.cons (.name 12) .nil))))) .nil)) .nil)))
    (.seq (.if_ (.cmp .eq (.call 17 (.cons (.name 0) (.cons (.int 3) .nil))) (.int 0))
    (.seq (.app 13 (.callK 16 .nil (.cons (.name 12) (.cons (.name 3) (.cons (.bi .tuple (.cons (.name 2) .nil)) (.cons (.name 1) .nil)))) 0 ["thing", "many", "numbers", "prime"] [3, 2, 1, 0]))
    .pass)
    .pass)
    (.seq (.if_ (.or_ (.not_ (.call 19 (.cons (.name 13) (.cons (.bin .mul (.lst (.cons (.name 11) .nil)) (.bi .len (.cons (.name 13) .nil))) .nil)))) (.cmp .ne (.bi .repr (.cons (.name 12) .nil)) (.name 9)))
    (.seq (.ret (.bl false))
    .pass)
    .pass)
    .pass))))
@[simp] theorem sq_tuple {b : Bool} {ns : List Int} : biD .tuple [sqD b ns] = .ok (sqD false ns) := by cases b <;> rfl
theorem loop_run {s0 : Strm} {B : Int} (hs : SOk B s0) (hB : B ≤ 1000000) (h5 : P5 P) (hr : Rests P ns) (hl : ns.length ≤ 100) (hm : m ≤ P) {d : D} (h : TT d) {o4 o5 o7 o8 o9 o10 o11 o12 o13 o14 o15 : Option D} {Q : Fl → Prop} (q : ∀ o9 o11 o12 o13 st', SOk (B + 20) st' → Q (.nx ⟨[some .strm, some (.int P), some (sqD true ns), some (.int m), o4, o5, some d, o7, o8, o9, o10, o11, o12, o13, o14, o15], some st'⟩)) :
    Run (exec (callN tab WW (n + 10)) WW bLoop ⟨[some .strm, some (.int P), some (sqD true ns), some (.int m), o4, o5, some d, o7, o8, o9, o10, o11, o12, o13, o14, o15], some s0⟩) Q := by
  unfold bLoop
  have hff : FF (faultP P ns m d) := faultP_FF
  have dB : d.any Tag.isB = false := by
    rcases h.tok.ok with h | rfl
    · exact ok_any rfl d h
    · rfl
  have drd : ∀ k, (d.rd k).ma (fun _ => .fz) = d := fun k => by
    rcases h.tok.ok with h | rfl
    · rw [ok_rd h, ok_ma rfl d h]
    · rfl
  have drd2 : ∀ k, (d.rd k).any Tag.isB = false := fun k => by
    rcases h.tok.ok with h | rfl
    · rw [ok_rd h]; exact dB
    · rfl
  obtain ⟨c, hc1, hc2, hc3, hc4⟩ := thing_copy (n := n + 3) (P := P) (m := m) (ns := ns) hs hB h (Q := fun r => ∃ e st', r = (e, some st') ∧ PP P m ns d e ∧ SOk (B + 10) st') fun e st' h1 h2 => ⟨e, st', rfl, h1, h2⟩
  have hlf := fun n st => lfault_run (n := n) (st := st) (b := true) (ns := ns) h5 hr (by omega) hm h.tok
  generalize hf : faultP P ns m d = f at *
  have fa := hff.an
  have fm := fun g hg => hff.ma (g := g) hg
  have fr := fun n => hff.rd (n := n)
  walk_at "v"
  simp only [drd, hlf, run_ok, fa, Bool.false_eq_true, if_false]
  walk_at "v"
  simp only [drd, hc1, run_ok, drd2, hc3]
  simp only [Bool.or_false, Bool.false_eq_true, if_false, ite_self]
  walk_at "v"
  simp only [hc2]
  refine Run.mono hc4 fun r hr' => ?_
  obtain ⟨e, s1, rfl, he, hs1⟩ := hr'
  have eB := he.nb
  have eU := he.un
  obtain ⟨re, hre⟩ := he.re
  have efz : ∀ k, (e.rd k).ma (fun _ => .fz) = e.ma fun _ => .fz := fun k => fz_rd e
  have hfr := fun n st b => fault_run (n := n) (st := st) (b := b) (ns := ns) h5 hr (by omega) hm he.ok
  rw [he.eq, hf] at hfr
  simp only [hc3, eB, eU, fa, fm Tag.un rfl, Bool.or_false, Bool.false_eq_true, if_false, ite_self, run_ok]
  walk_at "v"
  simp only [hre, run_ok]
  walk_at "v"
  simp only [sq_lst, efz, hfr, run_ok, fa, Bool.false_eq_true, if_false, fm Tag.un rfl]
  walk_at "v"
  refine run_draw rfl hs1 (by omega) (by omega) (by omega) fun r s2 r0 r1 hs2 => ?_
  walk_at "v"
  have f1 := fm (Tag.rc 13) rfl
  have f2 := fm Tag.un rfl
  have f3 := fm (fun _ => Tag.fz) rfl
  have ffB : ∀ g : Tag → Bool, f.any g = false := fa
  have okF := hff.ok
  have dpF := hff.dp
  have hsame1 := fun (n : Nat) (st : Option Strm) => same_run (n := n + 2) (st := st) (d := .lst .fz [f]) (by simp only [dep, deps]; omega) (by simp [okD, okDs, okF])
  have hsame2 := fun (n : Nat) (st : Option Strm) => same_run (n := n + 2) (st := st) (d := .lst .fz [f, f]) (by simp only [dep, deps]; omega) (by simp [okD, okDs, okF])
  split
  · simp only [efz, hfr, run_ok, fa, f1, f2, f3, fr, Bool.or_false, Bool.false_eq_true, if_false]
    walk_at "v"
    simp only [efz, hfr, run_ok, fa, f1, f2, f3, fr, Bool.or_false, Bool.false_eq_true, if_false]
    refine ⟨by unfold noOwns; simp [ffB], ?_⟩
    simp only [hsame2, run_ok]
    walk_at "v"
    simp only [hre, run_ok]
    walk_at "v"
    exact q _ _ _ _ _ (hs2.up (by omega))
  · simp only [f1, f2, f3, fr, hsame1, run_ok]
    walk_at "v"
    simp only [hre, run_ok]
    walk_at "v"
    exact ⟨by unfold noOwns; simp [ffB], q _ _ _ _ _ (hs2.up (by omega))⟩
def bRest : VB := (.seq (.if_ (.not_ (.call 19 (.cons (.callK 15 .nil (.cons (.name 3) (.cons (.bi .list (.cons (.name 2) .nil)) (.cons (.name 1) .nil))) 0 ["many", "numbers", "prime"] [2, 1, 0]) (.cons (.name 5) .nil))))
    (.seq (.ret (.bl false))
    .pass)
    .pass)
    (.seq (.for_ (.nm 6) (.call 29 (.cons (.name 0) (.cons (.name 1) (.cons (.name 2) (.cons (.name 5) .nil)))))
      bLoop)
    (.seq (.ret (.bl true))
    .pass)))
theorem settle1_no {ds : List D} {i : Nat} {o : Option D} (h1 : D.anys (fun t => decide (t = .br i)) ds = false) (h2 : D.anys (fun t => decide (t = .bc i)) ds = false) : settle1 ds i o = o := by
  cases o with
  | none => rfl
  | some x => unfold settle1; rw [h1, h2]; rfl
theorem mem_mas : ∀ {ds : List D} {d : D}, d ∈ D.mas (fun _ => Tag.fz) ds → ∃ x ∈ ds, d = x.ma fun _ => .fz
  | x :: xs, d, h => by
    rw [mas_cons] at h
    rcases List.mem_cons.mp h with rfl | h
    · exact ⟨x, List.mem_cons_self, rfl⟩
    · obtain ⟨y, h1, h2⟩ := mem_mas h
      exact ⟨y, List.mem_cons_of_mem _ h1, h2⟩
theorem rest_run {s0 : Strm} {B : Int} (hs : SOk B s0) (hB : B ≤ 800000) (h5 : P5 P) (hr : Rests P ns) (hl : ns.length ≤ 100) (hm : m ≤ P) {s : Str} {b2 b5 : D} (hb : (s = "powers" ∧ ∃ ps : List Int, b2 = .lst .fz (ps.map D.int) ∧ b5 = .lst .own (ps.map D.int) ∧ ps.length ≤ 40 ∧ Rests P ps) ∨ (s = "step" ∧ ∃ i : Int, b2 = .int i ∧ b5 = .int i ∧ 0 ≤ i ∧ i < 1000)) {e : D} (he1 : e.ma (fun _ => .fz) = .tup [.str s, b2]) (he2 : e.any Tag.isB = false) (he3 : ∀ st, callN tab WW (n + 10) 15 [.int P, sqD true ns, .int m] st = .ok (e, st)) {o4 o6 o7 o8 o9 o10 o11 o12 o13 o14 o15 : Option D} {Q : Fl → Prop} (q : ∀ st', SOk (B + 10000) st' → Q (.rt (.bl true) (some st'))) :
    Run (exec (callN tab WW (n + 10)) WW bRest ⟨[some .strm, some (.int P), some (sqD true ns), some (.int m), o4, some (.tup [.str s, b5]), o6, o7, o8, o9, o10, o11, o12, o13, o14, o15], some s0⟩) Q := by
  unfold bRest
  have hb' : (s = "powers" ∧ ∃ ps : List Int, b2 = .lst .fz (ps.map D.int) ∧ ps.length ≤ 40 ∧ Rests P ps) ∨ (s = "step" ∧ ∃ i : Int, b2 = .int i ∧ 0 ≤ i ∧ i < 1000) := hb.imp (fun ⟨h, ps, h1, _, h2, h3⟩ => ⟨h, ps, h1, h2, h3⟩) (fun ⟨h, i, h1, _, h2, h3⟩ => ⟨h, i, h1, h2, h3⟩)
  have h2 : okD b2 = true ∧ dep b2 ≤ 1 := by
    rcases hb with ⟨rfl, ps, rfl, _, hl, hr⟩ | ⟨rfl, i, rfl, _, h0, h1⟩
    · simp [okD, dep]; omega
    · exact ⟨rfl, by simp [dep]⟩
  have b5f : (D.ma (fun _ => .fz) (D.ma (Tag.rc 5) b5)) = b2 := by
    rcases hb with ⟨rfl, ps, rfl, rfl, hl, hr⟩ | ⟨rfl, i, rfl, rfl, h0, h1⟩ <;> simp
  have hsame := fun (n : Nat) (st : Option Strm) => same_run (n := n + 3) (st := st) (d := .tup [.str s, b2]) (by simp only [dep, deps]; omega) (by simp [okD, okDs, h2.1])
  have loop : ∀ (o5 : Option D) (ds : List D) (s1 : Strm), ds.length ≤ 100 → (∀ d ∈ ds, OT d) → SOk (B + 7000) s1 → Run (forGo (fun d s => asgG (.nm 6) d s.ρ >>= fun ρ => .ok ⟨ρ, s.st⟩) (exec (callN tab WW (n + 10)) WW bLoop) (D.mas (fun _ => Tag.fz) ds) ⟨[some .strm, some (.int P), some (sqD true ns), some (.int m), o4, o5, o6, o7, o8, o9, o10, o11, o12, o13, o14, o15], some s1⟩) fun r => Run (match r with | Fl.nx s => exec (callN tab WW (n + 10)) WW (.seq (.ret (.bl true)) .pass) s | r => .ok r) Q := by
    intro o5 ds s1 hdl hot hs1
    refine for_by _ (fun i st => ∃ o6 o9 o11 o12 o13 s1, SOk (B + 7000 + 20 * i) s1 ∧ st = ⟨[some .strm, some (.int P), some (sqD true ns), some (.int m), o4, o5, o6, o7, o8, o9, o10, o11, o12, o13, o14, o15], some s1⟩) ⟨_, _, _, _, _, s1, hs1.up (by omega), rfl⟩ ?_ ?_
    · rintro i d st hi ⟨o6, o9, o11, o12, o13, s2, hs2, rfl⟩
      have hi' : i < ds.length := by
        have := (List.getElem?_eq_some_iff.mp hi).1
        rwa [mas_length] at this
      have hd : TT d := by
        obtain ⟨x, h1, rfl⟩ := mem_mas (List.mem_of_getElem? hi)
        exact (hot x h1).tt
      simp only [asg_nm, List.length_cons, List.length_nil, List.set_cons_succ, List.set_cons_zero, run_bind, run_guard, run_ok]
      refine ⟨rfl, ?_⟩
      refine loop_run hs2 (by omega) h5 hr hl hm hd fun o9 o11 o12 o13 st' hs' => ?_
      exact ⟨_, _, _, _, _, st', hs'.up (by omega), rfl⟩
    · rintro st ⟨o6, o9, o11, o12, o13, s2, hs2, rfl⟩
      rw [mas_length] at hs2
      walk_at "v"
      exact q _ (hs2.up (by omega))
  walk_at "v"
  simp only [sq_lst, he3, run_ok]
  walk_at "v"
  simp only [he1, b5f, hsame, run_ok, Bool.false_eq_true, if_false, ite_self]
  walk_at "v"
  simp only [b5f]
  refine things_run (n := n + 5) (s0 := s0) (B := B) hs (by omega) h5 hl hb' fun ds s1 hdl hot hs1 => ?_
  have q1 := ots_any hot (q := Tag.isB) rfl rfl
  have q2 := ots_any hot (q := Tag.isFz)
  simp only [q1, seq_lst, run_ok, any_lst, any_tup, anys_cons, anys_nil, any_str, any_int, any_strm, isB_own, sq_isB, Bool.or_false, Bool.false_or, Bool.false_eq_true, if_false, ite_self, run_bind]
  have he5 : ∀ i, i < 5 ∨ 5 < i → ∀ o, settle1 [.strm, .int P, sqD true ns, .tup [.str s, D.ma (Tag.rc 5) b5]] i o = o := fun i hi o => by
    have k5 : (5 : Nat) ≠ i := by omega
    refine settle1_no ?_ ?_
    · rcases hb with ⟨rfl, ps, rfl, rfl, hl, hr⟩ | ⟨rfl, i, rfl, rfl, h0, h1⟩ <;> simp [sqD]
    · rcases hb with ⟨rfl, ps, rfl, rfl, hl, hr⟩ | ⟨rfl, i, rfl, rfl, h0, h1⟩ <;> simp [sqD, k5]
  split
  · split
    · simp only [settleE, List.mapIdx_cons, List.mapIdx_nil, Nat.zero_add, Nat.reduceAdd]
      simp only [he5 0 (by omega), he5 1 (by omega), he5 2 (by omega), he5 3 (by omega), he5 4 (by omega), he5 6 (by omega), he5 7 (by omega), he5 8 (by omega), he5 9 (by omega), he5 10 (by omega), he5 11 (by omega), he5 12 (by omega), he5 13 (by omega), he5 14 (by omega), he5 15 (by omega)]
      exact loop _ ds s1 hdl hot hs1
    · exact loop _ ds s1 hdl hot hs1
  · exact loop _ ds s1 hdl hot hs1
theorem right_run {s0 : Strm} {B : Int} (hs : SOk B s0) (hB : B ≤ 700000) (h5 : P5 P) (hr : Rests P ns) (hl : ns.length ≤ 40) (hm : m ≤ P) {Q : D × Option Strm → Prop} (q : ∀ st', SOk (B + 10001) st' → Q (.bl true, some st')) :
    Run (callN tab WW (n + 11) 30 [.strm, .int P, sqD true ns, .int m] (some s0)) Q := by
  refine run_callN (d := ⟨16, 4, b__law_right⟩) rfl rfl ?_
  unfold b__law_right
  have hbr : (.seq (.if_ (.not_ (.call 19 (.cons (.callK 15 .nil (.cons (.name 3) (.cons (.bi .list (.cons (.name 2) .nil)) (.cons (.name 1) .nil))) 0 ["many", "numbers", "prime"] [2, 1, 0]) (.cons (.name 5) .nil))))
    (.seq (.ret (.bl false))
    .pass)
    .pass)
    (.seq (.for_ (.nm 6) (.call 29 (.cons (.name 0) (.cons (.name 1) (.cons (.name 2) (.cons (.name 5) .nil)))))
      (.seq (.par2 11 12 (.cons (.call 28 (.cons (.name 1) (.cons (.name 2) (.cons (.name 3) (.cons (.name 6) .nil))))) (.cons (.call 20 (.cons (.name 0) (.cons (.call 21 (.cons (.name 6) .nil)) .nil))) .nil)))
    (.seq (.par2 9 13 (.cons (.bi .repr (.cons (.name 12) .nil)) (.cons (.lst (.cons (.call 16 (.cons (.name 1) (.cons (.bi .list (.cons (.name 2) .nil)) (.cons (.name 3) (.cons (.name 12) .nil))))) .nil)) .nil)))
    (.seq (.if_ (.cmp .eq (.call 17 (.cons (.name 0) (.cons (.int 3) .nil))) (.int 0))
    (.seq (.app 13 (.callK 16 .nil (.cons (.name 12) (.cons (.name 3) (.cons (.bi .tuple (.cons (.name 2) .nil)) (.cons (.name 1) .nil)))) 0 ["thing", "many", "numbers", "prime"] [3, 2, 1, 0]))
    .pass)
    .pass)
    (.seq (.if_ (.or_ (.not_ (.call 19 (.cons (.name 13) (.cons (.bin .mul (.lst (.cons (.name 11) .nil)) (.bi .len (.cons (.name 13) .nil))) .nil)))) (.cmp .ne (.bi .repr (.cons (.name 12) .nil)) (.name 9)))
    (.seq (.ret (.bl false))
    .pass)
    .pass)
    .pass)))))
    (.seq (.ret (.bl true))
    .pass)) : VB) = bRest := rfl
  rw [hbr]
  clear hbr
  have hp := h5.pr.1
  have hP := h5.pr.2
  have em : (m : Int).toNat = m := by omega
  have hdf : diffsM P ns m = diffs P ns (min m ns.length) := rfl
  have hls := fun n st => lsteps_run (n := n) (st := st) (b := true) (ns := ns) (t := (m : Int)) hp (by omega) (by omega)
  rw [em, ← hdf] at hls
  have hdl : (diffsM P ns m).length ≤ ns.length := diffs_len P ns _
  have hps := fun n st b => pstep_run (n := n) (st := st) (b := b) (ns := ns) h5 hr (by omega) hm
  walk_at "v"
  simp only [hls, run_ok]
  walk_at "v"
  refine loose_run (n := n + 8) (k := 20) (kd := 17) (b := false) (ns := ns) rfl rfl hs (by omega) (by omega) fun b s1 hs1 => ?_
  have hnz := nzI_first (diffsM P ns m) 0
  have hre := fun n => repr_lor (b := b) (n := n) (ns := ns) (fun x hx => ⟨(hr x hx).1, by have := (hr x hx).2; omega⟩) (by omega)
  have hTD : toldD P ns m = match firstNZ (diffsM P ns m) with
    | some i => .tup [.str "step", .int i]
    | none => .tup [.str "powers", .lst .own ((powsL P ns m).map D.int)] := rfl
  have hright := told_right (ns := ns) (m := m) h5 hr hm
  generalize diffsM P ns m = df at *
  walk_at "v"
  refine comp_by _ (fun i ys s => ys = (nzI 0 (df.take i)).map D.int ∧ ∃ o14 o15, s = ⟨[some .strm, some (.int P), some (sqD true ns), some (.int m), none, none, none, some (.lst .own (df.map D.int)), some (looD b ns), none, none, none, none, none, o14, o15], some s1⟩) ⟨rfl, _, _, rfl⟩ ?_ ?_
  · rintro i d ys s hi ⟨rfl, o14, o15, rfl⟩
    obtain ⟨x, hx, rfl⟩ := enum_get hi
    have hil : i < df.length := (List.getElem?_eq_some_iff.mp hx).1
    have htl : (df.take i).length = i := by rw [List.length_take]; omega
    rw [take_snoc hx, nzI_snoc, htl]
    generalize nzI 0 (df.take i) = zz
    walk_at "v"
  · rintro ys s ⟨rfl, o14, o15, rfl⟩
    rw [enum_len, List.take_length]
    have hzl := nzI_len df 0
    generalize nzI 0 df = zz at *
    walk_at "v"
    simp only [hre, run_ok]
    walk_at "v"
    simp only [hps, run_ok]
    cases hf : firstNZ df with
    | some i =>
      rw [hf] at hTD
      have hTD : toldD P ns m = .tup [.str "step", .int i] := hTD
      obtain ⟨rr, hzz⟩ := (hnz.2 i hf)
      have hi : i < 100 := by
        have := firstNZ_lt hf
        omega
      have hcop := fun st => copied_gen (tab := tab) (W := WW) (k := 21) rfl (n + 9) (.tup [.str "step", .int i]) st (by simp [dep, deps]) (by rfl)
      have hcp : cp (.tup [.str "step", .int i]) = .tup [.str "step", .int i] := rfl
      rw [hcp] at hcop
      rw [hTD]
      rw [hTD] at hps
      walk_at "v"
      simp only [hcop, run_ok]
      walk_at "v"
      simp only [hre, run_ok]
      walk_at "v"
      rw [if_neg (show ¬ zz = [] by rw [hzz]; exact List.cons_ne_nil _ _)]
      subst hzz
      walk_at "v"
      simp only [same_run (n := n + 9) (d := .tup [.str (Str.ofString "step"), .int i]) (by simp [dep, deps]) (by rfl), run_ok]
      walk_at "v"
      refine rest_run (n := n) (e := .tup [.str "step", .int i]) hs1 (by omega) h5 hr (by omega) hm (.inr ⟨rfl, i, rfl, rfl, by omega, by omega⟩) rfl rfl (fun st => hps _ st true) fun st' hs' => ?_
      walk_at "v"
      exact q _ (hs'.up (by omega))
    | none =>
      rw [hf] at hTD
      have hTD : toldD P ns m = .tup [.str "powers", .lst .own ((powsL P ns m).map D.int)] := hTD
      have hzz := (hnz.1 hf)
      have hrt := hright hf
      have hpl := pows_len (ns := ns) (m := m) h5
      have hpr := pows_rests (ns := ns) (m := m) h5
      have hlast := strip_last (thr P ns (min m ns.length)).1
      have hw : powsL P ns m = strip (thr P ns (min m ns.length)).1 := rfl
      rw [← hw] at hlast
      have hlf := fun n st => lfault_run (n := n) (st := st) (b := true) (ns := ns) (d := .tup [.str "powers", .lst .fz ((powsL P ns m).map D.int)]) h5 hr (by omega) hm ⟨.inl (by simp [okD, okDs]; omega), fun s b2 ys e1 e2 => by cases e1; cases e2; exact ⟨flats_ints, by rw [List.length_map]; omega⟩⟩
      have hfp : faultP P ns m (.tup [.str "powers", .lst .fz ((powsL P ns m).map D.int)]) = faultB P ns m "powers" (.lst .fz ((powsL P ns m).map D.int)) := rfl
      rw [hfp, hrt] at hlf
      clear hw hfp hrt
      generalize powsL P ns m = ps at *
      have hcop := fun st => copied_gen (tab := tab) (W := WW) (k := 21) rfl (n + 9) (.tup [.str "powers", .lst .fz (ps.map D.int)]) st (by simp [dep, deps]) (by simp [okD, okDs]; omega)
      have hcps : ∀ l : List Int, cps (l.map D.int) = l.map D.int := fun l => by
        induction l with
        | nil => rfl
        | cons x xs ih => rw [List.map_cons, cps, ih]; rfl
      have hcp : cp (.tup [.str "powers", .lst .fz (ps.map D.int)]) = .tup [.str "powers", .lst .own (ps.map D.int)] := by
        simp only [cp, cps, hcps]
      rw [hcp] at hcop
      rw [hTD]
      rw [hTD] at hps
      walk_at "v"
      simp only [hcop, run_ok]
      walk_at "v"
      simp only [hre, run_ok]
      walk_at "v"
      rw [if_pos hzz]
      have hse := fun (st : Option Strm) => same_run (n := n + 9) (st := st) (d := .str (Str.ofString "powers")) (by simp [dep]) rfl
      simp only [hse, run_ok]
      walk_at "v"
      simp only [hlf, run_ok]
      walk_at "v"
      have hap := appx_1 (x := Str.ofString "late") (y := .str (Str.ofString "powers")) (ys := ps.map D.int) (rest := []) (by rw [List.length_map]; omega)
      have fin : ∀ zs : List D, Run (exec (callN tab WW (n + 10)) WW bRest ⟨[some .strm, some (.int P), some (sqD true ns), some (.int m), some (.lst .own (zz.map D.int)), some (.tup [.str (Str.ofString "powers"), .lst .own (ps.map D.int)]), none, some (.lst .own (df.map D.int)), some (looD b ns), some (.str (reS b ns)), some (.tup zs), none, none, none, none, none], some s1⟩) (fun r => Run (endOf r) Q) := fun zs => by
        refine rest_run (n := n) (e := .tup [.str "powers", .lst .own (ps.map D.int)]) (b2 := .lst .fz (ps.map D.int)) hs1 (by omega) h5 hr (by omega) hm (.inl ⟨rfl, ps, rfl, rfl, by omega, hpr⟩) (by simp) (by simp) (fun st => hps _ st true) fun st' hs' => ?_
        exact run_ok.mpr (q _ (hs'.up (by omega)))
      by_cases hps0 : ps = []
      · rw [if_pos hps0]
        simp only [hap, run_ok]
        walk_at "v"
        exact fin _
      · rw [if_neg hps0]
        obtain ⟨k, hk⟩ : ∃ k, ps.length = k + 1 := by
          cases ps with
          | nil => exact absurd rfl hps0
          | cons x xs => exact ⟨xs.length, rfl⟩
        have hat : atI (ps.map D.int) (-1) = some (.int (ps[k]?.getD 0)) := by
          unfold atI
          rw [show ixN (ps.map D.int).length (-1) = some k from by unfold ixN; rw [List.length_map, hk]; simp; omega]
          show (ps.map D.int)[k]? = _
          rw [List.getElem?_map, List.getElem?_eq_getElem (by omega)]; rfl
        have hne := hlast k hk
        generalize ps[k]?.getD 0 = lst at hat hne
        simp only [hat, run_ok]
        walk_at "v"
        simp only [hap, run_ok]
        walk_at "v"
        exact fin _
end
end VL.K76
end

/-! text: K76D -/
section
set_option maxHeartbeats 4000000
namespace VL.K76
open PySem PySem.Spec PyProof.Rows L2 VL
local macro_rules | `(tactic| walk_at "v") => `(tactic| simp (config := {maxSteps := 4000000}) (disch := omega) [List.getElem?_cons_zero, ilt_t, ilt_f, ile_t, ile_f, ieq_t, ieq_f, nlt_t, nlt_f, nle_t, nle_f, neq_t, neq_f, mulOk_l, mulOk_r, divOk_of, small_of, rngOk_num, comp_cons, comp_nil, -List.map_reverse, -List.map_tail, -List.map_map, rev_ints, tail_ints, -bi_reprL, -bi_reprT])
theorem P5_of {x : Int} (h : x ∈ ([2, 3, 5, 7, 31] : List Int)) : ∃ P : Nat, x = P ∧ P5 P := by
  simp only [List.mem_cons, List.not_mem_nil, or_false] at h
  rcases h with rfl | rfl | rfl | rfl | rfl
  · exact ⟨2, rfl, by unfold P5; decide⟩
  · exact ⟨3, rfl, by unfold P5; decide⟩
  · exact ⟨5, rfl, by unfold P5; decide⟩
  · exact ⟨7, rfl, by unfold P5; decide⟩
  · exact ⟨31, rfl, by unfold P5; decide⟩
theorem putK_len {k : Key} {x : D} : ∀ (ks : List Key) (vs : List D), (putK k x ks vs).1.length ≤ ks.length + 1
  | [], vs => by simp [putK]
  | k' :: ks, [] => by simp [putK]
  | k' :: ks, v :: vs => by
    unfold putK
    split
    · simp
    · have := putK_len (k := k) (x := x) ks vs
      simp; omega
theorem merge_len' : ∀ (ps : List D) (ks : List Key) (vs : List D) {r : List Key × List D}, mergeD ks vs ps = some r → r.1.length ≤ ks.length + ps.length
  | [], ks, vs, r, h => by cases h; simp
  | p :: ps, ks, vs, r, h => by
    unfold mergeD at h
    split at h
    · split at h
      · rename_i kv _ _
        have h1 := merge_len' ps _ _ h
        have h2 := putK_len (k := kv.1) (x := kv.2) ks vs
        simp; omega
      · cases h
    · cases h
theorem merge_len {ps : List D} {zs ws : List Int} (h : mergeD [] [] ps = some (zs.map Sum.inl, ws.map D.int)) : zs.length ≤ ps.length := by
  have := merge_len' ps [] [] h
  simpa using this
theorem run_law : ∀ ns : List Int, ns.length ≤ LEN → ∃ st', exec (callN tab WW 12) WW b_law ⟨lawE n_law.length 1, some ⟨ns, 0, 0, 19⟩⟩ = .ok (.rt (.bl true) st') := by
  intro ns _
  suffices h : Run (exec (callN tab WW 12) WW b_law ⟨lawE n_law.length 1, some ⟨ns, 0, 0, 19⟩⟩) (fun r => ∃ st', r = .rt (.bl true) st') by
    obtain ⟨r, e, st', rfl⟩ := h
    exact ⟨st', e⟩
  rw [show lawE n_law.length 1 = [none, some .strm, none, none, none, none, none, none, none] from rfl]
  unfold b_law
  walk_at "v"
  refine for_by _ (fun i s => ∃ o2 o4 o5 o6 o7 o8 st', s = ⟨[none, some .strm, o2, none, o4, o5, o6, Option.map D.int o7, Option.map D.int o8], some st'⟩ ∧ SOk (100000 * i) st') ?_ ?_ ?_
  · exact ⟨_, _, _, _, none, none, _, rfl, SOk.start⟩
  · rintro i d s hi ⟨o2, o4, o5, o6, o7, o8, st, rfl, hs⟩
    obtain ⟨rfl, hi'⟩ := range_get hi
    walk_at "v"
    refine pickg_run (xs := [2, 3, 5, 7, 31]) rfl rfl hs (by omega) (by decide) (by decide) fun p st1 hx hs1 => ?_
    obtain ⟨P, rfl, h5⟩ := P5_of hx
    have hp := h5.pr.1
    have hP := h5.pr.2
    have h1 := hp.two
    walk_at "v"
    refine some_values_run (n := 9) hs1 (by omega) hp (by omega) fun vs st2 hr hl hs2 => ?_
    have hre := fun n => repr_lst (t := n) (ns := vs) (fun x hx => ⟨(hr x hx).1, by have := (hr x hx).2; omega⟩) (by omega)
    walk_at "v"
    simp only [hre, run_ok]
    walk_at "v"
    refine run_draw rfl hs2 (by omega) (by omega) (by omega) fun r st3 r0 r1 hs3 => ?_
    have hmp : 0 ≤ (if 5 < (P : Int) then (5 : Int) else P) ∧ (if 5 < (P : Int) then (5 : Int) else P) ≤ P := by split <;> omega
    generalize (if 5 < (P : Int) then (5 : Int) else P) = mp at hmp ⊢
    obtain ⟨zs, ws, ez, hz⟩ := merge_ints [mp, r, P] [] [] List.nodup_nil rfl
    have ez : mergeD [] [] [D.tup [D.int mp, D.int 0], D.tup [D.int r, D.int 0], D.tup [D.int P, D.int 0]] = some (zs.map Sum.inl, ws.map D.int) := ez
    have hz : ∀ z ∈ zs, 0 ≤ z ∧ z ≤ P := fun z h => by
      have := hz z h
      simp at this
      omega
    have hzl : zs.length ≤ 3 := merge_len ez
    walk_at "v"
    simp only [ez]
    walk_at "v"
    simp only [keys_ints]
    refine ⟨by cases o8 <;> rfl, ?_⟩
    walk_at "v"
    refine for_by _ (fun j s => ∃ o7 s4, s = ⟨[none, some .strm, some (.int i), none, some (.int P), some (.lst .own (vs.map D.int)), some (.str (reS true vs)), Option.map D.int o7, Option.map D.int o8], some s4⟩ ∧ SOk (100000 * i + 5004 + 20000 * j) s4) ⟨o7, st3, rfl, hs3.up (by omega)⟩ ?_ ?_
    · rintro j d s hj ⟨o7, s4, rfl, hs4⟩
      have hjl : j < 3 := by
        have := (List.getElem?_eq_some_iff.mp hj).1
        rw [List.length_map] at this
        omega
      obtain ⟨z, hzm, rfl⟩ := List.mem_map.mp (List.mem_of_getElem? hj)
      obtain ⟨z0, z1⟩ := hz z hzm
      obtain ⟨m, rfl⟩ := Int.eq_ofNat_of_zero_le z0
      walk_at "v"
      simp only [sq_lst]
      refine right_run (n := 1) (P := P) (m := m) (ns := vs) hs4 (by omega) h5 hr (by omega) (by omega) fun s5 hs5 => ?_
      walk_at "v"
      simp only [hre, run_ok]
      walk_at "v"
      exact ⟨some (m : Int), s5, ⟨rfl, rfl⟩, hs5.up (by omega)⟩
    · rintro s ⟨o7, s4, rfl, hs4⟩
      rw [List.length_map] at hs4
      walk_at "v"
      exact ⟨_, _, _, _, o7, o8, _, ⟨⟨rfl, rfl, rfl, rfl, rfl, rfl⟩, rfl⟩, hs4.up (by omega)⟩
  · rintro s ⟨o2, o4, o5, o6, o7, o8, st, rfl, hs⟩
    have p1 : ∀ st, callN tab WW 12 15 [.int 7, .lst .fz [.int 0, .int 1, .int 4, .int 2], .int 3] st = .ok (.tup [.str "powers", .lst .own [.int 0, .int 0, .int 1]], st) := fun st => by
      have := pstep_run (n := 7) (st := st) (b := true) (ns := [0, 1, 4, 2]) (P := 7) (m := 3) (by unfold P5; decide) (by unfold Rests; decide) (by decide) (by decide)
      rw [show toldD 7 [0, 1, 4, 2] 3 = .tup [.str "powers", .lst .own [.int 0, .int 0, .int 1]] from by rfl] at this
      exact this
    have p2 : ∀ st, callN tab WW 12 15 [.int 7, .lst .fz [.int 0, .int 1, .int 4, .int 2], .int 2] st = .ok (.tup [.str "step", .int 0], st) := fun st => by
      have := pstep_run (n := 7) (st := st) (b := true) (ns := [0, 1, 4, 2]) (P := 7) (m := 2) (by unfold P5; decide) (by unfold Rests; decide) (by decide) (by decide)
      rw [show toldD 7 [0, 1, 4, 2] 2 = .tup [.str "step", .int 0] from by rfl] at this
      exact this
    have p3 : ∀ st, callN tab WW 12 15 [.int 5, .lst .fz [], .int 0] st = .ok (.tup [.str "powers", .lst .own []], st) := fun st => by
      have := pstep_run (n := 7) (st := st) (b := true) (ns := []) (P := 5) (m := 0) (by unfold P5; decide) (by unfold Rests; decide) (by decide) (by decide)
      rw [show toldD 5 [] 0 = .tup [.str "powers", .lst .own []] from by rfl] at this
      exact this
    have hse := fun (st : Option Strm) => same_run (n := 11) (st := st) (d := .lst .fz [.tup [.str (Str.ofString "powers"), .lst .fz [.int 0, .int 0, .int 1]], .tup [.str (Str.ofString "step"), .int 0], .tup [.str (Str.ofString "powers"), .lst .fz []]]) (by simp [dep, deps]) (by rfl)
    walk_at "v"
    simp only [p1, run_ok]
    walk_at "v"
    simp only [p2, run_ok]
    walk_at "v"
    simp only [p3, run_ok]
    walk_at "v"
    simp only [hse, run_ok]
    walk_at "v"
end VL.K76
end

/-! text: K76H -/
set_option maxHeartbeats 40000000
namespace VL.K76
open PySem PySem.Spec PyProof.Rows L2 VL
theorem s_is_list : FnScope n_is_list ["thing"] (defScope (stm 1)) := ⟨rfl, rfl, rfl, by decide +kernel, rfl, by decide +kernel, by decide +kernel⟩
theorem s_is_whole : FnScope n_is_whole ["thing"] (defScope (stm 2)) := ⟨rfl, rfl, rfl, by decide +kernel, rfl, by decide +kernel, by decide +kernel⟩
theorem s_is_number : FnScope n_is_number ["thing"] (defScope (stm 3)) := ⟨rfl, rfl, rfl, by decide +kernel, rfl, by decide +kernel, by decide +kernel⟩
theorem s_is_row : FnScope n_is_row ["thing", "many"] (defScope (stm 4)) := ⟨rfl, rfl, rfl, by decide +kernel, rfl, by decide +kernel, by decide +kernel⟩
theorem s_is_prime_number : FnScope n_is_prime_number ["thing"] (defScope (stm 11)) := ⟨rfl, rfl, rfl, by decide +kernel, rfl, by decide +kernel, by decide +kernel⟩
theorem s_check_prime : FnScope n_check_prime ["prime"] (defScope (stm 12)) := ⟨rfl, rfl, rfl, by decide +kernel, rfl, by decide +kernel, by decide +kernel⟩
theorem s_first_bad_rest : FnScope n_first_bad_rest ["prime", "thing"] (defScope (stm 13)) := ⟨rfl, rfl, rfl, by decide +kernel, rfl, by decide +kernel, by decide +kernel⟩
theorem s_check_numbers : FnScope n_check_numbers ["prime", "numbers"] (defScope (stm 14)) := ⟨rfl, rfl, rfl, by decide +kernel, rfl, by decide +kernel, by decide +kernel⟩
theorem s_undone : FnScope n_undone ["prime", "number"] (defScope (stm 16)) := ⟨rfl, rfl, rfl, by decide +kernel, rfl, by decide +kernel, by decide +kernel⟩
theorem s_value_of : FnScope n_value_of ["prime", "powers", "place"] (defScope (stm 18)) := ⟨rfl, rfl, rfl, by decide +kernel, rfl, by decide +kernel, by decide +kernel⟩
theorem s_differences_of : FnScope n_differences_of ["prime", "numbers", "times"] (defScope (stm 19)) := ⟨rfl, rfl, rfl, by decide +kernel, rfl, by decide +kernel, by decide +kernel⟩
theorem s_without_noughts : FnScope n_without_noughts ["powers"] (defScope (stm 20)) := ⟨rfl, rfl, rfl, by decide +kernel, rfl, by decide +kernel, by decide +kernel⟩
theorem s_times_place : FnScope n_times_place ["prime", "powers", "place"] (defScope (stm 21)) := ⟨rfl, rfl, rfl, by decide +kernel, rfl, by decide +kernel, by decide +kernel⟩
theorem s_through_of : FnScope n_through_of ["prime", "pairs"] (defScope (stm 22)) := ⟨rfl, rfl, rfl, by decide +kernel, rfl, by decide +kernel, by decide +kernel⟩
theorem s_check_many : FnScope n_check_many ["prime", "many"] (defScope (stm 23)) := ⟨rfl, rfl, rfl, by decide +kernel, rfl, by decide +kernel, by decide +kernel⟩
theorem s_powers_or_step : FnScope n_powers_or_step ["prime", "numbers", "many"] (defScope (stm 24)) := ⟨rfl, rfl, rfl, by decide +kernel, rfl, by decide +kernel, by decide +kernel⟩
theorem s_powers_fault : FnScope n_powers_fault ["prime", "numbers", "many", "thing"] (defScope (stm 25)) := ⟨rfl, rfl, rfl, by decide +kernel, rfl, by decide +kernel, by decide +kernel⟩
theorem s__law_pick : FnScope n__law_pick ["stream", "things"] (defScope (stm 29)) := ⟨rfl, rfl, rfl, by decide +kernel, rfl, by decide +kernel, by decide +kernel⟩
theorem s__law_same : FnScope n__law_same ["found", "due"] (defScope (stm 30)) := ⟨rfl, rfl, rfl, by decide +kernel, rfl, by decide +kernel, by decide +kernel⟩
theorem s__law_loose : FnScope n__law_loose ["stream", "thing"] (defScope (stm 31)) := ⟨rfl, rfl, rfl, by decide +kernel, rfl, by decide +kernel, by decide +kernel⟩
theorem s__law_copied : FnScope n__law_copied ["thing"] (defScope (stm 32)) := ⟨rfl, rfl, rfl, by decide +kernel, rfl, by decide +kernel, by decide +kernel⟩
theorem s__law_is_whole : FnScope n__law_is_whole ["thing"] (defScope (stm 33)) := ⟨rfl, rfl, rfl, by decide +kernel, rfl, by decide +kernel, by decide +kernel⟩
theorem s__law_wrong_rest : FnScope n__law_wrong_rest ["prime", "thing"] (defScope (stm 34)) := ⟨rfl, rfl, rfl, by decide +kernel, rfl, by decide +kernel, by decide +kernel⟩
theorem s__law_value : FnScope n__law_value ["prime", "powers", "place"] (defScope (stm 35)) := ⟨rfl, rfl, rfl, by decide +kernel, rfl, by decide +kernel, by decide +kernel⟩
theorem s__law_steps : FnScope n__law_steps ["prime", "numbers", "times"] (defScope (stm 36)) := ⟨rfl, rfl, rfl, by decide +kernel, rfl, by decide +kernel, by decide +kernel⟩
theorem s__law_some_powers : FnScope n__law_some_powers ["stream", "prime", "most"] (defScope (stm 37)) := ⟨rfl, rfl, rfl, by decide +kernel, rfl, by decide +kernel, by decide +kernel⟩
theorem s__law_some_values : FnScope n__law_some_values ["stream", "prime", "most"] (defScope (stm 38)) := ⟨rfl, rfl, rfl, by decide +kernel, rfl, by decide +kernel, by decide +kernel⟩
theorem s__law_fault : FnScope n__law_fault ["prime", "numbers", "many", "thing"] (defScope (stm 39)) := ⟨rfl, rfl, rfl, by decide +kernel, rfl, by decide +kernel, by decide +kernel⟩
theorem s__law_things : FnScope n__law_things ["stream", "prime", "numbers", "told"] (defScope (stm 40)) := ⟨rfl, rfl, rfl, by decide +kernel, rfl, by decide +kernel, by decide +kernel⟩
theorem s__law_right : FnScope n__law_right ["stream", "prime", "numbers", "many"] (defScope (stm 41)) := ⟨rfl, rfl, rfl, by decide +kernel, rfl, by decide +kernel, by decide +kernel⟩
theorem s_law : FnScope n_law ["script"] (defScope (stm 42)) := ⟨rfl, rfl, rfl, by decide +kernel, rfl, by decide +kernel, by decide +kernel⟩
theorem s__law_stream : FnScope ["script"] ["script"] (defScope (stm 27)) := ⟨rfl, rfl, rfl, by decide +kernel, rfl, by decide +kernel, by decide +kernel⟩
theorem all_mk {l : PySem.W.OpenLaw} {w : World} {K : PySem.W.Frag} {h : Heap} {mg : Str → Option Value} {fa : Addr} (X : K.In h) (G : h.Ns mainGlobals mg) (hfa : mg "law" = some (.ref fa))
    {f0 : Addr} {od0 an0 : Option Addr} {sl0 : Array (Option Value)} {oc0 kV0 dc0 pm0 cd0 ct0 : Value}
    {f1 : Addr} {od1 an1 : Option Addr} {sl1 : Array (Option Value)} {oc1 kV1 dc1 pm1 cd1 ct1 : Value}
    {f2 : Addr} {od2 an2 : Option Addr} {sl2 : Array (Option Value)} {oc2 kV2 dc2 pm2 cd2 ct2 : Value}
    {f3 : Addr} {od3 an3 : Option Addr} {sl3 : Array (Option Value)} {oc3 kV3 dc3 pm3 cd3 ct3 : Value}
    {f4 : Addr} {od4 an4 : Option Addr} {sl4 : Array (Option Value)} {oc4 kV4 dc4 pm4 cd4 ct4 : Value}
    {f5 : Addr} {od5 an5 : Option Addr} {sl5 : Array (Option Value)} {oc5 kV5 dc5 pm5 cd5 ct5 : Value}
    {f6 : Addr} {od6 an6 : Option Addr} {sl6 : Array (Option Value)} {oc6 kV6 dc6 pm6 cd6 ct6 : Value}
    {f7 : Addr} {od7 an7 : Option Addr} {sl7 : Array (Option Value)} {oc7 kV7 dc7 pm7 cd7 ct7 : Value}
    {f8 : Addr} {od8 an8 : Option Addr} {sl8 : Array (Option Value)} {oc8 kV8 dc8 pm8 cd8 ct8 : Value}
    {f9 : Addr} {od9 an9 : Option Addr} {sl9 : Array (Option Value)} {oc9 kV9 dc9 pm9 cd9 ct9 : Value}
    {f10 : Addr} {od10 an10 : Option Addr} {sl10 : Array (Option Value)} {oc10 kV10 dc10 pm10 cd10 ct10 : Value}
    {f11 : Addr} {od11 an11 : Option Addr} {sl11 : Array (Option Value)} {oc11 kV11 dc11 pm11 cd11 ct11 : Value}
    {f12 : Addr} {od12 an12 : Option Addr} {sl12 : Array (Option Value)} {oc12 kV12 dc12 pm12 cd12 ct12 : Value}
    {f13 : Addr} {od13 an13 : Option Addr} {sl13 : Array (Option Value)} {oc13 kV13 dc13 pm13 cd13 ct13 : Value}
    {f14 : Addr} {od14 an14 : Option Addr} {sl14 : Array (Option Value)} {oc14 kV14 dc14 pm14 cd14 ct14 : Value}
    {f15 : Addr} {od15 an15 : Option Addr} {sl15 : Array (Option Value)} {oc15 kV15 dc15 pm15 cd15 ct15 : Value}
    {f16 : Addr} {od16 an16 : Option Addr} {sl16 : Array (Option Value)} {oc16 kV16 dc16 pm16 cd16 ct16 : Value}
    {f17 : Addr} {od17 an17 : Option Addr} {sl17 : Array (Option Value)} {oc17 kV17 dc17 pm17 cd17 ct17 : Value}
    {f18 : Addr} {od18 an18 : Option Addr} {sl18 : Array (Option Value)} {oc18 kV18 dc18 pm18 cd18 ct18 : Value}
    {f19 : Addr} {od19 an19 : Option Addr} {sl19 : Array (Option Value)} {oc19 kV19 dc19 pm19 cd19 ct19 : Value}
    {f20 : Addr} {od20 an20 : Option Addr} {sl20 : Array (Option Value)} {oc20 kV20 dc20 pm20 cd20 ct20 : Value}
    {f21 : Addr} {od21 an21 : Option Addr} {sl21 : Array (Option Value)} {oc21 kV21 dc21 pm21 cd21 ct21 : Value}
    {f22 : Addr} {od22 an22 : Option Addr} {sl22 : Array (Option Value)} {oc22 kV22 dc22 pm22 cd22 ct22 : Value}
    {f23 : Addr} {od23 an23 : Option Addr} {sl23 : Array (Option Value)} {oc23 kV23 dc23 pm23 cd23 ct23 : Value}
    {f24 : Addr} {od24 an24 : Option Addr} {sl24 : Array (Option Value)} {oc24 kV24 dc24 pm24 cd24 ct24 : Value}
    {f25 : Addr} {od25 an25 : Option Addr} {sl25 : Array (Option Value)} {oc25 kV25 dc25 pm25 cd25 ct25 : Value}
    {f26 : Addr} {od26 an26 : Option Addr} {sl26 : Array (Option Value)} {oc26 kV26 dc26 pm26 cd26 ct26 : Value}
    {f27 : Addr} {od27 an27 : Option Addr} {sl27 : Array (Option Value)} {oc27 kV27 dc27 pm27 cd27 ct27 : Value}
    {f28 : Addr} {od28 an28 : Option Addr} {sl28 : Array (Option Value)} {oc28 kV28 dc28 pm28 cd28 ct28 : Value}
    {f29 : Addr} {od29 an29 : Option Addr} {sl29 : Array (Option Value)} {oc29 kV29 dc29 pm29 cd29 ct29 : Value}
    {f30 : Addr} {od30 an30 : Option Addr} {sl30 : Array (Option Value)} {oc30 kV30 dc30 pm30 cd30 ct30 : Value}
    {f31 : Addr} {od31 an31 : Option Addr} {sl31 : Array (Option Value)} {oc31 kV31 dc31 pm31 cd31 ct31 : Value}
    {f32 : Addr} {od32 an32 : Option Addr} {sl32 : Array (Option Value)} {oc32 kV32 dc32 pm32 cd32 ct32 : Value}
    (a0 : PySem.W.nsIn K mainGlobals "is_list" = some (some (.ref f0))) (l0 : K.lookup f0 = some ⟨oc0, od0, .func (PySem.W.fnOf "is_list" "is_list" (defArgs (stm 1)) (defBody (stm 1)) (defScope (stm 1)) .none kV0 dc0 pm0 an0 cd0 ct0), sl0⟩) (c0 : PySem.W.codeIn K cd0 "is_list" = true) (k0 : PySem.W.keepIn K (.ref f0) = true)
    (a1 : PySem.W.nsIn K mainGlobals "is_whole" = some (some (.ref f1))) (l1 : K.lookup f1 = some ⟨oc1, od1, .func (PySem.W.fnOf "is_whole" "is_whole" (defArgs (stm 2)) (defBody (stm 2)) (defScope (stm 2)) .none kV1 dc1 pm1 an1 cd1 ct1), sl1⟩) (c1 : PySem.W.codeIn K cd1 "is_whole" = true) (k1 : PySem.W.keepIn K (.ref f1) = true)
    (a2 : PySem.W.nsIn K mainGlobals "is_number" = some (some (.ref f2))) (l2 : K.lookup f2 = some ⟨oc2, od2, .func (PySem.W.fnOf "is_number" "is_number" (defArgs (stm 3)) (defBody (stm 3)) (defScope (stm 3)) .none kV2 dc2 pm2 an2 cd2 ct2), sl2⟩) (c2 : PySem.W.codeIn K cd2 "is_number" = true) (k2 : PySem.W.keepIn K (.ref f2) = true)
    (a3 : PySem.W.nsIn K mainGlobals "is_row" = some (some (.ref f3))) (l3 : K.lookup f3 = some ⟨oc3, od3, .func (PySem.W.fnOf "is_row" "is_row" (defArgs (stm 4)) (defBody (stm 4)) (defScope (stm 4)) .none kV3 dc3 pm3 an3 cd3 ct3), sl3⟩) (c3 : PySem.W.codeIn K cd3 "is_row" = true) (k3 : PySem.W.keepIn K (.ref f3) = true)
    (a4 : PySem.W.nsIn K mainGlobals "is_prime_number" = some (some (.ref f4))) (l4 : K.lookup f4 = some ⟨oc4, od4, .func (PySem.W.fnOf "is_prime_number" "is_prime_number" (defArgs (stm 11)) (defBody (stm 11)) (defScope (stm 11)) .none kV4 dc4 pm4 an4 cd4 ct4), sl4⟩) (c4 : PySem.W.codeIn K cd4 "is_prime_number" = true) (k4 : PySem.W.keepIn K (.ref f4) = true)
    (a5 : PySem.W.nsIn K mainGlobals "check_prime" = some (some (.ref f5))) (l5 : K.lookup f5 = some ⟨oc5, od5, .func (PySem.W.fnOf "check_prime" "check_prime" (defArgs (stm 12)) (defBody (stm 12)) (defScope (stm 12)) .none kV5 dc5 pm5 an5 cd5 ct5), sl5⟩) (c5 : PySem.W.codeIn K cd5 "check_prime" = true) (k5 : PySem.W.keepIn K (.ref f5) = true)
    (a6 : PySem.W.nsIn K mainGlobals "first_bad_rest" = some (some (.ref f6))) (l6 : K.lookup f6 = some ⟨oc6, od6, .func (PySem.W.fnOf "first_bad_rest" "first_bad_rest" (defArgs (stm 13)) (defBody (stm 13)) (defScope (stm 13)) .none kV6 dc6 pm6 an6 cd6 ct6), sl6⟩) (c6 : PySem.W.codeIn K cd6 "first_bad_rest" = true) (k6 : PySem.W.keepIn K (.ref f6) = true)
    (a7 : PySem.W.nsIn K mainGlobals "check_numbers" = some (some (.ref f7))) (l7 : K.lookup f7 = some ⟨oc7, od7, .func (PySem.W.fnOf "check_numbers" "check_numbers" (defArgs (stm 14)) (defBody (stm 14)) (defScope (stm 14)) .none kV7 dc7 pm7 an7 cd7 ct7), sl7⟩) (c7 : PySem.W.codeIn K cd7 "check_numbers" = true) (k7 : PySem.W.keepIn K (.ref f7) = true)
    (a8 : PySem.W.nsIn K mainGlobals "undone" = some (some (.ref f8))) (l8 : K.lookup f8 = some ⟨oc8, od8, .func (PySem.W.fnOf "undone" "undone" (defArgs (stm 16)) (defBody (stm 16)) (defScope (stm 16)) .none kV8 dc8 pm8 an8 cd8 ct8), sl8⟩) (c8 : PySem.W.codeIn K cd8 "undone" = true) (k8 : PySem.W.keepIn K (.ref f8) = true)
    (a9 : PySem.W.nsIn K mainGlobals "value_of" = some (some (.ref f9))) (l9 : K.lookup f9 = some ⟨oc9, od9, .func (PySem.W.fnOf "value_of" "value_of" (defArgs (stm 18)) (defBody (stm 18)) (defScope (stm 18)) .none kV9 dc9 pm9 an9 cd9 ct9), sl9⟩) (c9 : PySem.W.codeIn K cd9 "value_of" = true) (k9 : PySem.W.keepIn K (.ref f9) = true)
    (a10 : PySem.W.nsIn K mainGlobals "differences_of" = some (some (.ref f10))) (l10 : K.lookup f10 = some ⟨oc10, od10, .func (PySem.W.fnOf "differences_of" "differences_of" (defArgs (stm 19)) (defBody (stm 19)) (defScope (stm 19)) .none kV10 dc10 pm10 an10 cd10 ct10), sl10⟩) (c10 : PySem.W.codeIn K cd10 "differences_of" = true) (k10 : PySem.W.keepIn K (.ref f10) = true)
    (a11 : PySem.W.nsIn K mainGlobals "without_noughts" = some (some (.ref f11))) (l11 : K.lookup f11 = some ⟨oc11, od11, .func (PySem.W.fnOf "without_noughts" "without_noughts" (defArgs (stm 20)) (defBody (stm 20)) (defScope (stm 20)) .none kV11 dc11 pm11 an11 cd11 ct11), sl11⟩) (c11 : PySem.W.codeIn K cd11 "without_noughts" = true) (k11 : PySem.W.keepIn K (.ref f11) = true)
    (a12 : PySem.W.nsIn K mainGlobals "times_place" = some (some (.ref f12))) (l12 : K.lookup f12 = some ⟨oc12, od12, .func (PySem.W.fnOf "times_place" "times_place" (defArgs (stm 21)) (defBody (stm 21)) (defScope (stm 21)) .none kV12 dc12 pm12 an12 cd12 ct12), sl12⟩) (c12 : PySem.W.codeIn K cd12 "times_place" = true) (k12 : PySem.W.keepIn K (.ref f12) = true)
    (a13 : PySem.W.nsIn K mainGlobals "through_of" = some (some (.ref f13))) (l13 : K.lookup f13 = some ⟨oc13, od13, .func (PySem.W.fnOf "through_of" "through_of" (defArgs (stm 22)) (defBody (stm 22)) (defScope (stm 22)) .none kV13 dc13 pm13 an13 cd13 ct13), sl13⟩) (c13 : PySem.W.codeIn K cd13 "through_of" = true) (k13 : PySem.W.keepIn K (.ref f13) = true)
    (a14 : PySem.W.nsIn K mainGlobals "check_many" = some (some (.ref f14))) (l14 : K.lookup f14 = some ⟨oc14, od14, .func (PySem.W.fnOf "check_many" "check_many" (defArgs (stm 23)) (defBody (stm 23)) (defScope (stm 23)) .none kV14 dc14 pm14 an14 cd14 ct14), sl14⟩) (c14 : PySem.W.codeIn K cd14 "check_many" = true) (k14 : PySem.W.keepIn K (.ref f14) = true)
    (a15 : PySem.W.nsIn K mainGlobals "powers_or_step" = some (some (.ref f15))) (l15 : K.lookup f15 = some ⟨oc15, od15, .func (PySem.W.fnOf "powers_or_step" "powers_or_step" (defArgs (stm 24)) (defBody (stm 24)) (defScope (stm 24)) .none kV15 dc15 pm15 an15 cd15 ct15), sl15⟩) (c15 : PySem.W.codeIn K cd15 "powers_or_step" = true) (k15 : PySem.W.keepIn K (.ref f15) = true)
    (a16 : PySem.W.nsIn K mainGlobals "powers_fault" = some (some (.ref f16))) (l16 : K.lookup f16 = some ⟨oc16, od16, .func (PySem.W.fnOf "powers_fault" "powers_fault" (defArgs (stm 25)) (defBody (stm 25)) (defScope (stm 25)) .none kV16 dc16 pm16 an16 cd16 ct16), sl16⟩) (c16 : PySem.W.codeIn K cd16 "powers_fault" = true) (k16 : PySem.W.keepIn K (.ref f16) = true)
    (a17 : PySem.W.nsIn K mainGlobals "_law_draw" = some (some (.ref f17))) (l17 : K.lookup f17 = some ⟨oc17, od17, .func (PySem.W.fnOf "_law_draw" "_law_draw" (defArgs (stm 28)) (defBody (stm 28)) (defScope (stm 28)) .none kV17 dc17 pm17 an17 cd17 ct17), sl17⟩) (c17 : PySem.W.codeIn K cd17 "_law_draw" = true) (k17 : PySem.W.keepIn K (.ref f17) = true)
    (a18 : PySem.W.nsIn K mainGlobals "_law_pick" = some (some (.ref f18))) (l18 : K.lookup f18 = some ⟨oc18, od18, .func (PySem.W.fnOf "_law_pick" "_law_pick" (defArgs (stm 29)) (defBody (stm 29)) (defScope (stm 29)) .none kV18 dc18 pm18 an18 cd18 ct18), sl18⟩) (c18 : PySem.W.codeIn K cd18 "_law_pick" = true) (k18 : PySem.W.keepIn K (.ref f18) = true)
    (a19 : PySem.W.nsIn K mainGlobals "_law_same" = some (some (.ref f19))) (l19 : K.lookup f19 = some ⟨oc19, od19, .func (PySem.W.fnOf "_law_same" "_law_same" (defArgs (stm 30)) (defBody (stm 30)) (defScope (stm 30)) .none kV19 dc19 pm19 an19 cd19 ct19), sl19⟩) (c19 : PySem.W.codeIn K cd19 "_law_same" = true) (k19 : PySem.W.keepIn K (.ref f19) = true)
    (a20 : PySem.W.nsIn K mainGlobals "_law_loose" = some (some (.ref f20))) (l20 : K.lookup f20 = some ⟨oc20, od20, .func (PySem.W.fnOf "_law_loose" "_law_loose" (defArgs (stm 31)) (defBody (stm 31)) (defScope (stm 31)) .none kV20 dc20 pm20 an20 cd20 ct20), sl20⟩) (c20 : PySem.W.codeIn K cd20 "_law_loose" = true) (k20 : PySem.W.keepIn K (.ref f20) = true)
    (a21 : PySem.W.nsIn K mainGlobals "_law_copied" = some (some (.ref f21))) (l21 : K.lookup f21 = some ⟨oc21, od21, .func (PySem.W.fnOf "_law_copied" "_law_copied" (defArgs (stm 32)) (defBody (stm 32)) (defScope (stm 32)) .none kV21 dc21 pm21 an21 cd21 ct21), sl21⟩) (c21 : PySem.W.codeIn K cd21 "_law_copied" = true) (k21 : PySem.W.keepIn K (.ref f21) = true)
    (a22 : PySem.W.nsIn K mainGlobals "_law_is_whole" = some (some (.ref f22))) (l22 : K.lookup f22 = some ⟨oc22, od22, .func (PySem.W.fnOf "_law_is_whole" "_law_is_whole" (defArgs (stm 33)) (defBody (stm 33)) (defScope (stm 33)) .none kV22 dc22 pm22 an22 cd22 ct22), sl22⟩) (c22 : PySem.W.codeIn K cd22 "_law_is_whole" = true) (k22 : PySem.W.keepIn K (.ref f22) = true)
    (a23 : PySem.W.nsIn K mainGlobals "_law_wrong_rest" = some (some (.ref f23))) (l23 : K.lookup f23 = some ⟨oc23, od23, .func (PySem.W.fnOf "_law_wrong_rest" "_law_wrong_rest" (defArgs (stm 34)) (defBody (stm 34)) (defScope (stm 34)) .none kV23 dc23 pm23 an23 cd23 ct23), sl23⟩) (c23 : PySem.W.codeIn K cd23 "_law_wrong_rest" = true) (k23 : PySem.W.keepIn K (.ref f23) = true)
    (a24 : PySem.W.nsIn K mainGlobals "_law_value" = some (some (.ref f24))) (l24 : K.lookup f24 = some ⟨oc24, od24, .func (PySem.W.fnOf "_law_value" "_law_value" (defArgs (stm 35)) (defBody (stm 35)) (defScope (stm 35)) .none kV24 dc24 pm24 an24 cd24 ct24), sl24⟩) (c24 : PySem.W.codeIn K cd24 "_law_value" = true) (k24 : PySem.W.keepIn K (.ref f24) = true)
    (a25 : PySem.W.nsIn K mainGlobals "_law_steps" = some (some (.ref f25))) (l25 : K.lookup f25 = some ⟨oc25, od25, .func (PySem.W.fnOf "_law_steps" "_law_steps" (defArgs (stm 36)) (defBody (stm 36)) (defScope (stm 36)) .none kV25 dc25 pm25 an25 cd25 ct25), sl25⟩) (c25 : PySem.W.codeIn K cd25 "_law_steps" = true) (k25 : PySem.W.keepIn K (.ref f25) = true)
    (a26 : PySem.W.nsIn K mainGlobals "_law_some_powers" = some (some (.ref f26))) (l26 : K.lookup f26 = some ⟨oc26, od26, .func (PySem.W.fnOf "_law_some_powers" "_law_some_powers" (defArgs (stm 37)) (defBody (stm 37)) (defScope (stm 37)) .none kV26 dc26 pm26 an26 cd26 ct26), sl26⟩) (c26 : PySem.W.codeIn K cd26 "_law_some_powers" = true) (k26 : PySem.W.keepIn K (.ref f26) = true)
    (a27 : PySem.W.nsIn K mainGlobals "_law_some_values" = some (some (.ref f27))) (l27 : K.lookup f27 = some ⟨oc27, od27, .func (PySem.W.fnOf "_law_some_values" "_law_some_values" (defArgs (stm 38)) (defBody (stm 38)) (defScope (stm 38)) .none kV27 dc27 pm27 an27 cd27 ct27), sl27⟩) (c27 : PySem.W.codeIn K cd27 "_law_some_values" = true) (k27 : PySem.W.keepIn K (.ref f27) = true)
    (a28 : PySem.W.nsIn K mainGlobals "_law_fault" = some (some (.ref f28))) (l28 : K.lookup f28 = some ⟨oc28, od28, .func (PySem.W.fnOf "_law_fault" "_law_fault" (defArgs (stm 39)) (defBody (stm 39)) (defScope (stm 39)) .none kV28 dc28 pm28 an28 cd28 ct28), sl28⟩) (c28 : PySem.W.codeIn K cd28 "_law_fault" = true) (k28 : PySem.W.keepIn K (.ref f28) = true)
    (a29 : PySem.W.nsIn K mainGlobals "_law_things" = some (some (.ref f29))) (l29 : K.lookup f29 = some ⟨oc29, od29, .func (PySem.W.fnOf "_law_things" "_law_things" (defArgs (stm 40)) (defBody (stm 40)) (defScope (stm 40)) .none kV29 dc29 pm29 an29 cd29 ct29), sl29⟩) (c29 : PySem.W.codeIn K cd29 "_law_things" = true) (k29 : PySem.W.keepIn K (.ref f29) = true)
    (a30 : PySem.W.nsIn K mainGlobals "_law_right" = some (some (.ref f30))) (l30 : K.lookup f30 = some ⟨oc30, od30, .func (PySem.W.fnOf "_law_right" "_law_right" (defArgs (stm 41)) (defBody (stm 41)) (defScope (stm 41)) .none kV30 dc30 pm30 an30 cd30 ct30), sl30⟩) (c30 : PySem.W.codeIn K cd30 "_law_right" = true) (k30 : PySem.W.keepIn K (.ref f30) = true)
    (a31 : PySem.W.nsIn K mainGlobals "_law_stream" = some (some (.ref f31))) (l31 : K.lookup f31 = some ⟨oc31, od31, .func (PySem.W.fnOf "_law_stream" "_law_stream" (defArgs (stm 27)) (defBody (stm 27)) (defScope (stm 27)) .none kV31 dc31 pm31 an31 cd31 ct31), sl31⟩) (c31 : PySem.W.codeIn K cd31 "_law_stream" = true) (k31 : PySem.W.keepIn K (.ref f31) = true)
    (a32 : PySem.W.nsIn K mainGlobals "law" = some (some (.ref f32))) (l32 : K.lookup f32 = some ⟨oc32, od32, .func (PySem.W.fnOf "law" "law" (defArgs (stm 42)) (defBody (stm 42)) (defScope (stm 42)) .none kV32 dc32 pm32 an32 cd32 ct32), sl32⟩) (c32 : PySem.W.codeIn K cd32 "law" = true) (k32 : PySem.W.keepIn K (.ref f32) = true)
    (z0 : PySem.W.nsIn K mainGlobals "len" = some none)
    (z1 : PySem.W.nsIn K mainGlobals "list" = some none)
    (z2 : PySem.W.nsIn K mainGlobals "tuple" = some none)
    (z3 : PySem.W.nsIn K mainGlobals "int" = some none)
    (z4 : PySem.W.nsIn K mainGlobals "abs" = some none)
    (z5 : PySem.W.nsIn K mainGlobals "min" = some none)
    (z6 : PySem.W.nsIn K mainGlobals "max" = some none)
    (z7 : PySem.W.nsIn K mainGlobals "sum" = some none)
    (z8 : PySem.W.nsIn K mainGlobals "any" = some none)
    (z9 : PySem.W.nsIn K mainGlobals "all" = some none)
    (z10 : PySem.W.nsIn K mainGlobals "isinstance" = some none)
    (z11 : PySem.W.nsIn K mainGlobals "range" = some none)
    (z12 : PySem.W.nsIn K mainGlobals "zip" = some none)
    (z13 : PySem.W.nsIn K mainGlobals "enumerate" = some none)
    (z14 : PySem.W.nsIn K mainGlobals "bool" = some none)
    (z15 : PySem.W.nsIn K mainGlobals "str" = some none)
    (z16 : PySem.W.nsIn K mainGlobals "dict" = some none)
    (z17 : PySem.W.nsIn K mainGlobals "repr" = some none)
    (z18 : PySem.W.nsIn K mainGlobals "sorted" = some none)
    : ∃ fd : FuncData, (∀ (s : Shared) (v : Value), BindsTo s fd ⟨[v], []⟩ [("script", v)]) ∧ ∀ base : Heap, K.In base → base.Ns mainGlobals mg → FnG l.prog w K mg base CX0 13 fa fd ["script"] (spLawV LEN K) := by
  have e := hfa.symm.trans (PySem.W.mg_of X G a32)
  cases e
  have F0 := fun_mk (st := stm 1) l0 c0 k0
  have F1 := fun_mk (st := stm 2) l1 c1 k1
  have F2 := fun_mk (st := stm 3) l2 c2 k2
  have F3 := fun_mk (st := stm 4) l3 c3 k3
  have F4 := fun_mk (st := stm 11) l4 c4 k4
  have F5 := fun_mk (st := stm 12) l5 c5 k5
  have F6 := fun_mk (st := stm 13) l6 c6 k6
  have F7 := fun_mk (st := stm 14) l7 c7 k7
  have F8 := fun_mk (st := stm 16) l8 c8 k8
  have F9 := fun_mk (st := stm 18) l9 c9 k9
  have F10 := fun_mk (st := stm 19) l10 c10 k10
  have F11 := fun_mk (st := stm 20) l11 c11 k11
  have F12 := fun_mk (st := stm 21) l12 c12 k12
  have F13 := fun_mk (st := stm 22) l13 c13 k13
  have F14 := fun_mk (st := stm 23) l14 c14 k14
  have F15 := fun_mk (st := stm 24) l15 c15 k15
  have F16 := fun_mk (st := stm 25) l16 c16 k16
  have F17 := fun_mk (st := stm 28) l17 c17 k17
  have F18 := fun_mk (st := stm 29) l18 c18 k18
  have F19 := fun_mk (st := stm 30) l19 c19 k19
  have F20 := fun_mk (st := stm 31) l20 c20 k20
  have F21 := fun_mk (st := stm 32) l21 c21 k21
  have F22 := fun_mk (st := stm 33) l22 c22 k22
  have F23 := fun_mk (st := stm 34) l23 c23 k23
  have F24 := fun_mk (st := stm 35) l24 c24 k24
  have F25 := fun_mk (st := stm 36) l25 c25 k25
  have F26 := fun_mk (st := stm 37) l26 c26 k26
  have F27 := fun_mk (st := stm 38) l27 c27 k27
  have F28 := fun_mk (st := stm 39) l28 c28 k28
  have F29 := fun_mk (st := stm 40) l29 c29 k29
  have F30 := fun_mk (st := stm 41) l30 c30 k30
  have F31 := fun_mk (st := stm 27) l31 c31 k31
  have F32 := fun_mk (st := stm 42) l32 c32 k32
  have hb : ∀ x ∈ builtN, mg x = none := by
    intro x hx
    simp only [builtN, List.mem_cons, List.not_mem_nil, or_false] at hx
    rcases hx with rfl | rfl | rfl | rfl | rfl | rfl | rfl | rfl | rfl | rfl | rfl | rfl | rfl | rfl | rfl | rfl | rfl | rfl | rfl
    · exact PySem.W.mg_none_of X G z0
    · exact PySem.W.mg_none_of X G z1
    · exact PySem.W.mg_none_of X G z2
    · exact PySem.W.mg_none_of X G z3
    · exact PySem.W.mg_none_of X G z4
    · exact PySem.W.mg_none_of X G z5
    · exact PySem.W.mg_none_of X G z6
    · exact PySem.W.mg_none_of X G z7
    · exact PySem.W.mg_none_of X G z8
    · exact PySem.W.mg_none_of X G z9
    · exact PySem.W.mg_none_of X G z10
    · exact PySem.W.mg_none_of X G z11
    · exact PySem.W.mg_none_of X G z12
    · exact PySem.W.mg_none_of X G z13
    · exact PySem.W.mg_none_of X G z14
    · exact PySem.W.mg_none_of X G z15
    · exact PySem.W.mg_none_of X G z16
    · exact PySem.W.mg_none_of X G z17
    · exact PySem.W.mg_none_of X G z18
  refine ⟨PySem.W.fnOf "law" "law" (defArgs (stm 42)) (defBody (stm 42)) (defScope (stm 42)) .none kV32 dc32 pm32 an32 cd32 ct32, fun s v => .of_eq rfl, fun base _ _ => ?_⟩
  have t : Table ⟨l.prog, w, K, mg, base⟩ tT tab WW := table_of hb
    (.cons ⟨rfl, f0, _, ⟨PySem.W.mg_of X G a0, k0, F0.binds (fun _ _ _ _ _ _ us hl => match us, hl with | [_], _ => rfl), kw_none (by decide)⟩, body_of F0 s_is_list rfl rfl c_is_list⟩ (
    .cons ⟨rfl, f1, _, ⟨PySem.W.mg_of X G a1, k1, F1.binds (fun _ _ _ _ _ _ us hl => match us, hl with | [_], _ => rfl), kw_none (by decide)⟩, body_of F1 s_is_whole rfl rfl c_is_whole⟩ (
    .cons ⟨rfl, f2, _, ⟨PySem.W.mg_of X G a2, k2, F2.binds (fun _ _ _ _ _ _ us hl => match us, hl with | [_], _ => rfl), kw_none (by decide)⟩, body_of F2 s_is_number rfl rfl c_is_number⟩ (
    .cons ⟨rfl, f3, _, ⟨PySem.W.mg_of X G a3, k3, F3.binds (fun _ _ _ _ _ _ us hl => match us, hl with | [_, _], _ => rfl), kw_none (by decide)⟩, body_of F3 s_is_row rfl rfl c_is_row⟩ (
    .cons ⟨rfl, f4, _, ⟨PySem.W.mg_of X G a4, k4, F4.binds (fun _ _ _ _ _ _ us hl => match us, hl with | [_], _ => rfl), kw_none (by decide)⟩, body_of F4 s_is_prime_number rfl rfl c_is_prime_number⟩ (
    .cons ⟨rfl, f5, _, ⟨PySem.W.mg_of X G a5, k5, F5.binds (fun _ _ _ _ _ _ us hl => match us, hl with | [_], _ => rfl), kw_none (by decide)⟩, body_of F5 s_check_prime rfl rfl c_check_prime⟩ (
    .cons ⟨rfl, f6, _, ⟨PySem.W.mg_of X G a6, k6, F6.binds (fun _ _ _ _ _ _ us hl => match us, hl with | [_, _], _ => rfl), kw_none (by decide)⟩, body_of F6 s_first_bad_rest rfl rfl c_first_bad_rest⟩ (
    .cons ⟨rfl, f7, _, ⟨PySem.W.mg_of X G a7, k7, F7.binds (fun _ _ _ _ _ _ us hl => match us, hl with | [_, _], _ => rfl), kw_none (by decide)⟩, body_of F7 s_check_numbers rfl rfl c_check_numbers⟩ (
    .cons ⟨rfl, f8, _, ⟨PySem.W.mg_of X G a8, k8, F8.binds (fun _ _ _ _ _ _ us hl => match us, hl with | [_, _], _ => rfl), kw_none (by decide)⟩, body_of F8 s_undone rfl rfl c_undone⟩ (
    .cons ⟨rfl, f9, _, ⟨PySem.W.mg_of X G a9, k9, F9.binds (fun _ _ _ _ _ _ us hl => match us, hl with | [_, _, _], _ => rfl), kw_none (by decide)⟩, body_of F9 s_value_of rfl rfl c_value_of⟩ (
    .cons ⟨rfl, f10, _, ⟨PySem.W.mg_of X G a10, k10, F10.binds (fun _ _ _ _ _ _ us hl => match us, hl with | [_, _, _], _ => rfl), kw_none (by decide)⟩, body_of F10 s_differences_of rfl rfl c_differences_of⟩ (
    .cons ⟨rfl, f11, _, ⟨PySem.W.mg_of X G a11, k11, F11.binds (fun _ _ _ _ _ _ us hl => match us, hl with | [_], _ => rfl), kw_none (by decide)⟩, body_of F11 s_without_noughts rfl rfl c_without_noughts⟩ (
    .cons ⟨rfl, f12, _, ⟨PySem.W.mg_of X G a12, k12, F12.binds (fun _ _ _ _ _ _ us hl => match us, hl with | [_, _, _], _ => rfl), kw_none (by decide)⟩, body_of F12 s_times_place rfl rfl c_times_place⟩ (
    .cons ⟨rfl, f13, _, ⟨PySem.W.mg_of X G a13, k13, F13.binds (fun _ _ _ _ _ _ us hl => match us, hl with | [_, _], _ => rfl), kw_none (by decide)⟩, body_of F13 s_through_of rfl rfl c_through_of⟩ (
    .cons ⟨rfl, f14, _, ⟨PySem.W.mg_of X G a14, k14, F14.binds (fun _ _ _ _ _ _ us hl => match us, hl with | [_, _], _ => rfl), kw_none (by decide)⟩, body_of F14 s_check_many rfl rfl c_check_many⟩ (
    .cons ⟨rfl, f15, _, ⟨PySem.W.mg_of X G a15, k15, F15.binds (fun _ _ _ _ _ _ us hl => match us, hl with | [_, _, _], _ => rfl), kw_one (v := ⟨15, 0, ["many", "numbers", "prime"], [2, 1, 0]⟩) (by decide) (kb_of (by decide) fun us ws h1 h2 => match us, ws, h1, h2 with | [], [_, _, _], _, _ => rfl)⟩, body_of F15 s_powers_or_step rfl rfl c_powers_or_step⟩ (
    .cons ⟨rfl, f16, _, ⟨PySem.W.mg_of X G a16, k16, F16.binds (fun _ _ _ _ _ _ us hl => match us, hl with | [_, _, _, _], _ => rfl), kw_one (v := ⟨16, 0, ["thing", "many", "numbers", "prime"], [3, 2, 1, 0]⟩) (by decide) (kb_of (by decide) fun us ws h1 h2 => match us, ws, h1, h2 with | [], [_, _, _, _], _, _ => rfl)⟩, body_of F16 s_powers_fault rfl rfl c_powers_fault⟩ (
    .cons ⟨rfl, f17, _, ⟨PySem.W.mg_of X G a17, k17, F17.binds (fun _ _ _ _ _ _ us hl => match us, hl with | [_, _], _ => rfl), kw_none (by decide)⟩, draw_ent (st := stm 28) rfl rfl F17 s_draw fun n cdv A outer s H E hr => ps_draw rfl rfl rfl rfl rfl (PySem.W.mg_none_of X G z4) (PySem.W.mg_none_of X G z3) hr.units⟩ (
    .cons ⟨rfl, f18, _, ⟨PySem.W.mg_of X G a18, k18, F18.binds (fun _ _ _ _ _ _ us hl => match us, hl with | [_, _], _ => rfl), kw_none (by decide)⟩, body_of F18 s__law_pick rfl rfl c__law_pick⟩ (
    .cons ⟨rfl, f19, _, ⟨PySem.W.mg_of X G a19, k19, F19.binds (fun _ _ _ _ _ _ us hl => match us, hl with | [_, _], _ => rfl), kw_none (by decide)⟩, body_of F19 s__law_same rfl rfl c__law_same⟩ (
    .cons ⟨rfl, f20, _, ⟨PySem.W.mg_of X G a20, k20, F20.binds (fun _ _ _ _ _ _ us hl => match us, hl with | [_, _], _ => rfl), kw_none (by decide)⟩, body_of F20 s__law_loose rfl rfl c__law_loose⟩ (
    .cons ⟨rfl, f21, _, ⟨PySem.W.mg_of X G a21, k21, F21.binds (fun _ _ _ _ _ _ us hl => match us, hl with | [_], _ => rfl), kw_none (by decide)⟩, body_of F21 s__law_copied rfl rfl c__law_copied⟩ (
    .cons ⟨rfl, f22, _, ⟨PySem.W.mg_of X G a22, k22, F22.binds (fun _ _ _ _ _ _ us hl => match us, hl with | [_], _ => rfl), kw_none (by decide)⟩, body_of F22 s__law_is_whole rfl rfl c__law_is_whole⟩ (
    .cons ⟨rfl, f23, _, ⟨PySem.W.mg_of X G a23, k23, F23.binds (fun _ _ _ _ _ _ us hl => match us, hl with | [_, _], _ => rfl), kw_none (by decide)⟩, body_of F23 s__law_wrong_rest rfl rfl c__law_wrong_rest⟩ (
    .cons ⟨rfl, f24, _, ⟨PySem.W.mg_of X G a24, k24, F24.binds (fun _ _ _ _ _ _ us hl => match us, hl with | [_, _, _], _ => rfl), kw_none (by decide)⟩, body_of F24 s__law_value rfl rfl c__law_value⟩ (
    .cons ⟨rfl, f25, _, ⟨PySem.W.mg_of X G a25, k25, F25.binds (fun _ _ _ _ _ _ us hl => match us, hl with | [_, _, _], _ => rfl), kw_none (by decide)⟩, body_of F25 s__law_steps rfl rfl c__law_steps⟩ (
    .cons ⟨rfl, f26, _, ⟨PySem.W.mg_of X G a26, k26, F26.binds (fun _ _ _ _ _ _ us hl => match us, hl with | [_, _, _], _ => rfl), kw_none (by decide)⟩, body_of F26 s__law_some_powers rfl rfl c__law_some_powers⟩ (
    .cons ⟨rfl, f27, _, ⟨PySem.W.mg_of X G a27, k27, F27.binds (fun _ _ _ _ _ _ us hl => match us, hl with | [_, _, _], _ => rfl), kw_none (by decide)⟩, body_of F27 s__law_some_values rfl rfl c__law_some_values⟩ (
    .cons ⟨rfl, f28, _, ⟨PySem.W.mg_of X G a28, k28, F28.binds (fun _ _ _ _ _ _ us hl => match us, hl with | [_, _, _, _], _ => rfl), kw_none (by decide)⟩, body_of F28 s__law_fault rfl rfl c__law_fault⟩ (
    .cons ⟨rfl, f29, _, ⟨PySem.W.mg_of X G a29, k29, F29.binds (fun _ _ _ _ _ _ us hl => match us, hl with | [_, _, _, _], _ => rfl), kw_none (by decide)⟩, body_of F29 s__law_things rfl rfl c__law_things⟩ (
    .cons ⟨rfl, f30, _, ⟨PySem.W.mg_of X G a30, k30, F30.binds (fun _ _ _ _ _ _ us hl => match us, hl with | [_, _, _, _], _ => rfl), kw_none (by decide)⟩, body_of F30 s__law_right rfl rfl c__law_right⟩ (.nil _))))))))))))))))))))))))))))))))
  have GS : FnOk l.prog w K mg base CX0 1 f31 _ ["script"] (spStream K) := stream_sp (n := 0) F31 s__law_stream fun cdv A outer s H E hr => pss_one (ps_ret (pe_lst (pa_cons (pe_callTy call_list_of rfl (PySem.W.mg_none_of X G z1) boot_list (pa_cons (pv 0) pa_nil)) (pa_cons pe_int (pa_cons pe_int (pa_cons pe_int pa_nil))))))
  refine law_fn (n := 12) (L := LEN) (N := n_law) (i := 1) (b := b_law) (s1 := (defBody (stm 42)).headD (.Pass ⟨0, 0, 0, 0⟩)) (rest := (defBody (stm 42)).tail) (M := ⟨l.prog, w, K, mg, base⟩) t F32 s_law (by decide) rfl (fun cdv A outer s H E hr => ?_) c_law run_law
  exact ps_set (i := 1) s_law.nd rfl (by first | exact .inl rfl | exact .inr rfl) (pe_call GS (hr.mono (by decide)) rfl (PySem.W.mg_of X G a31) k31 (F31.binds (ps := ["script"]) fun _ _ _ _ _ _ us hl => match us, hl with | [_], _ => rfl) .nil passes0 (pa_cons (pv 0) pa_nil))
end VL.K76
open PySem PySem.W PyProof.Rows
set_option maxHeartbeats 0 in
theorem PySem.Challenge.cw_nextbylast_k76_whole_main_powers_or_a_st_holds : PySem.Challenge.rw_nextbylast_k76_whole_main_powers_or_a_st.Holds := by
  w_on; o_law; k_head; (case hw => w_witness2)
  k_fill
  refine VL.walk_ofG (l := PySem.Challenge.rw_nextbylast_k76_whole_main_powers_or_a_st) (n := VL.K76.LEN) (k := 13) (x := "script") (CX := fun _ => L2.CX0) (sp := fun w => VL.spLawV VL.K76.LEN _) rfl (by decide) rfl ⟨rfl, by decide, by decide⟩ (fun w h Y => PySem.W.kIn_of Y) ?F (fun _ _ a ns hl _ hS => ⟨a, ns, rfl, hS, hl, fun _ => rfl⟩) (fun _ _ _ _ _ h => h)
  case F =>
    intro w mg fa h KX G hmg
    refine' VL.K76.all_mk KX G hmg ?a0 ?l0 ?c0 ?k0 ?a1 ?l1 ?c1 ?k1 ?a2 ?l2 ?c2 ?k2 ?a3 ?l3 ?c3 ?k3 ?a4 ?l4 ?c4 ?k4 ?a5 ?l5 ?c5 ?k5 ?a6 ?l6 ?c6 ?k6 ?a7 ?l7 ?c7 ?k7 ?a8 ?l8 ?c8 ?k8 ?a9 ?l9 ?c9 ?k9 ?a10 ?l10 ?c10 ?k10 ?a11 ?l11 ?c11 ?k11 ?a12 ?l12 ?c12 ?k12 ?a13 ?l13 ?c13 ?k13 ?a14 ?l14 ?c14 ?k14 ?a15 ?l15 ?c15 ?k15 ?a16 ?l16 ?c16 ?k16 ?a17 ?l17 ?c17 ?k17 ?a18 ?l18 ?c18 ?k18 ?a19 ?l19 ?c19 ?k19 ?a20 ?l20 ?c20 ?k20 ?a21 ?l21 ?c21 ?k21 ?a22 ?l22 ?c22 ?k22 ?a23 ?l23 ?c23 ?k23 ?a24 ?l24 ?c24 ?k24 ?a25 ?l25 ?c25 ?k25 ?a26 ?l26 ?c26 ?k26 ?a27 ?l27 ?c27 ?k27 ?a28 ?l28 ?c28 ?k28 ?a29 ?l29 ?c29 ?k29 ?a30 ?l30 ?c30 ?k30 ?a31 ?l31 ?c31 ?k31 ?a32 ?l32 ?c32 ?k32 ?z0 ?z1 ?z2 ?z3 ?z4 ?z5 ?z6 ?z7 ?z8 ?z9 ?z10 ?z11 ?z12 ?z13 ?z14 ?z15 ?z16 ?z17 ?z18
    (case a0 => k_is); (case l0 => k_is); (case c0 => k_is); (case k0 => k_is); (case a1 => k_is); (case l1 => k_is); (case c1 => k_is); (case k1 => k_is); (case a2 => k_is); (case l2 => k_is); (case c2 => k_is); (case k2 => k_is); (case a3 => k_is); (case l3 => k_is); (case c3 => k_is); (case k3 => k_is); (case a4 => k_is); (case l4 => k_is); (case c4 => k_is); (case k4 => k_is); (case a5 => k_is); (case l5 => k_is); (case c5 => k_is); (case k5 => k_is); (case a6 => k_is); (case l6 => k_is); (case c6 => k_is); (case k6 => k_is); (case a7 => k_is); (case l7 => k_is); (case c7 => k_is); (case k7 => k_is); (case a8 => k_is); (case l8 => k_is); (case c8 => k_is); (case k8 => k_is); (case a9 => k_is); (case l9 => k_is); (case c9 => k_is); (case k9 => k_is); (case a10 => k_is); (case l10 => k_is); (case c10 => k_is); (case k10 => k_is); (case a11 => k_is); (case l11 => k_is); (case c11 => k_is); (case k11 => k_is); (case a12 => k_is); (case l12 => k_is); (case c12 => k_is); (case k12 => k_is); (case a13 => k_is); (case l13 => k_is); (case c13 => k_is); (case k13 => k_is); (case a14 => k_is); (case l14 => k_is); (case c14 => k_is); (case k14 => k_is); (case a15 => k_is); (case l15 => k_is); (case c15 => k_is); (case k15 => k_is); (case a16 => k_is); (case l16 => k_is); (case c16 => k_is); (case k16 => k_is); (case a17 => k_is); (case l17 => k_is); (case c17 => k_is); (case k17 => k_is); (case a18 => k_is); (case l18 => k_is); (case c18 => k_is); (case k18 => k_is); (case a19 => k_is); (case l19 => k_is); (case c19 => k_is); (case k19 => k_is); (case a20 => k_is); (case l20 => k_is); (case c20 => k_is); (case k20 => k_is); (case a21 => k_is); (case l21 => k_is); (case c21 => k_is); (case k21 => k_is); (case a22 => k_is); (case l22 => k_is); (case c22 => k_is); (case k22 => k_is); (case a23 => k_is); (case l23 => k_is); (case c23 => k_is); (case k23 => k_is); (case a24 => k_is); (case l24 => k_is); (case c24 => k_is); (case k24 => k_is); (case a25 => k_is); (case l25 => k_is); (case c25 => k_is); (case k25 => k_is); (case a26 => k_is); (case l26 => k_is); (case c26 => k_is); (case k26 => k_is); (case a27 => k_is); (case l27 => k_is); (case c27 => k_is); (case k27 => k_is); (case a28 => k_is); (case l28 => k_is); (case c28 => k_is); (case k28 => k_is); (case a29 => k_is); (case l29 => k_is); (case c29 => k_is); (case k29 => k_is); (case a30 => k_is); (case l30 => k_is); (case c30 => k_is); (case k30 => k_is); (case a31 => k_is); (case l31 => k_is); (case c31 => k_is); (case k31 => k_is); (case a32 => k_is); (case l32 => k_is); (case c32 => k_is); (case k32 => k_is); (case z0 => k_is); (case z1 => k_is); (case z2 => k_is); (case z3 => k_is); (case z4 => k_is); (case z5 => k_is); (case z6 => k_is); (case z7 => k_is); (case z8 => k_is); (case z9 => k_is); (case z10 => k_is); (case z11 => k_is); (case z12 => k_is); (case z13 => k_is); (case z14 => k_is); (case z15 => k_is); (case z16 => k_is); (case z17 => k_is); (case z18 => k_is)
