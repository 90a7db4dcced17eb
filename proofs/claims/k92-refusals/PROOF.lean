import PyProof.Rows.All
import Wide.All
import OpenK.AllK
import Wide.FinOn
import PySem.Str
import HandS.Dict
import KE.KDictKeyed
import KE.KStateDown
import HandS.ForMost
import HandS.ForExc
import HandS.ExcInit
import HandS.CallSlots
import HandS.HeadHook1
import HandS.TupAny
import HandS.Style
import HandS.Deep
import HandS.WideBits
import PyProof.SeqIndex
import HandS.IsInst
import HandS.ExcIs
import HandS.ExcField
import HandS.Conv
import KE.KDictDisplayH
import KE.KDictItemsList
import HandS.ListItems
import HandS.TryMany
import HandS.Nested
import KE.KSuper
import KE.KExcSuper
import HandS.ExcSuper
import HandS.Codes
import HandS.Defaults
import HandS.Head0
import HandS.Head1
import HandS.Head2
import HandS.HeadEnd
import HandS.HeadHook2
import PySem.Challenge.RW_foldsclose_k92_unexplained_judged
set_option Elab.async false
set_option linter.all false
set_option maxRecDepth 100000
/-! FcVal: data by value, stores, a small core of Python and its evaluator. Plain Lean. -/
namespace Fc
open PySem

/-! ### data that never changes -/
inductive P where
  | non
  | bl (b : Bool)
  | int (i : Int)
  | str (x : Str)
  | tup (xs : List P)
  | frz (xs : List P)
  deriving Inhabited

namespace P
mutual
def beq : P → P → Bool
  | .non, .non => true
  | .bl a, .bl b => a == b
  | .int a, .int b => decide (a = b)
  | .str a, .str b => decide (a = b)
  | .tup a, .tup b => beqs a b
  | .frz a, .frz b => beqs a b
  | _, _ => false
def beqs : List P → List P → Bool
  | [], [] => true
  | a :: as, b :: bs => beq a b && beqs as bs
  | _, _ => false
end
mutual
theorem beq_self : ∀ a : P, beq a a = true
  | .non => rfl
  | .bl a => by simp [beq]
  | .int a => by simp [beq]
  | .str a => by simp [beq]
  | .tup a => by rw [beq]; exact beqs_self a
  | .frz a => by rw [beq]; exact beqs_self a
theorem beqs_self : ∀ a : List P, beqs a a = true
  | [] => rfl
  | a :: as => by rw [beqs, beq_self a, beqs_self as]; rfl
end
mutual
theorem eq_of_beq : ∀ a b : P, beq a b = true → a = b := by
  intro a b h
  cases a <;> cases b <;> first | rfl | (simp [beq] at h; done) | skip
  · simp [beq] at h; rw [h]
  · simp [beq] at h; rw [h]
  · simp [beq] at h; rw [h]
  · rename_i a b; rw [beq] at h; rw [eq_of_beqs a b h]
  · rename_i a b; rw [beq] at h; rw [eq_of_beqs a b h]
theorem eq_of_beqs : ∀ a b : List P, beqs a b = true → a = b := by
  intro a b h
  cases a <;> cases b <;> first | rfl | (simp [beqs] at h; done) | skip
  · rename_i a as b bs
    rw [beqs, Bool.and_eq_true] at h
    rw [eq_of_beq a b h.1, eq_of_beqs as bs h.2]
end
instance : DecidableEq P := fun a b => if h : beq a b = true then .isTrue (eq_of_beq a b h) else .isFalse fun e => h (e ▸ beq_self a)

/-! #### == as Python has it (True is 1) -/
mutual
def eqv : P → P → Bool
  | .non, .non => true
  | .bl a, .bl b => a == b
  | .bl a, .int j => (if a then 1 else 0) == j
  | .int i, .bl b => i == (if b then 1 else 0)
  | .int a, .int b => a == b
  | .str a, .str b => a == b
  | .tup a, .tup b => eqvs a b
  | _, _ => false
def eqvs : List P → List P → Bool
  | [], [] => true
  | a :: as, b :: bs => eqv a b && eqvs as bs
  | _, _ => false
end
/-- a text whose signs are signs -/
def sok (x : Str) : Bool := x.cps.all (· < 0x110000)
mutual
def depth : P → Nat
  | .tup xs => depths xs + 1
  | .frz _ => 100
  | .str x => if sok x then 0 else 100
  | _ => 0
def depths : List P → Nat
  | [] => 0
  | x :: xs => max (depth x) (depths xs)
end
mutual
def kd : P → Nat
  | .tup xs => kds xs + 1
  | .frz _ => 100
  | .bl _ => 100
  | .str x => if sok x then 0 else 100
  | _ => 0
def kds : List P → Nat
  | [] => 0
  | x :: xs => max (kd x) (kds xs)
end
mutual
theorem eqv_kd : ∀ a b : P, kd a < 100 → kd b < 100 → eqv a b = decide (a = b)
  | .non, b, _, _ => by cases b <;> simp [eqv]
  | .bl _, _, h, _ => by simp [kd] at h
  | .int a, b, _, h2 => by
    cases b with
    | bl c => simp [kd] at h2
    | _ => simp [eqv, Bool.beq_eq_decide_eq]
  | .str a, b, _, _ => by cases b <;> simp [eqv, Bool.beq_eq_decide_eq]
  | .tup a, b, h, h2 => by
    cases b with
    | tup b =>
      rw [eqv, eqvs_kd a b (by rw [kd] at h; omega) (by rw [kd] at h2; omega)]
      simp
    | _ => simp [eqv]
  | .frz _, _, h, _ => by simp [kd] at h
theorem eqvs_kd : ∀ a b : List P, kds a < 99 → kds b < 99 → eqvs a b = decide (a = b)
  | [], b, _, _ => by cases b <;> simp [eqvs]
  | x :: xs, b, h, h2 => by
    rw [kds] at h
    cases b with
    | nil => simp [eqvs]
    | cons y ys =>
      rw [kds] at h2
      rw [eqvs, eqv_kd x y (by omega) (by omega), eqvs_kd xs ys (by omega) (by omega)]
      by_cases e1 : x = y <;> by_cases e2 : xs = ys <;> simp [e1, e2]
end
mutual
theorem depth_kd : ∀ a : P, kd a < 100 → depth a = kd a
  | .non, _ => rfl
  | .bl _, h => by simp [kd] at h
  | .int _, _ => rfl
  | .str x, _ => by rw [depth, kd]
  | .tup xs, h => by rw [kd] at h; rw [depth, kd, depths_kd xs (by omega)]
  | .frz _, h => by simp [kd] at h
theorem depths_kd : ∀ a : List P, kds a < 100 → depths a = kds a
  | [], _ => rfl
  | x :: xs, h => by rw [kds] at h; rw [depths, kds, depth_kd x (by omega), depths_kd xs (by omega)]
end
end P

/-! ### values, objects, stores -/
inductive A where
  | p (x : P)
  | ref (j : Nat)
  | tup (xs : List A)
  | exn (c : Nat) (fs : List P)
  | rng (lo hi step : Int)
  | zip (x y : A)
  | itm (x : A)
  | rev (x : A)
  deriving Inhabited
/-- the keys of a dict: none as yet, numbers, texts, tuples -/
inductive DK where
  | e | i | s | t
  deriving DecidableEq, Inhabited
inductive MO where
  | lst (xs : List A)
  | dct (k : DK) (kvs : List (P × A))
  | clo (f : Nat) (caps : List (Option A))
  | ins (c : Nat) (fs : List (Str × A))
  deriving Inhabited
abbrev St := List MO
abbrev Sl := List (Option A)

namespace A
mutual
/-- every reference in it is bel n -/
def bel (n : Nat) : A → Bool
  | .p _ => true
  | .ref j => decide (j < n)
  | .tup xs => bels n xs
  | .exn _ _ => true
  | .rng _ _ _ => true
  | .zip x y => bel n x && bel n y
  | .itm x => bel n x
  | .rev x => bel n x
def bels (n : Nat) : List A → Bool
  | [] => true
  | x :: xs => bel n x && bels n xs
end
/-- all of it plain data -/
def pure? : List A → Option (List P)
  | [] => some []
  | .p x :: r => (pure? r).map (x :: ·)
  | _ :: _ => none
theorem pure?_map : ∀ xs : List P, pure? (xs.map .p) = some xs
  | [] => rfl
  | x :: xs => by simp [pure?, pure?_map xs]
/-- a tuple of these -/
def mk (xs : List A) : A := match pure? xs with
  | some ps => .p (.tup ps)
  | none => .tup xs
theorem mk_map (xs : List P) : mk (xs.map .p) = .p (.tup xs) := by simp [mk, pure?_map]
end A
namespace MO
def bel (n : Nat) : MO → Bool
  | .lst xs => A.bels n xs
  | .dct _ kvs => kvs.all fun e => e.2.bel n
  | .clo _ caps => caps.all fun o => match o with
    | some a => a.bel n
    | none => true
  | .ins _ fs => fs.all fun e => e.2.bel n
end MO

inductive Out (α : Type) where
  | ok (a : α) (st : St)
  | exc (c : Nat) (fs : List P) (st : St)
  | stuck
def Out.bind {α β : Type} : Out α → (α → St → Out β) → Out β
  | .ok a st, f => f a st
  | .exc c fs st, _ => .exc c fs st
  | .stuck, _ => .stuck
def Out.of {α : Type} (st : St) : Option α → Out α
  | some a => .ok a st
  | none => .stuck
inductive Flow where
  | next (σ : Sl) (st : St)
  | brk (σ : Sl) (st : St)
  | cnt (σ : Sl) (st : St)
  | ret (a : A) (st : St)
  | exc (c : Nat) (fs : List P) (σ : Sl) (st : St)
  | stuck

/-! ### the core's words -/
inductive BOp where
  | add | sub | mul | fdiv | mod | pow | band
  deriving DecidableEq
inductive COp where
  | lt | le | gt | ge | eq | ne | is | isnot | mem | nmem
  deriving DecidableEq
inductive Ty where
  | int | bool | tuple | dict | list | str | ve | cls (c : Nat)
  deriving DecidableEq
/-- built-in functions of one argument -/
inductive B1 where
  | len | int | tuple | list | sum | min | max | all | any | sorted | abs
  deriving DecidableEq
inductive B2 where
  | min | max
  deriving DecidableEq
/-- methods -/
inductive M where
  | append | extend | index | lindex | get | pop
  deriving DecidableEq
inductive C where
  | var (i : Nat)
  | k (x : P)
  | glob (x : Str) (v : P)
  | bin (op : BOp) (a b : C)
  | neg (a : C)
  | cmp (op : COp) (a b : C)
  | chain (o1 o2 : COp) (a b c : C)
  | andl (es : C) | orl (es : C) | not (a : C)
  | ife (t a b : C)
  | nil | cons (a r : C)
  | tup (es : C) | lst (es : C)
  | dnew | disp1 (key v : C)
  | ix (a i : C)
  | slice (a lo hi : C)
  | srev (a : C)
  | lsti (a : C)
  | call (f : Nat) (es : C)
  | callv (i : Nat) (es : C)
  | b1 (b : B1) (a : C)
  | b2 (b : B2) (a c : C)
  | bq (b : B1) (q : C)
  | comp (q : C)
  | cq (elt : C) (ts : List Nat) (it : C) (cond : C) (own : List Nat)
  | cq2 (elt : C) (ts : List Nat) (it : C) (cond : C) (ts2 : List Nat) (it2 : C) (cond2 : C) (own own2 : List Nat)
  | isi (a : C) (t : Ty)
  | m1 (m : M) (o a : C)
  | m2 (m : M) (o a c : C)
  | m0 (m : M) (o : C)
  | attr (a : C) (x : Str)
  | exa (i : Nat) (x : Str)
  | exi (i : Nat) (t : Ty)
  | trng (a b : C)
  | rng (a b c : C)
  | zip (a b : C)
  | itm (a : C)
  | rev (a : C)
inductive S where
  | skip | seq (a b : S)
  | set (i : Nat) (e : C)
  | sett (is : List Nat) (e : C)
  | par (i j : Nat) (a b : C)
  | aug (i : Nat) (op : BOp) (e : C)
  | setix (o i e : C)
  | ex (e : C)
  | ret (e : C) | retn
  | ite (t : C) (a b : S)
  | whil (t : C) (b : S)
  | for_ (ts : List Nat) (it : C) (b : S)
  | brk | cnt
  | raise (c : Nat) (es : C)
  | tr (b : S) (h : S)
  | hnil | hcons (c : Nat) (i : Option Nat) (s : S) (r : S)
  | ndef (i : Nat) (f : Nat) (caps : List Nat)
  | gc (s : S)

/-- a class of exceptions: its name, what it comes from, the fields (word first) -/
structure CD where
  name : Str
  par : Option Nat
  word : Str
  flds : List Str
/-- a def: parameters, slots, body -/
structure FD where
  np : Nat
  ns : Nat
  body : S
structure Cfg where
  cal : List Nat → Nat → List A → St → Out A
  ct : List CD

/-! ### what the words do -/
def szl : Nat := 16777216
def cl (n d : Nat) : Option Int → Nat
  | none => d
  | some i => if i < 0 then (i + n).toNat else min i.toNat n
def cut {α : Type} (xs : List α) (lo hi : Option Int) : List α := (xs.drop (cl xs.length 0 lo)).take (cl xs.length xs.length hi - cl xs.length 0 lo)
def idx (n : Nat) (i : Int) : Option Nat := if 0 ≤ i then (if i < n then some i.toNat else none) else if -(n : Int) ≤ i then some (i + n).toNat else none
def look (kvs : List (P × A)) (key : P) : Option A := match kvs with
  | [] => none
  | (k, v) :: r => if k = key then some v else look r key
def putKV (kvs : List (P × A)) (key : P) (v : A) : List (P × A) := match kvs with
  | [] => [(key, v)]
  | (k, u) :: r => if k = key then (k, v) :: r else (k, u) :: putKV r key v
/-- the kind of a key -/
def dkOf : P → Option DK
  | .int _ => some .i
  | .str _ => some .s
  | .tup xs => if (P.tup xs).kd ≤ 8 then some .t else none
  | _ => none
/-- a dict of kind k may be asked for this key -/
def askable (k : DK) (key : P) : Bool := match dkOf key with
  | some k' => k == .e || k == k'
  | none => false

def binop : BOp → A → A → St → Out A
  | .add, .p (.int a), .p (.int b), st => .ok (.p (.int (a + b))) st
  | .add, .p (.tup a), .p (.tup b), st => if a.length + b.length ≤ szl then .ok (.p (.tup (a ++ b))) st else .stuck
  | .sub, .p (.int a), .p (.int b), st => .ok (.p (.int (a - b))) st
  | .mul, .p (.int a), .p (.int b), st => if (-18446744073709551616 < a ∧ a < 18446744073709551616) ∨ (-18446744073709551616 < b ∧ b < 18446744073709551616) then .ok (.p (.int (a * b))) st else .stuck
  | .fdiv, .p (.int a), .p (.int b), st => if 0 < b ∧ b < 1073741824 then .ok (.p (.int (a / b))) st else .stuck
  | .mod, .p (.int a), .p (.int b), st => if 0 < b then .ok (.p (.int (a % b))) st else .stuck
  | .add, .ref i, .ref j, st => (match st[i]?, st[j]? with
    | some (.lst xs), some (.lst ys) => if xs.length + ys.length ≤ szl then .ok (.ref st.length) (st ++ [.lst (xs ++ ys)]) else .stuck
    | _, _ => .stuck)
  | .band, .p (.int a), .p (.int 1), st => if 0 ≤ a then .ok (.p (.int (a % 2))) st else .stuck
  | .pow, .p (.int a), .p (.int b), st => if 0 ≤ b ∧ b ≤ 1000000 ∧ a.natAbs < 18446744073709551616 then .ok (.p (.int (a ^ b.toNat))) st else .stuck
  | _, _, _, _ => .stuck
/-- x == y -/
def eqq (x y : P) : Option Bool := if x.depth ≤ 40 ∧ y.depth ≤ 40 then some (x.eqv y) else none
def memq (x : P) : List P → Option Bool
  | [] => some false
  | y :: ys => match eqq y x with
    | some true => (memq x ys).map fun _ => true
    | some false => memq x ys
    | none => none
def pints? : List P → Option (List Int)
  | [] => some []
  | .int i :: r => (pints? r).map (i :: ·)
  | _ :: _ => none
def ltI : List Int → List Int → Bool
  | [], [] => false
  | [], _ :: _ => true
  | _ :: _, [] => false
  | x :: xs, y :: ys => if x = y then ltI xs ys else decide (x < y)
def A.isN : A → Bool
  | .p .non => true
  | _ => false
def cmpop : COp → A → A → St → Option Bool
  | .lt, .p (.int a), .p (.int b), _ => some (decide (a < b))
  | .lt, .p (.tup a), .p (.tup b), _ => (match pints? a, pints? b with
    | some a, some b => some (ltI a b)
    | _, _ => none)
  | .le, .p (.int a), .p (.int b), _ => some (decide (a ≤ b))
  | .gt, .p (.int a), .p (.int b), _ => some (decide (b < a))
  | .ge, .p (.int a), .p (.int b), _ => some (decide (b ≤ a))
  | .eq, .p a, .p b, _ => eqq a b
  | .ne, .p a, .p b, _ => (eqq a b).map (!·)
  | .is, a, .p .non, _ => some a.isN
  | .isnot, a, .p .non, _ => some (!a.isN)
  | .is, .p (.bl a), .p (.bl b), _ => some (a == b)
  | .isnot, .p (.bl a), .p (.bl b), _ => some (a != b)
  | .mem, .p x, .p (.tup ys), _ => memq x ys
  | .nmem, .p x, .p (.tup ys), _ => (memq x ys).map (!·)
  | .mem, .p x, .ref j, st => match st[j]? with
    | some (.lst ys) => (match A.pure? ys with
      | some ps => memq x ps
      | none => none)
    | some (.dct k kvs) => if askable k x then some (look kvs x).isSome else none
    | _ => none
  | .nmem, .p x, .ref j, st => match st[j]? with
    | some (.lst ys) => (match A.pure? ys with
      | some ps => (memq x ps).map (!·)
      | none => none)
    | some (.dct k kvs) => if askable k x then some (!(look kvs x).isSome) else none
    | _ => none
  | _, _, _, _ => none
def getix : A → A → St → Option A
  | .p (.tup xs), .p (.int i), _ => (idx xs.length i).bind fun j => (xs[j]?).map .p
  | .p (.frz xs), .p (.int i), _ => (idx xs.length i).bind fun j => (xs[j]?).map .p
  | .tup xs, .p (.int i), _ => (idx xs.length i).bind fun j => xs[j]?
  | .ref j, .p key, st => match st[j]? with
    | some (.lst xs) => (match key with
      | .int i => (idx xs.length i).bind fun j => xs[j]?
      | _ => none)
    | some (.dct k kvs) => if askable k key then look kvs key else none
    | _ => none
  | _, _, _ => none
/-- may this value be laid into the object j, where each of bs is a bound below which nothing younger is laid -/
def mayLay (bs : List Nat) (j : Nat) (a : A) : Bool := bs.all fun b => decide (b ≤ j) || a.bel b
def setix (bs : List Nat) : A → A → A → St → Out Unit
  | .ref j, .p key, v, st => if mayLay bs j v = true then (match st[j]? with
    | some (.lst xs) => (match key with
      | .int i => (match idx xs.length i with
        | some n => .ok () (st.set j (.lst (xs.set n v)))
        | none => .stuck)
      | _ => .stuck)
    | some (.dct k kvs) => if askable k key && decide (kvs.length < szl) then (match dkOf key with
        | some k' => .ok () (st.set j (.dct k' (putKV kvs key v)))
        | none => .stuck) else .stuck
    | _ => .stuck) else .stuck
  | _, _, _, _ => .stuck
/-- the items of a sequence or of what is walked, with the object that must stand still -/
def seqOf : A → St → Option (List A × List (Nat × MO))
  | .p (.tup xs), _ => some (xs.map .p, [])
  | .p (.frz xs), _ => some (xs.map .p, [])
  | .tup xs, _ => some (xs, [])
  | .ref j, st => match st[j]? with
    | some (.lst xs) => some (xs, [(j, .lst xs)])
    | _ => none
  | .rng lo hi step, _ => if 0 < step ∧ step < 1000000 ∧ -1000000000000 < lo ∧ lo < 1000000000000 ∧ -1000000000000 < hi ∧ hi < 1000000000000 then
      some ((List.range ((hi - lo + step - 1) / step).toNat).map fun i : Nat => .p (.int (lo + (i : Int) * step)), [])
    else if step = -1 ∧ -1000000000000 < lo ∧ lo < 1000000000000 ∧ -1000000000000 < hi ∧ hi < 1000000000000 then
      some ((List.range (lo - hi).toNat).map fun i : Nat => .p (.int (lo - (i : Int))), [])
    else none
  | _, _ => none
def walkOf : A → St → Option (List A × List (Nat × MO))
  | .zip x y, st => match seqOf x st, seqOf y st with
    | some (xs, g), some (ys, h) => some ((xs.zip ys).map fun e => A.mk [e.1, e.2], g ++ h)
    | _, _ => none
  | .itm _, st => none
  | .rev x, st => match x with
    | .p (.tup _) | .tup _ | .ref _ => (seqOf x st).map fun e => (e.1.reverse, e.2)
    | _ => none
  | a, st => seqOf a st
/-- the objects stand still -/
def still (g : List (Nat × MO)) (st : St) : Prop := ∀ e ∈ g, st[e.1]? = some e.2

def ints? : List A → Option (List Int)
  | [] => some []
  | .p (.int i) :: r => (ints? r).map (i :: ·)
  | _ :: _ => none
def bools? : List A → Option (List Bool)
  | [] => some []
  | .p (.bl b) :: r => (bools? r).map (b :: ·)
  | _ :: _ => none
theorem ints?_map : ∀ xs : List Int, ints? (xs.map fun i => .p (.int i)) = some xs
  | [] => rfl
  | x :: xs => by simp [ints?, ints?_map xs]
theorem bools?_map : ∀ xs : List Bool, bools? (xs.map fun i => .p (.bl i)) = some xs
  | [] => rfl
  | x :: xs => by simp [bools?, bools?_map xs]
def minI : List Int → Option Int
  | [] => none
  | x :: xs => some (xs.foldl (fun m y => if y < m then y else m) x)
def maxI : List Int → Option Int
  | [] => none
  | x :: xs => some (xs.foldl (fun m y => if y > m then y else m) x)
mutual
def P.ltb : P → P → Bool
  | .int a, .int b => decide (a < b)
  | .tup a, .tup b => P.ltbs a b
  | _, _ => false
def P.ltbs : List P → List P → Bool
  | _, [] => false
  | [], _ :: _ => true
  | a :: as, b :: bs => if a = b then P.ltbs as bs else P.ltb a b
end
mutual
/-- data of one shape may be sorted: numbers, tuples of such -/
def P.alike : P → P → Bool
  | .int _, .int _ => true
  | .tup a, .tup b => P.alikes a b
  | _, _ => false
def P.alikes : List P → List P → Bool
  | a :: as, b :: bs => P.alike a b && P.alikes as bs
  | _, _ => true
end
def insP (x : P) : List P → List P
  | [] => [x]
  | y :: ys => if P.ltb x y then x :: y :: ys else y :: insP x ys
def sortP : List P → List P
  | [] => []
  | x :: xs => insP x (sortP xs)
def sortable (xs : List P) : Bool := xs.all fun x => decide (x.kd ≤ 8) && xs.all fun y => P.alike x y

/-- .. of a list with these items -/
def lfun : B1 → List A → St → Out A
  | .tuple, xs, st => .ok (A.mk xs) st
  | .list, xs, st => .ok (.ref st.length) (st ++ [.lst xs])
  | .sum, xs, st => Out.of st ((ints? xs).map fun is => .p (.int is.sum))
  | .min, xs, st => Out.of st ((ints? xs).bind fun is => (minI is).map fun i => .p (.int i))
  | .max, xs, st => Out.of st ((ints? xs).bind fun is => (maxI is).map fun i => .p (.int i))
  | .all, xs, st => Out.of st ((bools? xs).map fun bs => .p (.bl (bs.all id)))
  | .any, xs, st => Out.of st ((bools? xs).map fun bs => .p (.bl (bs.any id)))
  | .sorted, xs, st => (match A.pure? xs with
    | some ps => if sortable ps then .ok (.ref st.length) (st ++ [.lst ((sortP ps).map .p)]) else .stuck
    | none => .stuck)
  | .len, xs, st => .ok (.p (.int xs.length)) st
  | _, _, _ => .stuck
/-- a built-in function of one value -/
def b1fun : B1 → A → St → Out A
  | .len, .p (.tup xs), st => .ok (.p (.int xs.length)) st
  | .len, .p (.frz xs), st => .ok (.p (.int xs.length)) st
  | .len, .tup xs, st => .ok (.p (.int xs.length)) st
  | .int, .p (.int i), st => .ok (.p (.int i)) st
  | .abs, .p (.int i), st => .ok (.p (.int i.natAbs)) st
  | .tuple, .p (.tup xs), st => .ok (.p (.tup xs)) st
  | .list, .p (.tup xs), st => .ok (.ref st.length) (st ++ [.lst (xs.map .p)])
  | .sorted, .p (.tup xs), st => lfun .sorted (xs.map .p) st
  | b, .ref j, st => (match st[j]? with
    | some (.lst xs) => lfun b xs st
    | _ => .stuck)
  | _, _, _ => .stuck
def b2fun : B2 → A → A → Option A
  | .min, .p (.int a), .p (.int b) => some (.p (.int (if b < a then b else a)))
  | .max, .p (.int a), .p (.int b) => some (.p (.int (if b > a then b else a)))
  | _, _, _ => none
def indexq (x : P) (xs : List P) : Option Nat := if memq x xs = some true then some (xs.findIdx fun y => y.eqv x) else none
/-- the receiver is of the method's kind -/
def recv : M → A → St → Bool
  | .index, .p (.tup _), _ => true
  | .get, .ref j, st => (match st[j]? with
    | some (.dct _ _) => true
    | _ => false)
  | .index, _, _ => false
  | .get, _, _ => false
  | _, .ref j, st => (match st[j]? with
    | some (.lst _) => true
    | _ => false)
  | _, _, _ => false
def m1fun (bs : List Nat) : M → A → A → St → Out A
  | .append, .ref j, v, st => (match st[j]? with
    | some (.lst xs) => if mayLay bs j v && decide (xs.length < szl) then .ok (.p .non) (st.set j (.lst (xs ++ [v]))) else .stuck
    | _ => .stuck)
  | .extend, .ref j, .ref i, st => (match st[j]?, st[i]? with
    | some (.lst xs), some (.lst ys) => if ys.all (mayLay bs j) && decide (xs.length + ys.length ≤ szl) then .ok (.p .non) (st.set j (.lst (xs ++ ys))) else .stuck
    | _, _ => .stuck)
  | .pop, .ref j, .p (.int i), st => (match st[j]? with
    | some (.lst xs) => if -9223372036854775808 ≤ i ∧ i < 9223372036854775808 then (match idx xs.length i with
      | some n => (match xs[n]? with
        | some v => .ok v (st.set j (.lst (xs.eraseIdx n)))
        | none => .stuck)
      | none => .stuck) else .stuck
    | _ => .stuck)
  | .index, .p (.tup xs), .p y, st => Out.of st ((indexq y xs).map fun n => .p (.int n))
  | .lindex, .ref j, .p y, st => (match st[j]? with
    | some (.lst xs) => (match A.pure? xs with
      | some ps => Out.of st ((indexq y ps).map fun n => .p (.int n))
      | none => .stuck)
    | _ => .stuck)
  | .get, .ref j, .p key, st => (match st[j]? with
    | some (.dct k kvs) => if askable k key then .ok ((look kvs key).getD (.p .non)) st else .stuck
    | _ => .stuck)
  | _, _, _, _ => .stuck
def m2fun : M → A → A → A → St → Out A
  | .get, .ref j, .p key, d, st => (match st[j]? with
    | some (.dct k kvs) => if askable k key then .ok ((look kvs key).getD d) st else .stuck
    | _ => .stuck)
  | _, _, _, _, _ => .stuck
def m0fun : M → A → St → Out A
  | .pop, .ref j, st => (match st[j]? with
    | some (.lst xs) => (match xs.getLast? with
      | some v => .ok v (st.set j (.lst xs.dropLast))
      | none => .stuck)
    | _ => .stuck)
  | _, _, _ => .stuck
/-- is the class c, or what it comes from, d (with at most n steps) -/
def subc (ct : List CD) : Nat → Nat → Nat → Bool
  | 0, _, _ => false
  | n + 1, c, d => c == d || match ct[c]? with
    | some ⟨_, some p, _, _⟩ => subc ct n p d
    | _ => false
def isi (ct : List CD) : A → Ty → Option Bool
  | .p (.int _), t => some (t == .int)
  | .p (.bl _), t => some (t == .int || t == .bool)
  | .p .non, .cls _ => none
  | .p .non, .ve => none
  | .p .non, t => some false
  | .p (.str _), .cls _ => none
  | .p (.str _), .ve => none
  | .p (.str _), t => some (t == .str)
  | .p (.tup _), .cls _ => none
  | .p (.tup _), .ve => none
  | .p (.tup _), t => some (t == .tuple)
  | _, _ => none
/-- is an error of the class -/
def isx (ct : List CD) : A → Ty → Option Bool
  | .exn c _, .cls d => some (subc ct 8 c d)
  | .exn _ _, .ve => some true
  | _, _ => none
def bindS : List Nat → A → Sl → Option Sl
  | [i], a, σ => some (σ.set i (some a))
  | ts, .p (.tup xs), σ => if xs.length = ts.length then some ((ts.zip xs).foldl (fun σ e => σ.set e.1 (some (.p e.2))) σ) else none
  | ts, .tup xs, σ => if xs.length = ts.length then some ((ts.zip xs).foldl (fun σ e => σ.set e.1 (some e.2)) σ) else none
  | _, _, _ => none
/-- the slots i forgotten -/
def wipeS (σ : Sl) : List Nat → Sl
  | [] => σ
  | v :: vs => (wipeS σ vs).set v none
open Classical in
/-- a comprehension's loop -/
noncomputable def compL (g : List (Nat × MO)) (f : A → St → Out (Option A)) : List A → List A → St → Out (List A)
  | [], acc, st => if still g st then .ok acc st else .stuck
  | x :: xs, acc, st => if still g st then (match f x st with
    | .ok (some y) st' => if acc.length < szl then compL g f xs (acc ++ [y]) st' else .stuck
    | .ok none st' => compL g f xs acc st'
    | _ => .stuck) else .stuck
open Classical in
noncomputable def compL2 (g : List (Nat × MO)) (f : A → List A → St → Out (List A)) : List A → List A → St → Out (List A)
  | [], acc, st => if still g st then .ok acc st else .stuck
  | x :: xs, acc, st => if still g st then (match f x acc st with
    | .ok acc' st' => compL2 g f xs acc' st'
    | _ => .stuck) else .stuck
def tru : A → Option Bool
  | .p (.bl b) => some b
  | _ => none
def fieldOf (ct : List CD) : A → Str → Option A
  | .exn c fs, x => match ct[c]? with
    | some d => (d.flds.findIdx? (· == x)).bind fun i => (fs[i]?).map .p
    | none => none
  | _, _ => none
def C.isNil : C → Bool
  | .nil => true
  | _ => false
/-- a slice's part: left out (nil), or a number -/
def partI (c : C) (v : A) : Option (Option Int) := if c.isNil then some none else match v with
  | .p (.int i) => some (some i)
  | _ => none
def sliceA : A → Option Int → Option Int → St → Out A
  | .p (.tup xs), l, h, st => .ok (.p (.tup (cut xs l h))) st
  | .p (.frz xs), l, h, st => .ok (.ref st.length) (st ++ [.lst ((cut xs l h).map .p)])
  | .ref j, l, h, st => (match st[j]? with
    | some (.lst xs) => .ok (.ref st.length) (st ++ [.lst (cut xs l h)])
    | _ => .stuck)
  | _, _, _, _ => .stuck

/-- += and -= of numbers -/
def augop : BOp → A → A → Option A
  | .add, .p (.int a), .p (.int b) => some (.p (.int (a + b)))
  | .sub, .p (.int a), .p (.int b) => some (.p (.int (a - b)))
  | _, _, _ => none
def rngA : A → A → A → Option A
  | .p (.int lo), .p (.int hi), .p (.int c) => some (.rng lo hi c)
  | _, _, _ => none

/-- a dict's first entry -/
def dispA (n : Nat) : A → A → St → Out A
  | .p x, y, st => (match st[n]? with
    | some (.dct .e []) => (match dkOf x with
      | some k => .ok (.ref n) (st.set n (.dct k [(x, y)]))
      | none => .stuck)
    | _ => .stuck)
  | _, _, _ => .stuck
/-! ### the evaluator -/
mutual
noncomputable def evE (Z : Cfg) (bs : List Nat) : C → Sl → St → Out A
  | .var i, σ, st => (match σ[i]? with
    | some (some (.exn _ _)) => .stuck
    | some (some a) => .ok a st
    | _ => .stuck)
  | .k x, _, st => .ok (.p x) st
  | .glob _ v, _, st => .ok (.p v) st
  | .bin op a b, σ, st => (evE Z bs a σ st).bind fun x st => (evE Z bs b σ st).bind fun y st => binop op x y st
  | .neg a, σ, st => (evE Z bs a σ st).bind fun x st => (match x with
    | .p (.int i) => .ok (.p (.int (-i))) st
    | _ => .stuck)
  | .cmp op a b, σ, st => (evE Z bs a σ st).bind fun x st => (evE Z bs b σ st).bind fun y st => Out.of st ((cmpop op x y st).map fun b => .p (.bl b))
  | .chain o1 o2 a b c, σ, st => (evE Z bs a σ st).bind fun x st => (evE Z bs b σ st).bind fun y st => (match cmpop o1 x y st with
    | some true => (evE Z bs c σ st).bind fun z st => Out.of st ((cmpop o2 y z st).map fun b => .p (.bl b))
    | some false => .ok (.p (.bl false)) st
    | none => .stuck)
  | .andl es, σ, st => evAnd Z bs es σ st
  | .orl es, σ, st => evOr Z bs es σ st
  | .not a, σ, st => (evE Z bs a σ st).bind fun x st => Out.of st ((tru x).map fun b => .p (.bl (!b)))
  | .ife t a b, σ, st => (evE Z bs t σ st).bind fun x st => (match tru x with
    | some true => evE Z bs a σ st
    | some false => evE Z bs b σ st
    | none => .stuck)
  | .tup es, σ, st => (evEs Z bs es σ st).bind fun xs st => .ok (A.mk xs) st
  | .lst es, σ, st => (evEs Z bs es σ st).bind fun xs st => .ok (.ref st.length) (st ++ [.lst xs])
  | .dnew, _, st => .ok (.ref st.length) (st ++ [.dct .e []])
  | .disp1 key v, σ, st => (evE Z bs key σ (st ++ [.dct .e []])).bind fun x st1 => (evE Z bs v σ st1).bind fun y st2 => dispA st.length x y st2
  | .ix a i, σ, st => (evE Z bs a σ st).bind fun x st => (evE Z bs i σ st).bind fun y st => Out.of st (getix x y st)
  | .slice a lo hi, σ, st => (evE Z bs a σ st).bind fun x st => ((evE Z bs lo σ st).bind fun l st => Out.of st (partI lo l)).bind fun l st => ((evE Z bs hi σ st).bind fun h st => Out.of st (partI hi h)).bind fun h st => sliceA x l h st
  | .srev a, σ, st => (evE Z bs a σ st).bind fun x st => (match x with
    | .ref j => (match st[j]? with
      | some (.lst xs) => .ok (.ref st.length) (st ++ [.lst xs.reverse])
      | _ => .stuck)
    | _ => .stuck)
  | .lsti a, σ, st => (evE Z bs a σ st).bind fun x st => (match x with
    | .ref j => (match st[j]? with
      | some (.dct _ kvs) => .ok (.ref st.length) (st ++ [.lst (kvs.map fun p => A.mk [.p p.1, p.2])])
      | _ => .stuck)
    | _ => .stuck)
  | .call f es, σ, st => (evEs Z bs es σ st).bind fun xs st => Z.cal bs f xs st
  | .callv i es, σ, st => (match σ[i]? with
    | some (some (.ref j)) => (evEs Z bs es σ st).bind fun xs st => (match st[j]? with
      | some (.clo f caps) => (match caps.mapM id with
        | some cs => Z.cal bs f (xs ++ cs) st
        | none => .stuck)
      | _ => .stuck)
    | _ => .stuck)
  | .b1 b a, σ, st => (evE Z bs a σ st).bind fun x st => b1fun b x st
  | .b2 b a c, σ, st => (evE Z bs a σ st).bind fun x st => (evE Z bs c σ st).bind fun y st => Out.of st (b2fun b x y)
  | .bq b q, σ, st => (evL Z bs q σ st).bind fun xs st => lfun b xs st
  | .comp q, σ, st => (evL Z bs q σ st).bind fun xs st => .ok (.ref st.length) (st ++ [.lst xs])
  | .isi a t, σ, st => (evE Z bs a σ st).bind fun x st => Out.of st ((isi Z.ct x t).map fun b => .p (.bl b))
  | .m1 m o a, σ, st => (evE Z bs o σ st).bind fun x st => if recv m x st = true then (evE Z bs a σ st).bind fun y st => m1fun bs m x y st else .stuck
  | .m2 m o a c, σ, st => (evE Z bs o σ st).bind fun x st => if recv m x st = true then (evE Z bs a σ st).bind fun y st => (evE Z bs c σ st).bind fun z st => m2fun m x y z st else .stuck
  | .m0 m o, σ, st => (evE Z bs o σ st).bind fun x st => if recv m x st = true then m0fun m x st else .stuck
  | .attr _ _, _, _ => .stuck
  | .exa i x, σ, st => (match σ[i]? with
    | some (some v) => Out.of st (fieldOf Z.ct v x)
    | _ => .stuck)
  | .exi i t, σ, st => (match σ[i]? with
    | some (some v) => Out.of st ((isx Z.ct v t).map fun b => .p (.bl b))
    | _ => .stuck)
  | .trng a b, σ, st => (evE Z bs a σ st).bind fun x st => (evE Z bs b σ st).bind fun y st => (match x, y with
    | .p (.int lo), .p (.int hi) => if -1000000000000 < lo ∧ lo < 1000000000000 ∧ -1000000000000 < hi ∧ hi < 1000000000000 ∧ hi - lo ≤ 1000000 then
        .ok (.p (.tup ((List.range (hi - lo).toNat).map fun i : Nat => .int (lo + (i : Int))))) st else .stuck
    | _, _ => .stuck)
  | .rng a b c, σ, st => (evE Z bs a σ st).bind fun x st => (evE Z bs b σ st).bind fun y st => (evE Z bs c σ st).bind fun z st => Out.of st (rngA x y z)
  | .zip a b, σ, st => (evE Z bs a σ st).bind fun x st => (evE Z bs b σ st).bind fun y st => .ok (.zip x y) st
  | .itm a, σ, st => (evE Z bs a σ st).bind fun x st => .ok (.itm x) st
  | .rev a, σ, st => (evE Z bs a σ st).bind fun x st => .ok (.rev x) st
  | .nil, _, st => .ok (.p .non) st
  | .cons _ _, _, _ => .stuck
  | .cq _ _ _ _ _, _, _ => .stuck
  | .cq2 _ _ _ _ _ _ _ _ _, _, _ => .stuck
noncomputable def evAnd (Z : Cfg) (bs : List Nat) : C → Sl → St → Out A
  | .cons a .nil, σ, st => evE Z bs a σ st
  | .cons a r, σ, st => (evE Z bs a σ st).bind fun x st => (match tru x with
    | some true => evAnd Z bs r σ st
    | some false => .ok (.p (.bl false)) st
    | none => .stuck)
  | _, _, _ => .stuck
noncomputable def evOr (Z : Cfg) (bs : List Nat) : C → Sl → St → Out A
  | .cons a .nil, σ, st => evE Z bs a σ st
  | .cons a r, σ, st => (evE Z bs a σ st).bind fun x st => (match tru x with
    | some true => .ok (.p (.bl true)) st
    | some false => evOr Z bs r σ st
    | none => .stuck)
  | _, _, _ => .stuck
noncomputable def evEs (Z : Cfg) (bs : List Nat) : C → Sl → St → Out (List A)
  | .nil, _, st => .ok [] st
  | .cons a r, σ, st => (evE Z bs a σ st).bind fun x st => (evEs Z bs r σ st).bind fun xs st => .ok (x :: xs) st
  | _, _, _ => .stuck
noncomputable def evL (Z : Cfg) (bs : List Nat) : C → Sl → St → Out (List A)
  | .cq elt ts it cond own, σ, st => (evE Z bs it σ st).bind fun v st => (match walkOf v st with
    | some (xs, g) => compL g (fun x st => (match bindS ts x (wipeS σ own) with
      | some σ' => (evE Z bs cond σ' st).bind fun b st => (match tru b with
        | some true => (evE Z bs elt σ' st).bind fun y st => .ok (some y) st
        | some false => .ok none st
        | none => .stuck)
      | none => .stuck)) xs [] st
    | none => .stuck)
  | .cq2 elt ts it cond ts2 it2 cond2 own own2, σ, st => (evE Z bs it σ st).bind fun v st => (match walkOf v st with
    | some (xs, g) => compL2 g (fun x acc st => (match bindS ts x (wipeS σ own) with
      | some σ' => (evE Z bs cond σ' st).bind fun b st => (match tru b with
        | some true => (evE Z bs it2 σ' st).bind fun v2 st => (match walkOf v2 st with
          | some (ys, g2) => compL g2 (fun y st => (match bindS ts2 y (wipeS σ' own2) with
            | some σ2 => (evE Z bs cond2 σ2 st).bind fun b st => (match tru b with
              | some true => (evE Z bs elt σ2 st).bind fun y st => .ok (some y) st
              | some false => .ok none st
              | none => .stuck)
            | none => .stuck)) ys acc st
          | none => .stuck)
        | some false => .ok acc st
        | none => .stuck)
      | none => .stuck)) xs [] st
    | none => .stuck)
  | _, _, _ => .stuck
end

def cleanS (n : Nat) (σ : Sl) : Sl := σ.map fun o => match o with
  | some a => if a.bel n then some a else none
  | none => none
def gcF (n : Nat) : Flow → Flow
  | .next σ st => .next (cleanS n σ) (st.take n)
  | .brk σ st => .brk (cleanS n σ) (st.take n)
  | .cnt σ st => .cnt (cleanS n σ) (st.take n)
  | r => r
def loopMax : Nat := 1000000
def whileL (t : Sl → St → Out A) (b : Sl → St → Flow) : Nat → Sl → St → Flow
  | 0, _, _ => .stuck
  | n + 1, σ, st => match t σ st with
    | .ok x st' => (match tru x with
      | some true => (match b σ st' with
        | .next σ st => whileL t b n σ st
        | .cnt σ st => whileL t b n σ st
        | .brk σ st => .next σ st
        | r => r)
      | some false => .next σ st'
      | none => .stuck)
    | .exc c fs st' => .exc c fs σ st'
    | .stuck => .stuck
open Classical in
noncomputable def forL (g : List (Nat × MO)) (ts : List Nat) (b : Sl → St → Flow) : List A → Sl → St → Flow
  | [], σ, st => if still g st then .next σ st else .stuck
  | x :: xs, σ, st => if still g st then (match bindS ts x σ with
    | some σ => (match b σ st with
      | .next σ st => forL g ts b xs σ st
      | .cnt σ st => forL g ts b xs σ st
      | .brk σ st => .next σ st
      | r => r)
    | none => .stuck) else .stuck
def outF (σ : Sl) (o : Out A) (f : A → St → Flow) : Flow := match o with
  | .ok a st => f a st
  | .exc c fs st => .exc c fs σ st
  | .stuck => .stuck
def unslot (i : Nat) : Flow → Flow
  | .next σ st => .next (σ.set i none) st
  | .brk σ st => .brk (σ.set i none) st
  | .cnt σ st => .cnt (σ.set i none) st
  | .ret a st => .ret a st
  | _ => .stuck
mutual
noncomputable def evS (Z : Cfg) (bs : List Nat) : S → Sl → St → Flow
  | .skip, σ, st => .next σ st
  | .seq a b, σ, st => (match evS Z bs a σ st with
    | .next σ st => evS Z bs b σ st
    | r => r)
  | .set i e, σ, st => outF σ (evE Z bs e σ st) fun a st => .next (σ.set i (some a)) st
  | .sett is e, σ, st => outF σ (evE Z bs e σ st) fun a st => (match bindS is a σ with
    | some σ => .next σ st
    | none => .stuck)
  | .par i j a b, σ, st => outF σ (evE Z bs a σ st) fun x st => outF σ (evE Z bs b σ st) fun y st => .next ((σ.set i (some x)).set j (some y)) st
  | .aug i op e, σ, st => (match σ[i]? with
    | some (some x) => outF σ (evE Z bs e σ st) fun y st => outF σ (Out.of st (augop op x y)) fun z st => .next (σ.set i (some z)) st
    | _ => .stuck)
  | .setix o i e, σ, st => outF σ (evE Z bs e σ st) fun v st => outF σ (evE Z bs o σ st) fun x st => outF σ (evE Z bs i σ st) fun y st => (match setix bs x y v st with
    | .ok _ st => .next σ st
    | _ => .stuck)
  | .ex e, σ, st => outF σ (evE Z bs e σ st) fun _ st => .next σ st
  | .ret e, σ, st => outF σ (evE Z bs e σ st) fun a st => .ret a st
  | .retn, σ, st => .ret (.p .non) st
  | .ite t a b, σ, st => outF σ (evE Z bs t σ st) fun x st => (match tru x with
    | some true => evS Z bs a σ st
    | some false => evS Z bs b σ st
    | none => .stuck)
  | .whil t b, σ, st => whileL (evE Z bs t) (evS Z bs b) loopMax σ st
  | .for_ ts it b, σ, st => outF σ (evE Z bs it σ st) fun v st => (match walkOf v st with
    | some (xs, g) => forL g ts (evS Z bs b) xs σ st
    | none => .stuck)
  | .brk, σ, st => .brk σ st
  | .cnt, σ, st => .cnt σ st
  | .raise c es, σ, st => (match evEs Z bs es σ st with
    | .ok xs st => (match A.pure? xs, Z.ct[c]? with
      | some ps, some cd => if ps.length + 1 = cd.flds.length then .exc c (.str cd.word :: ps) σ st else .stuck
      | _, _ => .stuck)
    | .exc c fs st => .exc c fs σ st
    | .stuck => .stuck)
  | .tr b h, σ, st => (match evS Z bs b σ st with
    | .exc c fs σ st => evH Z bs c fs h σ st
    | r => r)
  | .ndef i f caps, σ, st => .next (σ.set i (some (.ref st.length))) (st ++ [.clo f (caps.map fun k => (σ[k]?).getD none)])
  | .gc s, σ, st => gcF st.length (evS Z (st.length :: bs) s σ st)
  | .hnil, _, _ => .stuck
  | .hcons _ _ _ _, _, _ => .stuck
noncomputable def evH (Z : Cfg) (bs : List Nat) (c : Nat) (fs : List P) : S → Sl → St → Flow
  | .hnil, σ, st => .exc c fs σ st
  | .hcons d i s r, σ, st => if subc Z.ct 8 c d then (match i with
      | some i => unslot i (evS Z bs s (σ.set i (some (.exn c fs))) st)
      | none => (match evS Z bs s σ st with
        | .exc _ _ _ _ => .stuck
        | r => r))
    else evH Z bs c fs r σ st
  | _, _, _ => .stuck
end
/-- what a call hands back: the store up to where it stood, a new object by itself -/
def fin (n : Nat) (a : A) (st : St) : Out A := match a with
  | .ref j => if j < n then .ok a (st.take n) else (match st[j]? with
    | some o => if o.bel n then .ok (.ref n) (st.take n ++ [o]) else .ok a st
    | none => .stuck)
  | a => if a.bel n then .ok a (st.take n) else .ok a st
noncomputable def callF (ft : List FD) (ct : List CD) : Nat → List Nat → Nat → List A → St → Out A
  | 0, _, _, _, _ => .stuck
  | k + 1, bs, f, xs, st => match ft[f]? with
    | some d => if xs.length = d.np then (match evS ⟨callF ft ct k, ct⟩ (st.length :: bs) d.body (xs.map some ++ List.replicate (d.ns - d.np) none) st with
      | .next _ st' => fin st.length (.p .non) st'
      | .ret a st' => fin st.length a st'
      | .exc c fs _ st' => .exc c fs (st'.take st.length)
      | _ => .stuck) else .stuck
    | none => .stuck
end Fc

set_option Elab.async false
set_option linter.all false
set_option maxRecDepth 100000
set_option maxHeartbeats 4000000
/-! FcKey: tuples as keys; a dict's object whose keys are tuples. -/
namespace Fc
open PySem PySem.Spec PyProof.Rows L2
mutual
def P.nk : P → Option NestedKey
  | .non => some .none
  | .int i => some (.num i)
  | .str x => some (.text x)
  | .tup xs => (P.nks xs).map .tup
  | _ => none
def P.nks : List P → Option (List NestedKey)
  | [] => some []
  | x :: xs => (P.nk x).bind fun k => (P.nks xs).map fun ks => k :: ks
end
mutual
theorem P.nk_inj : ∀ (a b : P) (k : NestedKey), a.nk = some k → b.nk = some k → a = b
  | .non, b, k, h1, h2 => by
    cases h1
    cases b <;> simp [P.nk] at h2 <;> rfl
  | .int i, b, k, h1, h2 => by
    cases h1
    cases b <;> simp [P.nk] at h2
    rw [h2]
  | .str x, b, k, h1, h2 => by
    cases h1
    cases b <;> simp [P.nk] at h2
    rw [h2]
  | .tup xs, b, k, h1, h2 => by
    rw [P.nk] at h1
    obtain ⟨ks, e, rfl⟩ := Option.map_eq_some_iff.mp h1
    cases b with
    | tup ys =>
      rw [P.nk] at h2
      obtain ⟨ks', e', e2⟩ := Option.map_eq_some_iff.mp h2
      cases e2
      rw [P.nks_inj xs ys ks e e']
    | _ => simp [P.nk] at h2
  | .bl _, _, _, h, _ => by cases h
  | .frz _, _, _, h, _ => by cases h
theorem P.nks_inj : ∀ (a b : List P) (k : List NestedKey), P.nks a = some k → P.nks b = some k → a = b
  | [], b, k, h1, h2 => by
    cases h1
    cases b with
    | nil => rfl
    | cons y ys =>
      rw [P.nks] at h2
      obtain ⟨_, _, h⟩ := Option.bind_eq_some_iff.mp h2
      obtain ⟨_, _, h⟩ := Option.map_eq_some_iff.mp h
      cases h
  | x :: xs, b, k, h1, h2 => by
    rw [P.nks] at h1
    obtain ⟨q, e1, h⟩ := Option.bind_eq_some_iff.mp h1
    obtain ⟨ks, e2, rfl⟩ := Option.map_eq_some_iff.mp h
    cases b with
    | nil => cases h2
    | cons y ys =>
      rw [P.nks] at h2
      obtain ⟨q', f1, h⟩ := Option.bind_eq_some_iff.mp h2
      obtain ⟨ks', f2, h⟩ := Option.map_eq_some_iff.mp h
      injection h with g1 g2
      subst g1 g2
      rw [P.nk_inj x y _ e1 f1, P.nks_inj xs ys _ e2 f2]
end
mutual
theorem P.nk_kd : ∀ a : P, a.kd < 100 → ∃ k, a.nk = some k ∧ k.depth ≤ a.kd
  | .non, _ => ⟨_, rfl, Nat.le_refl _⟩
  | .int _, _ => ⟨_, rfl, Nat.le_refl _⟩
  | .str _, _ => ⟨_, rfl, Nat.zero_le _⟩
  | .tup xs, h => by
    rw [P.kd] at h
    obtain ⟨ks, e, d⟩ := P.nks_kd xs (by omega)
    refine ⟨.tup ks, by rw [P.nk, e]; rfl, ?_⟩
    rw [P.kd, NestedKey.depth]; omega
  | .bl _, h => by simp [P.kd] at h
  | .frz _, h => by simp [P.kd] at h
theorem P.nks_kd : ∀ a : List P, P.kds a < 100 → ∃ k, P.nks a = some k ∧ NestedKey.depthAll k ≤ P.kds a
  | [], _ => ⟨[], rfl, Nat.le_refl _⟩
  | x :: xs, h => by
    rw [P.kds] at h
    obtain ⟨k, e, d⟩ := P.nk_kd x (by omega)
    obtain ⟨ks, e2, d2⟩ := P.nks_kd xs (by omega)
    refine ⟨k :: ks, by rw [P.nks, e, e2]; rfl, ?_⟩
    rw [P.kds, NestedKey.depthAll]; omega
end
/-- numbers and texts as keys -/
def P.k1 : P → Option L2.Key
  | .int i => some (.inl i)
  | .str x => some (.inr x)
  | _ => none
theorem P.k1_inj {a b : P} {k : L2.Key} (h1 : a.k1 = some k) (h2 : b.k1 = some k) : a = b := by
  cases a <;> simp [P.k1] at h1 <;> cases b <;> simp [P.k1] at h2 <;> subst h1 <;> simp at h2 <;> rw [h2]
/-- a dict with tuples as keys stands at a: keys, where they lie, what they hold -/
def DxRel : (NestedKey × Addr × V) → (NestedKey × Addr × Value) → Prop := fun x y => x.1 = y.1 ∧ x.2.1 = y.2.1 ∧ RelV x.2.2 y.2.2
def DxO (P : Program) (w : World) (a : Addr) (xs : List (NestedKey × Addr × V)) : Heap → Prop := fun h => ∃ ys o es ep, Paired DxRel xs ys ∧ h.get? a = some o ∧ o.ExactDict ∧ o.data = .dict es ep ∧
  es.toList = ys.map (entryOfKey (nestedKind P w)) ∧ (ys.map (·.1)).Nodup ∧ (a == sysModules) = false ∧ ys.length ≤ sizeLine
theorem dxo_ok {P : Program} {w : World} {H : Hp} {h : Heap} {a : Addr} {xs : List (NestedKey × Addr × V)} {ys : List (NestedKey × Addr × Value)} (r : Paired DxRel xs ys) (m : h.DictOfH (nestedKind P w) a ys) (hs : (a == sysModules) = false) (hl : ys.length ≤ sizeLine) :
    ObjOk P w H h a (.ext (DxO P w a xs)) := by
  obtain ⟨o, es, ep, h1, h2, h3, h4, _, h6⟩ := m
  refine ⟨⟨ys, o, es, ep, r, h1, h2, h3, h4, h6, hs, hl⟩, ⟨o, h1⟩, ?_⟩
  rintro g1 g2 ⟨ys, o, es, ep, q1, q2, q3⟩ k
  exact ⟨ys, o, es, ep, q1, k o q2, q3⟩
end Fc

set_option Elab.async false
set_option linter.all false
set_option maxRecDepth 100000
set_option maxHeartbeats 4000000
/-! FcRel: how the evaluator's values and stores lie to HandS's heaps. -/
namespace Fc
open PySem PySem.Spec PyProof.Rows L2

/-! ### what a law's text is -/
structure Dat where
  ft : List FD
  fnm : List Str
  ct : List CD
  gl : List (Str × P)
/-- the address of a class -/
def Dat.ca (D : Dat) (K : PySem.W.Frag) (c : Nat) : Addr := match D.ct[c]? with
  | some d => He.ga K d.name
  | none => 0
def Dat.fa (D : Dat) (K : PySem.W.Frag) (f : Nat) : Addr := match D.fnm[f]? with
  | some x => He.ga K x
  | none => 0

/-! ### data -/
/-- a tuple stands at a: its object is known, it has no dict -/
def TA (H : Hp) (a : Addr) (xs : List V) : Prop := ∃ o : Obj, H a = some (.frz o (.tup xs)) ∧ o.dict = none
theorem TA.sqt {K : PySem.W.Frag} {H : Hp} {a : Addr} {xs : List V} (h : TA H a xs) : SqT K H a xs := let ⟨o, h, _⟩ := h; .inl (.inr ⟨o, h⟩)
theorem TA.new {H : Hp} {a : Addr} {xs : List V} {o : Obj} (h : o.dict = none) : TA (upd H a (.frz o (.tup xs))) a xs := ⟨o, upd_same, h⟩
/-- the script: a list that nobody writes -/
def SF (K : PySem.W.Frag) (H : Hp) (a : Addr) (xs : List V) : Prop := (∃ o, H a = some (.frz o (.lst xs))) ∨
  ∃ (o : Obj) (its : Array Value) (n : Nat), K.lookup a = some o ∧ o.cls = .type "list" ∧ o.dict = none ∧ o.data = .seq its n ∧ its.size ≤ sizeLine ∧ Vals xs its.toList
theorem SF.sql {K : PySem.W.Frag} {H : Hp} {a : Addr} {xs : List V} (h : SF K H a xs) : SqL K H a xs := h.elim (fun h => .inl (.inr h)) .inr
mutual
inductive RP (K : PySem.W.Frag) (H : Hp) : V → P → Prop
  | non : RP K H .non .non
  | bl (b : Bool) : RP K H (.bl b) (.bl b)
  | int (i : Int) : RP K H (.int i) (.int i)
  | str (x : Str) : RP K H (.str x) (.str x)
  | tup {a : Addr} {xs : List V} {ps : List P} : TA H a xs → RPs K H xs ps → RP K H (.ref a) (.tup ps)
  | frz {a : Addr} {xs : List V} {ps : List P} : SF K H a xs → RPs K H xs ps → RP K H (.ref a) (.frz ps)
inductive RPs (K : PySem.W.Frag) (H : Hp) : List V → List P → Prop
  | nil : RPs K H [] []
  | cons {v : V} {vs : List V} {p : P} {ps : List P} : RP K H v p → RPs K H vs ps → RPs K H (v :: vs) (p :: ps)
end
/-- tuples and what is frozen stay -/
structure Ext (H H' : Hp) : Prop where
  tup : ∀ b xs, H b = some (.tup xs) → H' b = some (.tup xs)
  frz : ∀ b o u, H b = some (.frz o u) → H' b = some (.frz o u)
  xd : ∀ b fs, H b = some (.xd fs) → H' b = some (.xd fs)
theorem Ext.refl (H : Hp) : Ext H H := ⟨fun _ _ h => h, fun _ _ _ h => h, fun _ _ h => h⟩
theorem Ext.trans {H H1 H2 : Hp} (a : Ext H H1) (b : Ext H1 H2) : Ext H H2 := ⟨fun c xs h => b.tup c xs (a.tup c xs h), fun c o u h => b.frz c o u (a.frz c o u h), fun c fs h => b.xd c fs (a.xd c fs h)⟩
theorem Ext.ta {H H' : Hp} (e : Ext H H') {a : Addr} {xs : List V} (h : TA H a xs) : TA H' a xs := let ⟨o, h, d⟩ := h; ⟨o, e.frz _ _ _ h, d⟩
theorem SF.ext {K : PySem.W.Frag} {H H' : Hp} (e : Ext H H') {a : Addr} {xs : List V} (h : SF K H a xs) : SF K H' a xs := h.elim (fun ⟨o, h⟩ => .inl ⟨o, e.frz _ _ _ h⟩) .inr
mutual
theorem RP.ext {K : PySem.W.Frag} {H H' : Hp} (e : Ext H H') : ∀ (p : P) (v : V), RP K H v p → RP K H' v p
  | .non, _, h => by cases h; exact .non
  | .bl _, _, h => by cases h; exact .bl _
  | .int _, _, h => by cases h; exact .int _
  | .str _, _, h => by cases h; exact .str _
  | .tup ps, _, h => by
    cases h with
    | tup h1 h2 => exact .tup (e.ta h1) (RPs.ext e ps _ h2)
  | .frz ps, _, h => by
    cases h with
    | frz h1 h2 => exact .frz (h1.ext e) (RPs.ext e ps _ h2)
theorem RPs.ext {K : PySem.W.Frag} {H H' : Hp} (e : Ext H H') : ∀ (ps : List P) (vs : List V), RPs K H vs ps → RPs K H' vs ps
  | [], _, h => by cases h; exact .nil
  | p :: ps, _, h => by
    cases h with
    | cons h1 h2 => exact .cons (RP.ext e p _ h1) (RPs.ext e ps _ h2)
end
theorem RPs.length {K : PySem.W.Frag} {H : Hp} : ∀ {ps : List P} {vs : List V}, RPs K H vs ps → vs.length = ps.length
  | [], _, h => by cases h; rfl
  | p :: ps, _, h => by
    cases h with
    | cons h1 h2 => rw [List.length_cons, List.length_cons, RPs.length h2]
theorem RPs.get {K : PySem.W.Frag} {H : Hp} : ∀ {ps : List P} {vs : List V} {i : Nat} {p : P}, RPs K H vs ps → ps[i]? = some p → ∃ v, vs[i]? = some v ∧ RP K H v p
  | [], _, _, _, h, e => by simp at e
  | p :: ps, _, 0, _, h, e => by
    cases h with
    | cons h1 h2 => simp at e; subst e; exact ⟨_, rfl, h1⟩
  | p :: ps, _, i + 1, q, h, e => by
    cases h with
    | cons h1 h2 =>
      obtain ⟨v, e1, r⟩ := RPs.get (i := i) h2 (by simpa using e)
      exact ⟨v, by simpa using e1, r⟩
theorem RPs.append {K : PySem.W.Frag} {H : Hp} : ∀ {ps qs : List P} {vs ws : List V}, RPs K H vs ps → RPs K H ws qs → RPs K H (vs ++ ws) (ps ++ qs)
  | [], _, _, _, h, g => by cases h; exact g
  | p :: ps, _, _, _, h, g => by
    cases h with
    | cons h1 h2 => exact .cons h1 (RPs.append h2 g)
theorem RPs.take {K : PySem.W.Frag} {H : Hp} : ∀ (n : Nat) {ps : List P} {vs : List V}, RPs K H vs ps → RPs K H (vs.take n) (ps.take n)
  | 0, _, _, _ => .nil
  | n + 1, [], _, h => by cases h; exact .nil
  | n + 1, p :: ps, _, h => by
    cases h with
    | cons h1 h2 => exact .cons h1 (RPs.take n h2)
theorem RPs.drop {K : PySem.W.Frag} {H : Hp} : ∀ (n : Nat) {ps : List P} {vs : List V}, RPs K H vs ps → RPs K H (vs.drop n) (ps.drop n)
  | 0, _, _, h => h
  | n + 1, [], _, h => by cases h; exact .nil
  | n + 1, p :: ps, _, h => by
    cases h with
    | cons h1 h2 => exact RPs.drop n h2
theorem RPs.rev {K : PySem.W.Frag} {H : Hp} : ∀ {ps : List P} {vs : List V}, RPs K H vs ps → RPs K H vs.reverse ps.reverse
  | [], _, h => by cases h; exact .nil
  | p :: ps, _, h => by
    cases h with
    | cons h1 h2 =>
      rw [List.reverse_cons, List.reverse_cons]
      exact (RPs.rev h2).append (.cons h1 .nil)

/-! ### values -/
/-- the fields of an error -/
def FlAt (K : PySem.W.Frag) (H : Hp) (fl : List (Str × V)) (xs : List Str) (fs : List P) : Prop :=
  ∀ (i : Nat) (x : Str), xs[i]? = some x → ∃ (v : V) (p : P), fl.lookup x = some v ∧ fs[i]? = some p ∧ RP K H v p
theorem FlAt.ext {K : PySem.W.Frag} {H H' : Hp} (e : Ext H H') {fl : List (Str × V)} {xs : List Str} {fs : List P} (h : FlAt K H fl xs fs) : FlAt K H' fl xs fs := fun i x hx => by
  obtain ⟨v, p, h1, h2, h3⟩ := h i x hx
  exact ⟨v, p, h1, h2, RP.ext e _ _ h3⟩
/-- an error of the class c with these fields: its class and its dict -/
def XR (D : Dat) (K : PySem.W.Frag) (cls : Value) (d : Option Addr) (H : Hp) (c : Nat) (fs : List P) : Prop :=
  ∃ cd dd fl, D.ct[c]? = some cd ∧ cls = .ref (D.ca K c) ∧ d = some dd ∧ H dd = some (.xd fl) ∧ FlAt K H fl cd.flds fs
theorem XR.ext {D : Dat} {K : PySem.W.Frag} {H H' : Hp} (e : Ext H H') {cls : Value} {d : Option Addr} {c : Nat} {fs : List P} (h : XR D K cls d H c fs) : XR D K cls d H' c fs := by
  obtain ⟨cd, dd, fl, h1, h2, h3, h4, h5⟩ := h
  exact ⟨cd, dd, fl, h1, h2, h3, e.xd _ _ h4, h5.ext e⟩
/-- the errors that a suite holds: the slot, the address, the object -/
abbrev Ex := List (Nat × Addr × Obj)
def ExAt (D : Dat) (K : PySem.W.Frag) (ex : Ex) (i : Nat) (H : Hp) (v : V) (c : Nat) (fs : List P) : Prop :=
  ∃ a oe cls d, v = .ref a ∧ (i, a, oe) ∈ ex ∧ Zc cls d oe ∧ (∃ vs, oe.data = .fields vs) ∧ XR D K cls d H c fs
theorem ExAt.ext {D : Dat} {K : PySem.W.Frag} {ex : Ex} {i : Nat} {H H' : Hp} {v : V} {c : Nat} {fs : List P} (e : Ext H H') (h : ExAt D K ex i H v c fs) : ExAt D K ex i H' v c fs := by
  obtain ⟨a, oe, cls, d, h0, h1, h2, h3, h4⟩ := h
  exact ⟨a, oe, cls, d, h0, h1, h2, h3, h4.ext e⟩
mutual
inductive RA (D : Dat) (K : PySem.W.Frag) (ρ : Nat → Addr) (H : Hp) : V → A → Prop
  | p {v : V} {x : P} : RP K H v x → RA D K ρ H v (.p x)
  | ref {j : Nat} : RA D K ρ H (.ref (ρ j)) (.ref j)
  | tup {b : Addr} {vs : List V} {as : List A} : TA H b vs → RAs D K ρ H vs as → RA D K ρ H (.ref b) (.tup as)
inductive RAs (D : Dat) (K : PySem.W.Frag) (ρ : Nat → Addr) (H : Hp) : List V → List A → Prop
  | nil : RAs D K ρ H [] []
  | cons {v : V} {vs : List V} {a : A} {as : List A} : RA D K ρ H v a → RAs D K ρ H vs as → RAs D K ρ H (v :: vs) (a :: as)
end
mutual
theorem RA.mono {D : Dat} {K : PySem.W.Frag} {ρ ρ' : Nat → Addr} {H H' : Hp} {n : Nat} (e : Ext H H') (ag : ∀ j, j < n → ρ' j = ρ j) :
    ∀ (a : A) (v : V), RA D K ρ H v a → a.bel n = true → RA D K ρ' H' v a
  | .p x, _, h, _ => by cases h with | p h => exact .p (RP.ext e _ _ h)
  | .ref j, _, h, b => by
    cases h
    rw [← ag j (by simpa [A.bel] using b)]
    exact .ref
  | .tup as, _, h, b => by
    cases h with
    | tup h1 h2 => exact .tup (e.ta h1) (RAs.mono e ag as _ h2 (by simpa [A.bel] using b))
  | .exn c fs, _, h, _ => by cases h
  | .rng _ _ _, _, h, _ => by cases h
  | .zip _ _, _, h, _ => by cases h
  | .itm _, _, h, _ => by cases h
  | .rev _, _, h, _ => by cases h
theorem RAs.mono {D : Dat} {K : PySem.W.Frag} {ρ ρ' : Nat → Addr} {H H' : Hp} {n : Nat} (e : Ext H H') (ag : ∀ j, j < n → ρ' j = ρ j) :
    ∀ (as : List A) (vs : List V), RAs D K ρ H vs as → A.bels n as = true → RAs D K ρ' H' vs as
  | [], _, h, _ => by cases h; exact .nil
  | a :: as, _, h, b => by
    cases h with
    | cons h1 h2 =>
      have b' : a.bel n = true ∧ A.bels n as = true := by simpa [A.bels] using b
      exact .cons (RA.mono e ag a _ h1 b'.1) (RAs.mono e ag as _ h2 b'.2)
end
mutual
theorem bel_mono {n m : Nat} (h : n ≤ m) : ∀ a : A, a.bel n = true → a.bel m = true
  | .p _, _ => rfl
  | .ref j, b => by simp only [A.bel, decide_eq_true_eq] at b ⊢; omega
  | .tup as, b => by rw [A.bel] at b ⊢; exact bels_mono h as b
  | .exn _ _, _ => rfl
  | .rng _ _ _, _ => rfl
  | .zip x y, b => by
    rw [A.bel, Bool.and_eq_true] at b ⊢
    exact ⟨bel_mono h x b.1, bel_mono h y b.2⟩
  | .itm x, b => by rw [A.bel] at b ⊢; exact bel_mono h x b
  | .rev x, b => by rw [A.bel] at b ⊢; exact bel_mono h x b
theorem bels_mono {n m : Nat} (h : n ≤ m) : ∀ as : List A, A.bels n as = true → A.bels m as = true
  | [], _ => rfl
  | a :: as, b => by
    rw [A.bels, Bool.and_eq_true] at b ⊢
    exact ⟨bel_mono h a b.1, bels_mono h as b.2⟩
end
theorem obel_mono {n m : Nat} (h : n ≤ m) (o : MO) (b : o.bel n = true) : o.bel m = true := by
  cases o with
  | lst xs => exact bels_mono h xs b
  | dct k kvs =>
    simp only [MO.bel, List.all_eq_true] at b ⊢
    exact fun e he => bel_mono h _ (b e he)
  | clo f caps =>
    simp only [MO.bel, List.all_eq_true] at b ⊢
    intro e he
    have := b e he
    cases e with
    | none => rfl
    | some a => exact bel_mono h _ this
  | ins c fs =>
    simp only [MO.bel, List.all_eq_true] at b ⊢
    exact fun e he => bel_mono h _ (b e he)
theorem bels_get {n : Nat} : ∀ {as : List A} {i : Nat} {a : A}, A.bels n as = true → as[i]? = some a → a.bel n = true
  | [], _, _, _, e => by simp at e
  | x :: xs, 0, a, b, e => by
    rw [A.bels, Bool.and_eq_true] at b
    simp at e; subst e; exact b.1
  | x :: xs, i + 1, a, b, e => by
    rw [A.bels, Bool.and_eq_true] at b
    exact bels_get (i := i) b.2 (by simpa using e)
theorem bels_all {n : Nat} : ∀ {as : List A}, A.bels n as = true ↔ ∀ a ∈ as, a.bel n = true
  | [] => by simp [A.bels]
  | x :: xs => by rw [A.bels, Bool.and_eq_true, bels_all (as := xs)]; simp
theorem RAs.length {D : Dat} {K : PySem.W.Frag} {ρ : Nat → Addr} {H : Hp} : ∀ {as : List A} {vs : List V}, RAs D K ρ H vs as → vs.length = as.length
  | [], _, h => by cases h; rfl
  | a :: as, _, h => by
    cases h with
    | cons h1 h2 => rw [List.length_cons, List.length_cons, RAs.length h2]
theorem RAs.get {D : Dat} {K : PySem.W.Frag} {ρ : Nat → Addr} {H : Hp} : ∀ {as : List A} {vs : List V} {i : Nat} {a : A}, RAs D K ρ H vs as → as[i]? = some a → ∃ v, vs[i]? = some v ∧ RA D K ρ H v a
  | [], _, _, _, h, e => by simp at e
  | p :: ps, _, 0, _, h, e => by
    cases h with
    | cons h1 h2 => simp at e; subst e; exact ⟨_, rfl, h1⟩
  | p :: ps, _, i + 1, q, h, e => by
    cases h with
    | cons h1 h2 =>
      obtain ⟨v, e1, r⟩ := RAs.get (i := i) h2 (by simpa using e)
      exact ⟨v, by simpa using e1, r⟩
theorem RAs.set {D : Dat} {K : PySem.W.Frag} {ρ : Nat → Addr} {H : Hp} {v : V} {a : A} (r : RA D K ρ H v a) : ∀ {as : List A} {vs : List V} (i : Nat), RAs D K ρ H vs as → RAs D K ρ H (vs.set i v) (as.set i a)
  | [], _, _, h => by cases h; exact .nil
  | p :: ps, _, 0, h => by
    cases h with
    | cons h1 h2 => exact .cons r h2
  | p :: ps, _, i + 1, h => by
    cases h with
    | cons h1 h2 => exact .cons h1 (RAs.set r i h2)
theorem RAs.append {D : Dat} {K : PySem.W.Frag} {ρ : Nat → Addr} {H : Hp} : ∀ {ps qs : List A} {vs ws : List V}, RAs D K ρ H vs ps → RAs D K ρ H ws qs → RAs D K ρ H (vs ++ ws) (ps ++ qs)
  | [], _, _, _, h, g => by cases h; exact g
  | p :: ps, _, _, _, h, g => by
    cases h with
    | cons h1 h2 => exact .cons h1 (RAs.append h2 g)
theorem RAs.of {D : Dat} {K : PySem.W.Frag} {ρ : Nat → Addr} {H : Hp} : ∀ {ps : List P} {vs : List V}, RPs K H vs ps → RAs D K ρ H vs (ps.map .p)
  | [], _, h => by cases h; exact .nil
  | p :: ps, _, h => by
    cases h with
    | cons h1 h2 => exact .cons (.p h1) (RAs.of h2)
theorem RAs.pure {D : Dat} {K : PySem.W.Frag} {ρ : Nat → Addr} {H : Hp} : ∀ {as : List A} {vs : List V} {ps : List P}, RAs D K ρ H vs as → A.pure? as = some ps → RPs K H vs ps
  | [], _, _, h, e => by cases h; cases e; exact .nil
  | a :: as, _, ps, h, e => by
    cases h with
    | cons h1 h2 =>
      cases h1 with
      | p h1 =>
        simp only [A.pure?] at e
        cases q : A.pure? as with
        | none => rw [q] at e; cases e
        | some r => rw [q] at e; cases e; exact .cons h1 (h2.pure q)
      | ref => cases e
      | tup _ _ => cases e
theorem RA.mk {D : Dat} {K : PySem.W.Frag} {ρ : Nat → Addr} {H : Hp} {b : Addr} {vs : List V} {as : List A} (h : TA H b vs) (r : RAs D K ρ H vs as) : RA D K ρ H (.ref b) (A.mk as) := by
  unfold A.mk
  cases q : A.pure? as with
  | none => exact .tup h r
  | some ps => exact .p (.tup h (r.pure q))
theorem bel_mk {n : Nat} {as : List A} (h : A.bels n as = true) : (A.mk as).bel n = true := by
  unfold A.mk
  cases q : A.pure? as with
  | none => exact h
  | some ps => rfl

/-! ### objects -/
/-- an entry of a dict: its key a tuple; its key a number or a text -/
def RT (D : Dat) (K : PySem.W.Frag) (ρ : Nat → Addr) (H : Hp) : (Fc.P × A) → (NestedKey × Addr × V) → Prop := fun p q => p.1.nk = some q.1 ∧ q.1.depth ≤ 8 ∧ RP K H (.ref q.2.1) p.1 ∧ RA D K ρ H q.2.2 p.2
def RK (D : Dat) (K : PySem.W.Frag) (ρ : Nat → Addr) (H : Hp) : (Fc.P × A) → (L2.Key × V) → Prop := fun p q => p.1.k1 = some q.1 ∧ RA D K ρ H q.2 p.2
theorem paired_all {α β : Type} {F G : α → β → Prop} {C : α → Prop} (h : ∀ a b, C a → F a b → G a b) : ∀ {l : List α} {m : List β}, (∀ a ∈ l, C a) → Paired F l m → Paired G l m
  | _, _, _, .nil => .nil
  | _, _, c, .cons r t => .cons (h _ _ (c _ List.mem_cons_self) r) (paired_all h (fun a ha => c a (List.mem_cons_of_mem _ ha)) t)
def RO (D : Dat) (K : PySem.W.Frag) (P : Program) (w : World) (ρ : Nat → Addr) (H : Hp) (a : Addr) : MO → Prop
  | .lst xs => ∃ vs, H a = some (.lst vs) ∧ RAs D K ρ H vs xs
  | .dct .e kvs => kvs = [] ∧ H a = some (.dK [])
  | .dct .t kvs => ∃ xs, H a = some (.ext (DxO P w a xs)) ∧ Paired (RT D K ρ H) kvs xs
  | .dct _ kvs => ∃ xs, H a = some (.dK xs) ∧ Paired (RK D K ρ H) kvs xs
  | _ => False
structure OR (D : Dat) (K : PySem.W.Frag) (P : Program) (w : World) (bs : List Nat) (ρ : Nat → Addr) (H : Hp) (st : St) : Prop where
  obj : ∀ (j : Nat) (o : MO), st[j]? = some o → RO D K P w ρ H (ρ j) o ∧ o.bel st.length = true
  low : ∀ b ∈ bs, b ≤ st.length ∧ ∀ (j : Nat) (o : MO), j < b → st[j]? = some o → o.bel b = true
  inj : ∀ i j : Nat, i < st.length → j < st.length → ρ i = ρ j → i = j
/-- what a slot holds -/
def RS (D : Dat) (K : PySem.W.Frag) (ex : Ex) (ρ : Nat → Addr) (H : Hp) (n i : Nat) (v : V) (a : A) : Prop :=
  (RA D K ρ H v a ∧ a.bel n = true) ∨ ∃ c fs, a = .exn c fs ∧ ExAt D K ex i H v c fs
structure SR (D : Dat) (K : PySem.W.Frag) (P : Program) (w : World) (ex : Ex) (bs : List Nat) (ρ : Nat → Addr) (H : Hp) (σc : L2.St) (σ : Sl) (st : St) : Prop where
  sl : ∀ (i : Nat) (a : A), σ[i]? = some (some a) → ∃ v, σc[i]? = some (some v) ∧ RS D K ex ρ H st.length i v a
  ob : OR D K P w bs ρ H st
  len : σ.length = σc.length
theorem RO.mono {D : Dat} {K : PySem.W.Frag} {P : Program} {w : World} {ρ ρ' : Nat → Addr} {H H' : Hp} {n : Nat} (e : Ext H H') (ag : ∀ j, j < n → ρ' j = ρ j) {a : Addr} {o : MO}
    (ha : H' a = H a) (h : RO D K P w ρ H a o) (b : o.bel n = true) : RO D K P w ρ' H' a o := by
  cases o with
  | lst xs =>
    obtain ⟨vs, h1, h2⟩ := h
    exact ⟨vs, ha.trans h1, RAs.mono e ag xs vs h2 b⟩
  | dct k kvs =>
    have bb : ∀ p ∈ kvs, p.2.bel n = true := by simpa [MO.bel] using b
    have gk : ∀ xs, H a = some (.dK xs) → Paired (RK D K ρ H) kvs xs → ∃ xs, H' a = some (.dK xs) ∧ Paired (RK D K ρ' H') kvs xs := fun xs h1 h2 =>
      ⟨xs, ha.trans h1, paired_all (C := fun p => p.2.bel n = true) (fun p q c z => ⟨z.1, RA.mono e ag _ _ z.2 c⟩) bb h2⟩
    cases k with
    | e => exact ⟨h.1, ha.trans h.2⟩
    | t =>
      obtain ⟨xs, h1, h2⟩ := h
      exact ⟨xs, ha.trans h1, paired_all (C := fun p => p.2.bel n = true) (fun p q c z => ⟨z.1, z.2.1, RP.ext e _ _ z.2.2.1, RA.mono e ag _ _ z.2.2.2 c⟩) bb h2⟩
    | i => obtain ⟨xs, h1, h2⟩ := h; exact gk xs h1 h2
    | s => obtain ⟨xs, h1, h2⟩ := h; exact gk xs h1 h2
  | clo _ _ => exact h.elim
  | ins _ _ => exact h.elim
theorem RO.kind {D : Dat} {K : PySem.W.Frag} {P : Program} {w : World} {ρ : Nat → Addr} {H : Hp} {a : Addr} {o : MO} (h : RO D K P w ρ H a o) : ∃ ho, H a = some ho ∧ (∀ xs, ho ≠ .tup xs) ∧ (∀ o u, ho ≠ .frz o u) ∧ (∀ fs, ho ≠ .xd fs) := by
  cases o with
  | lst xs =>
    obtain ⟨vs, h1, h2⟩ := h
    exact ⟨_, h1, fun _ z => (by cases z), fun _ _ z => (by cases z), fun _ z => (by cases z)⟩
  | dct k kvs =>
    cases k with
    | e => exact ⟨_, h.2, fun _ z => (by cases z), fun _ _ z => (by cases z), fun _ z => (by cases z)⟩
    | t => obtain ⟨xs, h1, h2⟩ := h; exact ⟨_, h1, fun _ z => (by cases z), fun _ _ z => (by cases z), fun _ z => (by cases z)⟩
    | i => obtain ⟨xs, h1, h2⟩ := h; exact ⟨_, h1, fun _ z => (by cases z), fun _ _ z => (by cases z), fun _ z => (by cases z)⟩
    | s => obtain ⟨xs, h1, h2⟩ := h; exact ⟨_, h1, fun _ z => (by cases z), fun _ _ z => (by cases z), fun _ z => (by cases z)⟩
  | clo _ _ => exact h.elim
  | ins _ _ => exact h.elim

/-! ### steps -/
structure Po (D : Dat) (K : PySem.W.Frag) (P : Program) (w : World) (bs : List Nat) (ρ : Nat → Addr) (st : St) (H : Hp) (ρ' : Nat → Addr) (st' : St) (H' : Hp) : Prop where
  ag : ∀ j, j < st.length → ρ' j = ρ j
  le : st.length ≤ st'.length
  fr : ∀ b o, H b = some o → (∀ j, j < st.length → ρ j ≠ b) → H' b = some o
  new : ∀ j, st.length ≤ j → j < st'.length → H (ρ' j) = none
  ob : OR D K P w bs ρ' H' st'
section
variable {D : Dat} {K : PySem.W.Frag} {P : Program} {w : World} {bs : List Nat} {ρ ρ1 ρ2 : Nat → Addr} {st st1 st2 : St} {H H1 H2 : Hp} {σc : L2.St} {σ : Sl}
theorem OR.ext (o : OR D K P w bs ρ H st) (fr : ∀ b u, H b = some u → (∀ j, j < st.length → ρ j ≠ b) → H1 b = some u) : Ext H H1 := by
  have key : ∀ b u, H b = some u → ((∀ xs, u ≠ .tup xs) ∧ (∀ o v, u ≠ .frz o v) ∧ (∀ fs, u ≠ .xd fs) → False) → H1 b = some u := fun b u hb nk => by
    refine fr b u hb fun j hj e => nk ?_
    obtain ⟨m, hm⟩ : ∃ m, st[j]? = some m := ⟨_, List.getElem?_eq_getElem hj⟩
    obtain ⟨ho, h1, h2, h3, h4⟩ := (o.obj j m hm).1.kind
    rw [e, hb] at h1
    cases h1
    exact ⟨h2, h3, h4⟩
  exact ⟨fun b xs h => key b _ h fun z => z.1 xs rfl, fun b o u h => key b _ h fun z => z.2.1 o u rfl, fun b fs h => key b _ h fun z => z.2.2 fs rfl⟩
theorem Po.ext (o : OR D K P w bs ρ H st) (p : Po D K P w bs ρ st H ρ1 st1 H1) : Ext H H1 := o.ext p.fr
theorem Po.refl (o : OR D K P w bs ρ H st) : Po D K P w bs ρ st H ρ st H := ⟨fun _ _ => rfl, Nat.le_refl _, fun _ _ h _ => h, fun j h1 h2 => absurd h2 (by omega), o⟩
theorem Po.trans (a : Po D K P w bs ρ st H ρ1 st1 H1) (b : Po D K P w bs ρ1 st1 H1 ρ2 st2 H2) : Po D K P w bs ρ st H ρ2 st2 H2 where
  ag := fun j h => (b.ag j (Nat.lt_of_lt_of_le h a.le)).trans (a.ag j h)
  le := Nat.le_trans a.le b.le
  fr := fun c o hc hn => b.fr c o (a.fr c o hc hn) fun j hj e => by
    by_cases h : j < st.length
    · rw [a.ag j h] at e; exact hn j h e
    · have := a.new j (by omega) hj
      rw [e, hc] at this; cases this
  new := fun j h1 h2 => by
    by_cases h : j < st1.length
    · rw [b.ag j h]; exact a.new j h1 h
    · have q := b.new j (by omega) h2
      cases e : H (ρ2 j) with
      | none => rfl
      | some o =>
        have : H1 (ρ2 j) = some o := a.fr _ o e fun i hi z => by
          -- an old object's address: it is tracked still
          have hi1 : i < st1.length := Nat.lt_of_lt_of_le hi a.le
          obtain ⟨m, hm⟩ : ∃ m, st1[i]? = some m := ⟨_, List.getElem?_eq_getElem hi1⟩
          obtain ⟨ho, t1, _⟩ := (a.ob.obj i m hm).1.kind
          rw [a.ag i hi, z, q] at t1
          cases t1
        rw [q] at this; cases this
  ob := b.ob
theorem SR.step {ex : Ex} (s : SR D K P w ex bs ρ H σc σ st) (p : Po D K P w bs ρ st H ρ1 st1 H1) : SR D K P w ex bs ρ1 H1 σc σ st1 :=
  ⟨fun i a e => by
    obtain ⟨v, h1, h2⟩ := s.sl i a e
    refine ⟨v, h1, ?_⟩
    rcases h2 with ⟨h2, h3⟩ | ⟨c, fs, rfl, h⟩
    · exact .inl ⟨RA.mono (p.ext s.ob) p.ag a v h2 h3, bel_mono p.le a h3⟩
    · exact .inr ⟨c, fs, rfl, h.ext (p.ext s.ob)⟩, p.ob, s.len⟩
theorem Po.ra (s : OR D K P w bs ρ H st) (p : Po D K P w bs ρ st H ρ1 st1 H1) {a : A} {v : V} (r : RA D K ρ H v a) (b : a.bel st.length = true) : RA D K ρ1 H1 v a ∧ a.bel st1.length = true :=
  ⟨RA.mono (p.ext s) p.ag a v r b, bel_mono p.le a b⟩
theorem Po.ras (s : OR D K P w bs ρ H st) (p : Po D K P w bs ρ st H ρ1 st1 H1) {a : List A} {v : List V} (r : RAs D K ρ H v a) (b : A.bels st.length a = true) : RAs D K ρ1 H1 v a ∧ A.bels st1.length a = true :=
  ⟨RAs.mono (p.ext s) p.ag a v r b, bels_mono p.le a b⟩
/-- a new object is laid -/
def rho (ρ : Nat → Addr) (n : Nat) (p : Addr) : Nat → Addr := fun j => if j = n then p else ρ j
theorem Po.push (o : OR D K P w bs ρ H st) {p : Addr} (hp : H p = none) {m : MO} {ho : HO} (hk : (∀ xs, ho ≠ .tup xs) ∧ (∀ o u, ho ≠ .frz o u) ∧ (∀ fs, ho ≠ .xd fs))
    (hm : ∀ ρ' : Nat → Addr, (∀ j, j < st.length → ρ' j = ρ j) → Ext H (upd H p ho) → RO D K P w ρ' (upd H p ho) p m) (hb : m.bel st.length = true) :
    Po D K P w bs ρ st H (rho ρ st.length p) (st ++ [m]) (upd H p ho) := by
  have ag : ∀ j, j < st.length → rho ρ st.length p j = ρ j := fun j h => by unfold rho; rw [if_neg (by omega)]
  have at_ : rho ρ st.length p st.length = p := by unfold rho; rw [if_pos rfl]
  have fr : ∀ b u, H b = some u → (upd H p ho) b = some u := fun b u h => by rw [upd_ne (ne_of_none h hp)]; exact h
  have ext : Ext H (upd H p ho) := ⟨fun b xs h => fr b _ h, fun b o u h => fr b _ h, fun b fs h => fr b _ h⟩
  have old : ∀ (j : Nat) (u : MO), st[j]? = some u → ρ j ≠ p := fun j u h e => by
    obtain ⟨ho', t, _⟩ := (o.obj j u h).1.kind
    rw [e, hp] at t; cases t
  refine ⟨ag, by simp, fun b u h _ => fr b u h, fun j h1 h2 => ?_, ⟨fun j u h => ?_, fun b hb' => ?_, fun i j hi hj e => ?_⟩⟩
  · have : j = st.length := by simp at h2; omega
    subst this
    rw [at_]; exact hp
  · by_cases hj : j < st.length
    · rw [List.getElem?_append_left hj] at h
      obtain ⟨h1, h2⟩ := o.obj j u h
      refine ⟨?_, obel_mono (by simp) u h2⟩
      rw [ag j hj]
      exact h1.mono ext ag (upd_ne (old j u h)) h2
    · have e : j = st.length := by
        have := (List.getElem?_eq_some_iff.mp h).1
        simp at this; omega
      subst e
      simp at h
      subst h
      rw [at_]
      exact ⟨hm _ ag ext, obel_mono (by simp) m hb⟩
  · obtain ⟨h1, h2⟩ := o.low b hb'
    refine ⟨by simp; omega, fun j u hj h => h2 j u hj ?_⟩
    rw [List.getElem?_append_left (by omega)] at h
    exact h
  · simp only [List.length_append, List.length_cons, List.length_nil] at hi hj
    by_cases h1 : i < st.length <;> by_cases h2 : j < st.length
    · rw [ag i h1, ag j h2] at e; exact o.inj i j h1 h2 e
    · have : j = st.length := by omega
      subst this
      rw [ag i h1, at_] at e
      exact absurd e (old i _ (List.getElem?_eq_getElem h1))
    · have : i = st.length := by omega
      subst this
      rw [ag j h2, at_] at e
      exact absurd e.symm (old j _ (List.getElem?_eq_getElem h2))
    · omega
/-- an object that is not of the store is laid (a tuple) -/
theorem Po.beside (o : OR D K P w bs ρ H st) {p : Addr} (hp : H p = none) {ho : HO} : Po D K P w bs ρ st H ρ st (upd H p ho) := by
  have fr : ∀ b u, H b = some u → (upd H p ho) b = some u := fun b u h => by rw [upd_ne (ne_of_none h hp)]; exact h
  have ext : Ext H (upd H p ho) := ⟨fun b xs h => fr b _ h, fun b o u h => fr b _ h, fun b fs h => fr b _ h⟩
  refine ⟨fun _ _ => rfl, Nat.le_refl _, fun b u h _ => fr b u h, fun j h1 h2 => absurd h2 (by omega), ⟨fun j u h => ?_, o.low, o.inj⟩⟩
  obtain ⟨h1, h2⟩ := o.obj j u h
  obtain ⟨hq, t, _⟩ := id h1.kind
  exact ⟨h1.mono ext (fun _ _ => rfl) ((fr _ _ t).trans t.symm) h2, h2⟩
/-- an object of the store is changed -/
theorem Po.put (o : OR D K P w bs ρ H st) {j : Nat} (hj : j < st.length) {m : MO} {ho : HO} (hk : (∀ xs, ho ≠ .tup xs) ∧ (∀ o u, ho ≠ .frz o u) ∧ (∀ fs, ho ≠ .xd fs))
    (hm : Ext H (upd H (ρ j) ho) → RO D K P w ρ (upd H (ρ j) ho) (ρ j) m) (hb : m.bel st.length = true) (hl : ∀ b ∈ bs, b ≤ j ∨ m.bel b = true) :
    Po D K P w bs ρ st H ρ (st.set j m) (upd H (ρ j) ho) := by
  have fr : ∀ b u, H b = some u → (∀ i, i < st.length → ρ i ≠ b) → (upd H (ρ j) ho) b = some u := fun b u h hn => by rw [upd_ne (fun e => hn j hj e.symm)]; exact h
  have ext := o.ext fr
  refine ⟨fun _ _ => rfl, by simp, fr, fun i h1 h2 => absurd h2 (by simp; omega), ⟨fun i u h => ?_, fun b hb' => ?_, fun a b ha hb => o.inj a b (by simpa using ha) (by simpa using hb)⟩⟩
  · rw [List.length_set]
    by_cases e : i = j
    · subst e
      rw [List.getElem?_set_self hj] at h
      cases h
      exact ⟨hm ext, hb⟩
    · rw [List.getElem?_set_ne (fun z => e z.symm)] at h
      obtain ⟨h1, h2⟩ := o.obj i u h
      have hi : i < st.length := (List.getElem?_eq_some_iff.mp h).1
      exact ⟨h1.mono ext (fun _ _ => rfl) (upd_ne fun z => e (o.inj i j hi hj z)) h2, h2⟩
  · obtain ⟨h1, h2⟩ := o.low b hb'
    refine ⟨by simpa using h1, fun i u hi h => ?_⟩
    by_cases e : i = j
    · subst e
      rw [List.getElem?_set_self hj] at h
      cases h
      rcases hl b hb' with z | z
      · omega
      · exact z
    · rw [List.getElem?_set_ne (fun z => e z.symm)] at h
      exact h2 i u hi h
end
end Fc

set_option Elab.async false
set_option linter.all false
set_option maxRecDepth 100000
set_option maxHeartbeats 4000000
/-! FcDct: what a dict of the store is asked and told. -/
namespace Fc
open PySem PySem.Spec PyProof.Rows L2
section
variable {X : Cx} {pins : List (Addr × Obj)} {σ : L2.St} {H : Hp} {s : Shared}
mutual
theorem nk_is (I : Inv X pins σ H s) : ∀ (p : Fc.P) (v : V) (u : Value) (k : NestedKey), RP X.K H v p → p.nk = some k → RelV v u → NestedIs s.heap k u
  | .non, v, u, k, h, e, r => by
    cases h; cases e
    cases (show u = Value.none from r)
    exact .none
  | .int i, v, u, k, h, e, r => by
    cases h; cases e
    obtain ⟨t, rfl⟩ := r
    exact .int _ _
  | .str x, v, u, k, h, e, r => by
    cases h; cases e
    obtain ⟨t, rfl⟩ := r
    exact .text _ _
  | .tup xs, v, u, k, h, e, r => by
    rw [Fc.P.nk] at e
    obtain ⟨ks, e0, rfl⟩ := Option.map_eq_some_iff.mp e
    cases h with
    | tup h1 h2 =>
      rename_i a vs
      cases (show u = Value.ref a from r)
      obtain ⟨its, rv, ⟨o, q1, q2, n, q3⟩, _⟩ := I.tuple h1.sqt
      exact .tup q1 q2 q3 (by simpa using nks_is I xs vs its ks h2 e0 rv)
  | .bl _, _, _, _, _, e, _ => by cases e
  | .frz _, _, _, _, _, e, _ => by cases e
theorem nks_is (I : Inv X pins σ H s) : ∀ (ps : List Fc.P) (vs : List V) (us : List Value) (ks : List NestedKey), RPs X.K H vs ps → Fc.P.nks ps = some ks → Vals vs us → NestedAll s.heap ks us
  | [], vs, us, ks, h, e, r => by
    cases h; cases e; cases r
    exact .nil
  | p :: ps, vs, us, ks, h, e, r => by
    rw [Fc.P.nks] at e
    obtain ⟨k, e1, e⟩ := Option.bind_eq_some_iff.mp e
    obtain ⟨kr, e2, rfl⟩ := Option.map_eq_some_iff.mp e
    cases h with
    | cons h1 h2 =>
      cases r with
      | cons r1 r2 => exact .cons (nk_is I p _ _ _ h1 e1 r1) (nks_is I ps _ _ _ h2 e2 r2)
end
end
/-! ### what stands at a key -/
theorem look_k {D : Dat} {K : PySem.W.Frag} {ρ : Nat → Addr} {H : Hp} {kvs : List (Fc.P × A)} {xs : List (L2.Key × V)} (r : Paired (RK D K ρ H) kvs xs) {key : Fc.P} {k : L2.Key} (hk : key.k1 = some k) :
    match look kvs key with
    | some a => ∃ v, valV xs k = some v ∧ RA D K ρ H v a
    | none => valV xs k = none := by
  induction r with
  | nil => rfl
  | @cons p q ps qs h t ih =>
    obtain ⟨h1, h2⟩ := h
    obtain ⟨p1, p2⟩ := p
    rw [look]
    by_cases e : p1 = key
    · subst e
      rw [if_pos rfl, valV_pos (by rw [h1] at hk; exact Option.some.inj hk)]
      exact ⟨_, rfl, h2⟩
    · rw [if_neg e, valV_neg (fun z => e (Fc.P.k1_inj (by rw [h1, z]) hk))]
      exact ih
theorem put_k {D : Dat} {K : PySem.W.Frag} {ρ : Nat → Addr} {H : Hp} {key : Fc.P} {k : L2.Key} (hk : key.k1 = some k) {v : V} {a : A} (rv : RA D K ρ H v a) {kvs : List (Fc.P × A)} {xs : List (L2.Key × V)} (r : Paired (RK D K ρ H) kvs xs) (nd : (xs.map (·.1)).Nodup) :
    Paired (RK D K ρ H) (putKV kvs key a) (putK xs k v) := by
  have key1 : ∀ {kvs : List (Fc.P × A)} {xs : List (L2.Key × V)}, Paired (RK D K ρ H) kvs xs → (xs.map (·.1)).Nodup → Paired (RK D K ρ H) (putKV kvs key a) (if (xs.any fun kv => decide (kv.1 = k)) = true then xs.map (fun kv => if kv.1 = k then (kv.1, v) else kv) else xs ++ [(k, v)]) := by
    intro kvs xs r
    induction r with
    | nil => intro _; exact .cons ⟨hk, rv⟩ .nil
    | @cons p q ps qs h t ih =>
      intro nd
      rw [List.map_cons, List.nodup_cons] at nd
      obtain ⟨h1, h2⟩ := h
      obtain ⟨p1, p2⟩ := p
      rw [putKV]
      by_cases e : p1 = key
      · subst e
        have eq : q.1 = k := by rw [h1] at hk; exact Option.some.inj hk
        rw [if_pos rfl, if_pos (by rw [List.any_cons, decide_eq_true eq]; rfl), List.map_cons, if_pos eq]
        refine .cons ⟨h1, rv⟩ ?_
        have : qs.map (fun kv => if kv.1 = k then (kv.1, v) else kv) = qs := by
          refine (List.map_congr_left fun z hz => ?_).trans (List.map_id _)
          rw [if_neg]; rfl
          intro z2
          exact nd.1 (List.mem_map.mpr ⟨z, hz, z2.trans eq.symm⟩)
        rw [this]
        exact t
      · have ne : ¬ q.1 = k := fun z => e (Fc.P.k1_inj (by rw [h1, z]) hk)
        rw [if_neg e, List.any_cons, decide_eq_false ne, Bool.false_or]
        have := ih nd.2
        split at this
        · rename_i c
          rw [if_pos c, List.map_cons, if_neg ne]
          exact .cons ⟨h1, h2⟩ this
        · rename_i c
          rw [if_neg c, List.cons_append]
          exact .cons ⟨h1, h2⟩ this
  exact key1 r nd
theorem look_t {D : Dat} {K : PySem.W.Frag} {ρ : Nat → Addr} {H : Hp} {key : Fc.P} {k : NestedKey} (hk : key.nk = some k) : ∀ {kvs : List (Fc.P × A)} {xs : List (NestedKey × Addr × V)} {ys : List (NestedKey × Addr × Value)}, Paired (RT D K ρ H) kvs xs → Paired DxRel xs ys →
    match look kvs key with
    | some a => ∃ b v u, atKey ys k = some (b, u) ∧ RelV v u ∧ RA D K ρ H v a
    | none => atKey ys k = none := by
  intro kvs xs ys r
  induction r generalizing ys with
  | nil => intro r2; cases r2; rfl
  | @cons p q ps qs h t ih =>
    intro r2
    cases r2 with
    | @cons _ y _ yr g t2 =>
      obtain ⟨h1, h2, h3, h4⟩ := h
      obtain ⟨g1, g2, g3⟩ := g
      obtain ⟨p1, p2⟩ := p
      rw [look]
      by_cases e : p1 = key
      · subst e
        have eq : y.1 = k := by rw [← g1]; rw [h1] at hk; exact Option.some.inj hk
        rw [if_pos rfl]
        exact ⟨y.2.1, q.2.2, y.2.2, by simp [atKey, List.find?_cons, eq], g3, h4⟩
      · have ne : ¬ y.1 = k := fun z => e (Fc.P.nk_inj _ _ _ (by rw [h1, g1, z]) hk)
        rw [if_neg e]
        have ev : atKey (y :: yr) k = atKey yr k := by simp [atKey, List.find?_cons, ne]
        rw [ev]
        exact ih t2
theorem put_t {D : Dat} {K : PySem.W.Frag} {ρ : Nat → Addr} {H : Hp} {key : Fc.P} {k : NestedKey} (hk : key.nk = some k) (hd : k.depth ≤ 8) {b : Addr} (rb : RP K H (.ref b) key) {v : V} {u : Value} {a : A} (rv : RelV v u) (ra : RA D K ρ H v a) :
    ∀ {kvs : List (Fc.P × A)} {xs : List (NestedKey × Addr × V)} {ys : List (NestedKey × Addr × Value)}, Paired (RT D K ρ H) kvs xs → Paired DxRel xs ys → (ys.map (·.1)).Nodup → ∃ xs', Paired (RT D K ρ H) (putKV kvs key a) xs' ∧ Paired DxRel xs' (storedH ys k b u) := by
  have key1 : ∀ {kvs : List (Fc.P × A)} {xs : List (NestedKey × Addr × V)} {ys : List (NestedKey × Addr × Value)}, Paired (RT D K ρ H) kvs xs → Paired DxRel xs ys → (ys.map (·.1)).Nodup → ∃ xs', Paired (RT D K ρ H) (putKV kvs key a) xs' ∧ Paired DxRel xs' (if (atKey ys k).isSome = true then ys.map (putAt k u) else ys ++ [(k, b, u)]) := by
    intro kvs xs ys r
    induction r generalizing ys with
    | nil => intro r2 _; cases r2; exact ⟨[(k, b, v)], .cons ⟨hk, hd, rb, ra⟩ .nil, .cons ⟨rfl, rfl, rv⟩ .nil⟩
    | @cons p q ps qs h t ih =>
      intro r2 nd
      cases r2 with
      | @cons _ y _ yr g t2 =>
        rw [List.map_cons, List.nodup_cons] at nd
        obtain ⟨h1, h2, h3, h4⟩ := h
        obtain ⟨g1, g2, g3⟩ := g
        obtain ⟨p1, p2⟩ := p
        rw [putKV]
        by_cases e : p1 = key
        · subst e
          have eq : y.1 = k := by rw [← g1]; rw [h1] at hk; exact Option.some.inj hk
          have ev : atKey (y :: yr) k = some y.2 := by simp [atKey, List.find?_cons, eq]
          rw [if_pos rfl, ev]
          simp only [Option.isSome_some, if_true, List.map_cons]
          refine ⟨(q.1, q.2.1, v) :: qs, .cons ⟨h1, h2, h3, ra⟩ t, ?_⟩
          have : yr.map (putAt k u) = yr := by
            refine (List.map_congr_left fun z hz => ?_).trans (List.map_id _)
            unfold putAt
            rw [if_neg]; rfl
            intro z2
            exact nd.1 (List.mem_map.mpr ⟨z, hz, z2.trans eq.symm⟩)
          rw [this]
          refine .cons ?_ t2
          unfold putAt
          rw [if_pos eq]
          exact ⟨g1, g2, rv⟩
        · have ne : ¬ y.1 = k := fun z => e (Fc.P.nk_inj _ _ _ (by rw [h1, g1, z]) hk)
          have ev : atKey (y :: yr) k = atKey yr k := by simp [atKey, List.find?_cons, ne]
          rw [if_neg e, ev]
          obtain ⟨xs', a1, a2⟩ := ih t2 nd.2
          refine ⟨q :: xs', .cons ⟨h1, h2, h3, h4⟩ a1, ?_⟩
          split at a2
          · rename_i c
            rw [if_pos c, List.map_cons]
            refine .cons ?_ a2
            unfold putAt
            rw [if_neg ne]
            exact ⟨g1, g2, g3⟩
          · rename_i c
            rw [if_neg c, List.cons_append]
            exact .cons ⟨g1, g2, g3⟩ a2
  intro kvs xs ys r r2 nd
  unfold storedH
  exact key1 r r2 nd
/-! ### at a state -/
section
variable {X : Cx} {D : Dat} {pins : List (Addr × Obj)} {σ : L2.St} {H : Hp} {s : Shared} {ρ : Nat → Addr}
theorem dx_all (I : Inv X pins σ H s) : ∀ {kvs : List (Fc.P × A)} {xs : List (NestedKey × Addr × V)} {ys : List (NestedKey × Addr × Value)}, Paired (RT D X.K ρ H) kvs xs → Paired DxRel xs ys → ∀ y ∈ ys, (nestedKind X.prog X.w).is s.heap y.1 y.2.1 := by
  intro kvs xs ys r
  induction r generalizing ys with
  | nil => intro r2 y hy; cases r2; cases hy
  | @cons p q ps qs h t ih =>
    intro r2 y hy
    cases r2 with
    | @cons _ z _ zr g t2 =>
      rcases List.mem_cons.mp hy with rfl | hy
      · obtain ⟨h1, h2, h3, h4⟩ := h
        obtain ⟨g1, g2, g3⟩ := g
        rw [← g1, ← g2]
        exact ⟨nk_is I _ _ _ _ h3 h1 rfl, h2⟩
      · exact ih t2 y hy
theorem dx_of (I : Inv X pins σ H s) {a : Addr} {kvs : List (Fc.P × A)} {xs : List (NestedKey × Addr × V)} (e : H a = some (.ext (DxO X.prog X.w a xs))) (r : Paired (RT D X.K ρ H) kvs xs) :
    ∃ ys, Paired DxRel xs ys ∧ s.heap.DictOfH (nestedKind X.prog X.w) a ys ∧ (a == sysModules) = false ∧ ys.length ≤ sizeLine ∧ ys.length = kvs.length := by
  obtain ⟨⟨ys, o, es, ep, q1, q2, q3, q4, q5, q6, q7, q8⟩, _, _⟩ := I.hok a _ e
  exact ⟨ys, q1, ⟨o, es, ep, q2, q3, q4, q5, dx_all I r q1, q6⟩, q7, q8, by rw [← Paired.length q1, ← Paired.length r]⟩
theorem dx_emp (I : Inv X pins σ H s) {a : Addr} (e : H a = some (.dK [])) : s.heap.DictOfH (nestedKind X.prog X.w) a [] ∧ (a == sysModules) = false := by
  obtain ⟨z, hd, vs, rel, o, es, ep, h1, h2, h3, h4⟩ := dk_of I.hok e
  cases rel
  refine ⟨⟨o, es, ep, h1, h2, h3, ?_, fun x hx => (by cases hx), List.nodup_nil⟩, hd⟩
  have l := h4.2.1.length
  rw [List.map_nil]
  exact List.length_eq_zero_iff.mp (by simpa using l)
/-- a key that may be asked for -/
inductive Askd (X : Cx) (H : Hp) (s : Shared) (y : V) (u : Value) (key : Fc.P) : DK → Prop
  | k1 {d : DK} {k : L2.Key} : key.k1 = some k → y = kV k → dkOf key = some d → d ≠ .t → Askd X H s y u key d
  | t {k : NestedKey} {b : Addr} : key.nk = some k → k.depth ≤ 8 → y = .ref b → u = .ref b → RP X.K H (.ref b) key → (nestedKind X.prog X.w).is s.heap k b → dkOf key = some .t → Askd X H s y u key .t
theorem askd (I : Inv X pins σ H s) {y : V} {u : Value} {key : Fc.P} {d : DK} (rk : RP X.K H y key) (ry : RelV y u) (h : dkOf key = some d) : Askd X H s y u key d := by
  cases key with
  | int i => cases h; cases rk; exact .k1 (k := .inl i) rfl rfl rfl (by decide)
  | str x => cases h; cases rk; exact .k1 (k := .inr x) rfl rfl rfl (by decide)
  | tup xs =>
    have h0 := h
    rw [dkOf] at h
    split at h
    · rename_i hk
      cases h
      obtain ⟨k, e, dk⟩ := Fc.P.nk_kd (.tup xs) (by omega)
      cases id rk with
      | tup h1 h2 =>
        rename_i b vs
        cases (show u = Value.ref b from ry)
        exact .t e (by omega) rfl rfl rk ⟨nk_is I _ _ _ _ rk e rfl, by omega⟩ h0
    · cases h
  | _ => cases h
theorem ask_dk {k : DK} {key : Fc.P} (h : askable k key = true) : ∃ d, dkOf key = some d ∧ (k = .e ∨ k = d) := by
  unfold askable at h
  cases e : dkOf key with
  | none => rw [e] at h; cases h
  | some d =>
    rw [e] at h
    exact ⟨d, rfl, by simpa using h⟩
theorem room8 {A : Around} (hu : A.units + 70 < cLine) : (nestedKind X.prog X.w).room A.in1 := by
  show A.units + 1 + 8 < cLine
  omega
/-- the dict at the key: by numbers and texts, or by tuples -/
theorem dct_ask (I : Inv X pins σ H s) {bs : List Nat} {st : St} (o : OR D X.K X.prog X.w bs ρ H st) {j : Nat} {k : DK} {kvs : List (Fc.P × A)} (hj : st[j]? = some (.dct k kvs)) {y : V} {u : Value} {key : Fc.P} (rk : RP X.K H y key) (ry : RelV y u) (ha : askable k key = true) :
    (∃ r : Option V, L2.DGet H (ρ j) y r ∧ (match look kvs key with
      | some a => ∃ v, r = some v ∧ RA D X.K ρ H v a
      | none => r = none)) ∨
    ∃ (kn : NestedKey) (b : Addr) (xs : List (NestedKey × Addr × V)) (ys : List (NestedKey × Addr × Value)), y = .ref b ∧ u = .ref b ∧ key.nk = some kn ∧ kn.depth ≤ 8 ∧ dkOf key = some .t ∧ RP X.K H (.ref b) key ∧ (nestedKind X.prog X.w).is s.heap kn b ∧ s.heap.DictOfH (nestedKind X.prog X.w) (ρ j) ys ∧ (ρ j == sysModules) = false ∧
      Paired (RT D X.K ρ H) kvs xs ∧ Paired DxRel xs ys ∧ (H (ρ j) = some (.dK []) ∨ H (ρ j) = some (.ext (DxO X.prog X.w (ρ j) xs))) := by
  obtain ⟨d, hd, hk⟩ := ask_dk ha
  have ob := (o.obj j _ hj).1
  cases askd I rk ry hd with
  | @k1 _ k' a1 a2 a3 a4 =>
    left
    have gk : ∀ xs, H (ρ j) = some (.dK xs) → Paired (RK D X.K ρ H) kvs xs → ∃ r : Option V, L2.DGet H (ρ j) y r ∧ (match look kvs key with
      | some a => ∃ v, r = some v ∧ RA D X.K ρ H v a
      | none => r = none) := fun xs h1 h2 => ⟨valV xs k', by rw [a2]; exact L2.DGet.k h1, by
        have := look_k h2 a1
        cases e : look kvs key with
        | none => rw [e] at this; exact this
        | some a => rw [e] at this; exact this⟩
    cases k with
    | e =>
      obtain ⟨rfl, h1⟩ := ob
      exact gk [] h1 .nil
    | t => rcases hk with hk | hk; cases hk; exact absurd hk.symm a4
    | i => obtain ⟨xs, h1, h2⟩ := ob; exact gk xs h1 h2
    | s => obtain ⟨xs, h1, h2⟩ := ob; exact gk xs h1 h2
  | @t kn b a1 a2 a3 a4 a5 a6 a7 =>
    right
    cases k with
    | e =>
      obtain ⟨rfl, h1⟩ := ob
      obtain ⟨m, hs⟩ := dx_emp I h1
      exact ⟨kn, b, [], [], a3, a4, a1, a2, a7, a5, a6, m, hs, .nil, .nil, .inl h1⟩
    | t =>
      obtain ⟨xs, h1, h2⟩ := ob
      obtain ⟨ys, q1, q2, q3, q4, q5⟩ := dx_of I h1 h2
      exact ⟨kn, b, xs, ys, a3, a4, a1, a2, a7, a5, a6, q2, q3, h2, q1, .inr h1⟩
    | i => rcases hk with hk | hk <;> cases hk
    | s => rcases hk with hk | hk <;> cases hk
/-- key in d -/
theorem dct_in {A' : Around} (hu : A'.units + 70 < cLine) (I : Inv X pins σ H s) {bs : List Nat} {st : St} (o : OR D X.K X.prog X.w bs ρ H st) {j : Nat} {k : DK} {kvs : List (Fc.P × A)} (hj : st[j]? = some (.dct k kvs)) {y : V} {u : Value} {key : Fc.P} (rk : RP X.K H y key) (ry : RelV y u) (ha : askable k key = true)
    {neg : Bool} {Ee : Value → Shared → Prop} {Q : Value → Shared → Prop} (h : ∀ s', Inv X pins σ H s' → Q (.bool (if neg then !(look kvs key).isSome else (look kvs key).isSome)) s') : wpAny (model X.prog X.w) A' (compareOp (if neg then .NotIn else .In) u (.ref (ρ j))) Q Ee s := by
  rcases dct_ask I o hj rk ry ha with ⟨r, g, l⟩ | ⟨kn, b, xs, ys, a1, a2, a3, a4, a5, a6, a7, m, hs, p1, p2, _⟩
  · have e : r.isSome = (look kvs key).isSome := by
      cases e : look kvs key with
      | none => rw [e] at l; rw [l]; rfl
      | some a => rw [e] at l; obtain ⟨v, rfl, _⟩ := l; rfl
    cases neg with
    | true => exact L2.d_notIn (by omega) I g ry fun s' I' => by rw [e]; exact h s' I'
    | false => exact L2.d_in (by omega) I g ry fun s' I' => by rw [e]; exact h s' I'
  · subst a1 a2
    have e : (atKey ys kn).isSome = (look kvs key).isSome := by
      have l := look_t a3 p1 p2
      cases e : look kvs key with
      | none => rw [e] at l; rw [l]; rfl
      | some a => rw [e] at l; obtain ⟨_, _, _, l, _⟩ := l; rw [l]; rfl
    cases neg with
    | true =>
      refine wpAny_notIn_heap (room8 (X := X) hu) a7 hs m ?_
      rw [e]
      exact h _ (I.tok _)
    | false =>
      refine wpAny_in_heap (room8 (X := X) hu) a7 hs m ?_
      rw [e]
      exact h _ (I.tok _)
/-- d[key] -/
theorem dct_get {A' : Around} (hu : A'.units + 70 < cLine) (I : Inv X pins σ H s) {bs : List Nat} {st : St} (o : OR D X.K X.prog X.w bs ρ H st) {j : Nat} {k : DK} {kvs : List (Fc.P × A)} (hj : st[j]? = some (.dct k kvs)) {y : V} {u : Value} {key : Fc.P} (rk : RP X.K H y key) (ry : RelV y u) (ha : askable k key = true)
    {a : A} (hl : look kvs key = some a) {Ee : Value → Shared → Prop} {Q : Value → Shared → Prop} (h : ∀ v w' s', Inv X pins σ H s' → RA D X.K ρ H v a → RelV v w' → Q w' s') : wpAny (model X.prog X.w) A' (getItem (.ref (ρ j)) u) Q Ee s := by
  rcases dct_ask I o hj rk ry ha with ⟨r, g, l⟩ | ⟨kn, b, xs, ys, a1, a2, a3, a4, a5, a6, a7, m, hs, p1, p2, _⟩
  · rw [hl] at l
    obtain ⟨v, rfl, ra⟩ := l
    exact L2.d_getItem (by omega) I g ry fun w' s' I' rv => h v w' s' I' ra rv
  · subst a1 a2
    have l := look_t a3 p1 p2
    rw [hl] at l
    obtain ⟨c, v, w', e, rv, ra⟩ := l
    exact wpAny_getItem_heap (room8 (X := X) hu) a7 m e (h v _ _ (I.tok _) ra rv)
/-- d.get(key), d.get(key, x) -/
theorem dct_get1 {A' : Around} (hu : A'.units + 70 < cLine) (I : Inv X pins σ H s) {bs : List Nat} {st : St} (o : OR D X.K X.prog X.w bs ρ H st) {j : Nat} {k : DK} {kvs : List (Fc.P × A)} (hj : st[j]? = some (.dct k kvs)) {y : V} {u : Value} {key : Fc.P} (rk : RP X.K H y key) (ry : RelV y u) (ha : askable k key = true)
    {Ee : Value → Shared → Prop} {Q : Value → Shared → Prop} (h : ∀ v w' s', Inv X pins σ H s' → RA D X.K ρ H v ((look kvs key).getD (.p .non)) → RelV v w' → Q w' s') : wpAny (model X.prog X.w) A' (call (.builtin "dict.get") [.ref (ρ j), u]) Q Ee s := by
  rcases dct_ask I o hj rk ry ha with ⟨r, g, l⟩ | ⟨kn, b, xs, ys, a1, a2, a3, a4, a5, a6, a7, m, hs, p1, p2, _⟩
  · refine L2.d_get1 (by omega) I g ry fun w' s' I' rv => ?_
    cases e : look kvs key with
    | none => rw [e] at l; subst l; rw [e] at h; exact h .non w' s' I' (.p .non) rv
    | some a => rw [e] at l; obtain ⟨v, rfl, ra⟩ := l; rw [e] at h; exact h v w' s' I' ra rv
  · subst a1 a2
    have l := look_t a3 p1 p2
    refine call_meetsIn PySem.F.slot_dict_get m.typeIs PySem.F.entry_dict_get (PySem.F.args_dict_get_2 _ _) (meetsH_dict_get (nestedKind X.prog X.w) (ρ j) b hs) ⟨room8 (X := X) hu, kn, ys, a7, m, ?_⟩
    cases e : look kvs key with
    | none =>
      rw [e] at l h
      rw [l]
      exact h .non _ _ (I.tok _) (.p .non) rfl
    | some a =>
      rw [e] at l h
      obtain ⟨c, v, w', e2, rv, ra⟩ := l
      rw [e2]
      exact h v _ _ (I.tok _) ra rv
theorem dct_get2 {A' : Around} (hu : A'.units + 70 < cLine) (I : Inv X pins σ H s) {bs : List Nat} {st : St} (o : OR D X.K X.prog X.w bs ρ H st) {j : Nat} {k : DK} {kvs : List (Fc.P × A)} (hj : st[j]? = some (.dct k kvs)) {y : V} {u : Value} {key : Fc.P} (rk : RP X.K H y key) (ry : RelV y u) (ha : askable k key = true)
    {z : V} {zu : Value} {d : A} (rd : RA D X.K ρ H z d) (rz : RelV z zu) {Ee : Value → Shared → Prop} {Q : Value → Shared → Prop} (h : ∀ v w' s', Inv X pins σ H s' → RA D X.K ρ H v ((look kvs key).getD d) → RelV v w' → Q w' s') : wpAny (model X.prog X.w) A' (call (.builtin "dict.get") [.ref (ρ j), u, zu]) Q Ee s := by
  rcases dct_ask I o hj rk ry ha with ⟨r, g, l⟩ | ⟨kn, b, xs, ys, a1, a2, a3, a4, a5, a6, a7, m, hs, p1, p2, _⟩
  · refine L2.d_get2 (by omega) I g ry rz fun w' s' I' rv => ?_
    cases e : look kvs key with
    | none => rw [e] at l; subst l; rw [e] at h; exact h z w' s' I' rd rv
    | some a => rw [e] at l; obtain ⟨v, rfl, ra⟩ := l; rw [e] at h; exact h v w' s' I' ra rv
  · subst a1 a2
    have l := look_t a3 p1 p2
    refine call_meetsIn PySem.F.slot_dict_get m.typeIs PySem.F.entry_dict_get (PySem.F.args_dict_get_3 _ _ _) (meetsH_dict_get_default (nestedKind X.prog X.w) (ρ j) b hs zu) ⟨room8 (X := X) hu, kn, ys, a7, m, ?_⟩
    cases e : look kvs key with
    | none =>
      rw [e] at l h
      rw [l]
      exact h z _ _ (I.tok _) rd rz
    | some a =>
      rw [e] at l h
      obtain ⟨c, v, w', e2, rv, ra⟩ := l
      rw [e2]
      exact h v _ _ (I.tok _) ra rv
theorem putKV_len (key : Fc.P) (a : A) : ∀ kvs : List (Fc.P × A), (putKV kvs key a).length ≤ kvs.length + 1
  | [] => Nat.le_refl _
  | (k, u) :: r => by
    rw [putKV]
    split
    · simp
    · have := putKV_len key a r
      simp only [List.length_cons]; omega
theorem putKV_all {C : A → Prop} (key : Fc.P) {a : A} (ha : C a) : ∀ {kvs : List (Fc.P × A)}, (∀ p ∈ kvs, C p.2) → ∀ p ∈ putKV kvs key a, C p.2
  | [], _, p, hp => by
    rw [putKV, List.mem_singleton] at hp
    subst hp; exact ha
  | (k, u) :: r, h, p, hp => by
    rw [putKV] at hp
    split at hp
    · rcases List.mem_cons.mp hp with rfl | hp
      · exact ha
      · exact h p (List.mem_cons_of_mem _ hp)
    · rcases List.mem_cons.mp hp with rfl | hp
      · exact h _ List.mem_cons_self
      · exact putKV_all key ha (fun q hq => h q (List.mem_cons_of_mem _ hq)) p hp
theorem look_bel {n : Nat} {key : Fc.P} {a : A} : ∀ {kvs : List (Fc.P × A)}, look kvs key = some a → (∀ p ∈ kvs, p.2.bel n = true) → a.bel n = true
  | [], h, _ => by cases h
  | (k, u) :: r, h, b => by
    rw [look] at h
    split at h
    · cases h; exact b _ List.mem_cons_self
    · exact look_bel h fun p hp => b p (List.mem_cons_of_mem _ hp)
theorem bel_dct {n : Nat} {k : DK} {kvs : List (Fc.P × A)} : (MO.dct k kvs).bel n = true ↔ ∀ p ∈ kvs, p.2.bel n = true := by simp [MO.bel]
theorem hk_dct {k : List (L2.Key × V)} : (∀ xs, HO.dK k ≠ .tup xs) ∧ (∀ o u, HO.dK k ≠ .frz o u) ∧ (∀ fs, HO.dK k ≠ .xd fs) := ⟨fun _ z => (by cases z), fun _ _ z => (by cases z), fun _ z => (by cases z)⟩
theorem hk_ext {φ : Heap → Prop} : (∀ xs, HO.ext φ ≠ .tup xs) ∧ (∀ o u, HO.ext φ ≠ .frz o u) ∧ (∀ fs, HO.ext φ ≠ .xd fs) := ⟨fun _ z => (by cases z), fun _ _ z => (by cases z), fun _ z => (by cases z)⟩
/-- d[key] = v -/
theorem dct_set {A' : Around} (hu : A'.units + 70 < cLine) (I : Inv X pins σ H s) {bs : List Nat} {st : St} (o : OR D X.K X.prog X.w bs ρ H st) {j : Nat} {k d : DK} {kvs : List (Fc.P × A)} (hj : st[j]? = some (.dct k kvs)) {y v : V} {u r : Value} {key : Fc.P} {a : A} (rk : RP X.K H y key) (ry : RelV y u)
    (ha : askable k key = true) (hd : dkOf key = some d) (hl : kvs.length < szl) (ra : RA D X.K ρ H v a) (rv : RelV v r) (ba : a.bel st.length = true) (hm : ∀ b ∈ bs, b ≤ j ∨ a.bel b = true) {Ee : Value → Shared → Prop} {Q : Unit → Shared → Prop}
    (h : ∀ s' H', Inv X pins σ H' s' → Po D X.K X.prog X.w bs ρ st H ρ (st.set j (.dct d (putKV kvs key a))) H' → Q () s') : wpAny (model X.prog X.w) A' (setItem (.ref (ρ j)) u r) Q Ee s := by
  obtain ⟨d', hd', hk⟩ := ask_dk ha
  rw [hd] at hd'
  cases hd'
  have ob := o.obj j _ hj
  have hjl := (List.getElem?_eq_some_iff.mp hj).1
  have bk := bel_dct.mp ob.2
  have bn : (MO.dct d (putKV kvs key a)).bel st.length = true := bel_dct.mpr (putKV_all (C := fun a => a.bel st.length = true) key ba bk)
  have bl : ∀ b ∈ bs, b ≤ j ∨ (MO.dct d (putKV kvs key a)).bel b = true := fun b hb => by
    rcases hm b hb with z | z
    · exact .inl z
    · by_cases hbj : b ≤ j
      · exact .inl hbj
      · exact .inr (bel_dct.mpr (putKV_all (C := fun a => a.bel b = true) key z (bel_dct.mp ((o.low b hb).2 j _ (by omega) hj))))
  cases askd I rk ry hd with
  | @k1 _ k' a1 a2 a3 a4 =>
    have gk : ∀ xs, H (ρ j) = some (.dK xs) → Paired (RK D X.K ρ H) kvs xs → wpAny (model X.prog X.w) A' (setItem (.ref (ρ j)) u r) Q Ee s := fun xs h1 h2 => by
      obtain ⟨z, hs, vs, rel, q, es, ep, e1, e2, e3, e4⟩ := dk_of I.hok h1
      have nd : (xs.map (·.1)).Nodup := by rw [rel.keys]; exact e4.2.2
      have hxl : xs.length < sizeLine := by rw [← Paired.length h2]; exact hl
      have p2 := put_k (ρ := ρ) a1 ra h2 nd
      refine L2.d_setItem (by omega) I (by rw [a2]; exact L2.DPut.k (v := v) h1 hxl) ry rv fun s' I' => h s' _ I' ?_
      refine Po.put o hjl hk_dct (fun e => ?_) bn bl
      have g : ∃ ws, upd H (ρ j) (.dK (putK xs k' v)) (ρ j) = some (.dK ws) ∧ Paired (RK D X.K ρ (upd H (ρ j) (.dK (putK xs k' v)))) (putKV kvs key a) ws := ⟨_, upd_same, paired_all (C := fun p => p.2.bel st.length = true) (fun p q c z => ⟨z.1, RA.mono e (fun _ _ => rfl) _ _ z.2 c⟩) (bel_dct.mp bn) p2⟩
      cases d with
      | t => exact absurd rfl a4
      | e => cases key <;> simp [dkOf] at hd
      | i => exact g
      | s => exact g
    cases k with
    | e => obtain ⟨rfl, h1⟩ := ob.1; exact gk [] h1 .nil
    | t => rcases hk with hk | hk; cases hk; exact absurd hk.symm a4
    | i => obtain ⟨xs, h1, h2⟩ := ob.1; exact gk xs h1 h2
    | s => obtain ⟨xs, h1, h2⟩ := ob.1; exact gk xs h1 h2
  | @t kn b a1 a2 a3 a4 a5 a6 a7 =>
    rcases dct_ask I o hj rk ry ha with ⟨w, g, l⟩ | ⟨kn', b', xs, ys, c1, c2, c3, c4, c5, c6, c7, m, hs, p1, p2, hH⟩
    · exfalso
      subst a3
      rcases g with ⟨_, k2, _, e, _⟩ | ⟨_, k2, b2, e, _⟩
      · cases k2 <;> cases e
      · cases k with
        | e =>
          have h1 := ob.1.2
          rcases e with e | ⟨_, e⟩ <;> rw [h1] at e <;> cases e
        | t =>
          obtain ⟨xs, h1, _⟩ := ob.1
          rcases e with e | ⟨_, e⟩ <;> rw [h1] at e <;> cases e
        | i => rcases hk with hk | hk <;> cases hk
        | s => rcases hk with hk | hk <;> cases hk
    · subst c1 c2
      have hyl : ys.length = kvs.length := by rw [← Paired.length p2, ← Paired.length p1]
      have hz : ys.length ≤ sizeLine := by
        have : szl = sizeLine := rfl
        omega
      obtain ⟨_, _, _, _, _, _, _, _, nd⟩ := id m
      obtain ⟨xs', q1, q2⟩ := put_t c3 c4 c6 rv ra p1 p2 nd
      have hl2 : (storedH ys kn' b' r).length ≤ sizeLine := by
        rw [← Paired.length q2, ← Paired.length q1]
        have := putKV_len key a kvs
        have : szl = sizeLine := rfl
        omega
      have mu : Mut (H (ρ j)) := by rcases hH with z | z <;> rw [z] <;> exact True.intro
      refine wpAny_setItem_heap (hsz := hz) (room8 (X := X) hu) c7 m fun h' dd' hs' => h _ (upd H (ρ j) (.ext (DxO X.prog X.w (ρ j) xs'))) (L2.d_write I mu hs' (let ⟨q, _, _, hq, _⟩ := dd'; ⟨q, hq⟩) (dxo_ok q2 dd' hs hl2)) ?_
      refine Po.put o hjl hk_ext (fun e => ?_) bn bl
      exact ⟨xs', upd_same, paired_all (C := fun p => p.2.bel st.length = true) (fun p q c z => ⟨z.1, z.2.1, RP.ext e _ _ z.2.2.1, RA.mono e (fun _ _ => rfl) _ _ z.2.2.2 c⟩) (bel_dct.mp bn) q1⟩
end
end Fc

set_option Elab.async false
set_option linter.all false
set_option maxRecDepth 100000
set_option maxHeartbeats 4000000
/-! FcOps: operators, subscripts and built-ins by values. -/
namespace Fc
open PySem PySem.Spec PyProof.Rows L2

/-! ### data as the library has it -/
mutual
def P.py : P → PyData
  | .non => .none
  | .bl b => .bool b
  | .int i => .int i
  | .str x => .str x
  | .tup xs => .tuple (P.pys xs)
  | .frz xs => .list (P.pys xs)
def P.pys : List P → List PyData
  | [] => []
  | x :: xs => P.py x :: P.pys xs
end
theorem pys_eq : ∀ xs : List P, P.pys xs = xs.map P.py
  | [] => rfl
  | x :: xs => by rw [P.pys, pys_eq xs]; rfl
mutual
theorem RP.dp {K : PySem.W.Frag} {H : Hp} : ∀ (p : P) (v : V), RP K H v p → Dp K H v p.py
  | .non, _, h => by cases h; exact .non
  | .bl _, _, h => by cases h; exact .bl _
  | .int _, _, h => by cases h; exact .int _
  | .str _, _, h => by cases h; exact .str _
  | .tup ps, _, h => by cases h with | tup h1 h2 => exact .tup h1.sqt (RPs.dp ps _ h2)
  | .frz ps, _, h => by cases h with | frz h1 h2 => exact .lst h1.sql (RPs.dp ps _ h2)
theorem RPs.dp {K : PySem.W.Frag} {H : Hp} : ∀ (ps : List P) (vs : List V), RPs K H vs ps → DpAll K H vs (P.pys ps)
  | [], _, h => by cases h; exact .nil
  | p :: ps, _, h => by cases h with | cons h1 h2 => exact .cons (RP.dp p _ h1) (RPs.dp ps _ h2)
end
mutual
theorem py_ok : ∀ p : P, p.depth ≤ 60 → p.py.canLay0 = true ∧ p.py.depth ≤ p.depth
  | .non, _ => ⟨rfl, Nat.le_refl _⟩
  | .bl _, _ => ⟨rfl, Nat.le_refl _⟩
  | .int _, _ => ⟨rfl, Nat.le_refl _⟩
  | .str x, h => by
    have e : P.sok x = true := by
      cases q : P.sok x with
      | true => rfl
      | false => simp [P.depth, q] at h
    exact ⟨e, Nat.zero_le _⟩
  | .tup xs, h => by
    rw [P.depth] at h
    obtain ⟨h1, h2⟩ := pys_ok xs (by omega)
    refine ⟨h1, ?_⟩
    show PyData.depthAll (P.pys xs) + 1 ≤ _
    rw [P.depth]; omega
  | .frz _, h => by simp [P.depth] at h
theorem pys_ok : ∀ ps : List P, P.depths ps ≤ 60 → PyData.canLayAll0 (P.pys ps) = true ∧ PyData.depthAll (P.pys ps) ≤ P.depths ps
  | [], _ => ⟨rfl, Nat.le_refl _⟩
  | p :: ps, h => by
    rw [P.depths] at h
    obtain ⟨h1, h2⟩ := py_ok p (by omega)
    obtain ⟨h3, h4⟩ := pys_ok ps (by omega)
    refine ⟨?_, ?_⟩
    · show (PyData.canLay0 (P.py p) && PyData.canLayAll0 (P.pys ps)) = true
      rw [h1, h3]; rfl
    · show max (P.py p).depth (PyData.depthAll (P.pys ps)) ≤ _
      rw [P.depths]; omega
end
mutual
theorem py_eqv : ∀ a b : P, a.depth ≤ 60 → b.depth ≤ 60 → PyData.eqv a.py b.py = P.eqv a b := by
  intro a b ha hb
  cases a <;> cases b <;> first
    | rfl
    | (simp [P.depth] at ha; done)
    | (simp [P.depth] at hb; done)
    | (rename_i a b; show PyData.eqvAll (P.pys a) (P.pys b) = P.eqvs a b; exact pys_eqv a b (by rw [P.depth] at ha; omega) (by rw [P.depth] at hb; omega))
theorem pys_eqv : ∀ a b : List P, P.depths a ≤ 60 → P.depths b ≤ 60 → PyData.eqvAll (P.pys a) (P.pys b) = P.eqvs a b := by
  intro a b ha hb
  cases a <;> cases b <;> first | rfl | skip
  rename_i a as b bs
  rw [P.depths] at ha hb
  show (PyData.eqv (P.py a) (P.py b) && PyData.eqvAll (P.pys as) (P.pys bs)) = (P.eqv a b && P.eqvs as bs)
  rw [py_eqv a b (by omega) (by omega), pys_eqv as bs (by omega) (by omega)]
end

/-! ### what an operation hands on -/
section
variable (D : Dat) (K : PySem.W.Frag) (P : Program) (w : World) (bs : List Nat)
/-- the wish behind an outcome that is no error -/
def kO (o : Out A) (ρ : Nat → Addr) (st : St) (H : Hp) (Q : VK) : Prop := match o with
  | .ok a st' => ∀ ρ' H' v, Po D K P w bs ρ st H ρ' st' H' → RA D K ρ' H' v a → a.bel st'.length = true → Q v H'
  | _ => False
/-- two operands -/
def rr2 (f : A → A → St → Out A) : R2 := fun x y H Q => ∃ ρ st a b, OR D K P w bs ρ H st ∧ RA D K ρ H x a ∧ a.bel st.length = true ∧ RA D K ρ H y b ∧ b.bel st.length = true ∧ kO D K P w bs (f a b st) ρ st H Q
def rr1 (f : A → St → Out A) : V → Hp → VK → Prop := fun x H Q => ∃ ρ st a, OR D K P w bs ρ H st ∧ RA D K ρ H x a ∧ a.bel st.length = true ∧ kO D K P w bs (f a st) ρ st H Q
def rrs (f : List A → St → Out A) : List V → Hp → VK → Prop := fun xs H Q => ∃ ρ st as, OR D K P w bs ρ H st ∧ RAs D K ρ H xs as ∧ A.bels st.length as = true ∧ kO D K P w bs (f as st) ρ st H Q
end
section
variable {D : Dat} {K : PySem.W.Frag} {P : Program} {w : World} {bs : List Nat} {ρ : Nat → Addr} {st : St} {H : Hp} {Q : VK}
theorem kO.plain {x : Fc.P} {v : V} (h : kO D K P w bs (.ok (.p x) st) ρ st H Q) (o : OR D K P w bs ρ H st) (r : RP K H v x) : Q v H := h ρ H v (Po.refl o) (.p r) rfl
theorem kO.same {a : A} {v : V} (h : kO D K P w bs (.ok a st) ρ st H Q) (o : OR D K P w bs ρ H st) (r : RA D K ρ H v a) (b : a.bel st.length = true) : Q v H := h ρ H v (Po.refl o) r b
/-- a new tuple of these -/
def NewT (H : Hp) (vs : List V) (Q : VK) : Prop := ∀ (p : Addr) (ob : Obj), H p = none → ob.dict = none → Q (.ref p) (upd H p (.frz ob (.tup vs)))
theorem kO.tup {xs : List A} {vs : List V} (h : kO D K P w bs (.ok (A.mk xs) st) ρ st H Q) (o : OR D K P w bs ρ H st) (r : RAs D K ρ H vs xs) (b : A.bels st.length xs = true) : NewT H vs Q := fun p ob hp hd => by
  have po := Po.beside (ho := .frz ob (.tup vs)) o hp
  exact h ρ _ _ po (RA.mk (TA.new hd) (po.ras o r b).1) (bel_mk b)
theorem kO.ptup {xs : List Fc.P} {vs : List V} (h : kO D K P w bs (.ok (.p (.tup xs)) st) ρ st H Q) (o : OR D K P w bs ρ H st) (r : RPs K H vs xs) : NewT H vs Q := fun p ob hp hd => by
  have po := Po.beside (ho := .frz ob (.tup vs)) o hp
  exact h ρ _ _ po (.p (.tup (TA.new hd) (RPs.ext (po.ext o) _ _ r))) rfl
/-- a new list -/
theorem kO.lst {xs : List A} {vs : List V} (h : kO D K P w bs (.ok (.ref st.length) (st ++ [.lst xs])) ρ st H Q) (o : OR D K P w bs ρ H st) (r : RAs D K ρ H vs xs) (b : A.bels st.length xs = true) {p : Addr} (hp : H p = none) : Q (.ref p) (upd H p (.lst vs)) := by
  have po := Po.push (ho := .lst vs) (m := .lst xs) o hp ⟨fun _ z => (by cases z), fun _ _ z => (by cases z), fun _ z => (by cases z)⟩ (fun ρ' ag e => ⟨vs, upd_same, RAs.mono e ag xs vs r b⟩) b
  refine h _ _ _ po ?_ (by simp [A.bel])
  have e : rho ρ st.length p st.length = p := by unfold rho; rw [if_pos rfl]
  have z := RA.ref (D := D) (K := K) (ρ := rho ρ st.length p) (H := upd H p (.lst vs)) (j := st.length)
  rw [e] at z
  exact z
theorem mayLay_bel {bs : List Nat} {j : Nat} {a : A} (h : mayLay bs j a = true) : ∀ b ∈ bs, b ≤ j ∨ a.bel b = true := fun b hb => by
  have := List.all_eq_true.mp h b hb
  simpa using this
/-- a list of the store is written -/
theorem kO.put {α : A} {j : Nat} {xs ys : List A} {vs : List V} (h : kO D K P w bs (.ok α (st.set j (.lst ys))) ρ st H Q) (o : OR D K P w bs ρ H st) (hj : st[j]? = some (.lst xs)) (r : RAs D K ρ H vs ys) (b : A.bels st.length ys = true)
    (hl : ∀ c ∈ bs, c ≤ j ∨ A.bels c ys = true) {v : V} (rv : RA D K ρ H v α) (bv : α.bel st.length = true) : Q v (upd H (ρ j) (.lst vs)) := by
  have hjl : j < st.length := (List.getElem?_eq_some_iff.mp hj).1
  have po := Po.put (ho := .lst vs) (m := .lst ys) o hjl ⟨fun _ z => (by cases z), fun _ _ z => (by cases z), fun _ z => (by cases z)⟩ (fun e => ⟨vs, upd_same, RAs.mono e (fun _ _ => rfl) ys vs r b⟩) b hl
  exact h ρ _ v po (po.ra o rv bv).1 (po.ra o rv bv).2
theorem OR.lst {j : Nat} {xs : List A} (o : OR D K P w bs ρ H st) (hj : st[j]? = some (.lst xs)) : ∃ vs, H (ρ j) = some (.lst vs) ∧ RAs D K ρ H vs xs ∧ A.bels st.length xs = true := by
  obtain ⟨⟨vs, h1, h2⟩, b⟩ := o.obj j _ hj
  exact ⟨vs, h1, h2, b⟩
theorem OR.lowl {j : Nat} {xs : List A} (o : OR D K P w bs ρ H st) (hj : st[j]? = some (.lst xs)) : ∀ c ∈ bs, c ≤ j ∨ A.bels c xs = true := fun c hc => by
  by_cases h : c ≤ j
  · exact .inl h
  · exact .inr ((o.low c hc).2 j _ (by omega) hj)
end

/-! ### operators -/
def BOp.op : BOp → Operator
  | .add => .Add
  | .sub => .Sub
  | .mul => .Mult
  | .fdiv => .FloorDiv
  | .mod => .Mod
  | .pow => .Pow
  | .band => .BitAnd
section
variable {X : Cx} {pins : List (Addr × Obj)} {σ : L2.St} {H : Hp} {s : Shared} {Q : VK}
/-- a tuple is laid -/
theorem newT_ok {vs : List V} {us : List Value} (I : Inv X pins σ H s) (r : Vals vs us) (hz : vs.length ≤ sizeLine) (q : NewT H vs Q) : EP X pins σ Q (.ref s.heap.objs.size) { s with heap := s.heap.push { cls := .type "tuple", data := .seq us.toArray } } := by
  refine ⟨.ref s.heap.objs.size, _, I.laid (o := .frz { cls := .type "tuple", data := .seq us.toArray } (.tup vs)) (t' := s.toks) (fun b o e => Heap.get?_push_of_some _ e) (Nat.le_refl _) ?_, rfl, q _ { cls := .type "tuple", data := .seq us.toArray } (I.hok.fresh (Nat.le_refl _)) rfl⟩
  exact ⟨Heap.get?_push_size _ rfl, hz, us, r, ⟨_, Heap.get?_push_size _ rfl, rfl, _, rfl⟩⟩
end
section
variable {X : Cx} {D : Dat} {bs : List Nat}
/-- t + u -/
def rCatN (K : PySem.W.Frag) : R2 := fun x y H Q => ∃ a b xs ys, x = .ref a ∧ y = .ref b ∧ SqT K H a xs ∧ SqT K H b ys ∧ xs.length + ys.length ≤ sizeLine ∧
  (xs = [] → Q (.ref b) H) ∧ (xs ≠ [] → ys = [] → Q (.ref a) H) ∧ (xs ≠ [] → ys ≠ [] → NewT H (xs ++ ys) Q)
theorem op_catN : OpR X (binaryOp .Add) (rCatN X.K) := by
  intro pins s σ H x y v u Q I rx ry h
  obtain ⟨a, b, xs, ys, rfl, rfl, ha, hb, hz, q0, q1, q2⟩ := h
  cases rx
  cases ry
  obtain ⟨its, r1, p1, _⟩ := I.tuple ha
  obtain ⟨its2, r2, p2, _⟩ := I.tuple hb
  have l1 := r1.length
  have l2 := r2.length
  by_cases hx : xs = []
  · subst hx
    cases r1
    exact cat_tup0 p1 p2 ⟨.ref b, H, I, rfl, q0 rfl⟩
  · have hi : its ≠ [] := fun e => by subst e; cases r1; exact hx rfl
    refine HT.cat_tup p1 p2 hi (fun e => ?_) (fun e => ?_) (by omega)
    · subst e
      cases r2
      exact ⟨.ref a, H, I, rfl, q1 hx rfl⟩
    · have hy : ys ≠ [] := fun z => by subst z; cases r2; exact e rfl
      exact newT_ok I (r1.append r2) (by rw [List.length_append]; exact hz) (q2 hx hy)
theorem lsz : szl = sizeLine := rfl
theorem op_binop (op : BOp) : OpR X (binaryOp op.op) (rr2 D X.K X.prog X.w bs (binop op)) := by
  intro pins s σ H x y v u Q I rx ry h
  obtain ⟨ρ, st, a, b, o, ra, ba, rb, bb, q⟩ := h
  unfold binop at q
  split at q
  · cases ra with | p ra => cases ra; cases rb with | p rb => cases rb; exact op_add pins s σ H _ _ v u Q I rx ry ⟨_, _, rfl, rfl, q.plain o (.int _)⟩
  · rename_i xs ys _
    split at q
    · rename_i hz
      cases ra with
      | p ra =>
        cases ra with
        | tup h1 h2 =>
          cases rb with
          | p rb =>
            cases rb with
            | tup h3 h4 =>
              rename_i p vs p' ws
              refine op_catN pins s σ H _ _ v u Q I rx ry ⟨p, p', vs, ws, rfl, rfl, h1.sqt, h3.sqt, by rw [h2.length, h4.length]; exact hz, fun e => ?_, fun _ e => ?_, fun _ _ => ?_⟩
              · subst e
                cases h2
                exact q.plain o (.tup h3 h4)
              · subst e
                cases h4
                rw [List.append_nil] at q
                exact q.plain o (.tup h1 h2)
              · exact q.ptup o (h2.append h4)
    · exact q.elim
  · cases ra with | p ra => cases ra; cases rb with | p rb => cases rb; exact op_sub pins s σ H _ _ v u Q I rx ry ⟨_, _, rfl, rfl, q.plain o (.int _)⟩
  · split at q
    · rename_i hc
      cases ra with | p ra => cases ra; cases rb with | p rb => cases rb; exact op_mul pins s σ H _ _ v u Q I rx ry ⟨_, _, rfl, rfl, (by rcases hc with ⟨h1, h2⟩ | ⟨h1, h2⟩; exact .inl ⟨h1, h2⟩; exact .inr ⟨h1, h2⟩), q.plain o (.int _)⟩
    · exact q.elim
  · split at q
    · rename_i hc
      cases ra with | p ra => cases ra; cases rb with | p rb => cases rb; exact op_fdiv pins s σ H _ _ v u Q I rx ry ⟨_, _, rfl, rfl, hc, q.plain o (.int _)⟩
    · exact q.elim
  · split at q
    · rename_i hc
      cases ra with | p ra => cases ra; cases rb with | p rb => cases rb; exact L2.op_mod pins s σ H _ _ v u Q I rx ry ⟨_, _, rfl, rfl, hc, q.plain o (.int _)⟩
    · exact q.elim
  · split at q
    · rename_i xs ys e1 e2
      split at q
      · rename_i hz
        cases ra
        cases rb
        obtain ⟨vs, h1, h2, h3⟩ := o.lst e1
        obtain ⟨ws, g1, g2, g3⟩ := o.lst e2
        exact op_cat pins s σ H _ _ v u Q I rx ry ⟨_, _, vs, ws, rfl, rfl, h1, g1, by rw [h2.length, g2.length]; exact hz, fun p hp => q.lst o (h2.append g2) (bels_all.mpr fun c hc => (List.mem_append.mp hc).elim (bels_all.mp h3 c) (bels_all.mp g3 c)) hp⟩
      · exact q.elim
    · exact q.elim
  · split at q
    · rename_i a0 hc
      obtain ⟨n, rfl⟩ : ∃ n : Nat, a0 = (n : Int) := ⟨a0.toNat, by omega⟩
      cases ra with | p ra => cases ra; cases rb with | p rb =>
        cases rb
        refine op_odd pins s σ H _ _ v u Q I rx ry ⟨n, rfl, rfl, ?_⟩
        have e : ((n % 2 : Nat) : Int) = (n : Int) % 2 := by omega
        rw [e]
        exact q.plain o (.int _)
    · exact q.elim
  · split at q
    · rename_i hc
      cases ra with | p ra => cases ra; cases rb with | p rb => cases rb; exact op_pow pins s σ H _ _ v u Q I rx ry ⟨_, _, rfl, rfl, ⟨hc.1, hc.2.1, hc.2.2⟩, q.plain o (.int _)⟩
    · exact q.elim
  · exact q.elim
/-- += and its like, of numbers and tuples -/
theorem iop_binop_int (op : BOp) {i j : Int} {pins : List (Addr × Obj)} {s : Shared} {σ : L2.St} {H : Hp} {v u : Value} {Q : VK} (hop : op = .add ∨ op = .sub) (I : Inv X pins σ H s) (rx : RelV (.int i) v) (ry : RelV (.int j) u)
    (h : Q (.int (match op with | .add => i + j | _ => i - j)) H) : wpAny (model X.prog X.w) X.A (inplaceOp op.op v u) (EP X pins σ Q) X.xe s := by
  rcases hop with rfl | rfl
  · exact iop_add pins s σ H _ _ v u Q I rx ry ⟨_, _, rfl, rfl, h⟩
  · exact iop_sub pins s σ H _ _ v u Q I rx ry ⟨_, _, rfl, rfl, h⟩

/-! ### comparisons -/
def COp.op : COp → CmpOp
  | .lt => .Lt
  | .le => .LtE
  | .gt => .Gt
  | .ge => .GtE
  | .eq => .Eq
  | .ne => .NotEq
  | .is => .Is
  | .isnot => .IsNot
  | .mem => .In
  | .nmem => .NotIn
abbrev cmpF (op : COp) : A → A → St → Out A := fun x y st => Out.of st ((cmpop op x y st).map fun b => .p (.bl b))
theorem eqq_some {x y : Fc.P} {b : Bool} (h : eqq x y = some b) : x.depth ≤ 60 ∧ y.depth ≤ 60 ∧ x.eqv y = b := by
  unfold eqq at h
  split at h
  · rename_i e
    cases h
    exact ⟨by omega, by omega, rfl⟩
  · cases h
theorem shaped_py {x : Fc.P} (h : x.depth ≤ 60) : SeqAt.shaped x.py = true := by
  obtain ⟨h1, h2⟩ := py_ok x h
  unfold SeqAt.shaped
  rw [h1, decide_eq_true (by omega)]; rfl
theorem memq_some {x : Fc.P} : ∀ {ys : List Fc.P} {b : Bool}, memq x ys = some b → ys ≠ [] → x.depth ≤ 60 ∧ Fc.P.depths ys ≤ 60 ∧ (ys.any fun y => y.eqv x) = b
  | [], _, _, h => absurd rfl h
  | y :: ys, b, h, _ => by
    rw [memq] at h
    cases e : eqq y x with
    | none => rw [e] at h; cases h
    | some c =>
      obtain ⟨h1, h2, h3⟩ := eqq_some e
      rw [e] at h
      by_cases hy : ys = []
      · subst hy
        cases c with
        | true => cases h; exact ⟨h2, by rw [Fc.P.depths, Fc.P.depths]; omega, by simp [h3]⟩
        | false => cases h; exact ⟨h2, by rw [Fc.P.depths, Fc.P.depths]; omega, by simp [h3]⟩
      · cases c with
        | true =>
          have h : (memq x ys).map (fun _ => true) = some b := h
          cases q : memq x ys with
          | none => rw [q] at h; cases h
          | some d =>
            rw [q] at h; cases h
            obtain ⟨g1, g2, g3⟩ := memq_some q hy
            exact ⟨h2, by rw [Fc.P.depths]; omega, by rw [List.any_cons, h3]; rfl⟩
        | false =>
          have h : memq x ys = some b := h
          obtain ⟨g1, g2, g3⟩ := memq_some h hy
          exact ⟨h2, by rw [Fc.P.depths]; omega, by rw [List.any_cons, h3, g3]; rfl⟩
theorem any_py {x : Fc.P} : ∀ {ys : List Fc.P}, x.depth ≤ 60 → Fc.P.depths ys ≤ 60 → ((Fc.P.pys ys).any fun y => PyData.eqv y x.py) = ys.any fun y => y.eqv x
  | [], _, _ => rfl
  | y :: ys, h1, h2 => by
    rw [Fc.P.depths] at h2
    rw [Fc.P.pys, List.any_cons, List.any_cons, py_eqv y x (by omega) h1, any_py h1 (by omega)]
/-- x in t, whatever x is, where t is empty -/
theorem mem_empty_tup {neg : Bool} {pins : List (Addr × Obj)} {s : Shared} {σ : L2.St} {H : Hp} {a : Addr} {v : Value} {Q : VK} (I : Inv X pins σ H s) (ha : SqT X.K H a []) (h : Q (.bl neg) H) :
    wpAny (model X.prog X.w) X.A (compareOp (if neg then .NotIn else .In) v (.ref a)) (EP X pins σ Q) X.xe s := by
  obtain ⟨its, r, ht, _⟩ := I.tuple ha
  cases r
  have ht' : s.heap.IsTuple a #[] := ht
  cases neg with
  | true => exact SeqAt.notIn_tupleAt (fun _ => false) ht' (fun y hy => absurd hy (by simp)) ⟨.bl true, H, I, by simp [L2.RelV], h⟩
  | false => exact SeqAt.in_tupleAt (fun _ => false) ht' (fun y hy => absurd hy (by simp)) ⟨.bl false, H, I, by simp [L2.RelV], h⟩
theorem mem_empty_lst {neg : Bool} {pins : List (Addr × Obj)} {s : Shared} {σ : L2.St} {H : Hp} {a : Addr} {v : Value} {Q : VK} (I : Inv X pins σ H s) (ha : SqL X.K H a []) (h : Q (.bl neg) H) :
    wpAny (model X.prog X.w) X.A (compareOp (if neg then .NotIn else .In) v (.ref a)) (EP X pins σ Q) X.xe s := by
  obtain ⟨its, r, ht, _⟩ := I.list ha
  cases r
  have ht' : s.heap.IsList a #[] := ht.isList
  cases neg with
  | true => exact SeqAt.notIn_listAt (fun _ => false) ht' (fun y hy => absurd hy (by simp)) ⟨.bl true, H, I, by simp [L2.RelV], h⟩
  | false => exact SeqAt.in_listAt (fun _ => false) ht' (fun y hy => absurd hy (by simp)) ⟨.bl false, H, I, by simp [L2.RelV], h⟩
theorem mem_tup {neg : Bool} {pins : List (Addr × Obj)} {s : Shared} {σ : L2.St} {H : Hp} {x y : V} {v u : Value} {p : Fc.P} {ps : List Fc.P} {b : Bool} {Q : VK} (hu : X.A.units + 70 < cLine) (I : Inv X pins σ H s) (rx : RelV x v) (ry : RelV y u) (hx : RP X.K H x p) (hy : RP X.K H y (.tup ps)) (hm : memq p ps = some b)
    (h : Q (.bl (if neg then !b else b)) H) : wpAny (model X.prog X.w) X.A (compareOp (if neg then .NotIn else .In) v u) (EP X pins σ Q) X.xe s := by
  by_cases e : ps = []
  · subst e
    cases hm
    cases hy with
    | tup h1 h2 =>
      cases h2
      cases ry
      refine mem_empty_tup I h1.sqt ?_
      cases neg <;> exact h
  · obtain ⟨d1, d2, d3⟩ := memq_some hm e
    obtain ⟨as, r1⟩ := Dp.reads I _ _ _ (RP.dp _ _ hx) rx
    obtain ⟨bs, r2⟩ := Dp.reads I (.tuple (Fc.P.pys ps)) _ _ (RP.dp _ _ hy) ry
    obtain ⟨c1, c2⟩ := py_ok p d1
    obtain ⟨c3, c4⟩ := pys_ok ps d2
    have hroom : X.A.units + 1 + min (PyData.depthAll (Fc.P.pys ps)) p.py.depth < cLine := by
      have := Nat.min_le_left (PyData.depthAll (Fc.P.pys ps)) p.py.depth
      omega
    cases neg with
    | true => exact SeqAt.notIn_tuple_reads r2 r1 c3 c1 hroom ⟨.bl _, H, I, rfl, by rw [any_py d1 d2, d3]; exact h⟩
    | false => exact SeqAt.in_tuple_reads r2 r1 c3 c1 hroom ⟨.bl _, H, I, rfl, by rw [any_py d1 d2, d3]; exact h⟩
theorem mem_lst {neg : Bool} {pins : List (Addr × Obj)} {s : Shared} {σ : L2.St} {H : Hp} {x : V} {a : Addr} {vs : List V} {v : Value} {p : Fc.P} {ps : List Fc.P} {b : Bool} {Q : VK} (hu : X.A.units + 70 < cLine) (I : Inv X pins σ H s) (rx : RelV x v) (hx : RP X.K H x p) (ha : SqL X.K H a vs) (hy : RPs X.K H vs ps) (hm : memq p ps = some b)
    (h : Q (.bl (if neg then !b else b)) H) : wpAny (model X.prog X.w) X.A (compareOp (if neg then .NotIn else .In) v (.ref a)) (EP X pins σ Q) X.xe s := by
  by_cases e : ps = []
  · subst e
    cases hm
    cases hy
    refine mem_empty_lst I ha ?_
    cases neg <;> exact h
  · obtain ⟨d1, d2, d3⟩ := memq_some hm e
    obtain ⟨as, r1⟩ := Dp.reads I _ _ _ (RP.dp _ _ hx) rx
    obtain ⟨bs, r2⟩ := Dp.reads I (.list (Fc.P.pys ps)) (.ref a) (.ref a) (.lst ha (RPs.dp _ _ hy)) rfl
    obtain ⟨c1, c2⟩ := py_ok p d1
    obtain ⟨c3, c4⟩ := pys_ok ps d2
    have hroom : X.A.units + 1 + min (PyData.depthAll (Fc.P.pys ps)) p.py.depth < cLine := by
      have := Nat.min_le_left (PyData.depthAll (Fc.P.pys ps)) p.py.depth
      omega
    cases neg with
    | true => exact SeqAt.notIn_list_reads r2 r1 c3 c1 hroom ⟨.bl _, H, I, rfl, by rw [any_py d1 d2, d3]; exact h⟩
    | false => exact SeqAt.in_list_reads r2 r1 c3 c1 hroom ⟨.bl _, H, I, rfl, by rw [any_py d1 d2, d3]; exact h⟩
theorem rps_ints? {K : PySem.W.Frag} {H : Hp} : ∀ {ps : List Fc.P} {vs : List V} {ns : List Int}, RPs K H vs ps → pints? ps = some ns → vs = ns.map V.int
  | [], _, _, h, e => by cases h; cases e; rfl
  | p :: ps, _, ns, h, e => by
    cases h with
    | cons h1 h2 =>
      cases p with
      | int i =>
        cases h1
        rw [pints?] at e
        obtain ⟨ms, e1, rfl⟩ := Option.map_eq_some_iff.mp e
        rw [rps_ints? h2 e1, List.map_cons]
      | _ => cases e
theorem ltI_eq : ∀ a b : List Int, ltI a b = HT.lexLt a b
  | [], [] => rfl
  | [], _ :: _ => rfl
  | _ :: _, [] => rfl
  | x :: xs, y :: ys => by rw [ltI, HT.lexLt, ltI_eq xs ys]
theorem RA.isnon {K : PySem.W.Frag} {ρ : Nat → Addr} {H : Hp} {v : V} {a : A} (h : RA D K ρ H v a) : decide (v = .non) = a.isN := by
  cases h with
  | p h => cases h <;> simp [A.isN]
  | _ => simp [A.isN]
theorem of_bool {ρ : Nat → Addr} {st : St} {H : Hp} {Q : VK} {c : Option Bool} {P : Program} {w : World} {K : PySem.W.Frag} (o : OR D K P w bs ρ H st) (q : kO D K P w bs (Out.of st (c.map fun b => .p (.bl b))) ρ st H Q) : ∃ b, c = some b ∧ Q (.bl b) H := by
  cases c with
  | none => exact q.elim
  | some b => exact ⟨b, rfl, kO.plain (x := .bl b) q o (.bl b)⟩
theorem op_cmp (hu : X.A.units + 70 < cLine) (op : COp) : OpR X (compareOp op.op) (rr2 D X.K X.prog X.w bs (cmpF op)) := by
  intro pins s σ H x y v u Q I rx ry h
  obtain ⟨ρ, st, a, b, o, ra, ba, rb, bb, q⟩ := h
  obtain ⟨c, hc, qb⟩ := of_bool o q
  clear q
  have q := qb
  clear qb
  unfold cmpop at hc
  split at hc
  · cases hc; cases ra with | p ra => cases ra; cases rb with | p rb => cases rb; exact L2.op_lt pins s σ H _ _ v u Q I rx ry ⟨_, _, rfl, rfl, q⟩
  · split at hc
    · rename_i ns ms e1 e2
      cases hc
      cases ra with | p ra => cases ra with | tup h1 h2 => cases rb with | p rb => cases rb with | tup g1 g2 =>
        have z1 := rps_ints? h2 e1
        have z2 := rps_ints? g2 e2
        subst z1 z2
        refine op_ltT (by omega) pins s σ H _ _ v u Q I rx ry ⟨_, _, ns, ms, rfl, rfl, h1.sqt, g1.sqt, ?_⟩
        rw [← ltI_eq]
        exact q
    · cases hc
  · cases hc; cases ra with | p ra => cases ra; cases rb with | p rb => cases rb; exact L2.op_le pins s σ H _ _ v u Q I rx ry ⟨_, _, rfl, rfl, q⟩
  · cases hc; cases ra with | p ra => cases ra; cases rb with | p rb => cases rb; exact L2.op_gt pins s σ H _ _ v u Q I rx ry ⟨_, _, rfl, rfl, q⟩
  · cases hc; cases ra with | p ra => cases ra; cases rb with | p rb => cases rb; exact L2.op_ge pins s σ H _ _ v u Q I rx ry ⟨_, _, rfl, rfl, q⟩
  · cases ra with
    | p ra =>
      cases rb with
      | p rb =>
        obtain ⟨d1, d2, d3⟩ := eqq_some hc
        refine op_eqD (by omega) pins s σ H _ _ v u Q I rx ry ⟨_, _, RP.dp _ _ ra, RP.dp _ _ rb, shaped_py d1, shaped_py d2, ?_⟩
        rw [py_eqv _ _ d1 d2, d3]; exact q
  · cases ra with
    | p ra =>
      cases rb with
      | p rb =>
        obtain ⟨c', hc', rfl⟩ := Option.map_eq_some_iff.mp hc
        obtain ⟨d1, d2, d3⟩ := eqq_some hc'
        refine op_neD (by omega) pins s σ H _ _ v u Q I rx ry ⟨_, _, RP.dp _ _ ra, RP.dp _ _ rb, shaped_py d1, shaped_py d2, ?_⟩
        rw [py_eqv _ _ d1 d2, d3]; exact q
  · cases rb with
    | p rb =>
      cases rb
      refine op_isN pins s σ H _ _ v u Q I rx ry ⟨rfl, ?_⟩
      rw [ra.isnon, Option.some.inj hc]
      exact q
  · cases rb with
    | p rb =>
      cases rb
      refine op_notN pins s σ H _ _ v u Q I rx ry ⟨rfl, ?_⟩
      rw [ra.isnon, Option.some.inj hc]
      exact q
  · cases hc; cases ra with | p ra => cases ra; cases rb with | p rb => cases rb; exact op_isBl pins s σ H _ _ v u Q I rx ry ⟨_, _, rfl, rfl, by rw [Bool.beq_eq_decide_eq] at q; exact q⟩
  · cases hc; cases ra with | p ra => cases ra; cases rb with | p rb => cases rb; exact op_notBl pins s σ H _ _ v u Q I rx ry ⟨_, _, rfl, rfl, by rw [bne, Bool.beq_eq_decide_eq] at q; exact q⟩
  · cases ra with
    | p ra => cases rb with
      | p rb => exact mem_tup (neg := false) hu I rx ry ra rb hc q
  · cases ra with
    | p ra => cases rb with
      | p rb =>
        obtain ⟨c', hc', rfl⟩ := Option.map_eq_some_iff.mp hc
        exact mem_tup (neg := true) hu I rx ry ra rb hc' q
  · split at hc
    · rename_i e
      split at hc
      · rename_i e2
        cases ra with
        | p ra => cases rb with
          | ref =>
            obtain ⟨vs, h1, h2, _⟩ := o.lst e
            cases ry
            exact mem_lst (neg := false) hu I rx ra (SqL.of h1) (h2.pure e2) hc q
      · cases hc
    · rename_i e
      split at hc
      · rename_i ak
        cases hc
        cases ra with
        | p ra => cases rb with
          | ref =>
            cases ry
            exact dct_in (neg := false) hu I o e ra rx ak fun s' I' => ⟨.bl _, H, I', rfl, q⟩
      · cases hc
    · cases hc
  · split at hc
    · rename_i e
      split at hc
      · rename_i e2
        obtain ⟨c', hc', rfl⟩ := Option.map_eq_some_iff.mp hc
        cases ra with
        | p ra => cases rb with
          | ref =>
            obtain ⟨vs, h1, h2, _⟩ := o.lst e
            cases ry
            exact mem_lst (neg := true) hu I rx ra (SqL.of h1) (h2.pure e2) hc' q
      · cases hc
    · rename_i e
      split at hc
      · rename_i ak
        cases hc
        cases ra with
        | p ra => cases rb with
          | ref =>
            cases ry
            exact dct_in (neg := true) hu I o e ra rx ak fun s' I' => ⟨.bl _, H, I', rfl, q⟩
      · cases hc
    · cases hc
  · cases hc
end
end Fc

set_option Elab.async false
set_option linter.all false
set_option maxRecDepth 100000
set_option maxHeartbeats 4000000
/-! FcOps2: subscripts, slices, stores, built-ins, methods. -/
namespace Fc
open PySem PySem.Spec PyProof.Rows L2

theorem idx_eq (n : Nat) (i : Int) : idx n i = ixN n i := rfl
theorem cl_eq (n d : Nat) (o : Option Int) : cl n d o = HT.sIx n d o := by cases o <;> rfl
section
variable {X : Cx} {D : Dat} {bs : List Nat} {pins : List (Addr × Obj)} {σ : L2.St} {H : Hp} {s : Shared} {Q : VK} {ρ : Nat → Addr} {st : St}
theorem of_opt {P : Program} {w : World} {K : PySem.W.Frag} {c : Option A} (o : OR D K P w bs ρ H st) (q : kO D K P w bs (Out.of st c) ρ st H Q) : ∃ a, c = some a ∧ kO D K P w bs (.ok a st) ρ st H Q := by
  cases c with
  | none => exact q.elim
  | some a => exact ⟨a, rfl, q⟩
/-! ### subscripts -/
abbrev ixF : A → A → St → Out A := fun x y st => Out.of st (getix x y st)
/-- d[k] behind its values -/
theorem sub_dct {value slice : Expr} {v u : Value} {Q : Value → Shared → Prop} {Ee : Value → Shared → Prop} {A' : Around} {P : Program} {w : World} (hT : s.TypeIs v "dict") (hs : subscripted slice false v u = operate [v, u] (getItem v u)) (h : wpAny (model P w) A' (getItem v u) Q Ee s) :
    wpAny (model P w) A' (subscriptTail value slice v u) Q Ee s := by
  unfold subscriptTail
  refine wpAny_bind ?_
  rw [getitemInPython_of_ne hT.not_modules]
  refine wpAny_bind (wpAny_specialOf hT PySem.F.slot_dict_getitem.lookup ?_)
  have z : wpAny (model P w) A' (subscripted slice false v u) (fun r s3 => wpAny (model P w) A' (letTemporaryGo value v r >>= fun _ => pure r) Q Ee s3) Ee s := by
    rw [hs]
    exact wpAny_operating (wpAny_mono h (fun r s3 h3 => wpAny_bind (wpAny_letTemporaryGo (wpAny_pure h3))) fun _ _ x => x)
  first
    | exact wpAny_pure (wpAny_bind z)
    | exact wpAny_bind (wpAny_pure (wpAny_bind z))
    | exact wpAny_bind z
theorem dct_type (I : Inv X pins σ H s) (o : OR D X.K X.prog X.w bs ρ H st) {j : Nat} {k : DK} {kvs : List (Fc.P × A)} (hj : st[j]? = some (.dct k kvs)) : s.TypeIs (.ref (ρ j)) "dict" := by
  have ob := (o.obj j _ hj).1
  have gk : ∀ xs, H (ρ j) = some (.dK xs) → s.TypeIs (.ref (ρ j)) "dict" := fun xs h => (dk_of I.hok h).2.2.elim fun _ q => q.2.typeIs
  cases k with
  | e => exact gk _ ob.2
  | t =>
    obtain ⟨xs, h1, h2⟩ := ob
    obtain ⟨ys, _, m, _⟩ := dx_of I h1 h2
    exact m.typeIs
  | i => obtain ⟨xs, h1, h2⟩ := ob; exact gk _ h1
  | s => obtain ⟨xs, h1, h2⟩ := ob; exact gk _ h1
theorem ix_get (hu : X.A.units + 70 < cLine) : IxR X (rr2 D X.K X.prog X.w bs ixF) := by
  intro value slice pins s σ H x y v u Q I rx ry h hs
  obtain ⟨ρ, st, a, b, o, ra, ba, rb, bb, q⟩ := h
  obtain ⟨c, hc, qb⟩ := of_opt o q
  clear q
  have q := qb
  clear qb
  unfold getix at hc
  split at hc
  · rename_i xs i
    obtain ⟨j, hj, e⟩ := Option.bind_eq_some_iff.mp hc
    obtain ⟨p, hp, rfl⟩ := Option.map_eq_some_iff.mp e
    cases ra with
    | p ra => cases ra with
      | tup h1 h2 =>
        cases rb with
        | p rb =>
          cases rb
          obtain ⟨z, hz, rz⟩ := h2.get hp
          refine ix_tup value slice pins s σ H _ _ v u Q I rx ry ⟨_, _, i, z, rfl, rfl, h1.sqt, ?_, q.plain o rz⟩ hs
          unfold atI
          rw [h2.length, ← idx_eq, hj]
          exact hz
  · rename_i xs i
    obtain ⟨j, hj, e⟩ := Option.bind_eq_some_iff.mp hc
    obtain ⟨p, hp, rfl⟩ := Option.map_eq_some_iff.mp e
    cases ra with
    | p ra => cases ra with
      | frz h1 h2 =>
        cases rb with
        | p rb =>
          cases rb
          obtain ⟨z, hz, rz⟩ := h2.get hp
          refine ix_list value slice pins s σ H _ _ v u Q I rx ry ⟨_, _, i, z, rfl, rfl, h1.sql, ?_, q.plain o rz⟩ hs
          unfold atI
          rw [h2.length, ← idx_eq, hj]
          exact hz
  · rename_i xs i
    obtain ⟨j, hj, hp⟩ := Option.bind_eq_some_iff.mp hc
    cases ra with
    | tup h1 h2 =>
      cases rb with
      | p rb =>
        cases rb
        obtain ⟨z, hz, rz⟩ := h2.get hp
        refine ix_tup value slice pins s σ H _ _ v u Q I rx ry ⟨_, _, i, z, rfl, rfl, h1.sqt, ?_, q.same o rz (bels_get (by simpa [A.bel] using ba) hp)⟩ hs
        unfold atI
        rw [h2.length, ← idx_eq, hj]
        exact hz
  · rename_i j key _
    split at hc
    · rename_i xs e
      split at hc
      · rename_i i
        obtain ⟨k, hk, hp⟩ := Option.bind_eq_some_iff.mp hc
        cases ra with
        | ref =>
          cases rb with
          | p rb =>
            cases rb
            obtain ⟨vs, h1, h2, h3⟩ := o.lst e
            obtain ⟨z, hz, rz⟩ := h2.get hp
            refine ix_list value slice pins s σ H _ _ v u Q I rx ry ⟨_, _, i, z, rfl, rfl, SqL.of h1, ?_, q.same o rz (bels_get h3 hp)⟩ hs
            unfold atI
            rw [h2.length, ← idx_eq, hk]
            exact hz
      · cases hc
    · rename_i e
      split at hc
      · rename_i ak
        cases ra with
        | ref =>
          cases rb with
          | p rb =>
            cases rx
            refine sub_dct (dct_type I o e) hs (dct_get hu I o e rb ry ak hc fun v w' s' I' ra' rv => ⟨v, H, I', rv, q.same o ra' ?_⟩)
            exact look_bel hc (bel_dct.mp (o.obj _ _ e).2)
      · cases hc
    · cases hc
  · cases hc

/-! ### slices -/
theorem cutV_rps {K : PySem.W.Frag} {vs : List V} {ps : List Fc.P} (h : RPs K H vs ps) (l r : Option Int) : RPs K H (cutV vs l r) (cut ps l r) := by
  unfold cutV cut
  rw [h.length, cl_eq, cl_eq]
  exact (h.drop _).take _
theorem RAs.take {K : PySem.W.Frag} : ∀ (n : Nat) {as : List A} {vs : List V}, RAs D K ρ H vs as → RAs D K ρ H (vs.take n) (as.take n)
  | 0, _, _, _ => .nil
  | n + 1, [], _, h => by cases h; exact .nil
  | n + 1, p :: ps, _, h => by cases h with | cons h1 h2 => exact .cons h1 (RAs.take n h2)
theorem RAs.drop {K : PySem.W.Frag} : ∀ (n : Nat) {as : List A} {vs : List V}, RAs D K ρ H vs as → RAs D K ρ H (vs.drop n) (as.drop n)
  | 0, _, _, h => h
  | n + 1, [], _, h => by cases h; exact .nil
  | n + 1, p :: ps, _, h => by cases h with | cons h1 h2 => exact RAs.drop n h2
theorem cutV_ras {K : PySem.W.Frag} {vs : List V} {as : List A} (h : RAs D K ρ H vs as) (l r : Option Int) : RAs D K ρ H (cutV vs l r) (cut as l r) := by
  unfold cutV cut
  rw [h.length, cl_eq, cl_eq]
  exact (h.drop _).take _
theorem bels_cut {n : Nat} {as : List A} (h : A.bels n as = true) (l r : Option Int) : A.bels n (cut as l r) = true := bels_all.mpr fun a ha => bels_all.mp h a (List.mem_of_mem_drop (List.mem_of_mem_take ha))
theorem bels_map {n : Nat} : ∀ ps : List Fc.P, A.bels n (ps.map .p) = true
  | [] => rfl
  | p :: ps => by rw [List.map_cons, A.bels, bels_map ps]; rfl
def rSl (D : Dat) (K : PySem.W.Frag) (P : Program) (w : World) (bs : List Nat) : V → Option Int → Option Int → Hp → VK → Prop := fun x l r H Q => ∃ ρ st a, OR D K P w bs ρ H st ∧ RA D K ρ H x a ∧ a.bel st.length = true ∧ kO D K P w bs (sliceA a l r st) ρ st H Q
theorem sl_get : SlR X (rSl D X.K X.prog X.w bs) := by
  intro pins s σ H x v vl vu lo hi sl Q I rx hs pl pu h
  obtain ⟨ρ, st, a, o, ra, ba, q⟩ := h
  unfold sliceA at q
  split at q
  · rename_i xs
    cases ra with
    | p ra => cases ra with
      | tup h1 h2 =>
        rename_i p vs
        have hx : SqT X.K H p vs := h1.sqt
        cases rx
        obtain ⟨its, r, ht, hz⟩ := I.tuple hx
        have hlen : its.toArray.size = vs.length := by rw [List.size_toArray]; exact r.length.symm
        refine ⟨"tuple", _, PyProof.Rows.slot_tuple_getitem.lookup, ht.typeIs, ?_⟩
        by_cases hw : HT.sIx vs.length 0 lo = 0 ∧ HT.sIx vs.length vs.length hi = vs.length
        · refine getItem_tuple_whole ht hs pl pu (by rw [hlen]; exact hw) ⟨.ref p, H, I, rfl, ?_⟩
          have e : cut xs lo hi = xs := by
            unfold cut
            rw [← h2.length, cl_eq, cl_eq, hw.1, hw.2, List.drop_zero, h2.length]
            exact List.take_length
          rw [e] at q
          exact q.plain o (.tup h1 h2)
        · refine HT.getItem_tuple_cut ht hs pl pu (by rw [hlen]; exact hw) ?_ (by rw [hlen]; exact hz)
          have rc : Vals (cutV vs lo hi) ((its.drop (HT.sIx vs.length 0 lo)).take (HT.sIx vs.length vs.length hi - HT.sIx vs.length 0 lo)) := (r.drop _).take _
          rw [hlen]
          exact newT_ok I rc (Nat.le_trans (cutV_length vs lo hi) hz) (q.ptup o (cutV_rps h2 lo hi))
  · rename_i xs
    cases ra with
    | p ra => cases ra with
      | frz h1 h2 =>
        refine sl_list pins s σ H _ v vl vu lo hi sl Q I rx hs pl pu ⟨_, _, rfl, h1.sql, fun p hp => ?_⟩
        exact q.lst o (RAs.of (cutV_rps h2 lo hi)) (bels_map _) hp
  · split at q
    · rename_i xs e
      cases ra with
      | ref =>
        obtain ⟨vs, h1, h2, h3⟩ := o.lst e
        refine sl_list pins s σ H _ v vl vu _ _ sl Q I rx hs pl pu ⟨_, _, rfl, SqL.of h1, fun p hp => ?_⟩
        exact q.lst o (cutV_ras h2 _ _) (bels_cut h3 _ _) hp
    · exact q.elim
  · exact q.elim

/-! ### o[i] = v -/
def rSet (D : Dat) (K : PySem.W.Frag) (P : Program) (w : World) (bs : List Nat) : TSet := fun x i y H Q => ∃ ρ st a k b, OR D K P w bs ρ H st ∧ RA D K ρ H x a ∧ RA D K ρ H i k ∧ RA D K ρ H y b ∧ b.bel st.length = true ∧
  match setix bs a k b st with
  | .ok _ st' => ∀ ρ' H', Po D K P w bs ρ st H ρ' st' H' → Q H'
  | _ => False
theorem bels_set {n : Nat} {xs : List A} {a : A} (h : A.bels n xs = true) (ha : a.bel n = true) (i : Nat) : A.bels n (xs.set i a) = true := bels_all.mpr fun b hb => by
  rcases List.mem_or_eq_of_mem_set hb with z | rfl
  · exact bels_all.mp h b z
  · exact ha
theorem Po.setl {K : PySem.W.Frag} {P : Program} {w : World} {j : Nat} {xs ys : List A} {vs : List V} (o : OR D K P w bs ρ H st) (hj : st[j]? = some (.lst xs)) (r : RAs D K ρ H vs ys) (b : A.bels st.length ys = true)
    (hl : ∀ c ∈ bs, c ≤ j ∨ A.bels c ys = true) : Po D K P w bs ρ st H ρ (st.set j (.lst ys)) (upd H (ρ j) (.lst vs)) :=
  Po.put (ho := .lst vs) (m := .lst ys) o (List.getElem?_eq_some_iff.mp hj).1 ⟨fun _ z => (by cases z), fun _ _ z => (by cases z), fun _ z => (by cases z)⟩ (fun e => ⟨vs, upd_same, RAs.mono e (fun _ _ => rfl) ys vs r b⟩) b hl
theorem set_ix (hu : X.A.units + 70 < cLine) : PSet X (rSet D X.K X.prog X.w bs) := by
  intro pins s σ H o i v ov iv u Q I ro ri rv h
  obtain ⟨ρ, st, a, k, b, ob, ra, rk, rb, bb, q⟩ := h
  generalize he : setix bs a k b st = r at q
  cases r with
  | ok un st' =>
    unfold setix at he
    split at he
    · rename_i j key
      split at he
      · rename_i hm
        split at he
        · rename_i xs e
          split at he
          · rename_i i'
            split at he
            · rename_i n hn
              cases he
              cases ra
              cases rk with
              | p rk =>
                cases rk
                obtain ⟨vs, h1, h2, h3⟩ := ob.lst e
                refine set_list pins s σ H _ _ _ ov iv u Q I ro ri rv ⟨_, vs, i', n, rfl, rfl, h1, by rw [h2.length]; exact hn, ?_⟩
                refine q _ _ (Po.setl ob e (RAs.set rb n h2) (bels_set h3 bb n) fun c hc => ?_)
                rcases mayLay_bel hm c hc with z | z
                · exact .inl z
                · rcases ob.lowl e c hc with z2 | z2
                  · exact .inl z2
                  · exact .inr (bels_set z2 z n)
            · cases he
          · cases he
        · rename_i e
          split at he
          · rename_i ak
            rw [Bool.and_eq_true] at ak
            split at he
            · rename_i d hd
              cases he
              cases ra
              cases rk with
              | p rk =>
                cases ro
                exact dct_set hu I ob e rk ri ak.1 hd (of_decide_eq_true ak.2) rb rv bb (mayLay_bel hm) fun s' H' I' po => ⟨H', I', q _ _ po⟩
            · cases he
          · cases he
        · cases he
      · cases he
    · cases he
  | exc _ _ _ => exact q.elim
  | stuck => exact q.elim

/-! ### built-in functions -/
theorem minI_spec : ∀ {xs : List Int} {m : Int}, m ∈ xs → (∀ y ∈ xs, m ≤ y) → minI xs = some m := by
  intro xs m hm hl
  cases xs with
  | nil => cases hm
  | cons x xs =>
    have key : ∀ (xs : List Int) (x : Int), (∀ y ∈ x :: xs, (xs.foldl (fun m y => if y < m then y else m) x) ≤ y) ∧ (xs.foldl (fun m y => if y < m then y else m) x) ∈ x :: xs := by
      intro xs
      induction xs with
      | nil => intro x; exact ⟨fun y hy => by simp at hy; subst hy; exact Int.le_refl _, by simp⟩
      | cons z zs ih =>
        intro x
        rw [List.foldl_cons]
        obtain ⟨h1, h2⟩ := ih (if z < x then z else x)
        refine ⟨fun y hy => ?_, ?_⟩
        · have h0 := h1 (if z < x then z else x) List.mem_cons_self
          rcases List.mem_cons.mp hy with rfl | hy
          · split at h0 <;> split <;> omega
          · rcases List.mem_cons.mp hy with rfl | hy
            · split at h0 <;> split <;> omega
            · exact h1 y (List.mem_cons_of_mem _ hy)
        · rcases List.mem_cons.mp h2 with e | e
          · rw [e]; split <;> simp
          · exact List.mem_cons_of_mem _ (List.mem_cons_of_mem _ e)
    obtain ⟨h1, h2⟩ := key xs x
    have := h1 m hm
    have := hl _ h2
    exact congrArg some (Int.le_antisymm (by omega) (by omega))
theorem maxI_spec : ∀ {xs : List Int} {m : Int}, m ∈ xs → (∀ y ∈ xs, y ≤ m) → maxI xs = some m := by
  intro xs m hm hl
  cases xs with
  | nil => cases hm
  | cons x xs =>
    have key : ∀ (xs : List Int) (x : Int), (∀ y ∈ x :: xs, y ≤ (xs.foldl (fun m y => if y > m then y else m) x)) ∧ (xs.foldl (fun m y => if y > m then y else m) x) ∈ x :: xs := by
      intro xs
      induction xs with
      | nil => intro x; exact ⟨fun y hy => by simp at hy; subst hy; exact Int.le_refl _, by simp⟩
      | cons z zs ih =>
        intro x
        rw [List.foldl_cons]
        obtain ⟨h1, h2⟩ := ih (if z > x then z else x)
        refine ⟨fun y hy => ?_, ?_⟩
        · have h0 := h1 (if z > x then z else x) List.mem_cons_self
          rcases List.mem_cons.mp hy with rfl | hy
          · split at h0 <;> split <;> omega
          · rcases List.mem_cons.mp hy with rfl | hy
            · split at h0 <;> split <;> omega
            · exact h1 y (List.mem_cons_of_mem _ hy)
        · rcases List.mem_cons.mp h2 with e | e
          · rw [e]; split <;> simp
          · exact List.mem_cons_of_mem _ (List.mem_cons_of_mem _ e)
    obtain ⟨h1, h2⟩ := key xs x
    have := h1 m hm
    have := hl _ h2
    exact congrArg some (Int.le_antisymm (by omega) (by omega))
theorem ras_ints {K : PySem.W.Frag} : ∀ {as : List A} {vs : List V} {is : List Int}, RAs D K ρ H vs as → ints? as = some is → vs = is.map V.int
  | [], _, _, h, e => by cases h; cases e; rfl
  | a :: as, _, is, h, e => by
    cases h with
    | cons h1 h2 =>
      cases h1 with
      | p h1 =>
        cases h1 with
        | int i =>
          have e : (ints? as).map (i :: ·) = some is := e
          obtain ⟨r, h3, rfl⟩ := Option.map_eq_some_iff.mp e
          rw [ras_ints h2 h3]; rfl
        | _ => cases e
      | _ => cases e
theorem ras_bools {K : PySem.W.Frag} : ∀ {as : List A} {vs : List V} {is : List Bool}, RAs D K ρ H vs as → bools? as = some is → vs = is.map V.bl
  | [], _, _, h, e => by cases h; cases e; rfl
  | a :: as, _, is, h, e => by
    cases h with
    | cons h1 h2 =>
      cases h1 with
      | p h1 =>
        cases h1 with
        | bl i =>
          have e : (bools? as).map (i :: ·) = some is := e
          obtain ⟨r, h3, rfl⟩ := Option.map_eq_some_iff.mp e
          rw [ras_bools h2 h3]; rfl
        | _ => cases e
      | _ => cases e
def B1.fn : B1 → Value
  | .len => .builtin "len"
  | .int => .type "int"
  | .tuple => .type "tuple"
  | .list => .type "list"
  | .sum => .builtin "sum"
  | .min => .builtin "min"
  | .max => .builtin "max"
  | .all => .builtin "all"
  | .any => .builtin "any"
  | .sorted => .builtin "sorted"
  | .abs => .builtin "abs"
/-- tuple(a list): a new tuple -/
theorem call_tupleN {a : Addr} {vs : List V} (I : Inv X pins σ H s) (ha : SqL X.K H a vs) (q : NewT H vs Q) : wpAny (model X.prog X.w) X.A (call (.type "tuple") [.ref a]) (EP X pins σ Q) X.xe s := by
  obtain ⟨its, r', pl, hz⟩ := I.list ha
  have hlen := r'.length
  refine call_tuple_list pl.isList (fun h' kp => ?_) (by simp only [List.size_toArray] <;> omega)
  have I1 : Inv X pins σ H { s with heap := h' } := I.kept (t' := s.toks) kp
  exact newT_ok I1 r' hz q
/-- a list by its items, called -/
theorem lfun_ok (hc : X.calm = true) (b : B1) (hb : b ≠ .sorted) {a : Addr} {vs : List V} {xs : List A} (I : Inv X pins σ H s) (ha : SqL X.K H a vs) (o : OR D X.K X.prog X.w bs ρ H st) (r : RAs D X.K ρ H vs xs) (bx : A.bels st.length xs = true)
    (q : kO D X.K X.prog X.w bs (lfun b xs st) ρ st H Q) : wpAny (model X.prog X.w) X.A (call b.fn [.ref a]) (EP X pins σ Q) X.xe s := by
  have rv : Vals [V.ref a] [Value.ref a] := .cons rfl .nil
  unfold lfun at q
  split at q
  · exact call_tupleN I ha (q.tup o r bx)
  · exact call_list_of pins s σ H _ _ Q I rv ⟨a, vs, rfl, .inl ha, fun l hl => q.lst o r bx hl⟩
  · obtain ⟨c, hc', q⟩ := of_opt o q
    obtain ⟨is, h1, rfl⟩ := Option.map_eq_some_iff.mp hc'
    rw [ras_ints r h1] at ha
    exact cr_sum hc pins s σ H _ _ Q I rv ⟨a, is, rfl, ha, q.plain o (.int _)⟩
  · obtain ⟨c, hc', q⟩ := of_opt o q
    obtain ⟨is, h1, h2⟩ := Option.bind_eq_some_iff.mp hc'
    obtain ⟨m, h3, rfl⟩ := Option.map_eq_some_iff.mp h2
    rw [ras_ints r h1] at ha
    refine cr_min hc pins s σ H _ _ Q I rv ⟨a, is, rfl, ha, ?_, fun k k1 k2 => ?_⟩
    · cases is with
      | nil => cases h3
      | cons _ _ => simp
    · rw [minI_spec k1 k2] at h3
      cases h3
      exact q.plain o (.int _)
  · obtain ⟨c, hc', q⟩ := of_opt o q
    obtain ⟨is, h1, h2⟩ := Option.bind_eq_some_iff.mp hc'
    obtain ⟨m, h3, rfl⟩ := Option.map_eq_some_iff.mp h2
    rw [ras_ints r h1] at ha
    refine cr_max hc pins s σ H _ _ Q I rv ⟨a, is, rfl, ha, ?_, fun k k1 k2 => ?_⟩
    · cases is with
      | nil => cases h3
      | cons _ _ => simp
    · rw [maxI_spec k1 k2] at h3
      cases h3
      exact q.plain o (.int _)
  · obtain ⟨c, hc', q⟩ := of_opt o q
    obtain ⟨is, h1, rfl⟩ := Option.map_eq_some_iff.mp hc'
    rw [ras_bools r h1] at ha
    exact cr_all hc pins s σ H _ _ Q I rv ⟨a, is, rfl, ha, q.plain o (.bl _)⟩
  · obtain ⟨c, hc', q⟩ := of_opt o q
    obtain ⟨is, h1, rfl⟩ := Option.map_eq_some_iff.mp hc'
    rw [ras_bools r h1] at ha
    exact cr_any hc pins s σ H _ _ Q I rv ⟨a, is, rfl, ha, q.plain o (.bl _)⟩
  · exact absurd rfl hb
  · refine call_len_seq pins s σ H _ _ Q I rv ⟨a, vs, rfl, .inl ha, ?_⟩
    rw [r.length]
    exact q.plain o (.int _)
  · exact q.elim
def rB1 (D : Dat) (K : PySem.W.Frag) (P : Program) (w : World) (bs : List Nat) (f : A → St → Out A) : List V → Hp → VK → Prop := fun xs H Q => ∃ x, xs = [x] ∧ rr1 D K P w bs f x H Q
theorem call_b1 (hc : X.calm = true) (b : B1) (hb : b ≠ .sorted) : CallR X b.fn (rB1 D X.K X.prog X.w bs (b1fun b)) := by
  intro pins s σ H xs us Q I r h
  obtain ⟨x, rfl, ρ, st, a, o, ra, ba, q⟩ := h
  obtain ⟨u, rfl, rx⟩ := Vals.one r
  unfold b1fun at q
  split at q
  · cases ra with | p ra => cases ra with | tup h1 h2 =>
      refine call_len_seq pins s σ H _ _ Q I r ⟨_, _, rfl, .inr h1.sqt, ?_⟩
      rw [h2.length]
      exact q.plain o (.int _)
  · cases ra with | p ra => cases ra with | frz h1 h2 =>
      refine call_len_seq pins s σ H _ _ Q I r ⟨_, _, rfl, .inl h1.sql, ?_⟩
      rw [h2.length]
      exact q.plain o (.int _)
  · cases ra with | tup h1 h2 =>
      refine call_len_seq pins s σ H _ _ Q I r ⟨_, _, rfl, .inr h1.sqt, ?_⟩
      rw [h2.length]
      exact q.plain o (.int _)
  · cases ra with | p ra => cases ra; exact call_int1 pins s σ H _ _ Q I r (.inl ⟨_, rfl, q.plain o (.int _)⟩)
  · rename_i i
    cases ra with | p ra =>
      cases ra
      refine L2.call_abs pins s σ H _ _ Q I r ⟨_, rfl, ?_⟩
      have e : (i.natAbs : Int) = if i < 0 then -i else i := by split <;> omega
      rw [← e]
      exact q.plain o (.int _)
  · cases ra with | p ra => cases ra with | tup h1 h2 =>
      exact call_tupleT pins s σ H _ _ Q I r ⟨_, _, rfl, h1.sqt, q.plain o (.tup h1 h2)⟩
  · cases ra with | p ra => cases ra with | tup h1 h2 =>
      exact call_list_of pins s σ H _ _ Q I r ⟨_, _, rfl, .inr h1.sqt, fun l hl => q.lst o (RAs.of h2) (bels_map _) hl⟩
  · exact absurd rfl hb
  · split at q
    · rename_i xs e
      cases ra
      obtain ⟨vs, h1, h2, h3⟩ := o.lst e
      cases rx
      exact lfun_ok hc _ hb I (SqL.of h1) o h2 h3 q
    · exact q.elim
  · exact q.elim
def B2.fn : B2 → Value
  | .min => .builtin "min"
  | .max => .builtin "max"
abbrev b2F (b : B2) : A → A → St → Out A := fun x y st => Out.of st (b2fun b x y)
def rB2 (D : Dat) (K : PySem.W.Frag) (P : Program) (w : World) (bs : List Nat) (f : A → A → St → Out A) : List V → Hp → VK → Prop := fun xs H Q => ∃ x y, xs = [x, y] ∧ rr2 D K P w bs f x y H Q
theorem call_b2 (hc : X.calm = true) (b : B2) : CallR X b.fn (rB2 D X.K X.prog X.w bs (b2F b)) := by
  intro pins s σ H xs us Q I r h
  obtain ⟨x, y, rfl, ρ, st, a, a2, o, ra, ba, rb, bb, q⟩ := h
  obtain ⟨c, hc', qb⟩ := of_opt o q
  clear q
  have q := qb
  clear qb
  unfold b2fun at hc'
  split at hc'
  · cases hc'; cases ra with | p ra => cases ra; cases rb with | p rb => cases rb; exact call_min2 hc pins s σ H _ _ Q I r ⟨_, _, rfl, q.plain o (.int _)⟩
  · cases hc'; cases ra with | p ra => cases ra; cases rb with | p rb => cases rb; exact call_max2 hc pins s σ H _ _ Q I r ⟨_, _, rfl, q.plain o (.int _)⟩
  · cases hc'

/-! ### methods -/
def rM1 (D : Dat) (K : PySem.W.Frag) (P : Program) (w : World) (bs : List Nat) (f : A → A → St → Out A) : V → List V → Hp → VK → Prop := fun x xs H Q => ∃ y, xs = [y] ∧ rr2 D K P w bs f x y H Q
theorem mt_app : MtR X "list.append" (rM1 D X.K X.prog X.w bs (m1fun bs .append)) := by
  intro pins s σ H x xs v us Q I rx rxs h
  obtain ⟨y, rfl, ρ, st, a, b, o, ra, ba, rb, bb, q⟩ := h
  unfold m1fun at q
  split at q
  · split at q
    · rename_i xs e
      split at q
      · rename_i hm
        rw [Bool.and_eq_true] at hm
        have hz := of_decide_eq_true hm.2
        cases ra
        obtain ⟨vs, h1, h2, h3⟩ := o.lst e
        refine mt_append pins s σ H _ _ v us Q I rx rxs ⟨_, vs, y, rfl, rfl, h1, by rw [h2.length]; exact hz, ?_⟩
        refine q.put o e (h2.append (.cons rb .nil)) (bels_all.mpr fun c hc => ?_) (fun c hc => ?_) (.p .non) rfl
        · rcases List.mem_append.mp hc with z | z
          · exact bels_all.mp h3 c z
          · simp at z; subst z; exact bb
        · rcases mayLay_bel hm.1 c hc with z | z
          · exact .inl z
          · rcases o.lowl e c hc with z2 | z2
            · exact .inl z2
            · refine .inr (bels_all.mpr fun d hd => ?_)
              rcases List.mem_append.mp hd with z3 | z3
              · exact bels_all.mp z2 d z3
              · simp at z3; subst z3; exact z
      · exact q.elim
    · exact q.elim
  all_goals first | exact q.elim | (exfalso; simp_all)
theorem mt_ext : MtR X "list.extend" (rM1 D X.K X.prog X.w bs (m1fun bs .extend)) := by
  intro pins s σ H x xs v us Q I rx rxs h
  obtain ⟨y, rfl, ρ, st, a, b, o, ra, ba, rb, bb, q⟩ := h
  unfold m1fun at q
  split at q
  case h_2 =>
    split at q
    · rename_i xs ys e1 e2
      split at q
      · rename_i hm
        rw [Bool.and_eq_true, List.all_eq_true] at hm
        have hz := of_decide_eq_true hm.2
        cases ra
        cases rb
        obtain ⟨vs, h1, h2, h3⟩ := o.lst e1
        obtain ⟨ws, g1, g2, g3⟩ := o.lst e2
        refine mt_extend pins s σ H _ _ v us Q I rx rxs ⟨_, _, vs, ws, rfl, rfl, h1, g1, by rw [h2.length, g2.length]; exact hz, ?_⟩
        refine q.put o e1 (h2.append g2) (bels_all.mpr fun c hc => (List.mem_append.mp hc).elim (bels_all.mp h3 c) (bels_all.mp g3 c)) (fun c hc => ?_) (.p .non) rfl
        rcases Classical.em (∀ d ∈ ys, A.bel c d = true) with hcj | hcj
        · rcases o.lowl e1 c hc with z2 | z2
          · exact .inl z2
          · refine .inr (bels_all.mpr fun d hd => ?_)
            rcases List.mem_append.mp hd with z3 | z3
            · exact bels_all.mp z2 d z3
            · exact hcj d z3
        · obtain ⟨d, hd⟩ := Classical.not_forall.mp hcj
          obtain ⟨hd1, hd2⟩ := Classical.not_imp.mp hd
          rcases mayLay_bel (hm.1 d hd1) c hc with z4 | z4
          · exact .inl z4
          · exact absurd z4 hd2
      · exact q.elim
    · exact q.elim
  all_goals first | exact q.elim | (exfalso; simp_all)
theorem RAs.erase {K : PySem.W.Frag} : ∀ (n : Nat) {as : List A} {vs : List V}, RAs D K ρ H vs as → RAs D K ρ H (vs.eraseIdx n) (as.eraseIdx n)
  | _, [], _, h => by cases h; exact .nil
  | 0, a :: as, _, h => by cases h with | cons h1 h2 => exact h2
  | n + 1, a :: as, _, h => by cases h with | cons h1 h2 => exact .cons h1 (RAs.erase n h2)
theorem mt_pop1 : MtR X "list.pop" (rM1 D X.K X.prog X.w bs (m1fun bs .pop)) := by
  intro pins s σ H x xs v us Q I rx rxs h
  obtain ⟨y, rfl, ρ, st, a, b, o, ra, ba, rb, bb, q⟩ := h
  unfold m1fun at q
  split at q
  case h_3 =>
    split at q
    · rename_i xs e
      split at q
      · rename_i hi
        split at q
        · rename_i n hn
          split at q
          · rename_i a0 ha
            cases ra
            cases rb with | p rb =>
            cases rb
            obtain ⟨vs, h1, h2, h3⟩ := o.lst e
            obtain ⟨z, hz, rz⟩ := h2.get ha
            rw [idx_eq, ← h2.length] at hn
            refine mt_popAt pins s σ H _ _ v us Q I rx rxs ⟨_, vs, _, n, z, rfl, rfl, h1, hi.1, hi.2, (ixN_seq hn).1, hz, ?_⟩
            have hb : A.bels _ (xs.eraseIdx n) = true := bels_all.mpr fun c hc => bels_all.mp h3 c (List.mem_of_mem_eraseIdx hc)
            refine q.put o e (h2.erase n) hb (fun c hc => ?_) rz (bels_get h3 ha)
            rcases o.lowl e c hc with z2 | z2
            · exact .inl z2
            · exact .inr (bels_all.mpr fun d hd => bels_all.mp z2 d (List.mem_of_mem_eraseIdx hd))
          · exact q.elim
        · exact q.elim
      · exact q.elim
    · exact q.elim
  all_goals first | exact q.elim | (exfalso; simp_all)
/-- no argument -/
def rM0 (D : Dat) (K : PySem.W.Frag) (P : Program) (w : World) (bs : List Nat) (f : A → St → Out A) : V → List V → Hp → VK → Prop := fun x xs H Q => xs = [] ∧ rr1 D K P w bs f x H Q
theorem mt_pop0 : MtR X "list.pop" (rM0 D X.K X.prog X.w bs (m0fun .pop)) := by
  intro pins s σ H x xs v us Q I rx rxs h
  obtain ⟨rfl, ρ, st, a, o, ra, ba, q⟩ := h
  unfold m0fun at q
  split at q
  · split at q
    · rename_i xs e
      split at q
      · rename_i a0 ha
        cases ra
        obtain ⟨vs, h1, h2, h3⟩ := o.lst e
        rw [List.getLast?_eq_getElem?] at ha
        obtain ⟨z, hz, rz⟩ := h2.get ha
        rw [← h2.length] at hz
        refine mt_pop pins s σ H _ _ v us Q I rx rxs ⟨_, vs, z, rfl, rfl, h1, hz, ?_⟩
        have sub : ∀ c ∈ xs.dropLast, c ∈ xs := fun c hc => List.mem_of_mem_take (by rw [List.dropLast_eq_take] at hc; exact hc)
        have hd : RAs D X.K ρ H vs.dropLast xs.dropLast := by
          rw [List.dropLast_eq_take, List.dropLast_eq_take, h2.length]
          exact RAs.take _ h2
        refine q.put o e hd (bels_all.mpr fun c hc => bels_all.mp h3 c (sub c hc)) (fun c hc => ?_) rz (bels_get h3 ha)
        rcases o.lowl e c hc with z2 | z2
        · exact .inl z2
        · exact .inr (bels_all.mpr fun d hd => bels_all.mp z2 d (sub d hd))
      · exact q.elim
    · exact q.elim
  all_goals first | exact q.elim | (exfalso; simp_all)
theorem findIdx_spec {x : Fc.P} : ∀ {ys : List Fc.P}, (ys.any fun y => y.eqv x) = true → (ys.findIdx fun y => y.eqv x) < ys.length := fun {ys} h => by
  rw [List.any_eq_true] at h
  obtain ⟨y, hy, e⟩ := h
  exact List.findIdx_lt_length_of_exists ⟨y, hy, e⟩
/-- the places of items that are data: what == says of each -/
theorem items_eqAt_place {s : Shared} {its : List Value} {ps : List Fc.P} {as' bs' : List Addr} {u : Value} {p : Fc.P} {A : Around} (r : ReadsAll s.heap its (Fc.P.pys ps) as') (ru : Reads s.heap u p.py bs') (d1 : p.depth ≤ 60) (d2 : Fc.P.depths ps ≤ 60) (hu : A.units + 70 < cLine) :
    ∀ j (hj : j < its.toArray.size), SeqAt.EqAt A.in1 s its.toArray[j] u (((ps[j]?).map fun y => y.eqv p).getD false) := by
  intro j hj
  obtain ⟨c1, c2⟩ := py_ok p d1
  obtain ⟨c3, c4⟩ := pys_ok ps d2
  have hroom : A.units + 1 + min (PyData.depthAll (Fc.P.pys ps)) p.py.depth < cLine := by
    have := Nat.min_le_left (PyData.depthAll (Fc.P.pys ps)) p.py.depth
    omega
  have e := SeqAt.items_eqAt (vs := its.toArray) (show ReadsAll s.heap its.toArray.toList (Fc.P.pys ps) as' from r) ru c3 c1 hroom its.toArray[j] (Array.getElem_mem hj)
  have hn : its.length = (Fc.P.pys ps).length := SeqAt.ReadsAll.length _ _ _ r
  have hmap : its.map (SeqAt.readOf s.heap) = Fc.P.pys ps := SeqAt.readsAll_map _ its _ c3 r
  have hjl : j < its.length := by simpa using hj
  have hjp : j < ps.length := by rw [hn, pys_eq, List.length_map] at hjl; exact hjl
  have er : SeqAt.readOf s.heap its.toArray[j] = (ps[j]).py := by
    have q := congrArg (fun l => l[j]?) hmap
    simp only [List.getElem?_map, List.getElem?_eq_getElem hjl, pys_eq, List.getElem?_eq_getElem hjp, Option.map_some, Option.some.injEq] at q
    simpa using q
  have dj : (ps[j]).depth ≤ 60 := by
    have : ∀ (l : List Fc.P) (j : Nat) (h : j < l.length), (l[j]).depth ≤ Fc.P.depths l := by
      intro l
      induction l with
      | nil => intro j h; simp at h
      | cons a l ih =>
        intro j h
        rw [Fc.P.depths]
        cases j with
        | zero => simp; omega
        | succ j => have := ih j (by simpa using h); simp; omega
    exact Nat.le_trans (this ps j hjp) d2
  rw [er, py_eqv _ _ dj d1] at e
  rw [List.getElem?_eq_getElem hjp]
  exact e
theorem findIdx_at {x : Fc.P} {ys : List Fc.P} (h : (ys.any fun y => y.eqv x) = true) : (((ys[ys.findIdx fun y => y.eqv x]?).map fun y => y.eqv x).getD false) = true ∧ ∀ m, m < (ys.findIdx fun y => y.eqv x) → (((ys[m]?).map fun y => y.eqv x).getD false) = false := by
  have hl := findIdx_spec h
  refine ⟨?_, fun m hm => ?_⟩
  · rw [List.getElem?_eq_getElem hl]
    exact List.findIdx_getElem (w := hl)
  · have hml : m < ys.length := by omega
    rw [List.getElem?_eq_getElem hml]
    have := List.not_of_lt_findIdx hm
    simpa using this
theorem mt_tindex (hu : X.A.units + 70 < cLine) : MtR X "tuple.index" (rM1 D X.K X.prog X.w bs (m1fun bs .index)) := by
  intro pins s σ H x xs v us Q I rx rxs h
  obtain ⟨y, rfl, ρ, st, a, b, o, ra, ba, rb, bb, q⟩ := h
  obtain ⟨u, rfl, ry⟩ := Vals.one rxs
  unfold m1fun at q
  split at q
  · simp_all
  · simp_all
  · simp_all
  · rename_i ps p _
    obtain ⟨c, hc, qb⟩ := of_opt o q
    obtain ⟨n, hn, rfl⟩ := Option.map_eq_some_iff.mp hc
    unfold indexq at hn
    split at hn
    · rename_i hm
      cases hn
      have ne : ps ≠ [] := by rintro rfl; cases hm
      obtain ⟨d1, d2, d3⟩ := memq_some hm ne
      cases ra with
      | p ra => cases ra with
        | tup h1 h2 =>
          cases rb with
          | p rb =>
            cases rx
            obtain ⟨its, r, ht, hz⟩ := I.tuple h1.sqt
            obtain ⟨⟨cls, dd, data, sl⟩, ho, hcl, n', hd⟩ := id ht
            simp only at hcl hd
            subst hcl hd
            obtain ⟨as', r1⟩ := Dp.readsAll I _ _ its (RPs.dp _ _ h2) r
            obtain ⟨bs', r2⟩ := Dp.reads I _ _ _ (RP.dp _ _ rb) ry
            have hlen : its.toArray.size = ps.length := by rw [List.size_toArray, ← r.length, h2.length]
            have hl := findIdx_spec d3
            obtain ⟨f1, f2⟩ := findIdx_at d3
            refine call_meets PySem.F.slot_tuple_index ⟨_, ho, rfl⟩ PySem.F.entry_tuple_index (PySem.F.args_tuple_index_2 _ _)
              (SeqAt.tuple_index2_found _ its.toArray n' dd sl u (fun j => ((ps[j]?).map fun y => y.eqv p).getD false) (ps.findIdx fun y => y.eqv p) (by rw [hlen]; exact hl) (Nat.zero_le _) (by rw [hlen]; exact hl) f1 fun m _ _ hm => f2 m hm)
              ⟨ho, items_eqAt_place r1 r2 d1 d2 hu, ⟨.int _, H, I.tok _, ⟨_, rfl⟩, qb.plain o (.int _)⟩⟩
    · cases hn
  all_goals first | exact q.elim | (exfalso; simp_all)
theorem mt_lindex (hu : X.A.units + 70 < cLine) : MtR X "list.index" (rM1 D X.K X.prog X.w bs (m1fun bs .lindex)) := by
  intro pins s σ H x xs v us Q I rx rxs h
  obtain ⟨y, rfl, ρ, st, a, b, o, ra, ba, rb, bb, q⟩ := h
  unfold m1fun at q
  split at q
  case h_5 =>
    split at q
    · rename_i xs e
      split at q
      · rename_i ps e2
        obtain ⟨c, hc, qb⟩ := of_opt o q
        obtain ⟨n, hn, rfl⟩ := Option.map_eq_some_iff.mp hc
        unfold indexq at hn
        split at hn
        · rename_i hm
          cases hn
          have ne : ps ≠ [] := by rintro rfl; cases hm
          obtain ⟨d1, d2, d3⟩ := memq_some hm ne
          cases ra
          cases rb with | p rb =>
          obtain ⟨vs, h1, h2, h3⟩ := o.lst e
          have hp := h2.pure e2
          have hl := findIdx_spec d3
          obtain ⟨f1, f2⟩ := findIdx_at d3
          obtain ⟨c3, c4⟩ := pys_ok ps d2
          have at_ : ∀ m, (Fc.P.pys ps)[m]? = (ps[m]?).map Fc.P.py := fun m => by rw [pys_eq, List.getElem?_map]
          have dep : ∀ (m : Nat) (z : Fc.P), ps[m]? = some z → z.depth ≤ 60 := fun m z hz => by
            have : ∀ (l : List Fc.P) (z : Fc.P), z ∈ l → z.depth ≤ Fc.P.depths l := by
              intro l
              induction l with
              | nil => intro z h; cases h
              | cons a l ih =>
                intro z h
                rw [Fc.P.depths]
                rcases List.mem_cons.mp h with rfl | h
                · omega
                · have := ih z h; omega
            exact Nat.le_trans (this ps z (List.mem_of_getElem? hz)) d2
          refine mt_indexD (by omega) pins s σ H _ _ v us Q I rx rxs ⟨_, y, _, Fc.P.pys ps, _, _, rfl, rfl, .lst (SqL.of h1) (RPs.dp _ _ hp), RP.dp _ _ rb, ?_, shaped_py d1, by rw [at_, List.getElem?_eq_getElem hl]; rfl, ?_, fun m z' hm' hz' => ?_, qb.plain o (.int _)⟩
          · unfold SeqAt.shaped
            have k1 : PyData.canLay0 (.list (Fc.P.pys ps)) = true := c3
            have k2 : PyData.depth (.list (Fc.P.pys ps)) ≤ 61 := by
              show PyData.depthAll (Fc.P.pys ps) + 1 ≤ 61
              omega
            rw [k1, decide_eq_true (by omega)]; rfl
          · rw [py_eqv _ _ (dep _ _ (List.getElem?_eq_getElem hl)) d1]
            rw [List.getElem?_eq_getElem hl] at f1
            exact f1
          · rw [at_] at hz'
            obtain ⟨w', hw, rfl⟩ := Option.map_eq_some_iff.mp hz'
            have := f2 m hm'
            rw [hw] at this
            rw [py_eqv _ _ (dep _ _ hw) d1]
            exact this
        · cases hn
      · exact q.elim
    · exact q.elim
  all_goals first | exact q.elim | (exfalso; simp_all)
def rM2 (D : Dat) (K : PySem.W.Frag) (P : Program) (w : World) (bs : List Nat) (f : A → A → A → St → Out A) : V → List V → Hp → VK → Prop := fun x xs H Q => ∃ y z, xs = [y, z] ∧ ∃ ρ st a b c, OR D K P w bs ρ H st ∧ RA D K ρ H x a ∧ RA D K ρ H y b ∧ RA D K ρ H z c ∧ c.bel st.length = true ∧ kO D K P w bs (f a b c st) ρ st H Q
theorem mt_dget1 (hu : X.A.units + 70 < cLine) : MtR X "dict.get" (rM1 D X.K X.prog X.w bs (m1fun bs .get)) := by
  intro pins s σ H x xs v us Q I rx rxs h
  obtain ⟨y, rfl, ρ, st, a, b, o, ra, ba, rb, bb, q⟩ := h
  obtain ⟨u, rfl, ry⟩ := Vals.one rxs
  unfold m1fun at q
  split at q
  case h_6 =>
    split at q
    · rename_i k kvs e
      split at q
      · rename_i ak
        cases ra
        cases rb with | p rb =>
        cases rx
        refine dct_get1 hu I o e rb ry ak fun v w' s' I' ra' rv => ⟨v, H, I', rv, q.same o ra' ?_⟩
        cases hl : look kvs _ with
        | none => rfl
        | some a0 => exact look_bel hl (bel_dct.mp (o.obj _ _ e).2)
      · exact q.elim
    · exact q.elim
  all_goals first | exact q.elim | (exfalso; simp_all)
theorem mt_dget2 (hu : X.A.units + 70 < cLine) : MtR X "dict.get" (rM2 D X.K X.prog X.w bs (m2fun .get)) := by
  intro pins s σ H x xs v us Q I rx rxs h
  obtain ⟨y, z, rfl, ρ, st, a, b, c, o, ra, rb, rc, bc, q⟩ := h
  cases rxs with | cons ry rxs => cases rxs with | cons rz rxs => cases rxs with | nil =>
  unfold m2fun at q
  split at q
  · split at q
    · rename_i k kvs e
      split at q
      · rename_i ak
        cases ra
        cases rb with | p rb =>
        cases rx
        refine dct_get2 hu I o e rb ry ak rc rz fun v w' s' I' ra' rv => ⟨v, H, I', rv, q.same o ra' ?_⟩
        cases hl : look kvs _ with
        | none => exact bc
        | some a0 => exact look_bel hl (bel_dct.mp (o.obj _ _ e).2)
      · exact q.elim
    · exact q.elim
  all_goals first | exact q.elim | (exfalso; simp_all)
end
end Fc

set_option Elab.async false
set_option linter.all false
set_option maxRecDepth 100000
set_option maxHeartbeats 4000000
/-! FcExp: expressions of the text and of the core: the match. -/
namespace Fc
open PySem PySem.Spec PyProof.Rows L2

/-! ### how a text's expression lies to the core's -/
structure MC where
  N : List Str
  sc : Scope
  calm : Bool
  fn : Str → Bool
def visB (sc : Scope) (x : Str) : Bool := match sc.names.lookup x with
  | some .local => true
  | some .cell => true
  | some .free => true
  | _ => false
def glB (sc : Scope) (x : Str) : Bool := match sc.names.lookup x with
  | some .globalImplicit => true
  | _ => false
/-- a name that may be stored to -/
def locB (sc : Scope) (fn : Str → Bool) (x : Str) : Bool := match sc.names.lookup x with
  | some .local => true
  | some .cell => fn x
  | _ => false
def okName (x : Str) : Bool := !(x == ("__debug__" : Str)) && !(x == ("__classdict__" : Str)) && !(x == ("__name__" : Str))
def constIs : P → Const → Bool
  | .non, .none => true
  | .bl b, .bool c => b == c
  | .int i, .int j => decide (i = j)
  | .str x, .str y => decide (x = y)
  | _, _ => false
def B1.nm : B1 → Str
  | .len => "len"
  | .int => "int"
  | .tuple => "tuple"
  | .list => "list"
  | .sum => "sum"
  | .min => "min"
  | .max => "max"
  | .all => "all"
  | .any => "any"
  | .sorted => "sorted"
  | .abs => "abs"
def B2.nm : B2 → Str
  | .min => "min"
  | .max => "max"
def Ty.nm : Ty → Option Str
  | .int => some "int"
  | .bool => some "bool"
  | .tuple => some "tuple"
  | .dict => some "dict"
  | .list => some "list"
  | .str => some "str"
  | .ve => some "ValueError"
  | .cls _ => none
def M.nm : M → Str
  | .append => "append"
  | .extend => "extend"
  | .index => "index"
  | .lindex => "index"
  | .get => "get"
  | .pop => "pop"
/-- the names of a comprehension's block, with their places -/
def ownOf (N : List Str) (own : List Nat) : List (Str × Nat) := own.filterMap fun i => (N[i]?).map fun x => (x, i)

/-! ### views -/
def vName : Expr → Option Str
  | .Name x _ => some x
  | _ => none
theorem vName_eq {e : Expr} {x : Str} (h : vName e = some x) : ∃ p, e = .Name x p := by
  cases e <;> first | (cases h; done) | (cases h; exact ⟨_, rfl⟩)
def vConst : Expr → Option Const
  | .Constant c _ _ => some c
  | _ => none
theorem vConst_eq {e : Expr} {x : Const} (h : vConst e = some x) : ∃ k p, e = .Constant x k p := by
  cases e <;> first | (cases h; done) | (cases h; exact ⟨_, _, rfl⟩)
def vBin : Expr → Option (Expr × Operator × Expr)
  | .BinOp l o r _ => some (l, o, r)
  | _ => none
theorem vBin_eq {e l r : Expr} {o : Operator} (h : vBin e = some (l, o, r)) : ∃ p, e = .BinOp l o r p := by
  cases e <;> first | (cases h; done) | (cases h; exact ⟨_, rfl⟩)
def vUn : Expr → Option (UnaryOp × Expr)
  | .UnaryOp o x _ => some (o, x)
  | _ => none
theorem vUn_eq {e x : Expr} {o : UnaryOp} (h : vUn e = some (o, x)) : ∃ p, e = .UnaryOp o x p := by
  cases e <;> first | (cases h; done) | (cases h; exact ⟨_, rfl⟩)
def vCmp : Expr → Option (Expr × List CmpOp × List Expr)
  | .Compare l os rs _ => some (l, os, rs)
  | _ => none
theorem vCmp_eq {e l : Expr} {os : List CmpOp} {rs : List Expr} (h : vCmp e = some (l, os, rs)) : ∃ p, e = .Compare l os rs p := by
  cases e <;> first | (cases h; done) | (cases h; exact ⟨_, rfl⟩)
def vBool : Expr → Option (BoolOp × List Expr)
  | .BoolOp o es _ => some (o, es)
  | _ => none
theorem vBool_eq {e : Expr} {o : BoolOp} {es : List Expr} (h : vBool e = some (o, es)) : ∃ p, e = .BoolOp o es p := by
  cases e <;> first | (cases h; done) | (cases h; exact ⟨_, rfl⟩)
def vIf : Expr → Option (Expr × Expr × Expr)
  | .IfExp t a b _ => some (t, a, b)
  | _ => none
theorem vIf_eq {e t a b : Expr} (h : vIf e = some (t, a, b)) : ∃ p, e = .IfExp t a b p := by
  cases e <;> first | (cases h; done) | (cases h; exact ⟨_, rfl⟩)
def vTup : Expr → Option (List Expr)
  | .Tuple es _ _ => some es
  | _ => none
theorem vTup_eq {e : Expr} {es : List Expr} (h : vTup e = some es) : ∃ k p, e = .Tuple es k p := by
  cases e <;> first | (cases h; done) | (cases h; exact ⟨_, _, rfl⟩)
def vLst : Expr → Option (List Expr)
  | .List es _ => some es
  | _ => none
theorem vLst_eq {e : Expr} {es : List Expr} (h : vLst e = some es) : ∃ p, e = .List es p := by
  cases e <;> first | (cases h; done) | (cases h; exact ⟨_, rfl⟩)
def vSub : Expr → Option (Expr × Expr)
  | .Subscript x y _ => some (x, y)
  | _ => none
theorem vSub_eq {e x y : Expr} (h : vSub e = some (x, y)) : ∃ p, e = .Subscript x y p := by
  cases e <;> first | (cases h; done) | (cases h; exact ⟨_, rfl⟩)
def vSl : Expr → Option (Option Expr × Option Expr)
  | .Slice l h none _ => some (l, h)
  | _ => none
theorem vSl_eq {e : Expr} {l h : Option Expr} (q : vSl e = some (l, h)) : ∃ p, e = .Slice l h none p := by
  cases e with
  | Slice a b c p => cases c with
    | none => cases q; exact ⟨_, rfl⟩
    | some _ => cases q
  | _ => cases q
/-- f(e, ..), f a name -/
def vCall : Expr → Option (Str × List Expr)
  | .Call f es [] _ => (vName f).map fun x => (x, es)
  | _ => none
theorem vCall_eq {e : Expr} {x : Str} {es : List Expr} (h : vCall e = some (x, es)) : ∃ p p', e = .Call (.Name x p) es [] p' := by
  cases e with
  | Call f es' ks p => cases ks with
    | nil =>
      obtain ⟨y, h1, h2⟩ := Option.map_eq_some_iff.mp (show (vName f).map (fun x => (x, es')) = some (x, es) from h)
      cases h2
      obtain ⟨q, rfl⟩ := vName_eq h1
      exact ⟨_, _, rfl⟩
    | cons _ _ => cases h
  | _ => cases h
def vAttr : Expr → Option (Expr × Str × Pos)
  | .Attribute x n p => some (x, n, p)
  | _ => none
theorem vAttr_eq {e x : Expr} {n : Str} {p : Pos} (h : vAttr e = some (x, n, p)) : e = .Attribute x n p := by
  cases e <;> first | (cases h; done) | (cases h; rfl)
/-- o.m(e, ..), all on a line -/
def vMeth : Expr → Option (Expr × Str × List Expr)
  | .Call f es [] q => (match vAttr f with
    | some (x, n, p) => if (p.endLine == q.line) = true then some (x, n, es) else none
    | none => none)
  | _ => none
theorem vMeth_eq {e x : Expr} {n : Str} {es : List Expr} (h : vMeth e = some (x, n, es)) : ∃ p q, e = .Call (.Attribute x n p) es [] q ∧ (p.endLine == q.line) = true := by
  cases e with
  | Call f es' ks q => cases ks with
    | nil =>
      have h : (match vAttr f with
        | some (x, n, p) => if (p.endLine == q.line) = true then some (x, n, es') else none
        | none => none) = some (x, n, es) := h
      split at h
      · rename_i e'
        split at h
        · rename_i hl
          cases h
          rw [vAttr_eq e']
          exact ⟨_, _, rfl, hl⟩
        · cases h
      · cases h
    | cons _ _ => cases h
  | _ => cases h
def vComp : Expr → Option (Expr × Expr × Expr × List Expr × Scope)
  | .ListComp x [⟨tg, iter, ifs, 0⟩] scope _ => some (x, tg, iter, ifs, scope)
  | _ => none
theorem vComp_eq {e x tg iter : Expr} {ifs : List Expr} {scope : Scope} (h : vComp e = some (x, tg, iter, ifs, scope)) : ∃ p, e = .ListComp x [⟨tg, iter, ifs, 0⟩] scope p := by
  unfold vComp at h
  split at h
  · cases h; exact ⟨_, rfl⟩
  · cases h

def vDict : Expr → Option (List (Option Expr) × List Expr)
  | .Dict ks vs _ => some (ks, vs)
  | _ => none
theorem vDict_eq {e : Expr} {ks : List (Option Expr)} {vs : List Expr} (h : vDict e = some (ks, vs)) : ∃ p, e = .Dict ks vs p := by
  cases e <;> first | (cases h; done) | (cases h; exact ⟨_, rfl⟩)
/-- e[::-1] -/
def vRev : Expr → Option Expr
  | .Subscript e (.Slice none none (some (.UnaryOp .USub (.Constant (.int 1) _ _) _)) _) _ => some e
  | _ => none
theorem vRev_eq {e x : Expr} (h : vRev e = some x) : ∃ k p1 p2 p3 pos, e = .Subscript x (.Slice none none (some (.UnaryOp .USub (.Constant (.int 1) k p1) p2)) p3) pos := by
  unfold vRev at h
  split at h
  · cases h; exact ⟨_, _, _, _, _, rfl⟩
  · cases h
/-! ### the match -/
/-- the targets of a for: one name, or a tuple of names -/
def tgNames (N : List Str) (sc : Scope) (fn : Str → Bool) : List Nat → List Expr → Bool
  | [], [] => true
  | i :: is, e :: es => (match vName e with
    | some x => decide (N[i]? = some x) && locB sc fn x && tgNames N sc fn is es
    | none => false)
  | _, _ => false
def tgIs (N : List Str) (sc : Scope) (fn : Str → Bool) (ts : List Nat) (e : Expr) : Bool := match vTup e with
  | some es => decide (2 ≤ ts.length) && tgNames N sc fn ts es
  | none => tgNames N sc fn ts [e]
/-- the kinds of data that a global name may stand for -/
def glOk : P → Bool
  | .int _ => true
  | .str _ => true
  | .bl _ => true
  | .non => true
  | _ => false
/-- may stand as a test -/
def tOk : C → Bool
  | .ife _ _ _ => false
  | .cons a r => tOk a && tOk r
  | .andl es => tOk es
  | .orl es => tOk es
  | .not a => tOk a
  | .comp _ => false
  | .dnew => false
  | .disp1 _ _ => false
  | .lsti _ => false
  | _ => true
/-- a name that an error's own dict may hold, and its classes do not -/
def exF (n : Str) : Bool := !((["args", "with_traceback", "add_note", "__class__", "__init__"] : List Str).contains n)
/-- no super() -/
def baseOk : Expr → Bool
  | .Call _ _ _ _ => false
  | _ => true
def isZero : C → Bool
  | .k (.int 0) => true
  | _ => false
def isYes : C → Bool
  | .k (.bl true) => true
  | _ => false
def isOne : C → Bool
  | .k (.int 1) => true
  | _ => false
/-- range(x) or range(x, y); the step is one -/
def rgArgs (c : C) (e : Expr) : Option (Expr × Option Expr) := match vCall e with
  | some (f, xs) => if (decide (f = "range") && isOne c) = true then (match xs with
    | [z] => some (z, none)
    | [w, z] => some (w, some z)
    | _ => none) else none
  | none => none
def isRng : C → Bool
  | .rng _ _ _ => true
  | _ => false
def m1ok : M → Bool
  | _ => true
def tyOk : Ty → Bool
  | .cls _ => false
  | .ve => false
  | _ => true
section
variable (D : Dat)
mutual
def mE (m : MC) : C → Expr → Bool
  | .var i, e => (match vName e with
    | some x => decide (m.N[i]? = some x) && visB m.sc x && okName x
    | _ => false)
  | .k p, e => (match vConst e with
    | some c => constIs p c
    | _ => false)
  | .glob x v, e => (match vName e with
    | some y => decide (x = y) && glB m.sc x && okName x && decide (D.gl.lookup x = some v) && glOk v
    | _ => false)
  | .bin op a b, e => (match vBin e with
    | some (l, o, r) => decide (o = op.op) && mE m a l && mE m b r
    | _ => false)
  | .neg a, e => (match vUn e with
    | some (.USub, x) => mE m a x
    | _ => false)
  | .cmp op a b, e => (match vCmp e with
    | some (l, [o], [r]) => decide (o = op.op) && mE m a l && mE m b r
    | _ => false)
  | .chain o1 o2 a b c, e => (match vCmp e with
    | some (l, [p1, p2], [r1, r2]) => decide (p1 = o1.op) && decide (p2 = o2.op) && mE m a l && mE m b r1 && mE m c r2
    | _ => false)
  | .andl es, e => (match vBool e with
    | some (.And, vs) => mEs m es vs && !vs.isEmpty
    | _ => false)
  | .orl es, e => (match vBool e with
    | some (.Or, vs) => mEs m es vs && !vs.isEmpty
    | _ => false)
  | .not a, e => (match vUn e with
    | some (.Not, x) => mE m a x
    | _ => false)
  | .ife t a b, e => (match vIf e with
    | some (x, y, z) => tOk t && mE m t x && mE m a y && mE m b z
    | _ => false)
  | .tup es, e => (match vTup e with
    | some xs => decide (xs.length < 1000) && mEs m es xs
    | _ => false)
  | .lst es, e => (match vLst e with
    | some xs => decide (xs.length < 1000) && mEs m es xs
    | _ => false)
  | .ix a i, e => (match vSub e with
    | some (x, y) => mE m a x && mE m i y
    | _ => false)
  | .slice a lo hi, e => (match vSub e with
    | some (x, y) => mE m a x && (match vSl y with
      | some (l, h) => (match l with
        | none => lo.isNil
        | some l => mE m lo l) && (match h with
        | none => hi.isNil
        | some h => mE m hi h)
      | none => false)
    | _ => false)
  | .call f es, e => (match vCall e with
    | some (x, xs) => m.calm && decide (D.fnm[f]? = some x) && glB m.sc x && okName x && mEs m es xs && !xs.isEmpty
    | _ => false)
  | .b1 b a, e => (match vCall e with
    | some (x, [y]) => m.calm && decide (b ≠ .sorted) && decide (x = b.nm) && glB m.sc x && mE m a y
    | _ => false)
  | .b2 b a c, e => (match vCall e with
    | some (x, [y, z]) => m.calm && decide (x = b.nm) && glB m.sc x && mE m a y && mE m c z
    | _ => false)
  | .bq b q, e => (match vCall e with
    | some (x, [y]) => m.calm && decide (b ≠ .sorted) && decide (x = b.nm) && glB m.sc x && mQ m q y
    | _ => false)
  | .comp q, e => mQ m q e
  | .isi a t, e => (match vCall e with
    | some (x, [y, z]) => decide (x = "isinstance") && glB m.sc x && mE m a y && decide (vName z = t.nm) && tyOk t && (match vName z with
      | some z => glB m.sc z
      | none => false)
    | _ => false)
  | .m1 mt o a, e => (match vMeth e with
    | some (x, n, [y]) => m.calm && decide (n = mt.nm) && m1ok mt && baseOk x && mE m o x && mE m a y
    | _ => false)
  | .m0 mt o, e => (match vMeth e with
    | some (x, n, []) => m.calm && decide (mt = .pop) && decide (n = mt.nm) && baseOk x && mE m o x
    | _ => false)
  | .m2 mt o a c, e => (match vMeth e with
    | some (x, n, [y, z]) => m.calm && decide (mt = .get) && decide (n = mt.nm) && baseOk x && mE m o x && mE m a y && mE m c z
    | _ => false)
  | .dnew, e => (match vDict e with
    | some ([], []) => true
    | _ => false)
  | .disp1 k v, e => (match vDict e with
    | some ([some x], [y]) => mE m k x && mE m v y
    | _ => false)
  | .srev a, e => (match vRev e with
    | some x => mE m a x
    | _ => false)
  | .lsti a, e => (match vCall e with
    | some (x, [y]) => (match vMeth y with
      | some (z, n, []) => m.calm && decide (x = "list") && decide (n = "items") && glB m.sc x && baseOk z && mE m a z
      | _ => false)
    | _ => false)
  | .exa i n, e => (match vAttr e with
    | some (x, y, _) => (match vName x with
      | some x => decide (m.N[i]? = some x) && visB m.sc x && okName x && decide (y = n) && exF n
      | none => false)
    | _ => false)
  | .exi i t, e => (match vCall e with
    | some (x, [y, z]) => decide (x = "isinstance") && glB m.sc x && (match vName y, vName z with
      | some y, some z => decide (m.N[i]? = some y) && visB m.sc y && okName y && glB m.sc z && okName z && (match t with
        | .ve => decide (z = "ValueError")
        | .cls c => decide ((D.ct[c]?).map (·.name) = some z)
        | _ => false)
      | _, _ => false)
    | _ => false)
  | .trng a b, e => (match vCall e with
    | some (x, [y]) => m.calm && decide (x = "tuple") && glB m.sc x && (match vCall y with
      | some (y, xs) => decide (y = "range") && glB m.sc y && (match xs with
        | [z] => isZero a && mE m b z
        | [w, z] => mE m a w && mE m b z
        | _ => false)
      | _ => false)
    | _ => false)
  | _, _ => false
def mEs (m : MC) : C → List Expr → Bool
  | .nil, es => es.isEmpty
  | .cons a r, es => (match es with
    | x :: xs => mE m a x && mEs m r xs
    | [] => false)
  | _, _ => false
/-- a range, walked -/
def mR (m : MC) : C → Expr → Bool
  | .rng a b c, e => (match rgArgs c e with
    | some (x, none) => glB m.sc "range" && isZero a && mE m b x
    | some (x, some y) => glB m.sc "range" && mE m a x && mE m b y
    | none => false)
  | _, _ => false
/-- a comprehension -/
def mQ (m : MC) : C → Expr → Bool
  | .cq elt ts it cond own, e => (match vComp e with
    | some (x, tg, iter, ifs, scope) => m.calm && tgIs m.N (relS scope m.sc) (fun x => scope.names.lookup x == some .cell) ts tg && (match isRng it with
        | true => mR m it iter
        | false => mE m it iter) && blkC m.N m.sc scope (ownOf m.N own) && decide ((ownOf m.N own).map (·.2) = own) && ts.all (own.contains ·) &&
        mE ⟨m.N, relS scope m.sc, m.calm, fun x => scope.names.lookup x == some .cell⟩ elt x && (match ifs with
        | [] => isYes cond
        | [c] => tOk cond && mE ⟨m.N, relS scope m.sc, m.calm, fun x => scope.names.lookup x == some .cell⟩ cond c
        | _ => false)
    | _ => false)
  | _, _ => false
end
/-- what is walked -/
def mI (m : MC) (it : C) (iter : Expr) : Bool := match isRng it with
  | true => mR D m it iter
  | false => mE D m it iter
end
theorem chk : mE ⟨[], [], [], []⟩ ⟨["x"], ⟨.function, [("x", .local)], false, false, []⟩, true, fun _ => false⟩ (.bin .add (.var 0) (.k (.int 3))) (.BinOp (.Name "x" default) .Add (.Constant (.int 3) 0 default) default) = true := by decide
end Fc
set_option Elab.async false
set_option linter.all false
set_option maxRecDepth 100000
set_option maxHeartbeats 4000000
/-! FcK: readings: what an outcome of the evaluator promises of the heap. -/
namespace Fc
open PySem PySem.Spec PyProof.Rows L2

/-! ### weaker readings -/
section
variable {X : Cx}
theorem PEimp {e : Expr} {t t' : TE} (h : PE X e t) (i : ∀ σ H Q, t' σ H Q → t σ H Q) : PE X e t' := ⟨fun pins s σ H Q I q => h.run pins s σ H Q I (i _ _ _ q)⟩
theorem PTimp {e : Expr} {t t' : TT} (h : PT X e t) (i : ∀ σ H Q, t' σ H Q → t σ H Q) : PT X e t' := ⟨fun pins s σ H Q I q => h.run pins s σ H Q I (i _ _ _ q)⟩
theorem PWimp {e : Expr} {t t' : TT} (h : PW X e t) (i : ∀ σ H Q, t' σ H Q → t σ H Q) : PW X e t' := ⟨fun wh pins s σ H Q I q => h.run wh pins s σ H Q I (i _ _ _ q)⟩
theorem PAimp {es : List Expr} {t t' : L2.TA} (h : PA X es t) (i : ∀ σ H Q, t' σ H Q → t σ H Q) : PA X es t' := ⟨fun pos pins s σ H Q I q => h.run pos pins s σ H Q I (i _ _ _ q)⟩
theorem PSimp {e : Stmt} {t t' : TS} (h : PS X e t) (i : ∀ D σ H, t' D σ H → t D σ H) : PS X e t' := ⟨fun pins s σ H D I q => h.run pins s σ H D I (i _ _ _ q)⟩
theorem PSsimp {e : List Stmt} {t t' : TS} (h : PSs X e t) (i : ∀ D σ H, t' D σ H → t D σ H) : PSs X e t' := ⟨fun pins s σ H D I q => h.run pins s σ H D I (i _ _ _ q)⟩
theorem PIimp {tg e : Expr} {t t' : TI} (h : PI X tg e t) (i : ∀ σ H R, t' σ H R → t σ H R) : PI X tg e t' := ⟨fun pins s σ H R I q => h.run pins s σ H R I (i _ _ _ q)⟩
end

/-- a wish about an exception, and none -/
abbrev noE : XK := fun _ _ _ => False
section
variable (D : Dat) (K : PySem.W.Frag) (P : Program) (w : World) (bs : List Nat)
def kG {α β : Type} (R : (Nat → Addr) → Hp → Nat → β → α → Prop) (o : Out α) (ρ : Nat → Addr) (st : St) (H : Hp) (Q : β → Hp → Prop) (E : XK) : Prop := match o with
  | .ok a st' => ∀ ρ' H' v, Po D K P w bs ρ st H ρ' st' H' → R ρ' H' st'.length v a → Q v H'
  | .exc c fs st' => ∀ ρ' H' cls d, Po D K P w bs ρ st H ρ' st' H' → XR D K cls d H' c fs → E cls d H'
  | .stuck => False
abbrev RV (ρ : Nat → Addr) (H : Hp) (n : Nat) (v : V) (a : A) : Prop := RA D K ρ H v a ∧ a.bel n = true
abbrev RVs (ρ : Nat → Addr) (H : Hp) (n : Nat) (v : List V) (a : List A) : Prop := RAs D K ρ H v a ∧ A.bels n a = true
abbrev kE (o : Out A) (ρ : Nat → Addr) (st : St) (H : Hp) (Q : VK) (E : XK) : Prop := kG D K P w bs (RV D K) o ρ st H Q E
abbrev kA (o : Out (List A)) (ρ : Nat → Addr) (st : St) (H : Hp) (Q : List V → Hp → Prop) (E : XK) : Prop := kG D K P w bs (RVs D K) o ρ st H Q E
end
section
variable {D : Dat} {K : PySem.W.Frag} {P : Program} {w : World} {bs : List Nat} {ρ ρ1 : Nat → Addr} {st st1 : St} {H H1 : Hp} {E : XK}
theorem kG.step {α β : Type} {R : (Nat → Addr) → Hp → Nat → β → α → Prop} {o : Out α} {Q : β → Hp → Prop} (h : kG D K P w bs R o ρ st H Q E) (p : Po D K P w bs ρ st H ρ1 st1 H1) : kG D K P w bs R o ρ1 st1 H1 Q E := by
  cases o with
  | ok a st' => exact fun ρ' H' v po r => h ρ' H' v (p.trans po) r
  | exc c fs st' => exact fun ρ' H' cls d po r => h ρ' H' cls d (p.trans po) r
  | stuck => exact h
theorem kG.mono {α β : Type} {R : (Nat → Addr) → Hp → Nat → β → α → Prop} {o : Out α} {Q Q' : β → Hp → Prop} {E' : XK} (h : kG D K P w bs R o ρ st H Q E) (i : ∀ v H, Q v H → Q' v H) (j : ∀ c d H, E c d H → E' c d H) : kG D K P w bs R o ρ st H Q' E' := by
  cases o with
  | ok a st' => exact fun ρ' H' v po r => i _ _ (h ρ' H' v po r)
  | exc c fs st' => exact fun ρ' H' cls d po r => j _ _ _ (h ρ' H' cls d po r)
  | stuck => exact h
theorem kG.bind {α β α' β' : Type} {R : (Nat → Addr) → Hp → Nat → β → α → Prop} {R' : (Nat → Addr) → Hp → Nat → β' → α' → Prop} {o : Out α} {f : α → St → Out α'} {Q : β' → Hp → Prop} {Q' : β → Hp → Prop} (h : kG D K P w bs R' (o.bind f) ρ st H Q E)
    (i : ∀ a st1 ρ1 H1 v, o = .ok a st1 → Po D K P w bs ρ st H ρ1 st1 H1 → R ρ1 H1 st1.length v a → kG D K P w bs R' (f a st1) ρ1 st1 H1 Q E → Q' v H1) : kG D K P w bs R o ρ st H Q' E := by
  cases o with
  | ok a st1 => exact fun ρ' H' v po r => i a st1 ρ' H' v rfl po r (kG.step (o := f a st1) h po)
  | exc c fs st' => exact h
  | stuck => exact h
/-- an operation's end: no error -/
theorem kE.kO {o : Out A} {Q : VK} (h : kE D K P w bs o ρ st H Q E) (nx : ∀ c fs st', o ≠ .exc c fs st') : Fc.kO D K P w bs o ρ st H Q := by
  cases o with
  | ok a st' => exact fun ρ' H' v po r b => h ρ' H' v po ⟨r, b⟩
  | exc c fs st' => exact absurd rfl (nx c fs st')
  | stuck => exact h
theorem kE.ok {a : A} {v : V} {Q : VK} (h : kE D K P w bs (.ok a st) ρ st H Q E) (o : OR D K P w bs ρ H st) (r : RA D K ρ H v a) (b : a.bel st.length = true) : Q v H := h ρ H v (Po.refl o) ⟨r, b⟩
theorem kE.plain {x : Fc.P} {v : V} {Q : VK} (h : kE D K P w bs (.ok (.p x) st) ρ st H Q E) (o : OR D K P w bs ρ H st) (r : RP K H v x) : Q v H := h.ok o (.p r) rfl
theorem kE.of {c : Option A} {Q : VK} (q : kE D K P w bs (Out.of st c) ρ st H Q E) : ∃ a, c = some a ∧ kE D K P w bs (.ok a st) ρ st H Q E := by
  cases c with
  | none => exact q.elim
  | some a => exact ⟨a, rfl, q⟩
theorem Out.of_nx {α : Type} {st : St} {c : Option α} : ∀ x fs st', (Out.of st c) ≠ .exc x fs st' := fun x fs st' => by cases c <;> (intro z; cases z)
end

/-! ### the readings of expressions -/
section
variable (D : Dat) (X : Cx) (ex : Ex) (bs : List Nat) (W : WX)
def tE (f : Sl → St → Out A) : TE := fun σc H Q => ∃ ρ σ st, SR D X.K X.prog X.w ex bs ρ H σc σ st ∧ kE D X.K X.prog X.w bs (f σ st) ρ st H Q (WE W σc)
def tAs (f : Sl → St → Out (List A)) : L2.TA := fun σc H Q => ∃ ρ σ st, SR D X.K X.prog X.w ex bs ρ H σc σ st ∧ kA D X.K X.prog X.w bs (f σ st) ρ st H Q (WE W σc)
def tT (f : Sl → St → Out A) : TT := tB (tE D X ex bs W f)
end
section
variable {D : Dat} {X : Cx} {ex : Ex} {bs : List Nat} {W : WX} {f g h : Sl → St → Out A} {σc : L2.St} {H : Hp}
theorem tE.one {k : A → St → Out A} (nx : ∀ a st c fs st', k a st ≠ .exc c fs st') {Q : VK} (q : tE D X ex bs W (fun σ st => (f σ st).bind k) σc H Q) : tUn (rr1 D X.K X.prog X.w bs k) (tE D X ex bs W f) σc H Q := by
  obtain ⟨ρ, σ, st, s, q⟩ := q
  exact ⟨ρ, σ, st, s, kG.bind q fun a st1 ρ1 H1 v _ po r q1 => ⟨ρ1, st1, a, po.ob, r.1, r.2, kE.kO q1 (nx _ _)⟩⟩
theorem tE.two {k : A → A → St → Out A} (nx : ∀ a b st c fs st', k a b st ≠ .exc c fs st') {Q : VK} (q : tE D X ex bs W (fun σ st => (f σ st).bind fun x st => (g σ st).bind fun y st => k x y st) σc H Q) : tOp (rr2 D X.K X.prog X.w bs k) (tE D X ex bs W f) (tE D X ex bs W g) σc H Q := by
  obtain ⟨ρ, σ, st, s, q⟩ := q
  refine ⟨ρ, σ, st, s, kG.bind q fun a st1 ρ1 H1 v _ po r q1 => ⟨ρ1, σ, st1, s.step po, kG.bind q1 fun b st2 ρ2 H2 u _ po2 r2 q2 => ?_⟩⟩
  obtain ⟨r3, b3⟩ := po2.ra po.ob r.1 r.2
  exact ⟨ρ2, st2, a, b, po2.ob, r3, b3, r2.1, r2.2, kE.kO q2 (nx _ _ _)⟩
/-- the slots know -/
theorem SR.var {K : PySem.W.Frag} {P : Program} {w : World} {ρ : Nat → Addr} {σ : Sl} {st : St} {i : Nat} {a : A} (s : SR D K P w ex bs ρ H σc σ st) (e : σ[i]? = some (some a)) (hn : ∀ c fs, a ≠ .exn c fs) : ∃ v, σc[i]? = some (some v) ∧ RA D K ρ H v a ∧ a.bel st.length = true := by
  obtain ⟨v, h1, h2⟩ := s.sl i a e
  rcases h2 with h2 | ⟨c, fs, rfl, _⟩
  · exact ⟨v, h1, h2⟩
  · exact absurd rfl (hn c fs)
end

/-! ### no error comes of an operation -/
theorem nx_binop (op : BOp) : ∀ a b st c fs st', binop op a b st ≠ .exc c fs st' := by
  intro a b st c fs st' z
  unfold binop at z
  repeat' (first | (cases z; done) | split at z)
theorem nx_sliceA {l h : Option Int} : ∀ a st c fs st', sliceA a l h st ≠ .exc c fs st' := by
  intro a st c fs st' z
  unfold sliceA at z
  repeat' (first | (cases z; done) | split at z)
theorem nx_lfun (b : B1) : ∀ xs st c fs st', lfun b xs st ≠ .exc c fs st' := by
  intro xs st c fs st' z
  unfold lfun at z
  repeat' (first | (cases z; done) | exact Out.of_nx _ _ _ z | split at z)
theorem nx_b1 (b : B1) : ∀ a st c fs st', b1fun b a st ≠ .exc c fs st' := by
  intro a st c fs st' z
  unfold b1fun at z
  repeat' (first | (cases z; done) | exact nx_lfun _ _ _ _ _ _ z | split at z)
theorem nx_m1 (m : M) {bs : List Nat} : ∀ a b st c fs st', m1fun bs m a b st ≠ .exc c fs st' := by
  intro a b st c fs st' z
  unfold m1fun at z
  repeat' (first | (cases z; done) | exact Out.of_nx _ _ _ z | split at z)
theorem nx_m2 (m : M) : ∀ a b d st c fs st', m2fun m a b d st ≠ .exc c fs st' := by
  intro a b d st c fs st' z
  unfold m2fun at z
  repeat' (first | (cases z; done) | split at z)
theorem nx_m0 (m : M) : ∀ a st c fs st', m0fun m a st ≠ .exc c fs st' := by
  intro a st c fs st' z
  unfold m0fun at z
  repeat' (first | (cases z; done) | split at z)
end Fc

set_option Elab.async false
set_option linter.all false
set_option maxRecDepth 100000
set_option maxHeartbeats 4000000
/-! FcSnd: what the text's expressions do is what the evaluator tells. -/
namespace Fc
open PySem PySem.Spec PyProof.Rows L2

/-! ### the context -/
def bltNames : List Str := ["len", "int", "tuple", "list", "sum", "min", "max", "all", "any", "sorted", "abs", "isinstance", "bool", "dict", "str", "range", "zip", "enumerate", "reversed", "ValueError", "super"]
def pV : P → V
  | .bl b => .bl b
  | .int i => .int i
  | .str x => .str x
  | _ => .non
/-- what is known of a class of errors -/
structure ExcFact (D : Dat) (K : PySem.W.Frag) (mg : Str → Option Value) (c : Nat) (cd : CD) : Prop where
  mg : mg cd.name = some (.ref (D.ca K c))
  keep : PySem.W.keepIn K (.ref (D.ca K c)) = true
  xf : XfC K (D.ca K c)
  fld : ∀ n ∈ cd.flds, PySem.W.findIn K (.ref (D.ca K c)) n = some none
  is : ExcC K (D.ca K c)
  sub : ∀ d dd, D.ct[d]? = some dd → PySem.W.kitOne K (.ref (D.ca K c)) (.ref (D.ca K d)) = some (subc D.ct 8 c d)
  exm : ∀ d dd, D.ct[d]? = some dd → PySem.W.exmOne K (.ref (D.ca K c)) (.ref (D.ca K d)) = some (subc D.ct 8 c d)
  ve : PySem.W.kitOne K (.ref (D.ca K c)) (.type "ValueError") = some true
structure Facts (D : Dat) (K : PySem.W.Frag) (mg : Str → Option Value) : Prop where
  blt : ∀ x, bltNames.contains x = true → mg x = none
  gl : ∀ x v, D.gl.lookup x = some v → ∃ u, mg x = some u ∧ RelV (pV v) u
  exc : ∀ c cd, D.ct[c]? = some cd → ExcFact D K mg c cd
/-- the promise of the def f -/
def spF (D : Dat) (K : PySem.W.Frag) (P : Program) (w : World) (cal : List Nat → Nat → List A → St → Out A) (f : Nat) : Sp := fun vs H Q E =>
  ∃ bs ρ st as, OR D K P w bs ρ H st ∧ RAs D K ρ H vs as ∧ A.bels st.length as = true ∧ kE D K P w bs (cal bs f as st) ρ st H Q E
structure FnsOk (D : Dat) (cal : List Nat → Nat → List A → St → Out A) (P : Program) (w : World) (K : PySem.W.Frag) (mg : Str → Option Value) (base : Heap) (k : Nat) : Prop where
  all : ∀ f x, D.fnm[f]? = some x → ∃ fd ps, FnOk P w K mg base (L2.CX P w) k (D.fa K f) fd ps (spF D K P w cal f) ∧ Binds K fd ps [] ∧ PySem.W.keepIn K (.ref (D.fa K f)) = true ∧ mg x = some (.ref (D.fa K f))
structure CO (D : Dat) (Z : Cfg) (X : Cx) (m : MC) (ex : Ex) (W : WX) : Prop where
  sc : X.env.scope = m.sc
  N : X.N = m.N
  nd : m.N.Nodup
  fn : ∀ x, m.fn x = true → X.fn x = true
  calm : m.calm = true → X.calm = true ∧ ex = [] ∧ ∃ k, Room k X.A ∧ FnsOk D Z.cal X.prog X.w X.K X.mg X.base k
  pn : ∀ e ∈ ex, e.2 ∈ X.pn
  tk : Takes X W
  hu : X.A.units + 70 < cLine
  fac : Facts D X.K X.mg
  ct : Z.ct = D.ct

/-! ### small facts of names -/
theorem visB_ok {sc : Scope} {x : Str} (h : visB sc x = true) : Vis sc x := by
  unfold visB at h
  split at h <;> first | (cases h; done) | (unfold Vis; simp [*])
theorem glB_ok {X : Cx} {m : MC} {x : Str} (hs : X.env.scope = m.sc) (h : glB m.sc x = true) : Gl X x := by
  unfold glB at h
  split at h
  · rename_i e
    show X.env.scope.names.lookup x = _
    rw [hs]; exact e
  · cases h
theorem locB_ok {sc : Scope} {fn : Str → Bool} {x : Str} (h : locB sc fn x = true) : Loc sc x ∧ (fn x = true ∨ sc.names.lookup x = some .local) := by
  unfold locB at h
  split at h
  · rename_i e; exact ⟨.inl e, .inr e⟩
  · rename_i e; exact ⟨.inr e, .inl h⟩
  · cases h
theorem okName_ok {x : Str} (h : okName x = true) : (x == ("__debug__" : Str)) = false ∧ (x == ("__classdict__" : Str)) = false ∧ x ≠ "__name__" := by
  unfold okName at h
  simp only [Bool.and_eq_true, Bool.not_eq_true'] at h
  exact ⟨h.1.1, h.1.2, fun z => by rw [z] at h; simp at h⟩

/-! ### the forms that the core speaks of -/
def plE : Expr → Bool
  | .BoolOp _ _ _ => true
  | .BinOp _ _ _ _ => true
  | .UnaryOp _ _ _ => true
  | .IfExp _ _ _ _ => true
  | .Dict _ _ _ => true
  | .ListComp _ _ _ _ => true
  | .Compare _ _ _ _ => true
  | .Call _ _ _ _ => true
  | .Constant _ _ _ => true
  | .Attribute _ _ _ => true
  | .Subscript _ _ _ => true
  | .Name _ _ => true
  | .List _ _ => true
  | .Tuple _ _ _ => true
  | _ => false
theorem mQ_pl {D : Dat} {m : MC} {c : C} {e : Expr} (h : mQ D m c e = true) : plE e = true := by
  unfold mQ at h
  split at h
  · split at h
    · rename_i e'
      obtain ⟨p, rfl⟩ := vComp_eq e'
      rfl
    · cases h
  · cases h
theorem mE_pl {D : Dat} {m : MC} {c : C} {e : Expr} (h : mE D m c e = true) : plE e = true := by
  unfold mE at h
  split at h <;> first
    | exact mQ_pl h
    | (cases h; done)
    | (split at h <;> first
      | (cases h; done)
      | (rename_i e'
         first
          | (obtain ⟨p, rfl⟩ := vName_eq e'; rfl)
          | (obtain ⟨k, p, rfl⟩ := vConst_eq e'; rfl)
          | (obtain ⟨p, rfl⟩ := vBin_eq e'; rfl)
          | (obtain ⟨p, rfl⟩ := vUn_eq e'; rfl)
          | (obtain ⟨p, rfl⟩ := vCmp_eq e'; rfl)
          | (obtain ⟨p, rfl⟩ := vBool_eq e'; rfl)
          | (obtain ⟨p, rfl⟩ := vIf_eq e'; rfl)
          | (obtain ⟨k, p, rfl⟩ := vTup_eq e'; rfl)
          | (obtain ⟨p, rfl⟩ := vLst_eq e'; rfl)
          | (obtain ⟨p, rfl⟩ := vSub_eq e'; rfl)
          | (obtain ⟨p, q, rfl⟩ := vCall_eq e'; rfl)
          | (have e2 := vAttr_eq e'; subst e2; rfl)
          | (obtain ⟨p, rfl⟩ := vDict_eq e'; rfl)
          | (obtain ⟨k, p1, p2, p3, pos, rfl⟩ := vRev_eq e'; rfl)
          | (obtain ⟨p, q, rfl, _⟩ := vMeth_eq e'; rfl)))
theorem star_pl {e : Expr} {es : List Expr} {env : Env} (h : plE e = true) : starEach (e :: es) env = (false, eval e env) :: starEach es env := by
  cases e <;> first | rfl | (cases h; done)
theorem mEs_star {D : Dat} {m : MC} : ∀ {c : C} {es : List Expr} {env : Env} {pos : Pos}, mEs D m c es = true → (backTo pos (starEach es env)).any (·.1) = false := by
  intro c
  induction c with
  | nil => intro es env pos h; rw [mEs] at h; cases es with | nil => rfl | cons _ _ => cases h
  | cons a r iha ihr =>
    intro es env pos h
    cases es with
    | nil => rfl
    | cons x xs =>
      rw [mEs, Bool.and_eq_true] at h
      rw [star_pl (mE_pl h.1)]
      show (false || (backTo pos (starEach xs env)).any (·.1)) = false
      rw [ihr h.2]; rfl
  | _ =>
    intro es env pos h
    unfold mEs at h
    cases h
theorem pl_mark {op : CmpOp} {e : Expr} (h : plE e = true) : behindInMarks op e = false := by
  cases e <;> first | rfl | (cases h; done)
theorem pl_ix {e : Expr} (h : plE e = true) : PlainIx e := by
  intro o i
  cases e <;> first | rfl | (cases h; done)
theorem pl_fold {e : Expr} {env : Env} (h : plE e = true) : ∀ x, foldedSetIterable e env x = pure x := by
  intro x
  cases e <;> first | rfl | (cases h; done)
theorem base_ok {e : Expr} {n : Str} {env : Env} (h : baseOk e = true) : attributeBase e n env (eval e env) = eval e env := by
  cases e <;> first | rfl | (cases h; done)
/-- a test that is a plain value -/
def ptE : Expr → Bool
  | .UnaryOp .Not _ _ => false
  | .BoolOp _ _ _ => false
  | .IfExp _ _ _ _ => false
  | .Compare _ _ _ _ => false
  | _ => true
theorem pt_pl {e : Expr} {env : Env} (h : ptE e = true) : ∀ whole, isTrue e env whole = (do let v ← whole; standAt e.pos; holding [v] (truthy v)) := by
  intro whole
  cases e with
  | UnaryOp o x p => cases o <;> first | rfl | (cases h; done)
  | _ => first | rfl | (cases h; done)
end Fc

set_option Elab.async false
set_option linter.all false
set_option maxRecDepth 100000
set_option maxHeartbeats 4000000
/-! FcSnd2: form by form. -/
namespace Fc
open PySem PySem.Spec PyProof.Rows L2
section
variable {D : Dat} {Z : Cfg} {X : Cx} {m : MC} {ex : Ex} {W : WX} {bs : List Nat}

theorem s_var (co : CO D Z X m ex W) {i : Nat} {e : Expr} (h : mE D m (.var i) e = true) : PE X e (tE D X ex bs W (evE Z bs (.var i))) := by
  rw [mE] at h
  split at h
  · rename_i x hx
    obtain ⟨p, rfl⟩ := vName_eq hx
    simp only [Bool.and_eq_true, decide_eq_true_eq] at h
    obtain ⟨⟨h1, h2⟩, h3⟩ := h
    obtain ⟨n1, n2, _⟩ := okName_ok h3
    refine PEimp (pe_var (i := i) (by rw [co.N]; exact h1) (by rw [co.sc]; exact visB_ok h2) n1 n2) fun σc H Q q => ?_
    obtain ⟨ρ, σ, st, s, q⟩ := q
    rw [evE] at q
    split at q
    · exact q.elim
    · rename_i a hn e
      obtain ⟨v, h1, h2, h3⟩ := s.var e (fun c fs z => hn c fs z)
      exact ⟨v, h1, kE.ok q s.ob h2 h3⟩
    · exact q.elim
  · cases h
theorem s_k (co : CO D Z X m ex W) {x : Fc.P} {e : Expr} (h : mE D m (.k x) e = true) : PE X e (tE D X ex bs W (evE Z bs (.k x))) := by
  rw [mE] at h
  split at h
  · rename_i c hc
    obtain ⟨k, p, rfl⟩ := vConst_eq hc
    unfold constIs at h
    split at h
    · exact PEimp pe_non fun σc H Q ⟨ρ, σ, st, s, q⟩ => kE.plain (by rw [evE] at q; exact q) s.ob .non
    · have h := beq_iff_eq.mp h
      subst h
      exact PEimp pe_bl fun σc H Q ⟨ρ, σ, st, s, q⟩ => kE.plain (by rw [evE] at q; exact q) s.ob (.bl _)
    · have h := of_decide_eq_true h
      subst h
      exact PEimp pe_int fun σc H Q ⟨ρ, σ, st, s, q⟩ => kE.plain (by rw [evE] at q; exact q) s.ob (.int _)
    · have h := of_decide_eq_true h
      subst h
      exact PEimp pe_str fun σc H Q ⟨ρ, σ, st, s, q⟩ => kE.plain (by rw [evE] at q; exact q) s.ob (.str _)
    · cases h
  · cases h
theorem s_glob (co : CO D Z X m ex W) {x : Str} {v : Fc.P} {e : Expr} (h : mE D m (.glob x v) e = true) : PE X e (tE D X ex bs W (evE Z bs (.glob x v))) := by
  rw [mE] at h
  split at h
  · rename_i y hy
    obtain ⟨p, rfl⟩ := vName_eq hy
    simp only [Bool.and_eq_true, decide_eq_true_eq] at h
    obtain ⟨⟨⟨⟨h1, h2⟩, h3⟩, h4⟩, h5⟩ := h
    subst h1
    obtain ⟨u, hm, r⟩ := co.fac.gl x v h4
    refine PEimp (pe_glob (glB_ok co.sc h2) hm r (okName_ok h3).1) fun σc H Q ⟨ρ, σ, st, s, q⟩ => ?_
    rw [evE] at q
    refine kE.plain q s.ob ?_
    cases v <;> first | (cases h5; done) | skip
    · exact .non
    · exact .bl _
    · exact .int _
    · exact .str _
  · cases h
variable {a b c : C}
theorem s_bin (co : CO D Z X m ex W) {op : BOp} {e : Expr} (ha : ∀ e, mE D m a e = true → PE X e (tE D X ex bs W (evE Z bs a))) (hb : ∀ e, mE D m b e = true → PE X e (tE D X ex bs W (evE Z bs b))) (h : mE D m (.bin op a b) e = true) :
    PE X e (tE D X ex bs W (evE Z bs (.bin op a b))) := by
  rw [mE] at h
  split at h
  · rename_i l o r hv
    obtain ⟨p, rfl⟩ := vBin_eq hv
    simp only [Bool.and_eq_true, decide_eq_true_eq] at h
    obtain ⟨⟨rfl, h1⟩, h2⟩ := h
    exact PEimp (pe_op (op_binop op) (ha _ h1) (hb _ h2)) fun σc H Q q => tE.two (nx_binop op) (by simpa only [evE] using q)
  · cases h
theorem s_neg (co : CO D Z X m ex W) {e : Expr} (ha : ∀ e, mE D m a e = true → PE X e (tE D X ex bs W (evE Z bs a))) (h : mE D m (.neg a) e = true) : PE X e (tE D X ex bs W (evE Z bs (.neg a))) := by
  rw [mE] at h
  split at h
  · rename_i x hv
    obtain ⟨p, rfl⟩ := vUn_eq hv
    refine PEimp (pe_un un_neg (ha _ h)) fun σc H Q ⟨ρ, σ, st, s, q⟩ => ⟨ρ, σ, st, s, ?_⟩
    rw [evE] at q
    refine kG.bind q fun x st1 ρ1 H1 v _ po r q1 => ?_
    split at q1
    · obtain ⟨r, b⟩ := r
      cases r with
      | p r => cases r; exact ⟨_, rfl, kE.plain q1 po.ob (.int _)⟩
    · exact q1.elim
  · cases h
theorem s_cmpR (co : CO D Z X m ex W) {op : COp} : OpR X (compareOp op.op) (rr2 D X.K X.prog X.w bs (cmpF op)) := op_cmp co.hu op
theorem nx_cmp (op : COp) : ∀ a b st c fs st', cmpF op a b st ≠ .exc c fs st' := fun a b st => Out.of_nx
theorem s_cmp (co : CO D Z X m ex W) {op : COp} {e : Expr} (ha : ∀ e, mE D m a e = true → PE X e (tE D X ex bs W (evE Z bs a))) (hb : ∀ e, mE D m b e = true → PE X e (tE D X ex bs W (evE Z bs b))) (h : mE D m (.cmp op a b) e = true) :
    PE X e (tE D X ex bs W (evE Z bs (.cmp op a b))) ∧ PT X e (tT D X ex bs W (evE Z bs (.cmp op a b))) := by
  rw [mE] at h
  split at h
  · rename_i l o r hv
    obtain ⟨p, rfl⟩ := vCmp_eq hv
    simp only [Bool.and_eq_true, decide_eq_true_eq] at h
    obtain ⟨⟨rfl, h1⟩, h2⟩ := h
    refine ⟨PEimp (pe_cmpR (s_cmpR co) (ha _ h1) (hb _ h2) (pl_mark (mE_pl h2))) fun σc H Q q => tE.two (nx_cmp op) (by simpa only [evE] using q), ?_⟩
    exact PTimp (pt_cmpR (s_cmpR co) (ha _ h1) (hb _ h2) (pl_mark (mE_pl h2))) fun σc H Q q => tE.two (nx_cmp op) (by simpa only [tT, tB, evE] using q)
  · cases h
theorem chain_red {o1 o2 : COp} {σc : L2.St} {H : Hp} {Q : VK} (q : tE D X ex bs W (evE Z bs (.chain o1 o2 a b c)) σc H Q) : tChain (rr2 D X.K X.prog X.w bs (cmpF o1)) (rr2 D X.K X.prog X.w bs (cmpF o2)) (tE D X ex bs W (evE Z bs a)) (tE D X ex bs W (evE Z bs b)) (tE D X ex bs W (evE Z bs c)) σc H Q := by
  obtain ⟨ρ, σ, st, s, q⟩ := q
  rw [evE] at q
  refine ⟨ρ, σ, st, s, kG.bind q fun x st1 ρ1 H1 v _ po r q1 => ⟨ρ1, σ, st1, s.step po, kG.bind q1 fun y st2 ρ2 H2 u _ po2 r2 q2 => ?_⟩⟩
  obtain ⟨r3, b3⟩ := po2.ra po.ob r.1 r.2
  refine ⟨ρ2, st2, x, y, po2.ob, r3, b3, r2.1, r2.2, ?_⟩
  show kO D X.K X.prog X.w bs (Out.of st2 ((cmpop o1 x y st2).map fun b => .p (.bl b))) ρ2 st2 H2 _
  split at q2
  · rename_i e
    rw [e]
    intro ρ' H' z po3 rz _
    cases rz with
    | p rz =>
      cases rz
      refine ⟨true, rfl, ?_⟩
      rw [if_pos rfl]
      refine ⟨ρ', σ, st2, (s.step (po.trans po2)).step po3, kG.bind (q2.step po3) fun z st4 ρ4 H4 t _ po4 r4 q4 => ?_⟩
      obtain ⟨r5, b5⟩ := (po3.trans po4).ra po2.ob r2.1 r2.2
      exact ⟨ρ4, st4, y, z, po4.ob, r5, b5, r4.1, r4.2, kE.kO q4 (nx_cmp o2 _ _ _)⟩
  · rename_i e
    rw [e]
    intro ρ' H' z po3 rz _
    cases rz with
    | p rz =>
      cases rz
      refine ⟨false, rfl, ?_⟩
      rw [if_neg (by simp)]
      exact kE.plain (kG.step q2 po3) po3.ob (.bl false)
  · exact q2.elim
theorem s_chain (co : CO D Z X m ex W) {o1 o2 : COp} {e : Expr} (ha : ∀ e, mE D m a e = true → PE X e (tE D X ex bs W (evE Z bs a))) (hb : ∀ e, mE D m b e = true → PE X e (tE D X ex bs W (evE Z bs b)))
    (hc : ∀ e, mE D m c e = true → PE X e (tE D X ex bs W (evE Z bs c))) (h : mE D m (.chain o1 o2 a b c) e = true) :
    PE X e (tE D X ex bs W (evE Z bs (.chain o1 o2 a b c))) ∧ PT X e (tT D X ex bs W (evE Z bs (.chain o1 o2 a b c))) := by
  rw [mE] at h
  split at h
  · rename_i l p1 p2 r1 r2 hv
    obtain ⟨p, rfl⟩ := vCmp_eq hv
    simp only [Bool.and_eq_true, decide_eq_true_eq] at h
    obtain ⟨⟨⟨⟨rfl, rfl⟩, h1⟩, h2⟩, h3⟩ := h
    have hm : lastMarks [o1.op, o2.op] [r1, r2] = false := pl_mark (mE_pl h3)
    exact ⟨PEimp (pe_chain (s_cmpR co) (s_cmpR co) (ha _ h1) (hb _ h2) (hc _ h3) hm) fun σc H Q q => chain_red q,
      PTimp (pt_chain (s_cmpR co) (s_cmpR co) (ha _ h1) (hb _ h2) (hc _ h3) hm) fun σc H Q q => chain_red q⟩
  · cases h
theorem tru_some {x : A} {b : Bool} (h : tru x = some b) : x = .p (.bl b) := by
  unfold tru at h
  split at h
  · cases h; rfl
  · cases h
/-- a value that is a bool, by its truth -/
theorem kE.tru {K : PySem.W.Frag} {P : Program} {w : World} {ρ : Nat → Addr} {H : Hp} {st : St} {v : V} {x : A} {b : Bool} (e : tru x = some b) (r : RA D K ρ H v x) : v = .bl b := by
  rw [tru_some e] at r
  cases r with
  | p r => cases r; rfl
theorem s_not (co : CO D Z X m ex W) {e : Expr} (ha : ∀ e, mE D m a e = true → PE X e (tE D X ex bs W (evE Z bs a))) (h : mE D m (.not a) e = true) : PE X e (tE D X ex bs W (evE Z bs (.not a))) := by
  rw [mE] at h
  split at h
  · rename_i x hv
    obtain ⟨p, rfl⟩ := vUn_eq hv
    refine PEimp (pe_not (ha _ h)) fun σc H Q ⟨ρ, σ, st, s, q⟩ => ⟨ρ, σ, st, s, ?_⟩
    rw [evE] at q
    refine kG.bind q fun x st1 ρ1 H1 v _ po r q1 => ?_
    obtain ⟨c, hc, q1⟩ := kE.of q1
    obtain ⟨b, hb, rfl⟩ := Option.map_eq_some_iff.mp hc
    exact ⟨b, kE.tru (P := X.prog) (w := X.w) (st := st1) hb r.1, kE.plain q1 po.ob (.bl _)⟩
  · cases h
theorem s_notT (co : CO D Z X m ex W) {e : Expr} (ha : ∀ e, mE D m a e = true → PT X e (tT D X ex bs W (evE Z bs a))) (h : mE D m (.not a) e = true) : PT X e (tT D X ex bs W (evE Z bs (.not a))) := by
  rw [mE] at h
  split at h
  · rename_i x hv
    obtain ⟨p, rfl⟩ := vUn_eq hv
    refine PTimp (pt_not (ha _ h)) fun σc H Q ⟨ρ, σ, st, s, q⟩ => ⟨ρ, σ, st, s, ?_⟩
    rw [evE] at q
    refine kG.bind q fun x st1 ρ1 H1 v _ po r q1 => ?_
    obtain ⟨c, hc, q1⟩ := kE.of q1
    obtain ⟨b, hb, rfl⟩ := Option.map_eq_some_iff.mp hc
    obtain ⟨c, z1, z2⟩ := kE.plain q1 po.ob (.bl _)
    cases z1
    exact ⟨b, kE.tru (P := X.prog) (w := X.w) (st := st1) hb r.1, z2⟩
  · cases h
theorem s_ife (co : CO D Z X m ex W) {e : Expr} (ha : tOk a = true → ∀ e, mE D m a e = true → PT X e (tT D X ex bs W (evE Z bs a))) (hb : ∀ e, mE D m b e = true → PE X e (tE D X ex bs W (evE Z bs b)))
    (hc : ∀ e, mE D m c e = true → PE X e (tE D X ex bs W (evE Z bs c))) (h : mE D m (.ife a b c) e = true) : PE X e (tE D X ex bs W (evE Z bs (.ife a b c))) := by
  rw [mE] at h
  split at h
  · rename_i x y z hv
    obtain ⟨p, rfl⟩ := vIf_eq hv
    simp only [Bool.and_eq_true] at h
    obtain ⟨⟨⟨h0, h1⟩, h2⟩, h3⟩ := h
    refine PEimp (pe_ifExp (ha h0 _ h1) (hb _ h2) (hc _ h3)) fun σc H Q ⟨ρ, σ, st, s, q⟩ => ⟨ρ, σ, st, s, ?_⟩
    rw [evE] at q
    refine kG.bind q fun x st1 ρ1 H1 v _ po r q1 => ?_
    split at q1
    · rename_i e
      exact ⟨true, kE.tru (P := X.prog) (w := X.w) (st := st1) e r.1, by simp only [if_true]; exact ⟨ρ1, σ, st1, s.step po, q1⟩⟩
    · rename_i e
      exact ⟨false, kE.tru (P := X.prog) (w := X.w) (st := st1) e r.1, by simp only [Bool.false_eq_true, if_false]; exact ⟨ρ1, σ, st1, s.step po, q1⟩⟩
    · exact q1.elim
  · cases h
/-! ### lists of expressions -/
theorem s_nilA {es : List Expr} (h : mEs D m .nil es = true) : PA X es (tAs D X ex bs W (evEs Z bs .nil)) := by
  rw [mEs] at h
  cases es with
  | nil =>
    refine PAimp pa_nil fun σc H Q ⟨ρ, σ, st, s, q⟩ => ?_
    rw [evEs] at q
    exact q ρ H [] (Po.refl s.ob) ⟨.nil, rfl⟩
  | cons _ _ => cases h
theorem s_consA {r : C} {es : List Expr} (ha : ∀ e, mE D m a e = true → PE X e (tE D X ex bs W (evE Z bs a))) (hr : ∀ es, mEs D m r es = true → PA X es (tAs D X ex bs W (evEs Z bs r))) (h : mEs D m (.cons a r) es = true) :
    PA X es (tAs D X ex bs W (evEs Z bs (.cons a r))) := by
  cases es with
  | nil => rw [mEs] at h; cases h
  | cons x xs =>
    rw [mEs, Bool.and_eq_true] at h
    refine PAimp (pa_cons (ha _ h.1) (hr _ h.2) (star_pl (mE_pl h.1))) fun σc H Q ⟨ρ, σ, st, s, q⟩ => ⟨ρ, σ, st, s, ?_⟩
    rw [evEs] at q
    refine kG.bind q fun x st1 ρ1 H1 v _ po r q1 => ⟨ρ1, σ, st1, s.step po, kG.bind q1 fun y st2 ρ2 H2 u _ po2 r2 q2 => ?_⟩
    obtain ⟨r3, b3⟩ := po2.ra po.ob r.1 r.2
    exact q2 ρ2 H2 (v :: u) (Po.refl po2.ob) ⟨.cons r3 r2.1, by rw [A.bels, b3, r2.2]; rfl⟩
/-- and, or -/
theorem s_and1 {x : Expr} {pos : Pos} (ha : PE X x (tE D X ex bs W (evE Z bs a))) : PE X (.BoolOp .And [x] pos) (tE D X ex bs W (evAnd Z bs (.cons a .nil))) :=
  PEimp (pe_one ha) fun σc H Q ⟨ρ, σ, st, s, q⟩ => ⟨ρ, σ, st, s, by rw [evAnd] at q; exact q⟩
theorem s_or1 {x : Expr} {pos : Pos} (ha : PE X x (tE D X ex bs W (evE Z bs a))) : PE X (.BoolOp .Or [x] pos) (tE D X ex bs W (evOr Z bs (.cons a .nil))) :=
  PEimp (pe_one ha) fun σc H Q ⟨ρ, σ, st, s, q⟩ => ⟨ρ, σ, st, s, by rw [evOr] at q; exact q⟩
theorem s_and2 {r1 r2 : C} {x y : Expr} {ys : List Expr} {pos : Pos} (ha : PE X x (tE D X ex bs W (evE Z bs a))) (hr : PE X (.BoolOp .And (y :: ys) pos) (tE D X ex bs W (evAnd Z bs (.cons r1 r2)))) :
    PE X (.BoolOp .And (x :: y :: ys) pos) (tE D X ex bs W (evAnd Z bs (.cons a (.cons r1 r2)))) := by
  refine PEimp (pe_and ha hr) fun σc H Q ⟨ρ, σ, st, s, q⟩ => ⟨ρ, σ, st, s, ?_⟩
  rw [evAnd] at q
  · refine kG.bind q fun x st1 ρ1 H1 v _ po r q1 => ?_
    split at q1
    · rename_i e
      exact ⟨true, kE.tru (P := X.prog) (w := X.w) (st := st1) e r.1, by simp only [if_true]; exact ⟨ρ1, σ, st1, s.step po, q1⟩⟩
    · rename_i e
      exact ⟨false, kE.tru (P := X.prog) (w := X.w) (st := st1) e r.1, by simp only [Bool.false_eq_true, if_false]; exact kE.plain q1 po.ob (.bl false)⟩
    · exact q1.elim
  · intro z; cases z
theorem s_or2 {r1 r2 : C} {x y : Expr} {ys : List Expr} {pos : Pos} (ha : PE X x (tE D X ex bs W (evE Z bs a))) (hr : PE X (.BoolOp .Or (y :: ys) pos) (tE D X ex bs W (evOr Z bs (.cons r1 r2)))) :
    PE X (.BoolOp .Or (x :: y :: ys) pos) (tE D X ex bs W (evOr Z bs (.cons a (.cons r1 r2)))) := by
  refine PEimp (pe_or ha hr) fun σc H Q ⟨ρ, σ, st, s, q⟩ => ⟨ρ, σ, st, s, ?_⟩
  rw [evOr] at q
  · refine kG.bind q fun x st1 ρ1 H1 v _ po r q1 => ?_
    split at q1
    · rename_i e
      exact ⟨true, kE.tru (P := X.prog) (w := X.w) (st := st1) e r.1, by simp only [if_true]; exact kE.plain q1 po.ob (.bl true)⟩
    · rename_i e
      exact ⟨false, kE.tru (P := X.prog) (w := X.w) (st := st1) e r.1, by simp only [Bool.false_eq_true, if_false]; exact ⟨ρ1, σ, st1, s.step po, q1⟩⟩
    · exact q1.elim
  · intro z; cases z
theorem s_and1T {x : Expr} {pos : Pos} (ha : PT X x (tT D X ex bs W (evE Z bs a))) : PW X (.BoolOp .And [x] pos) (tT D X ex bs W (evAnd Z bs (.cons a .nil))) :=
  PWimp (pw_and1 ha) fun σc H Q ⟨ρ, σ, st, s, q⟩ => ⟨ρ, σ, st, s, by rw [evAnd] at q; exact q⟩
theorem s_or1T {x : Expr} {pos : Pos} (ha : PT X x (tT D X ex bs W (evE Z bs a))) : PW X (.BoolOp .Or [x] pos) (tT D X ex bs W (evOr Z bs (.cons a .nil))) :=
  PWimp (pw_or1 ha) fun σc H Q ⟨ρ, σ, st, s, q⟩ => ⟨ρ, σ, st, s, by rw [evOr] at q; exact q⟩
theorem s_and2T {r1 r2 : C} {x y : Expr} {ys : List Expr} {pos : Pos} (ha : PT X x (tT D X ex bs W (evE Z bs a))) (hr : PW X (.BoolOp .And (y :: ys) pos) (tT D X ex bs W (evAnd Z bs (.cons r1 r2)))) :
    PW X (.BoolOp .And (x :: y :: ys) pos) (tT D X ex bs W (evAnd Z bs (.cons a (.cons r1 r2)))) := by
  refine PWimp (pw_and ha hr) fun σc H Q ⟨ρ, σ, st, s, q⟩ => ⟨ρ, σ, st, s, ?_⟩
  rw [evAnd] at q
  · refine kG.bind q fun x st1 ρ1 H1 v _ po r q1 => ?_
    split at q1
    · rename_i e
      exact ⟨true, kE.tru (P := X.prog) (w := X.w) (st := st1) e r.1, by simp only [if_true]; exact ⟨ρ1, σ, st1, s.step po, q1⟩⟩
    · rename_i e
      refine ⟨false, kE.tru (P := X.prog) (w := X.w) (st := st1) e r.1, ?_⟩
      obtain ⟨c, z1, z2⟩ := kE.plain q1 po.ob (.bl false)
      cases z1
      simp only [Bool.false_eq_true, if_false]; exact z2
    · exact q1.elim
  · intro z; cases z
theorem s_or2T {r1 r2 : C} {x y : Expr} {ys : List Expr} {pos : Pos} (ha : PT X x (tT D X ex bs W (evE Z bs a))) (hr : PW X (.BoolOp .Or (y :: ys) pos) (tT D X ex bs W (evOr Z bs (.cons r1 r2)))) :
    PW X (.BoolOp .Or (x :: y :: ys) pos) (tT D X ex bs W (evOr Z bs (.cons a (.cons r1 r2)))) := by
  refine PWimp (pw_or ha hr) fun σc H Q ⟨ρ, σ, st, s, q⟩ => ⟨ρ, σ, st, s, ?_⟩
  rw [evOr] at q
  · refine kG.bind q fun x st1 ρ1 H1 v _ po r q1 => ?_
    split at q1
    · rename_i e
      refine ⟨true, kE.tru (P := X.prog) (w := X.w) (st := st1) e r.1, ?_⟩
      obtain ⟨c, z1, z2⟩ := kE.plain q1 po.ob (.bl true)
      cases z1
      simp only [if_true]; exact z2
    · rename_i e
      exact ⟨false, kE.tru (P := X.prog) (w := X.w) (st := st1) e r.1, by simp only [Bool.false_eq_true, if_false]; exact ⟨ρ1, σ, st1, s.step po, q1⟩⟩
    · exact q1.elim
  · intro z; cases z
end
end Fc

set_option Elab.async false
set_option linter.all false
set_option maxRecDepth 100000
set_option maxHeartbeats 4000000
/-! FcSnd3: displays, subscripts, calls. -/
namespace Fc
open PySem PySem.Spec PyProof.Rows L2

/-! ### displays -/
theorem pe_tupN {X : Cx} {es : List Expr} {t : L2.TA} {k : Nat} {pos : Pos} (h : PA X es t) : PE X (.Tuple es k pos) (fun σ H Q => t σ H fun xs H1 => xs.length ≤ sizeLine ∧ NewT H1 xs Q) := by
  refine ⟨fun pins s σ H Q I hq => ?_⟩
  refine wpAny_Tuple_spliced (thn (h.run pos pins s σ H _ I hq) fun us s1 ⟨xs, H1, I1, r, z, q⟩ => ⟨by rw [← r.length]; exact z, ?_⟩)
  exact newT_ok I1 r z q
def clen : C → Nat
  | .cons _ r => clen r + 1
  | _ => 0
theorem evEs_len {Z : Cfg} {bs : List Nat} : ∀ {c : C} {σ : Sl} {st st' : St} {xs : List A}, evEs Z bs c σ st = .ok xs st' → xs.length = clen c := by
  intro c
  induction c with
  | nil => intro σ st st' xs h; rw [evEs] at h; cases h; rfl
  | cons a r iha ihr =>
    intro σ st st' xs h
    rw [evEs] at h
    cases e : evE Z bs a σ st with
    | ok x st1 =>
      rw [e] at h
      have h : (evEs Z bs r σ st1).bind (fun xs st => Out.ok (x :: xs) st) = .ok xs st' := h
      cases e2 : evEs Z bs r σ st1 with
      | ok ys st2 =>
        rw [e2] at h
        have h : Out.ok (x :: ys) st2 = .ok xs st' := h
        cases h
        rw [List.length_cons, ihr e2, clen]
      | exc _ _ _ => rw [e2] at h; cases h
      | stuck => rw [e2] at h; cases h
    | exc _ _ _ => rw [e] at h; cases h
    | stuck => rw [e] at h; cases h
  | _ => intro σ st st' xs h; unfold evEs at h; cases h
theorem mEs_len {D : Dat} {m : MC} : ∀ {c : C} {es : List Expr}, mEs D m c es = true → es.length = clen c := by
  intro c
  induction c with
  | nil => intro es h; rw [mEs] at h; cases es with | nil => rfl | cons _ _ => cases h
  | cons a r iha ihr =>
    intro es h
    cases es with
    | nil => rw [mEs] at h; cases h
    | cons x xs => rw [mEs, Bool.and_eq_true] at h; rw [List.length_cons, ihr h.2, clen]
  | _ => intro es h; unfold mEs at h; cases h
section
variable {D : Dat} {Z : Cfg} {X : Cx} {m : MC} {ex : Ex} {W : WX} {bs : List Nat} {a b c : C}
theorem s_tup (co : CO D Z X m ex W) {e : Expr} (ha : ∀ es, mEs D m a es = true → PA X es (tAs D X ex bs W (evEs Z bs a))) (h : mE D m (.tup a) e = true) : PE X e (tE D X ex bs W (evE Z bs (.tup a))) := by
  rw [mE] at h
  split at h
  · rename_i xs hv
    obtain ⟨k, p, rfl⟩ := vTup_eq hv
    simp only [Bool.and_eq_true, decide_eq_true_eq] at h
    refine PEimp (pe_tupN (ha _ h.2)) fun σc H Q ⟨ρ, σ, st, s, q⟩ => ⟨ρ, σ, st, s, ?_⟩
    rw [evE] at q
    refine kG.bind q fun x st1 ρ1 H1 v eo po r q1 => ⟨?_, ?_⟩
    · rw [r.1.length, evEs_len eo, ← mEs_len h.2, sizeLine_eq]
      have := h.1
      exact Nat.le_trans (Nat.le_of_lt this) (by decide)
    · exact kO.tup (kE.kO q1 (fun c fs st' z => by cases z)) po.ob r.1 r.2
  · cases h
theorem s_lst (co : CO D Z X m ex W) {e : Expr} (ha : ∀ es, mEs D m a es = true → PA X es (tAs D X ex bs W (evEs Z bs a))) (h : mE D m (.lst a) e = true) : PE X e (tE D X ex bs W (evE Z bs (.lst a))) := by
  rw [mE] at h
  split at h
  · rename_i xs hv
    obtain ⟨p, rfl⟩ := vLst_eq hv
    simp only [Bool.and_eq_true, decide_eq_true_eq] at h
    refine PEimp (pe_lst (ha _ h.2)) fun σc H Q ⟨ρ, σ, st, s, q⟩ => ⟨ρ, σ, st, s, ?_⟩
    rw [evE] at q
    refine kG.bind q fun x st1 ρ1 H1 v eo po r q1 => ⟨?_, fun p hp => ?_⟩
    · rw [r.1.length, evEs_len eo, ← mEs_len h.2, sizeLine_eq]
      have := h.1
      exact Nat.le_trans (Nat.le_of_lt this) (by decide)
    · exact kO.lst (kE.kO q1 (fun c fs st' z => by cases z)) po.ob r.1 r.2 hp
  · cases h
/-! ### subscripts -/
theorem nx_ix : ∀ a b st c fs st', ixF a b st ≠ .exc c fs st' := fun a b st => Out.of_nx
theorem s_ix (co : CO D Z X m ex W) {e : Expr} (ha : ∀ e, mE D m a e = true → PE X e (tE D X ex bs W (evE Z bs a))) (hb : ∀ e, mE D m b e = true → PE X e (tE D X ex bs W (evE Z bs b))) (h : mE D m (.ix a b) e = true) : PE X e (tE D X ex bs W (evE Z bs (.ix a b))) := by
  rw [mE] at h
  split at h
  · rename_i x y hv
    obtain ⟨p, rfl⟩ := vSub_eq hv
    simp only [Bool.and_eq_true] at h
    exact PEimp (pe_ix (ix_get (D := D) (bs := bs) co.hu) (ha _ h.1) (hb _ h.2) (pl_ix (mE_pl h.2))) fun σc H Q q => tE.two nx_ix (by simpa only [evE] using q)
  · cases h
/-- a slice's part -/
theorem POimp {X : Cx} {e : Option Expr} {t t' : TO} (h : PO X e t) (i : ∀ σ H Q, t' σ H Q → t σ H Q) : PO X e t' := ⟨fun pins s σ H Q I q => h.run pins s σ H Q I (i _ _ _ q)⟩
abbrev RI (_ : Nat → Addr) (_ : Hp) (_ : Nat) (i j : Option Int) : Prop := i = j
def tPt (D : Dat) (Z : Cfg) (X : Cx) (ex : Ex) (bs : List Nat) (W : WX) (c : C) : TO := fun σc H Q => ∃ ρ σ st, SR D X.K X.prog X.w ex bs ρ H σc σ st ∧
  kG D X.K X.prog X.w bs RI ((evE Z bs c σ st).bind fun l st => Out.of st (partI c l)) ρ st H Q (WE W σc)
theorem s_part {o : Option Expr} (hc : ∀ e, mE D m c e = true → PE X e (tE D X ex bs W (evE Z bs c))) (hm : (match o with | none => c.isNil | some l => mE D m c l) = true) : PO X o (tPt D Z X ex bs W c) := by
  cases o with
  | none =>
    refine POimp po_none fun σc H Q ⟨ρ, σ, st, s, q⟩ => ?_
    have hm : c.isNil = true := hm
    cases c <;> first | (cases hm; done) | skip
    have q : kG D X.K X.prog X.w bs RI ((evE Z bs .nil σ st).bind fun l st => Out.of st (partI .nil l)) ρ st H Q (WE W σc) := q
    have e : evE Z bs .nil σ st = .ok (.p .non) st := by simp [evE]
    rw [e] at q
    exact q ρ H none (Po.refl s.ob) rfl
  | some l =>
    have hm : mE D m c l = true := hm
    refine POimp (po_some (hc _ hm)) fun σc H Q ⟨ρ, σ, st, s, q⟩ => ⟨ρ, σ, st, s, kG.bind q fun x st1 ρ1 H1 v eo po r q1 => ?_⟩
    have hn : c.isNil = false := by
      cases c <;> first | rfl | (unfold mE at hm; cases hm)
    unfold partI at q1
    rw [hn] at q1
    simp only [Bool.false_eq_true, if_false] at q1
    split at q1
    · obtain ⟨r, _⟩ := r
      cases r with
      | p r => cases r; exact ⟨_, rfl, q1 ρ1 H1 _ (Po.refl po.ob) rfl⟩
    · exact q1.elim
theorem s_slice (co : CO D Z X m ex W) {e : Expr} (ha : ∀ e, mE D m a e = true → PE X e (tE D X ex bs W (evE Z bs a))) (hb : ∀ e, mE D m b e = true → PE X e (tE D X ex bs W (evE Z bs b))) (hc : ∀ e, mE D m c e = true → PE X e (tE D X ex bs W (evE Z bs c)))
    (h : mE D m (.slice a b c) e = true) : PE X e (tE D X ex bs W (evE Z bs (.slice a b c))) := by
  rw [mE] at h
  split at h
  · rename_i x y hv
    obtain ⟨p, rfl⟩ := vSub_eq hv
    rw [Bool.and_eq_true] at h
    obtain ⟨h1, h2⟩ := h
    split at h2
    · rename_i l hh hv2
      obtain ⟨p2, rfl⟩ := vSl_eq hv2
      rw [Bool.and_eq_true] at h2
      obtain ⟨h2, h3⟩ := h2
      refine PEimp (pe_slice (sl_get (D := D) (bs := bs)) (ha _ h1) (s_part hb h2) (s_part hc h3)) fun σc H Q ⟨ρ, σ, st, s, q⟩ => ⟨ρ, σ, st, s, ?_⟩
      rw [evE] at q
      refine kG.bind q fun x1 st1 ρ1 H1 v1 _ po1 r1 q1 => ⟨ρ1, σ, st1, s.step po1, kG.bind q1 fun l2 st2 ρ2 H2 i2 e2 po2 r2 q2 => ⟨ρ2, σ, st2, (s.step po1).step po2, kG.bind q2 fun l3 st3 ρ3 H3 i3 e3 po3 r3 q3 => ?_⟩⟩
      cases r2
      cases r3
      obtain ⟨r4, b4⟩ := (po2.trans po3).ra po1.ob r1.1 r1.2
      exact ⟨ρ3, st3, x1, po3.ob, r4, b4, kE.kO q3 (nx_sliceA _ _)⟩
    · cases h2
  · cases h
end
end Fc

set_option Elab.async false
set_option linter.all false
set_option maxRecDepth 100000
set_option maxHeartbeats 4000000
/-! FcSnd4: calls. -/
namespace Fc
open PySem PySem.Spec PyProof.Rows L2

theorem bt_len : bootBuiltins "len" = some (.builtin "len") := by decide +kernel
theorem bt_int : bootBuiltins "int" = some (.type "int") := by decide +kernel
theorem bt_tuple : bootBuiltins "tuple" = some (.type "tuple") := by decide +kernel
theorem bt_list : bootBuiltins "list" = some (.type "list") := by decide +kernel
theorem bt_sum : bootBuiltins "sum" = some (.builtin "sum") := by decide +kernel
theorem bt_min : bootBuiltins "min" = some (.builtin "min") := by decide +kernel
theorem bt_max : bootBuiltins "max" = some (.builtin "max") := by decide +kernel
theorem bt_all : bootBuiltins "all" = some (.builtin "all") := by decide +kernel
theorem bt_any : bootBuiltins "any" = some (.builtin "any") := by decide +kernel
theorem bt_sorted : bootBuiltins "sorted" = some (.builtin "sorted") := by decide +kernel
theorem bt_abs : bootBuiltins "abs" = some (.builtin "abs") := by decide +kernel
theorem bt_isinstance : bootBuiltins "isinstance" = some (.builtin "isinstance") := by decide +kernel
theorem bt_bool : bootBuiltins "bool" = some (.type "bool") := by decide +kernel
theorem bt_dict : bootBuiltins "dict" = some (.type "dict") := by decide +kernel
theorem bt_str : bootBuiltins "str" = some (.type "str") := by decide +kernel
theorem bt_ve : bootBuiltins "ValueError" = some (.type "ValueError") := by decide +kernel
section
variable {X : Cx} {e : Expr} {es : List Expr} {t : L2.TA} {p pos : Pos} {r : List V → Hp → VK → Prop}
/-- a built-in function of the core, called -/
theorem pe_cb {b : B1} (hc : CallR X b.fn r) (hg : Gl X b.nm) (hm : X.mg b.nm = none) (ha : PA X (e :: es) t)
    (he : starEach (e :: es) X.env = (false, eval e X.env) :: starEach es X.env) (hpl : (backTo pos (starEach es X.env)).any (·.1) = false) : PE X (.Call (.Name b.nm p) (e :: es) [] pos) (tCB r t) := by
  cases b
  · exact pe_callB hc hg hm bt_len ha (by decide) (by decide) he hpl
  · exact pe_callTy hc hg hm bt_int ha (by decide) (by decide) he hpl
  · exact pe_callTy hc hg hm bt_tuple ha (by decide) (by decide) he hpl
  · exact pe_callTy hc hg hm bt_list ha (by decide) (by decide) he hpl
  · exact pe_callB hc hg hm bt_sum ha (by decide) (by decide) he hpl
  · exact pe_callB hc hg hm bt_min ha (by decide) (by decide) he hpl
  · exact pe_callB hc hg hm bt_max ha (by decide) (by decide) he hpl
  · exact pe_callB hc hg hm bt_all ha (by decide) (by decide) he hpl
  · exact pe_callB hc hg hm bt_any ha (by decide) (by decide) he hpl
  · exact pe_callB hc hg hm bt_sorted ha (by decide) (by decide) he hpl
  · exact pe_callB hc hg hm bt_abs ha (by decide) (by decide) he hpl
theorem pe_cb2 {b : B2} (hc : CallR X b.fn r) (hg : Gl X b.nm) (hm : X.mg b.nm = none) (ha : PA X (e :: es) t)
    (he : starEach (e :: es) X.env = (false, eval e X.env) :: starEach es X.env) (hpl : (backTo pos (starEach es X.env)).any (·.1) = false) : PE X (.Call (.Name b.nm p) (e :: es) [] pos) (tCB r t) := by
  cases b
  · exact pe_callB hc hg hm bt_min ha (by decide) (by decide) he hpl
  · exact pe_callB hc hg hm bt_max ha (by decide) (by decide) he hpl
end
theorem b1_in (b : B1) : bltNames.contains b.nm = true := by cases b <;> decide
theorem b2_in (b : B2) : bltNames.contains b.nm = true := by cases b <;> decide
theorem star0 {e : Expr} {env : Env} {pos : Pos} : (backTo pos (starEach [] env)).any (·.1) = false := rfl
theorem star1 {e : Expr} {env : Env} {pos : Pos} (h : plE e = true) : (backTo pos (starEach [e] env)).any (·.1) = false := by
  rw [star_pl h]; rfl
theorem mEs_cons {D : Dat} {m : MC} {a : C} {y : Expr} {ys : List Expr} (h : mEs D m a (y :: ys) = true) : ∃ a' r, a = .cons a' r ∧ mE D m a' y = true ∧ mEs D m r ys = true := by
  cases a with
  | cons a' r => rw [mEs, Bool.and_eq_true] at h; exact ⟨a', r, rfl, h.1, h.2⟩
  | _ => unfold mEs at h; first | (cases h; done) | (simp at h; done)
section
variable {D : Dat} {Z : Cfg} {X : Cx} {m : MC} {ex : Ex} {W : WX} {bs : List Nat} {a b c : C}
/-! ### a def -/
theorem s_call (co : CO D Z X m ex W) {f : Nat} {e : Expr} (ha : ∀ es, mEs D m a es = true → PA X es (tAs D X ex bs W (evEs Z bs a))) (h : mE D m (.call f a) e = true) : PE X e (tE D X ex bs W (evE Z bs (.call f a))) := by
  rw [mE] at h
  split at h
  · rename_i x xs hv
    obtain ⟨p, pos, rfl⟩ := vCall_eq hv
    simp only [Bool.and_eq_true, decide_eq_true_eq] at h
    obtain ⟨⟨⟨⟨⟨h1, h2⟩, h3⟩, h4⟩, h5⟩, h6⟩ := h
    obtain ⟨hc, rfl, k, room, fns⟩ := co.calm h1
    obtain ⟨fd, ps, F, B, kk, hm⟩ := fns.all f x h2
    cases xs with
    | nil => cases h6
    | cons y ys =>
      obtain ⟨a', r, rfl, g1, g2⟩ := mEs_cons h5
      refine PEimp (pe_callSD (E := WE W) F room (glB_ok co.sc h3) hm kk B .nil (passAt co.tk) (ha _ h5) (okName_ok h4).1 (star_pl (mE_pl g1)) (mEs_star g2)) fun σc H Q ⟨ρ, σ, st, s, q⟩ => ⟨ρ, σ, st, s, ?_⟩
      rw [evE] at q
      refine kG.bind q fun xs st1 ρ1 H1 vs _ po r q1 => ?_
      rw [List.append_nil]
      exact ⟨bs, ρ1, st1, xs, po.ob, r.1, r.2, q1⟩
  · cases h
/-! ### built-in functions -/
theorem s_b1 (co : CO D Z X m ex W) {b : B1} {e : Expr} (ha : ∀ e, mE D m a e = true → PE X e (tE D X ex bs W (evE Z bs a))) (h : mE D m (.b1 b a) e = true) : PE X e (tE D X ex bs W (evE Z bs (.b1 b a))) := by
  rw [mE] at h
  split at h
  · rename_i x y hv
    obtain ⟨p, pos, rfl⟩ := vCall_eq hv
    simp only [Bool.and_eq_true, decide_eq_true_eq] at h
    obtain ⟨⟨⟨⟨h1, h2⟩, rfl⟩, h4⟩, h5⟩ := h
    obtain ⟨hc, rfl, _⟩ := co.calm h1
    refine PEimp (pe_cb (call_b1 (D := D) (bs := bs) hc b h2) (glB_ok co.sc h4) (co.fac.blt _ (b1_in b)) (pa_cons (ha _ h5) pa_nil (star_pl (mE_pl h5))) (star_pl (mE_pl h5)) (star0 (e := y))) fun σc H Q ⟨ρ, σ, st, s, q⟩ => ⟨ρ, σ, st, s, ?_⟩
    rw [evE] at q
    exact kG.bind q fun x1 st1 ρ1 H1 v _ po r q1 => ⟨v, rfl, ρ1, st1, x1, po.ob, r.1, r.2, kE.kO q1 (nx_b1 b _ _)⟩
  · cases h
theorem nx_b2 (b : B2) : ∀ x y st c fs st', b2F b x y st ≠ .exc c fs st' := fun x y st => Out.of_nx
theorem s_b2 (co : CO D Z X m ex W) {f : B2} {e : Expr} (ha : ∀ e, mE D m a e = true → PE X e (tE D X ex bs W (evE Z bs a))) (hb : ∀ e, mE D m b e = true → PE X e (tE D X ex bs W (evE Z bs b))) (h : mE D m (.b2 f a b) e = true) : PE X e (tE D X ex bs W (evE Z bs (.b2 f a b))) := by
  rw [mE] at h
  split at h
  · rename_i x y z hv
    obtain ⟨p, pos, rfl⟩ := vCall_eq hv
    simp only [Bool.and_eq_true, decide_eq_true_eq] at h
    obtain ⟨⟨⟨⟨h1, rfl⟩, h4⟩, h5⟩, h6⟩ := h
    obtain ⟨hc, rfl, _⟩ := co.calm h1
    refine PEimp (pe_cb2 (call_b2 (D := D) (bs := bs) hc f) (glB_ok co.sc h4) (co.fac.blt _ (b2_in f)) (pa_cons (ha _ h5) (pa_cons (hb _ h6) pa_nil (star_pl (mE_pl h6))) (star_pl (mE_pl h5))) (star_pl (mE_pl h5)) (star1 (mE_pl h6))) fun σc H Q q => ?_
    rw [show evE Z bs (.b2 f a b) = fun σ st => (evE Z bs a σ st).bind fun x st => (evE Z bs b σ st).bind fun y st => b2F f x y st by funext σ st; rw [evE]] at q
    obtain ⟨ρ, σ, st, s, q⟩ := tE.two (nx_b2 f) q
    refine ⟨ρ, σ, st, s, kG.mono q (fun v H' q' => ?_) fun _ _ _ z => z⟩
    obtain ⟨ρ2, σ2, st2, s2, q2⟩ := q'
    exact ⟨ρ2, σ2, st2, s2, kG.mono q2 (fun v2 H2 q3 => ⟨_, _, rfl, q3⟩) fun _ _ _ z => z⟩
  · cases h
end
/-! ### a comprehension's list -/
section
variable (D : Dat) (K : PySem.W.Frag) (P : Program) (w : World) (bs : List Nat)
def kL (o : Out (List A)) (ρ : Nat → Addr) (st : St) (H : Hp) (Q : VK) (E : XK) : Prop := match o with
  | .ok xs st' => ∀ ρ' H' L vs, Po D K P w bs ρ st H ρ' st' H' → H L = none → H' L = some (.lst vs) → (∀ j, j < st'.length → ρ' j ≠ L) → RAs D K ρ' H' vs xs → A.bels st'.length xs = true → Q (.ref L) H'
  | .exc c fs st' => ∀ ρ' H' cls d, Po D K P w bs ρ st H ρ' st' H' → XR D K cls d H' c fs → E cls d H'
  | .stuck => False
end
def tL (D : Dat) (X : Cx) (ex : Ex) (bs : List Nat) (W : WX) (f : Sl → St → Out (List A)) : TE := fun σc H Q => ∃ ρ σ st, SR D X.K X.prog X.w ex bs ρ H σc σ st ∧ kL D X.K X.prog X.w bs (f σ st) ρ st H Q (WE W σc)
section
variable {D : Dat} {K : PySem.W.Frag} {P : Program} {w : World} {bs : List Nat} {ρ ρ1 : Nat → Addr} {st st1 : St} {H H1 : Hp} {E : XK}
/-- the new list becomes an object of the store -/
theorem Po.adopt (p : Po D K P w bs ρ st H ρ1 st1 H1) {L : Addr} {vs : List V} {xs : List A} (h0 : H L = none) (h1 : H1 L = some (.lst vs)) (hu : ∀ j, j < st1.length → ρ1 j ≠ L) (r : RAs D K ρ1 H1 vs xs) (b : A.bels st1.length xs = true) :
    Po D K P w bs ρ st H (rho ρ1 st1.length L) (st1 ++ [.lst xs]) H1 ∧ RA D K (rho ρ1 st1.length L) H1 (.ref L) (.ref st1.length) := by
  have ag : ∀ j, j < st1.length → rho ρ1 st1.length L j = ρ1 j := fun j h => by unfold rho; rw [if_neg (by omega)]
  have at_ : rho ρ1 st1.length L st1.length = L := by unfold rho; rw [if_pos rfl]
  have o := p.ob
  refine ⟨⟨fun j h => (ag j (Nat.lt_of_lt_of_le h p.le)).trans (p.ag j h), by simp; exact Nat.le_succ_of_le p.le, p.fr, fun j g1 g2 => ?_, ⟨fun j u h => ?_, fun c hc => ?_, fun i j hi hj e => ?_⟩⟩, ?_⟩
  · by_cases hj : j < st1.length
    · rw [ag j hj]; exact p.new j g1 hj
    · have : j = st1.length := by simp at g2; omega
      subst this
      rw [at_]; exact h0
  · by_cases hj : j < st1.length
    · rw [List.getElem?_append_left hj] at h
      obtain ⟨g1, g2⟩ := o.obj j u h
      refine ⟨?_, obel_mono (by simp) u g2⟩
      rw [ag j hj]
      exact g1.mono (Ext.refl H1) ag rfl g2
    · have e : j = st1.length := by
        have := (List.getElem?_eq_some_iff.mp h).1
        simp at this; omega
      subst e
      simp at h
      subst h
      rw [at_]
      exact ⟨⟨vs, h1, RAs.mono (Ext.refl H1) ag xs vs r b⟩, bels_mono (by simp) xs b⟩
  · obtain ⟨g1, g2⟩ := o.low c hc
    refine ⟨by simp; omega, fun j u hj h => g2 j u hj ?_⟩
    rw [List.getElem?_append_left (by omega)] at h
    exact h
  · simp only [List.length_append, List.length_cons, List.length_nil] at hi hj
    by_cases g1 : i < st1.length <;> by_cases g2 : j < st1.length
    · rw [ag i g1, ag j g2] at e; exact o.inj i j g1 g2 e
    · have : j = st1.length := by omega
      subst this
      rw [ag i g1, at_] at e
      exact absurd e (hu i g1)
    · have : i = st1.length := by omega
      subst this
      rw [ag j g2, at_] at e
      exact absurd e.symm (hu j g2)
    · omega
  · have z := RA.ref (D := D) (K := K) (ρ := rho ρ1 st1.length L) (H := H1) (j := st1.length)
    rw [at_] at z
    exact z
end
section
variable {D : Dat} {Z : Cfg} {X : Cx} {m : MC} {ex : Ex} {W : WX} {bs : List Nat} {a b c : C}
theorem s_comp (co : CO D Z X m ex W) {e : Expr} (ha : ∀ e, mQ D m a e = true → PE X e (tL D X ex bs W (evL Z bs a))) (h : mE D m (.comp a) e = true) : PE X e (tE D X ex bs W (evE Z bs (.comp a))) := by
  rw [mE] at h
  refine PEimp (ha _ h) fun σc H Q ⟨ρ, σ, st, s, q⟩ => ⟨ρ, σ, st, s, ?_⟩
  rw [evE] at q
  generalize evL Z bs a σ st = o at q
  cases o with
  | ok xs st' =>
    intro ρ' H' L vs po h0 h1 hu r b
    obtain ⟨p, ra⟩ := po.adopt h0 h1 hu r b
    exact q _ H' _ p ⟨ra, by simp [A.bel]⟩
  | exc c fs st' => exact q
  | stuck => exact q
def rLf (D : Dat) (K : PySem.W.Frag) (P : Program) (w : World) (bs : List Nat) (b : B1) : List V → Hp → VK → Prop := fun xs H Q => ∃ L vs ρ st as, xs = [.ref L] ∧ SqL K H L vs ∧ OR D K P w bs ρ H st ∧ RAs D K ρ H vs as ∧ A.bels st.length as = true ∧ kO D K P w bs (lfun b as st) ρ st H Q
theorem call_lf (hc : X.calm = true) (b : B1) (hb : b ≠ .sorted) : CallR X b.fn (rLf D X.K X.prog X.w bs b) := by
  intro pins s σ H xs us Q I r h
  obtain ⟨L, vs, ρ, st, as, rfl, h1, o, ra, ba, q⟩ := h
  obtain ⟨u, rfl, rx⟩ := Vals.one r
  cases rx
  exact lfun_ok hc b hb I h1 o ra ba q
theorem s_bq (co : CO D Z X m ex W) {b : B1} {e : Expr} (ha : ∀ e, mQ D m a e = true → PE X e (tL D X ex bs W (evL Z bs a))) (h : mE D m (.bq b a) e = true) : PE X e (tE D X ex bs W (evE Z bs (.bq b a))) := by
  rw [mE] at h
  split at h
  · rename_i x y hv
    obtain ⟨p, pos, rfl⟩ := vCall_eq hv
    simp only [Bool.and_eq_true, decide_eq_true_eq] at h
    obtain ⟨⟨⟨⟨h1, h2⟩, rfl⟩, h4⟩, h5⟩ := h
    obtain ⟨hc, rfl, _⟩ := co.calm h1
    refine PEimp (pe_cb (call_lf (D := D) (bs := bs) hc b h2) (glB_ok co.sc h4) (co.fac.blt _ (b1_in b)) (pa_cons (ha _ h5) pa_nil (star_pl (mQ_pl h5))) (star_pl (mQ_pl h5)) (star0 (e := y))) fun σc H Q ⟨ρ, σ, st, s, q⟩ => ⟨ρ, σ, st, s, ?_⟩
    rw [evE] at q
    generalize evL Z bs a σ st = o at q
    cases o with
    | ok xs st' =>
      intro ρ' H' L vs po h0 h1 hu r b'
      exact ⟨L, vs, ρ', st', xs, rfl, SqL.of h1, po.ob, r, b', kE.kO (kG.step (o := lfun b xs st') q po) (nx_lfun b _ _)⟩
    | exc c fs st' => exact q
    | stuck => exact q
  · cases h
/-! ### isinstance -/
theorem TA.there {P : Program} {w : World} {H : Hp} {h : Heap} {a : Addr} {xs : List V} (t : TA H a xs) (ok : HOk P w H h) : ∃ o, h.get? a = some o ∧ o.cls = .type "tuple" ∧ o.dict = none := by
  obtain ⟨o, h1, h2⟩ := t
  obtain ⟨g1, _, _, _, o', g2, g3, _⟩ := ok a _ h1
  rw [g1] at g2; cases g2
  exact ⟨o, g1, g3, h2⟩
def tyP : P → Option String
  | .non => some "NoneType"
  | .bl _ => some "bool"
  | .int _ => some "int"
  | .str _ => some "str"
  | .tup _ => some "tuple"
  | .frz _ => none
theorem RP.tyx {K : PySem.W.Frag} {H : Hp} {v : V} {x : Fc.P} {t : String} (h : RP K H v x) (e : tyP x = some t) : TyX K H v (.type t) := by
  cases h with
  | non => cases e; exact .base .non
  | bl b => cases e; exact .base (.bl b)
  | int i => cases e; exact .base (.int i)
  | str y => cases e; exact .base (.str y)
  | tup h1 h2 => cases e; obtain ⟨o, h1, _⟩ := h1; exact .fTuple h1
  | frz _ _ => cases e
def Ty.cn : Ty → String
  | .int => "int"
  | .bool => "bool"
  | .tuple => "tuple"
  | .dict => "dict"
  | .list => "list"
  | .str => "str"
  | _ => ""
theorem kit_all (K : PySem.W.Frag) : ∀ (x : Fc.P) (t : Ty) (b : Bool) (n : String) (ct : List CD), isi ct (.p x) t = some b → tyP x = some n → PySem.W.kitOne K (.type n) (.type t.cn) = some b := by
  intro x t b n ct h e
  cases x <;> cases e <;> cases t <;> first | (cases h; done) | (cases h; kernel_rfl)
end
end Fc

set_option Elab.async false
set_option linter.all false
set_option maxRecDepth 100000
set_option maxHeartbeats 4000000
/-! FcSnd5: isinstance, methods, ranges. -/
namespace Fc
open PySem PySem.Spec PyProof.Rows L2

/-! ### a built-in's method -/
def tyF (K : PySem.W.Frag) (T : String) (x : V) (H : Hp) : Prop := (T = "list" ∧ ∃ p xs, x = .ref p ∧ SqL K H p xs) ∨ (T = "tuple" ∧ ∃ p xs, x = .ref p ∧ TA H p xs)
theorem tyF_is {X : Cx} {pins : List (Addr × Obj)} {σ : L2.St} {H : Hp} {s : Shared} {T : String} {x : V} {v : Value} (I : Inv X pins σ H s) (r : RelV x v) (ty : tyF X.K T x H) :
    s.TypeIs v T ∧ ∀ a, v = .ref a → ∃ ob, s.heap.get? a = some ob ∧ ob.dict = none := by
  rcases ty with ⟨rfl, p, xs, rfl, hq⟩ | ⟨rfl, p, xs, rfl, ht⟩
  · cases r
    obtain ⟨its, _, pl, _⟩ := I.list hq
    refine ⟨pl.isList.typeIs, fun a e => ?_⟩
    cases e
    obtain ⟨o, n, e, c, hd, _⟩ := pl
    exact ⟨o, e, hd⟩
  · cases r
    obtain ⟨o, h1, h2, h3⟩ := ht.there I.hok
    refine ⟨⟨o, h1, h2⟩, fun a e => ?_⟩
    cases e
    exact ⟨o, h1, h3⟩
def tFM (K : PySem.W.Frag) (T : String) (r : V → List V → Hp → VK → Prop) (to : TE) (t : L2.TA) : TE := fun σ H Q => to σ H fun x H1 => tyF K T x H1 ∧ t σ H1 fun xs H2 => r x xs H2 Q
theorem pe_fm {X : Cx} {o e : Expr} {es : List Expr} {to : TE} {t : L2.TA} {name : Str} {apos cpos : Pos} {T id : String} {r : V → List V → Hp → VK → Prop} (pa : PlainAttrs T) (slot : Slot T name id) (hty : typeOf (.builtin id) = pure (.type "method_descriptor")) (hm : MtR X id r) (ho : PE X o to) (ha : PA X (e :: es) t)
    (hbase : attributeBase o name X.env (eval o X.env) = eval o X.env)
    (hfew : ((backTo cpos (starEach (e :: es) X.env)).all (fun x => !x.1) && (backToKw cpos (keywordEach [] X.env)).all (fun x => x.1.isSome)
      && decide ((e :: es).length + ([] : List Keyword).length + (if ([] : List Keyword).isEmpty then 0 else 1) < 30)) = true)
    (hline : (apos.endLine == cpos.line) = true) (hs : starEach (e :: es) X.env = (false, eval e X.env) :: starEach es X.env) (hplain : (backTo cpos (starEach es X.env)).any (·.1) = false) :
    PE X (.Call (.Attribute o name apos) (e :: es) [] cpos) (tFM X.K T r to t) := by
  refine ⟨fun pins s σ H Q I h => ?_⟩
  refine wpAny_Call_method_late hbase hfew hline rfl (thn (ho.run pins s σ H _ I h) fun v s1 ⟨x, H1, I1, r1, ty, q1⟩ => ?_)
  obtain ⟨h1, h2⟩ := tyF_is I1 r1 ty
  refine ⟨T, id, pa, slot, hty, h1, h2, ?_⟩
  have hA := ha.run cpos pins s1 σ H1 _ I1 q1
  rw [hs] at hA ⊢
  refine Calls.callWith_builtin (by show (false || (backTo cpos (starEach es X.env)).any (·.1)) = false; rw [hplain] <;> rfl) (Calls.evalArgs_plain ?_)
  exact thn hA fun us s2 ⟨vs, H2, I2, r2, q2⟩ => hm pins s2 σ H2 x vs v us Q I2 r1 r2 q2
/-- the same, the receiver's kind by any word -/
def tFG (ty : V → Hp → Prop) (r : V → List V → Hp → VK → Prop) (to : TE) (t : L2.TA) : TE := fun σ H Q => to σ H fun x H1 => ty x H1 ∧ t σ H1 fun xs H2 => r x xs H2 Q
def TyOk (X : Cx) (T : String) (ty : V → Hp → Prop) : Prop := ∀ (pins : List (Addr × Obj)) (σ : L2.St) (H : Hp) (s : Shared) (x : V) (v : Value), Inv X pins σ H s → RelV x v → ty x H → s.TypeIs v T ∧ ∀ a, v = .ref a → ∃ ob, s.heap.get? a = some ob ∧ ob.dict = none
theorem pe_fg {X : Cx} {o e : Expr} {es : List Expr} {to : TE} {t : L2.TA} {name : Str} {apos cpos : Pos} {T id : String} {ty : V → Hp → Prop} {r : V → List V → Hp → VK → Prop} (pa : PlainAttrs T) (slot : Slot T name id) (hty : typeOf (.builtin id) = pure (.type "method_descriptor")) (hk : TyOk X T ty) (hm : MtR X id r) (ho : PE X o to) (ha : PA X (e :: es) t)
    (hbase : attributeBase o name X.env (eval o X.env) = eval o X.env)
    (hfew : ((backTo cpos (starEach (e :: es) X.env)).all (fun x => !x.1) && (backToKw cpos (keywordEach [] X.env)).all (fun x => x.1.isSome)
      && decide ((e :: es).length + ([] : List Keyword).length + (if ([] : List Keyword).isEmpty then 0 else 1) < 30)) = true)
    (hline : (apos.endLine == cpos.line) = true) (hs : starEach (e :: es) X.env = (false, eval e X.env) :: starEach es X.env) (hplain : (backTo cpos (starEach es X.env)).any (·.1) = false) :
    PE X (.Call (.Attribute o name apos) (e :: es) [] cpos) (tFG ty r to t) := by
  refine ⟨fun pins s σ H Q I h => ?_⟩
  refine wpAny_Call_method_late hbase hfew hline rfl (thn (ho.run pins s σ H _ I h) fun v s1 ⟨x, H1, I1, r1, k1, q1⟩ => ?_)
  obtain ⟨h1, h2⟩ := hk pins σ H1 s1 x v I1 r1 k1
  refine ⟨T, id, pa, slot, hty, h1, h2, ?_⟩
  have hA := ha.run cpos pins s1 σ H1 _ I1 q1
  rw [hs] at hA ⊢
  refine Calls.callWith_builtin (by show (false || (backTo cpos (starEach es X.env)).any (·.1)) = false; rw [hplain] <;> rfl) (Calls.evalArgs_plain ?_)
  exact thn hA fun us s2 ⟨vs, H2, I2, r2, q2⟩ => hm pins s2 σ H2 x vs v us Q I2 r1 r2 q2
/-- no argument -/
theorem pe_fg0 {X : Cx} {o : Expr} {to : TE} {name : Str} {apos cpos : Pos} {T id : String} {ty : V → Hp → Prop} {r : V → List V → Hp → VK → Prop} (pa : PlainAttrs T) (slot : Slot T name id) (hty : typeOf (.builtin id) = pure (.type "method_descriptor")) (hk : TyOk X T ty) (hm : MtR X id r) (ho : PE X o to)
    (hbase : attributeBase o name X.env (eval o X.env) = eval o X.env) (hline : (apos.endLine == cpos.line) = true) : PE X (.Call (.Attribute o name apos) [] [] cpos) (tFG ty r to tNil) := by
  refine ⟨fun pins s σ H Q I h => ?_⟩
  refine wpAny_Call_method_late hbase rfl hline rfl (thn (ho.run pins s σ H _ I h) fun v s1 ⟨x, H1, I1, r1, k1, q1⟩ => ?_)
  obtain ⟨h1, h2⟩ := hk pins σ H1 s1 x v I1 r1 k1
  refine ⟨T, id, pa, slot, hty, h1, h2, ?_⟩
  exact Calls.callWith_builtin rfl (PySem.evalArgs_none (hm pins s1 σ H1 x [] v [] Q I1 r1 .nil q1))
section
variable {D : Dat} {Z : Cfg} {X : Cx} {m : MC} {ex : Ex} {W : WX} {bs : List Nat} {a b c : C}
theorem few1 {e : Expr} {env : Env} {pos : Pos} (h : plE e = true) : ((backTo pos (starEach [e] env)).all (fun x => !x.1) && (backToKw pos (keywordEach [] env)).all (fun x => x.1.isSome)
      && decide ([e].length + ([] : List Keyword).length + (if ([] : List Keyword).isEmpty then 0 else 1) < 30)) = true := by
  rw [star_pl h]; rfl
theorem recv_list {m : M} (h1 : m ≠ .index) (h2 : m ≠ .get) {K : PySem.W.Frag} {P : Program} {w : World} {ρ : Nat → Addr} {H : Hp} {st : St} {v : V} {x : A} (r : RA D K ρ H v x) (o : OR D K P w bs ρ H st) (h : recv m x st = true) : tyF K "list" v H := by
  have key : ∀ j, x = .ref j → (match st[j]? with | some (.lst _) => true | _ => false) = true → tyF K "list" v H := fun j e z => by
    subst e
    split at z
    · rename_i xs e
      cases r
      obtain ⟨vs, g, _⟩ := o.lst e
      exact .inl ⟨rfl, _, _, rfl, SqL.of g⟩
    · cases z
  cases m <;> first | exact absurd rfl h1 | exact absurd rfl h2 | skip
  all_goals cases x <;> first | (cases h; done) | exact key _ rfl h
theorem recv_tup {K : PySem.W.Frag} {ρ : Nat → Addr} {H : Hp} {st : St} {v : V} {x : A} (r : RA D K ρ H v x) (h : recv .index x st = true) : tyF K "tuple" v H := by
  cases r with
  | p r =>
    cases r with
    | tup h1 _ => exact .inr ⟨rfl, _, _, rfl, h1⟩
    | _ => cases h
  | _ => cases h
/-- a dict stands there -/
def tyD (D : Dat) (K : PySem.W.Frag) (P : Program) (w : World) (bs : List Nat) (x : V) (H : Hp) : Prop := ∃ ρ st j k kvs, OR D K P w bs ρ H st ∧ st[j]? = some (.dct k kvs) ∧ x = .ref (ρ j)
theorem tyD_ok : TyOk X "dict" (tyD D X.K X.prog X.w bs) := by
  rintro pins σ H s x v I r ⟨ρ, st, j, k, kvs, o, hj, rfl⟩
  cases r
  refine ⟨dct_type I o hj, fun a e => ?_⟩
  cases e
  have ob := (o.obj j _ hj).1
  have gk : ∀ xs, H (ρ j) = some (.dK xs) → ∃ ob, s.heap.get? (ρ j) = some ob ∧ ob.dict = none := fun xs h => by
    obtain ⟨_, _, vs, _, q, _, _, e1, e2, _⟩ := dk_of I.hok h
    exact ⟨q, e1, e2.2.1⟩
  cases k with
  | e => exact gk _ ob.2
  | t =>
    obtain ⟨xs, h1, h2⟩ := ob
    obtain ⟨ys, _, ⟨q, _, _, e1, e2, _⟩, _⟩ := dx_of I h1 h2
    exact ⟨q, e1, e2.2.1⟩
  | i => obtain ⟨xs, h1, h2⟩ := ob; exact gk _ h1
  | s => obtain ⟨xs, h1, h2⟩ := ob; exact gk _ h1
theorem tyF_ok {T : String} : TyOk X T (tyF X.K T) := fun pins σ H s x v I r h => tyF_is I r h
theorem recv_dct {K : PySem.W.Frag} {P : Program} {w : World} {ρ : Nat → Addr} {H : Hp} {st : St} {v : V} {x : A} (r : RA D K ρ H v x) (o : OR D K P w bs ρ H st) (h : recv .get x st = true) : tyD D K P w bs v H := by
  cases x with
  | ref j =>
    have h : (match st[j]? with
      | some (.dct _ _) => true
      | _ => false) = true := h
    split at h
    · rename_i e
      cases r
      exact ⟨ρ, st, _, _, _, o, e, rfl⟩
    · cases h
  | _ => cases h
theorem m1_go (co : CO D Z X m ex W) {mt : M} {x y : Expr} {p pos : Pos} {T id : String} {ty : V → Hp → Prop} (pa : PlainAttrs T) (slot : Slot T mt.nm id) (hty : typeOf (.builtin id) = pure (.type "method_descriptor")) (hk : TyOk X T ty) (hm : MtR X id (rM1 D X.K X.prog X.w bs (m1fun bs mt)))
    (hr : ∀ {ρ : Nat → Addr} {H : Hp} {st : St} {v : V} {x : A}, RA D X.K ρ H v x → OR D X.K X.prog X.w bs ρ H st → recv mt x st = true → ty v H) (ha : PE X x (tE D X [] bs W (evE Z bs a))) (hb : PE X y (tE D X [] bs W (evE Z bs b))) (h4 : baseOk x = true) (h6 : plE y = true) (hl : (p.endLine == pos.line) = true) :
    PE X (.Call (.Attribute x mt.nm p) [y] [] pos) (tE D X [] bs W (evE Z bs (.m1 mt a b))) := by
  have pA : PA X [y] (tCons (tE D X [] bs W (evE Z bs b)) tNil) := pa_cons hb pa_nil (star_pl h6)
  refine PEimp (pe_fg pa slot hty hk hm ha pA (base_ok h4) (few1 h6) hl (star_pl h6) (star0 (e := y))) fun σc H Q ⟨ρ, σ, st, s, q⟩ => ⟨ρ, σ, st, s, ?_⟩
  rw [evE] at q
  refine kG.bind q fun x1 st1 ρ1 H1 v _ po r q1 => ?_
  split at q1
  · rename_i hrv
    refine ⟨hr r.1 po.ob hrv, ρ1, σ, st1, s.step po, kG.bind q1 fun y1 st2 ρ2 H2 u _ po2 r2 q2 => ?_⟩
    obtain ⟨r3, b3⟩ := po2.ra po.ob r.1 r.2
    exact ⟨u, rfl, ρ2, st2, x1, y1, po2.ob, r3, b3, r2.1, r2.2, kE.kO q2 (nx_m1 _ _ _ _)⟩
  · exact q1.elim
theorem s_m1 (co : CO D Z X m ex W) {mt : M} {e : Expr} (ha : ∀ e, mE D m a e = true → PE X e (tE D X ex bs W (evE Z bs a))) (hb : ∀ e, mE D m b e = true → PE X e (tE D X ex bs W (evE Z bs b))) (h : mE D m (.m1 mt a b) e = true) : PE X e (tE D X ex bs W (evE Z bs (.m1 mt a b))) := by
  rw [mE] at h
  split at h
  · rename_i x n y hv
    obtain ⟨p, pos, rfl, hl⟩ := vMeth_eq hv
    simp only [Bool.and_eq_true, decide_eq_true_eq] at h
    obtain ⟨⟨⟨⟨⟨h1, rfl⟩, h3⟩, h4⟩, h5⟩, h6⟩ := h
    obtain ⟨hc, rfl, _⟩ := co.calm h1
    cases mt with
    | append => exact m1_go co PySem.F.plainAttrs_list slot_list_append type_list_append tyF_ok mt_app (fun r o => recv_list (m := .append) (by decide) (by decide) r o) (ha _ h5) (hb _ h6) h4 (mE_pl h6) hl
    | extend => exact m1_go co PySem.F.plainAttrs_list PySem.F.slot_list_extend PySem.F.type_list_extend tyF_ok mt_ext (fun r o => recv_list (m := .extend) (by decide) (by decide) r o) (ha _ h5) (hb _ h6) h4 (mE_pl h6) hl
    | pop => exact m1_go co PySem.F.plainAttrs_list PySem.F.slot_list_pop PySem.F.type_list_pop tyF_ok mt_pop1 (fun r o => recv_list (m := .pop) (by decide) (by decide) r o) (ha _ h5) (hb _ h6) h4 (mE_pl h6) hl
    | lindex => exact m1_go co PySem.F.plainAttrs_list PySem.F.slot_list_index PySem.F.type_list_index tyF_ok (mt_lindex co.hu) (fun r o => recv_list (m := .lindex) (by decide) (by decide) r o) (ha _ h5) (hb _ h6) h4 (mE_pl h6) hl
    | index => exact m1_go co PySem.F.plainAttrs_tuple PySem.F.slot_tuple_index PySem.F.type_tuple_index tyF_ok (mt_tindex co.hu) (fun r o hr => recv_tup r hr) (ha _ h5) (hb _ h6) h4 (mE_pl h6) hl
    | get => exact m1_go co PySem.F.plainAttrs_dict PySem.F.slot_dict_get PySem.F.type_dict_get tyD_ok (mt_dget1 co.hu) (fun r o hr => recv_dct r o hr) (ha _ h5) (hb _ h6) h4 (mE_pl h6) hl
  · cases h
theorem few2 {e f : Expr} {env : Env} {pos : Pos} (h : plE e = true) (h' : plE f = true) : ((backTo pos (starEach [e, f] env)).all (fun x => !x.1) && (backToKw pos (keywordEach [] env)).all (fun x => x.1.isSome)
      && decide ([e, f].length + ([] : List Keyword).length + (if ([] : List Keyword).isEmpty then 0 else 1) < 30)) = true := by
  rw [star_pl h, star_pl h']; rfl
theorem s_m2 (co : CO D Z X m ex W) {mt : M} {e : Expr} (ha : ∀ e, mE D m a e = true → PE X e (tE D X ex bs W (evE Z bs a))) (hb : ∀ e, mE D m b e = true → PE X e (tE D X ex bs W (evE Z bs b))) (hcc : ∀ e, mE D m c e = true → PE X e (tE D X ex bs W (evE Z bs c)))
    (h : mE D m (.m2 mt a b c) e = true) : PE X e (tE D X ex bs W (evE Z bs (.m2 mt a b c))) := by
  rw [mE] at h
  split at h
  · rename_i x n y z hv
    obtain ⟨p, pos, rfl, hl⟩ := vMeth_eq hv
    simp only [Bool.and_eq_true, decide_eq_true_eq] at h
    obtain ⟨⟨⟨⟨⟨⟨h1, rfl⟩, rfl⟩, h4⟩, h5⟩, h6⟩, h7⟩ := h
    obtain ⟨hc, rfl, _⟩ := co.calm h1
    have pA : PA X [y, z] (tCons (tE D X [] bs W (evE Z bs b)) (tCons (tE D X [] bs W (evE Z bs c)) tNil)) := pa_cons (hb _ h6) (pa_cons (hcc _ h7) pa_nil (star_pl (mE_pl h7))) (star_pl (mE_pl h6))
    refine PEimp (pe_fg PySem.F.plainAttrs_dict PySem.F.slot_dict_get PySem.F.type_dict_get (tyD_ok (D := D) (bs := bs)) (mt_dget2 (D := D) (bs := bs) co.hu) (ha _ h5) pA (base_ok h4) (few2 (mE_pl h6) (mE_pl h7)) hl (star_pl (mE_pl h6)) (star1 (mE_pl h7))) fun σc H Q ⟨ρ, σ, st, s, q⟩ => ⟨ρ, σ, st, s, ?_⟩
    rw [evE] at q
    refine kG.bind q fun x1 st1 ρ1 H1 v _ po r q1 => ?_
    split at q1
    · rename_i hrv
      refine ⟨recv_dct r.1 po.ob hrv, ρ1, σ, st1, s.step po, kG.bind q1 fun y1 st2 ρ2 H2 u _ po2 r2 q2 => ⟨ρ2, σ, st2, (s.step po).step po2, kG.bind q2 fun z1 st3 ρ3 H3 w _ po3 r3 q3 => ?_⟩⟩
      obtain ⟨a1, a2⟩ := (po2.trans po3).ra po.ob r.1 r.2
      obtain ⟨b1, b2⟩ := po3.ra po2.ob r2.1 r2.2
      exact ⟨u, w, rfl, ρ3, st3, x1, y1, z1, po3.ob, a1, b1, r3.1, r3.2, kE.kO q3 (nx_m2 _ _ _ _ _)⟩
    · exact q1.elim
  · cases h
theorem s_m0 (co : CO D Z X m ex W) {mt : M} {e : Expr} (ha : ∀ e, mE D m a e = true → PE X e (tE D X ex bs W (evE Z bs a))) (h : mE D m (.m0 mt a) e = true) : PE X e (tE D X ex bs W (evE Z bs (.m0 mt a))) := by
  rw [mE] at h
  split at h
  · rename_i x n hv
    obtain ⟨p, pos, rfl, hl⟩ := vMeth_eq hv
    simp only [Bool.and_eq_true, decide_eq_true_eq] at h
    obtain ⟨⟨⟨⟨h1, rfl⟩, rfl⟩, h4⟩, h5⟩ := h
    obtain ⟨hc, rfl, _⟩ := co.calm h1
    refine PEimp (pe_fg0 PySem.F.plainAttrs_list PySem.F.slot_list_pop PySem.F.type_list_pop tyF_ok (mt_pop0 (D := D) (bs := bs)) (ha _ h5) (base_ok h4) hl) fun σc H Q ⟨ρ, σ, st, s, q⟩ => ⟨ρ, σ, st, s, ?_⟩
    rw [evE] at q
    refine kG.bind q fun x1 st1 ρ1 H1 v _ po r q1 => ?_
    split at q1
    · rename_i hrv
      exact ⟨recv_list (m := .pop) (by decide) (by decide) r.1 po.ob hrv, rfl, ρ1, st1, x1, po.ob, r.1, r.2, kE.kO q1 (nx_m0 _ _ _)⟩
    · exact q1.elim
  · cases h
theorem s_isi (co : CO D Z X m ex W) {t : Ty} {e : Expr} (ha : ∀ e, mE D m a e = true → PE X e (tE D X ex bs W (evE Z bs a))) (h : mE D m (.isi a t) e = true) : PE X e (tE D X ex bs W (evE Z bs (.isi a t))) := by
  rw [mE] at h
  split at h
  · rename_i x y z hv
    obtain ⟨p, pos, rfl⟩ := vCall_eq hv
    simp only [Bool.and_eq_true, decide_eq_true_eq] at h
    obtain ⟨⟨⟨⟨⟨rfl, h2⟩, h3⟩, h4⟩, h5⟩, h6⟩ := h
    split at h6
    · rename_i n hn
      obtain ⟨pz, rfl⟩ := vName_eq hn
      rw [hn] at h4
      have hz : PE X (.Name n pz) (tC (.ty t.cn)) := by
        cases t <;> first | (cases h5; done) | (cases h4) <;> first
          | exact pe_bltn (glB_ok co.sc h6) (co.fac.blt _ (by decide)) bt_int rfl
          | exact pe_bltn (glB_ok co.sc h6) (co.fac.blt _ (by decide)) bt_bool rfl
          | exact pe_bltn (glB_ok co.sc h6) (co.fac.blt _ (by decide)) bt_tuple rfl
          | exact pe_bltn (glB_ok co.sc h6) (co.fac.blt _ (by decide)) bt_dict rfl
          | exact pe_bltn (glB_ok co.sc h6) (co.fac.blt _ (by decide)) bt_list rfl
          | exact pe_bltn (glB_ok co.sc h6) (co.fac.blt _ (by decide)) bt_str rfl
      refine PEimp (pe_callB call_isi (glB_ok co.sc h2) (co.fac.blt _ (by decide)) bt_isinstance (pa_cons (ha _ h3) (pa_cons hz pa_nil) (star_pl (mE_pl h3))) (by decide) (by decide) (star_pl (mE_pl h3)) rfl) fun σc H Q ⟨ρ, σ, st, s, q⟩ => ⟨ρ, σ, st, s, ?_⟩
      rw [evE] at q
      refine kG.bind q fun x1 st1 ρ1 H1 v _ po r q1 => ?_
      obtain ⟨c1, hc, q2⟩ := kE.of q1
      obtain ⟨b1, hb, e2⟩ := Option.map_eq_some_iff.mp hc
      subst e2
      have hx : ∃ x2 n2, x1 = .p x2 ∧ tyP x2 = some n2 := by
        unfold isi at hb
        split at hb <;> first | (cases hb; done) | exact ⟨_, _, rfl, rfl⟩
      obtain ⟨x2, n2, rfl, ht⟩ := hx
      obtain ⟨r, _⟩ := r
      cases r with
      | p r => exact ⟨v, .ty t.cn, .type n2, .type t.cn, b1, rfl, .ty _, r.tyx ht, kit_all X.K x2 t b1 n2 Z.ct hb ht, kE.plain q2 po.ob (.bl b1)⟩
    · cases h6
  · cases h
end
end Fc

set_option Elab.async false
set_option linter.all false
set_option maxRecDepth 100000
set_option maxHeartbeats 4000000
/-! FcSnd6: ranges and what is walked. -/
namespace Fc
open PySem PySem.Spec PyProof.Rows L2

/-! ### tuple(range(..)) -/
def tTupRN (te : L2.St → Hp → (Int → Int → Hp → Prop) → Prop) : TE := fun σ H Q => te σ H fun a b H1 => RgOk a b ∧ NewT H1 (rgV a b) Q
theorem pe_tupRN {X : Cx} {e : Expr} {te : L2.St → Hp → (Int → Int → Hp → Prop) → Prop} {p pos : Pos} (hc : X.calm = true) (hg : Gl X "tuple") (hm : X.mg "tuple" = none) (he : PRg X e te) (na : starEach [e] X.env = (false, eval e X.env) :: starEach [] X.env) : PE X (.Call (.Name "tuple" p) [e] [] pos) (tTupRN te) := by
  refine ⟨fun pins s σ H Q I h => ?_⟩
  refine Call_ (ld_blt I hg hm bt_tuple (PyProof.Rows.callWith_type1 (args_cons (thn (he pins s σ H _ I h) fun x s1 ⟨r, a, b, t, u, v, H1, ex, hr, I1, ok, q⟩ => args_nil ?_) na) na))
  subst ex
  obtain ⟨b1, b2, b3, b4, b5⟩ := ok
  refine call_tuple_range (n := (b - a).toNat) (I1.ok.hd hc) hr (small_one b1 b2 b3 b4) (rangeSize_nat a b) b5 fun h' tk acc hk hi => ?_
  have I2 : Inv X pins σ H1 { s1 with heap := h', toks := tk } := I1.kept hk
  have z := newT_ok (vs := rgV a b) (us := acc.toList) I2 (vals_rg hi) (by rw [rgV_length, sizeLine_eq]; omega) q
  rw [Array.toArray_toList] at z
  exact z
theorem rps_rg {K : PySem.W.Frag} {H : Hp} (f : Nat → Int) : ∀ l : List Nat, RPs K H (l.map fun i => V.int (f i)) (l.map fun i => P.int (f i))
  | [] => .nil
  | _ :: r => .cons (.int _) (rps_rg f r)
section
variable {D : Dat} {Z : Cfg} {X : Cx} {m : MC} {ex : Ex} {W : WX} {bs : List Nat} {a b c : C}
theorem s_trng (co : CO D Z X m ex W) {e : Expr} (ha : ∀ e, mE D m a e = true → PE X e (tE D X ex bs W (evE Z bs a))) (hb : ∀ e, mE D m b e = true → PE X e (tE D X ex bs W (evE Z bs b))) (h : mE D m (.trng a b) e = true) : PE X e (tE D X ex bs W (evE Z bs (.trng a b))) := by
  rw [mE] at h
  split at h
  · rename_i x y hv
    obtain ⟨p, pos, rfl⟩ := vCall_eq hv
    simp only [Bool.and_eq_true, decide_eq_true_eq] at h
    obtain ⟨⟨⟨h1, rfl⟩, h3⟩, h4⟩ := h
    obtain ⟨hc, rfl, _⟩ := co.calm h1
    split at h4
    · rename_i x2 y2 xs hv2
      obtain ⟨p2, pos2, rfl⟩ := vCall_eq hv2
      simp only [Bool.and_eq_true, decide_eq_true_eq] at h4
      obtain ⟨⟨rfl, h5⟩, h6⟩ := h4
      have fin : ∀ {x y : A} {st1 : St} {ρ1 : Nat → Addr} {H1 : Hp} {v u : V} {Q : VK} {E : XK}, OR D X.K X.prog X.w bs ρ1 H1 st1 → RA D X.K ρ1 H1 v x → RA D X.K ρ1 H1 u y → kE D X.K X.prog X.w bs (match x, y with
          | .p (.int lo), .p (.int hi) => if -1000000000000 < lo ∧ lo < 1000000000000 ∧ -1000000000000 < hi ∧ hi < 1000000000000 ∧ hi - lo ≤ 1000000 then
              .ok (.p (.tup ((List.range (hi - lo).toNat).map fun i : Nat => .int (lo + (i : Int))))) st1 else .stuck
          | _, _ => .stuck) ρ1 st1 H1 Q E → ∃ i j, v = .int i ∧ u = .int j ∧ RgOk i j ∧ NewT H1 (rgV i j) Q := by
        intro x y st1 ρ1 H1 v u Q E o r r2 q
        split at q
        · rename_i lo hi
          split at q
          · rename_i hz
            cases r with
            | p r => cases r2 with
              | p r2 =>
                cases r
                cases r2
                exact ⟨lo, hi, rfl, rfl, ⟨by omega, by omega, by omega, by omega, by omega⟩, kO.ptup (kE.kO q fun _ _ _ z => by cases z) o (rps_rg (fun i => lo + (i : Int)) _)⟩
          · exact q.elim
        · exact q.elim
      split at h6
      · rename_i z
        simp only [Bool.and_eq_true] at h6
        refine PEimp (pe_tupRN hc (glB_ok co.sc h3) (co.fac.blt _ (by decide)) (prg_1 (glB_ok co.sc h5) (co.fac.blt _ (by decide)) (hb _ h6.2) (star_pl (mE_pl h6.2))) rfl) fun σc H Q ⟨ρ, σ, st, s, q⟩ => ⟨ρ, σ, st, s, ?_⟩
        have ea : a = .k (.int 0) := by
          have := h6.1
          unfold isZero at this
          split at this
          · rfl
          · cases this
        subst ea
        rw [evE] at q
        rw [show evE Z bs (.k (.int 0)) σ st = .ok (.p (.int 0)) st by rw [evE]] at q
        have q : kE D X.K X.prog X.w bs ((evE Z bs b σ st).bind _) ρ st H Q (WE W σc) := q
        refine kG.bind q fun y1 st1 ρ1 H1 v _ po r q1 => ?_
        obtain ⟨i, j, e1, e2, ok, nt⟩ := fin po.ob (.p (.int 0)) r.1 q1
        cases e1
        exact ⟨j, e2, ok, nt⟩
      · rename_i w z
        simp only [Bool.and_eq_true] at h6
        refine PEimp (pe_tupRN hc (glB_ok co.sc h3) (co.fac.blt _ (by decide)) (prg_2 (glB_ok co.sc h5) (co.fac.blt _ (by decide)) (ha _ h6.1) (hb _ h6.2) (star_pl (mE_pl h6.1)) (star_pl (mE_pl h6.2)) (star1 (mE_pl h6.2))) rfl) fun σc H Q ⟨ρ, σ, st, s, q⟩ => ⟨ρ, σ, st, s, ?_⟩
        rw [evE] at q
        refine kG.bind q fun x1 st1 ρ1 H1 v _ po r q1 => ⟨ρ1, σ, st1, s.step po, kG.bind q1 fun y1 st2 ρ2 H2 u _ po2 r2 q2 => ?_⟩
        obtain ⟨r3, b3⟩ := po2.ra po.ob r.1 r.2
        obtain ⟨i, j, e1, e2, ok, nt⟩ := fin po2.ob r3 r2.1 q2
        exact ⟨i, j, e1, e2, ok, nt⟩
      · cases h6
    · cases h4
  · cases h
end

/-! ### what is walked -/
section
variable (D : Dat) (K : PySem.W.Frag) (P : Program) (w : World) (bs : List Nat)
/-- the walk yields these, as long as the objects g stand still -/
def Feeds (ρ0 : Nat → Addr) (st0 : St) (H0 : Hp) (xs : List A) (g : List (Nat × MO)) (J : It) : Prop :=
  ∀ ρ st H, Po D K P w bs ρ0 st0 H0 ρ st H → still g st → J.stop xs.length H ∧ ∀ i a, xs[i]? = some a → J.go i H ∧ ∀ x H', J.yld i H x H' → Po D K P w bs ρ st H ρ st H' ∧ RA D K ρ H' x a ∧ a.bel st.length = true
def kI (o : Out A) (ρ : Nat → Addr) (st : St) (H : Hp) (R : It → Hp → Prop) (E : XK) : Prop := match o with
  | .ok v st' => (match walkOf v st' with
    | some (xs, g) => ∀ ρ' H' J, Po D K P w bs ρ st H ρ' st' H' → Feeds D K P w bs ρ' st' H' xs g J → R J H'
    | none => False)
  | .exc c fs st' => ∀ ρ' H' cls d, Po D K P w bs ρ st H ρ' st' H' → XR D K cls d H' c fs → E cls d H'
  | .stuck => False
end
def tI (D : Dat) (X : Cx) (ex : Ex) (bs : List Nat) (W : WX) (f : Sl → St → Out A) : TI := fun σc H R => ∃ ρ σ st, SR D X.K X.prog X.w ex bs ρ H σc σ st ∧ kI D X.K X.prog X.w bs (f σ st) ρ st H R (WE W σc)
section
variable {D : Dat} {K : PySem.W.Frag} {P : Program} {w : World} {bs : List Nat} {ρ0 : Nat → Addr} {st0 : St} {H0 : Hp}
theorem feeds_seq {a : A} {v : V} {xs : List A} {g : List (Nat × MO)} (o : OR D K P w bs ρ0 H0 st0) (r : RA D K ρ0 H0 v a) (b : a.bel st0.length = true) (e : seqOf a st0 = some (xs, g)) :
    ∃ p, v = .ref p ∧ (((∃ ys, SqL K H0 p ys) ∧ Feeds D K P w bs ρ0 st0 H0 xs g (Itl K p)) ∨ ((∃ ys, SqT K H0 p ys) ∧ Feeds D K P w bs ρ0 st0 H0 xs g (Itt K p))) := by
  have uT : ∀ {p : Addr} {vs ys : List V} {H : Hp}, TA H p vs → SqT K H p ys → True := fun _ _ => trivial
  unfold seqOf at e
  split at e
  · rename_i ps _
    cases e
    cases r with
    | p r => cases r with
      | tup h1 h2 =>
        rename_i p vs
        refine ⟨p, rfl, .inr ⟨⟨vs, h1.sqt⟩, fun ρ st H po _ => ?_⟩⟩
        have t := (po.ext o).ta h1
        have q := RPs.ext (po.ext o) _ _ h2
        refine ⟨⟨vs, t.sqt, by rw [h2.length]; simp⟩, fun i a ha => ?_⟩
        rw [List.getElem?_map] at ha
        obtain ⟨x, hx, rfl⟩ := Option.map_eq_some_iff.mp ha
        obtain ⟨z, hz, rz⟩ := q.get hx
        refine ⟨⟨vs, z, t.sqt, hz⟩, fun x' H' hy => ?_⟩
        obtain ⟨rfl, hy⟩ := hy
        have := hy vs t.sqt
        rw [hz] at this; cases this
        exact ⟨Po.refl po.ob, .p rz, rfl⟩
  · rename_i ps _
    cases e
    cases r with
    | p r => cases r with
      | frz h1 h2 =>
        rename_i p vs
        refine ⟨p, rfl, .inl ⟨⟨vs, h1.sql⟩, fun ρ st H po _ => ?_⟩⟩
        have t := (h1.ext (po.ext o)).sql
        have q := RPs.ext (po.ext o) _ _ h2
        refine ⟨⟨vs, t, by rw [h2.length]; simp⟩, fun i a ha => ?_⟩
        rw [List.getElem?_map] at ha
        obtain ⟨x, hx, rfl⟩ := Option.map_eq_some_iff.mp ha
        obtain ⟨z, hz, rz⟩ := q.get hx
        refine ⟨⟨vs, z, t, hz⟩, fun x' H' hy => ?_⟩
        obtain ⟨rfl, hy⟩ := hy
        have := hy vs t
        rw [hz] at this; cases this
        exact ⟨Po.refl po.ob, .p rz, rfl⟩
  · rename_i as _
    cases e
    cases r with
    | tup h1 h2 =>
      rename_i p vs
      refine ⟨p, rfl, .inr ⟨⟨vs, h1.sqt⟩, fun ρ st H po _ => ?_⟩⟩
      have t := (po.ext o).ta h1
      obtain ⟨q, bq⟩ := po.ras o h2 (by simpa [A.bel] using b)
      refine ⟨⟨vs, t.sqt, by rw [h2.length]; exact Nat.le_refl _⟩, fun i a ha => ?_⟩
      obtain ⟨z, hz, rz⟩ := q.get ha
      refine ⟨⟨vs, z, t.sqt, hz⟩, fun x' H' hy => ?_⟩
      obtain ⟨rfl, hy⟩ := hy
      have := hy vs t.sqt
      rw [hz] at this; cases this
      exact ⟨Po.refl po.ob, rz, bels_get bq ha⟩
  · rename_i j
    split at e
    · rename_i as hj
      cases e
      cases r
      obtain ⟨vs, h1, h2, h3⟩ := o.lst hj
      refine ⟨_, rfl, .inl ⟨⟨vs, SqL.of h1⟩, fun ρ st H po hs => ?_⟩⟩
      have hj' : st[j]? = some (.lst xs) := hs _ List.mem_cons_self
      have ag : ρ j = ρ0 j := po.ag j (List.getElem?_eq_some_iff.mp hj).1
      obtain ⟨us, g1, g2, g3⟩ := po.ob.lst hj'
      rw [ag] at g1
      refine ⟨⟨us, SqL.of g1, by rw [g2.length]; exact Nat.le_refl _⟩, fun i a ha => ?_⟩
      obtain ⟨z, hz, rz⟩ := g2.get ha
      refine ⟨⟨us, z, SqL.of g1, hz⟩, fun x' H' hy => ?_⟩
      obtain ⟨rfl, hy⟩ := hy
      have := hy us (SqL.of g1)
      rw [hz] at this; cases this
      exact ⟨Po.refl po.ob, rz, bels_get g3 ha⟩
    · cases e
  · cases r
  · cases e
end
/-- a list or a tuple, walked -/
def iSeq (K : PySem.W.Frag) (tl : TE) : TI := fun σ H R => tl σ H fun x H1 => ∃ a, x = .ref a ∧ (((∃ xs, SqL K H1 a xs) ∧ R (Itl K a) H1) ∨ ((∃ xs, SqT K H1 a xs) ∧ R (Itt K a) H1))
theorem pi_seq {X : Cx} {tg l : Expr} {tl : TE} (hl : PE X l tl) : PI X tg l (iSeq X.K tl) := by
  refine ⟨fun pins s σ H R I h => ?_⟩
  refine thn (hl.run pins s σ H _ I h) fun v s1 ⟨x, H1, I1, r1, q1⟩ => ?_
  obtain ⟨a, e, q⟩ := q1
  subst e
  cases r1
  rcases q with ⟨⟨xs, hq⟩, q⟩ | ⟨⟨xs, hq⟩, q⟩
  · obtain ⟨its, rv, p, hz⟩ := I1.list hq
    refine wpAny_pyIter_list p.isList ?_
    refine ⟨s1.heap.objs.size, [s1.heap.objs.size], _, _, H1, rfl, I1.kept (t' := s1.toks) fun b o e => Heap.get?_push_of_some _ e, turn_list a _, ⟨_, Heap.get?_push_size _ rfl, rfl, rfl⟩, fun b hb => ?_, q⟩
    have e : b = s1.heap.objs.size := by simpa using hb
    subst e
    exact I1.fpOk (Nat.le_refl _) (I1.hok.fresh (Nat.le_refl _))
  · obtain ⟨its, rv, p, hz⟩ := I1.tuple hq
    refine wpAny_pyIter_tuple (show s1.heap.IsTuple a its.toArray from p) ?_
    refine ⟨s1.heap.objs.size, [s1.heap.objs.size], _, _, H1, rfl, I1.kept (t' := s1.toks) fun b o e => Heap.get?_push_of_some _ e, turn_tuple a _, ⟨_, Heap.get?_push_size _ rfl, rfl, rfl⟩, fun b hb => ?_, q⟩
    have e : b = s1.heap.objs.size := by simpa using hb
    subst e
    exact I1.fpOk (Nat.le_refl _) (I1.hok.fresh (Nat.le_refl _))
theorem isRng_not {it : C} (h : isRng it = false) : ∀ a b c, it ≠ .rng a b c := fun a b c e => by subst e; cases h
/-- what has a value as others have it is walked as a list or a tuple is -/
theorem walk_seq {K : PySem.W.Frag} {D : Dat} {ρ : Nat → Addr} {H : Hp} {v : V} {a : A} (r : RA D K ρ H v a) (st : St) : walkOf a st = seqOf a st := by
  cases r with
  | p r => cases r <;> rfl
  | ref => rfl
  | tup _ _ => rfl
section
variable {D : Dat} {Z : Cfg} {X : Cx} {m : MC} {ex : Ex} {W : WX} {bs : List Nat} {a b c : C}
theorem s_iv {tg e : Expr} {it : C} (h : PE X e (tE D X ex bs W (evE Z bs it))) : PI X tg e (tI D X ex bs W (evE Z bs it)) := by
  refine PIimp (pi_seq h) fun σc H R ⟨ρ, σ, st, s, q⟩ => ⟨ρ, σ, st, s, ?_⟩
  generalize evE Z bs it σ st = o at q
  cases o with
  | ok v st' =>
    intro ρ' H' u po r
    have q : (match walkOf v st' with
      | some (xs, g) => ∀ ρ' H' J, Po D X.K X.prog X.w bs ρ st H ρ' st' H' → Feeds D X.K X.prog X.w bs ρ' st' H' xs g J → R J H'
      | none => False) := q
    rw [walk_seq r.1] at q
    split at q
    · rename_i xs g e
      obtain ⟨p, rfl, hf⟩ := feeds_seq po.ob r.1 r.2 e
      refine ⟨p, rfl, ?_⟩
      rcases hf with ⟨h1, h2⟩ | ⟨h1, h2⟩
      · exact .inl ⟨h1, q ρ' H' _ po h2⟩
      · exact .inr ⟨h1, q ρ' H' _ po h2⟩
    · exact q.elim
  | exc c fs st' => exact q
  | stuck => exact q
theorem feeds_rng {K : PySem.W.Frag} {P : Program} {w : World} {ρ0 : Nat → Addr} {st0 : St} {H0 : Hp} {lo : Int} {n : Nat} : Feeds D K P w bs ρ0 st0 H0 ((List.range n).map fun i : Nat => A.p (.int (lo + (i : Int)))) [] (Itr lo n) := fun ρ st H po _ => by
  refine ⟨by simp [Itr], fun i a ha => ?_⟩
  rw [List.getElem?_map] at ha
  obtain ⟨k, hk, rfl⟩ := Option.map_eq_some_iff.mp ha
  obtain ⟨hi, hk⟩ := List.getElem?_eq_some_iff.mp hk
  simp at hi hk
  subst hk
  refine ⟨hi, fun x H' hy => ?_⟩
  obtain ⟨rfl, rfl⟩ := hy
  exact ⟨Po.refl po.ob, .p (.int _), rfl⟩
theorem walk_rng {lo hi : Int} {st : St} {xs : List A} {g : List (Nat × MO)} (h : walkOf (.rng lo hi 1) st = some (xs, g)) : -1000000000000 < lo ∧ lo < 1000000000000 ∧ -1000000000000 < hi ∧ hi < 1000000000000 ∧ xs = ((List.range (hi - lo).toNat).map fun i : Nat => A.p (.int (lo + (i : Int)))) ∧ g = [] := by
  have h : seqOf (.rng lo hi 1) st = some (xs, g) := h
  unfold seqOf at h
  simp only at h
  split at h
  · rename_i hz
    cases h
    refine ⟨hz.2.2.1, hz.2.2.2.1, hz.2.2.2.2.1, hz.2.2.2.2.2, ?_, rfl⟩
    have e : (hi - lo + 1 - 1) / 1 = hi - lo := by omega
    rw [e]
    simp
  · split at h
    · rename_i hz; exact absurd hz.1 (by decide)
    · cases h
theorem rngA_some {x y v : A} (h : rngA x y (.p (.int 1)) = some v) : ∃ lo hi, x = .p (.int lo) ∧ y = .p (.int hi) ∧ v = .rng lo hi 1 := by
  unfold rngA at h
  split at h
  · rename_i e
    cases e
    cases h
    exact ⟨_, _, rfl, rfl, rfl⟩
  · cases h
theorem s_rng (co : CO D Z X m ex W) {tg e : Expr} {it : C} (hb : ∀ a b c, it = .rng a b c → (∀ e, mE D m a e = true → PE X e (tE D X ex bs W (evE Z bs a))) ∧ (∀ e, mE D m b e = true → PE X e (tE D X ex bs W (evE Z bs b)))) (h : mR D m it e = true) : PI X tg e (tI D X ex bs W (evE Z bs it)) := by
  cases it with
  | rng a b c =>
    obtain ⟨ha, hb⟩ := hb a b c rfl
    rw [mR] at h
    unfold rgArgs at h
    have fin : ∀ {x y : A} {st st1 : St} {ρ ρ1 : Nat → Addr} {H H1 : Hp} {v u : V} {R : It → Hp → Prop} {E : XK} {σ : Sl}, Po D X.K X.prog X.w bs ρ st H ρ1 st1 H1 → RA D X.K ρ1 H1 v x → RA D X.K ρ1 H1 u y → isOne c = true →
        kI D X.K X.prog X.w bs ((evE Z bs c σ st1).bind fun z st => Out.of st (rngA x y z)) ρ st H R E → ∃ i j, v = .int i ∧ u = .int j ∧ (-(2 ^ 62) ≤ i ∧ i < 2 ^ 62 ∧ -(2 ^ 62) ≤ j ∧ j < 2 ^ 62) ∧ R (Itr i (j - i).toNat) H1 := by
      intro x y st st1 ρ ρ1 H H1 v u R E σ po r r2 h1 q
      unfold isOne at h1
      split at h1
      · rw [show evE Z bs (.k (.int 1)) σ st1 = .ok (.p (.int 1)) st1 by rw [evE]] at q
        have q : kI D X.K X.prog X.w bs (Out.of st1 (rngA x y (.p (.int 1)))) ρ st H R E := q
        generalize hr : rngA x y (.p (.int 1)) = o at q
        cases o with
        | none => exact q.elim
        | some rv =>
          obtain ⟨lo, hi, rfl, rfl, rfl⟩ := rngA_some hr
          have q : (match walkOf (.rng lo hi 1) st1 with
            | some (xs, g) => ∀ ρ' H' J, Po D X.K X.prog X.w bs ρ st H ρ' st1 H' → Feeds D X.K X.prog X.w bs ρ' st1 H' xs g J → R J H'
            | none => False) := q
          split at q
          · rename_i xs g e
            obtain ⟨g1, g2, g3, g4, rfl, rfl⟩ := walk_rng e
            cases r with
            | p r => cases r2 with
              | p r2 =>
                cases r
                cases r2
                exact ⟨lo, hi, rfl, rfl, ⟨by omega, by omega, by omega, by omega⟩, q ρ1 H1 _ po feeds_rng⟩
          · exact q.elim
      · cases h1
    cases hv : vCall e with
    | none => rw [hv] at h; cases h
    | some yx =>
      obtain ⟨y, xs⟩ := yx
      rw [hv] at h
      obtain ⟨p, pos, rfl⟩ := vCall_eq hv
      simp only at h
      by_cases hc : (decide (y = "range") && isOne c) = true
      · rw [if_pos hc, ] at h
        simp only [Bool.and_eq_true, decide_eq_true_eq] at hc
        obtain ⟨rfl, hone⟩ := hc
        cases xs with
        | nil => cases h
        | cons z zs =>
          cases zs with
          | nil =>
            simp only [Bool.and_eq_true] at h
            obtain ⟨⟨h1, h2⟩, h3⟩ := h
            refine PIimp (pi_range1 (glB_ok co.sc h1) (co.fac.blt _ (by decide)) (pa_cons (hb _ h3) pa_nil (star_pl (mE_pl h3))) (star_pl (mE_pl h3))) fun σc H R ⟨ρ, σ, st, s, q⟩ => ⟨ρ, σ, st, s, ?_⟩
            have ea : a = .k (.int 0) := by
              unfold isZero at h2
              split at h2
              · rfl
              · cases h2
            subst ea
            rw [evE] at q
            rw [show evE Z bs (.k (.int 0)) σ st = .ok (.p (.int 0)) st by rw [evE]] at q
            have q : kI D X.K X.prog X.w bs ((evE Z bs b σ st).bind _) ρ st H R (WE W σc) := q
            generalize ho : evE Z bs b σ st = o at q
            cases o with
            | ok y1 st1 =>
              intro ρ1 H1 v po r
              obtain ⟨i, j, e1, e2, g, hR⟩ := fin po (.p (.int 0)) r.1 hone q
              cases e1
              refine ⟨j, by rw [e2], g.2.2.1, g.2.2.2, ?_⟩
              simpa using hR
            | exc c fs st' => exact q
            | stuck => exact q
          | cons w ws =>
            cases ws with
            | nil =>
              simp only [Bool.and_eq_true] at h
              obtain ⟨⟨h1, h2⟩, h3⟩ := h
              refine PIimp (pi_range2 (glB_ok co.sc h1) (co.fac.blt _ (by decide)) (pa_cons (ha _ h2) (pa_cons (hb _ h3) pa_nil (star_pl (mE_pl h3))) (star_pl (mE_pl h2))) (by rw [star_pl (mE_pl h2), star_pl (mE_pl h3)]; rfl) (star_pl (mE_pl h3))) fun σc H R ⟨ρ, σ, st, s, q⟩ => ⟨ρ, σ, st, s, ?_⟩
              rw [evE] at q
              generalize ho : evE Z bs a σ st = o at q
              cases o with
              | ok x1 st1 =>
                intro ρ1 H1 v po r
                refine ⟨ρ1, σ, st1, s.step po, ?_⟩
                have q : kI D X.K X.prog X.w bs ((evE Z bs b σ st1).bind _) ρ st H R (WE W σc) := q
                generalize ho2 : evE Z bs b σ st1 = o2 at q
                cases o2 with
                | ok y1 st2 =>
                  intro ρ2 H2 u po2 r2
                  obtain ⟨r3, b3⟩ := po2.ra po.ob r.1 r.2
                  obtain ⟨i, j, e1, e2, g, hR⟩ := fin (po.trans po2) r3 r2.1 hone q
                  exact ⟨i, j, by rw [e1, e2], g, hR⟩
                | exc c fs st' => exact fun ρ' H' cls d po' x => q ρ' H' cls d (po.trans po') x
                | stuck => exact q
              | exc c fs st' => exact q
              | stuck => exact q
            | cons _ _ => cases h
      · rw [if_neg hc] at h
        cases h
  | _ => unfold mR at h; cases h
end
end Fc

set_option Elab.async false
set_option linter.all false
set_option maxRecDepth 100000
set_option maxHeartbeats 4000000
/-! FcSnd7: targets, comprehensions. -/
namespace Fc
open PySem PySem.Spec PyProof.Rows L2

/-! ### targets -/
def gN : List Nat → TGs
  | [] => gNil
  | i :: is => gCons (gName i) (gN is)
def gT (K : PySem.W.Frag) : List Nat → TG
  | [i] => gName i
  | is => gTup K is.length (gN is)
def setL (σc : L2.St) : List Nat → List V → L2.St
  | i :: is, v :: vs => setL (σc.set i (some v)) is vs
  | _, _ => σc
def setS (σ : Sl) : List Nat → List A → Sl
  | i :: is, v :: vs => setS (σ.set i (some v)) is vs
  | _, _ => σ
theorem gN_red {H : Hp} {Q : L2.St → Hp → Prop} : ∀ {is : List Nat} {vs : List V} {σc : L2.St}, vs.length = is.length → Q (setL σc is vs) H → gN is vs σc H Q
  | [], [], _, _, h => ⟨rfl, h⟩
  | i :: is, v :: vs, σc, e, h => ⟨v, vs, rfl, gN_red (by simpa using e) h⟩
  | [], _ :: _, _, e, _ => by simp at e
  | _ :: _, [], _, e, _ => by simp at e
theorem wipe_set {i : Nat} {o : Option V} : ∀ {vs : List Nat} {σ : L2.St}, i ∈ vs → wipe (σ.set i o) vs = wipe σ vs
  | [], _, h => by cases h
  | v :: vs, σ, h => by
    show (wipe (σ.set i o) vs).set v none = (wipe σ vs).set v none
    by_cases e : i ∈ vs
    · rw [wipe_set e]
    · have hv : v = i := by
        rcases List.mem_cons.mp h with h | h
        · exact h.symm
        · exact absurd h e
      subst hv
      have key : ∀ (vs : List Nat) (σ : L2.St), v ∉ vs → wipe (σ.set v o) vs = (wipe σ vs).set v o := by
        intro vs
        induction vs with
        | nil => intro σ _; rfl
        | cons w ws ih =>
          intro σ hn
          have hn : ¬(v = w ∨ v ∈ ws) := by simpa using hn
          show (wipe (σ.set v o) ws).set w none = ((wipe σ ws).set w none).set v o
          rw [ih σ fun z => hn (.inr z)]
          exact List.set_comm _ _ fun z => hn (.inl z)
      rw [key vs σ e, List.set_set]
theorem wipe_setL {own : List Nat} : ∀ {is : List Nat} {vs : List V} {σc : L2.St}, (∀ i ∈ is, i ∈ own) → wipe (setL σc is vs) own = wipe σc own
  | [], _, _, _ => by unfold setL; rfl
  | _ :: _, [], _, _ => rfl
  | i :: is, v :: vs, σc, h => by
    show wipe (setL (σc.set i (some v)) is vs) own = _
    rw [wipe_setL fun j hj => h j (List.mem_cons_of_mem _ hj), wipe_set (h i List.mem_cons_self)]
section
variable {D : Dat} {K : PySem.W.Frag} {P : Program} {w : World} {ex : Ex} {bs : List Nat} {ρ : Nat → Addr} {H : Hp} {σc : L2.St} {σ : Sl} {st : St}
theorem SR.set (s : SR D K P w ex bs ρ H σc σ st) {v : V} {a : A} (i : Nat) (r : RA D K ρ H v a) (b : a.bel st.length = true) : SR D K P w ex bs ρ H (σc.set i (some v)) (σ.set i (some a)) st := by
  refine ⟨fun j x e => ?_, s.ob, by rw [List.length_set, List.length_set, s.len]⟩
  by_cases hj : j = i
  · subst hj
    by_cases hl : j < σ.length
    · rw [List.getElem?_set_self hl] at e
      cases e
      exact ⟨v, List.getElem?_set_self (by rw [← s.len]; exact hl), .inl ⟨r, b⟩⟩
    · rw [List.getElem?_eq_none (by rw [List.length_set]; omega)] at e
      cases e
  · rw [List.getElem?_set_ne (fun z => hj z.symm)] at e
    obtain ⟨u, h1, h2⟩ := s.sl j x e
    exact ⟨u, by rw [List.getElem?_set_ne (fun z => hj z.symm)]; exact h1, h2⟩
theorem SR.setL : ∀ {is : List Nat} {vs : List V} {as : List A} {σc : L2.St} {σ : Sl}, SR D K P w ex bs ρ H σc σ st → RAs D K ρ H vs as → A.bels st.length as = true → SR D K P w ex bs ρ H (Fc.setL σc is vs) (setS σ is as) st
  | [], _, _, _, _, s, _, _ => by unfold Fc.setL setS; exact s
  | i :: is, _, [], _, _, s, r, b => by cases r; exact s
  | i :: is, _, a :: as, _, _, s, r, b => by
    cases r with
    | cons r rs =>
      rw [A.bels, Bool.and_eq_true] at b
      have z := SR.setL (is := is) (SR.set s i r b.1) rs b.2
      exact z
/-- some slots are known no more -/
theorem SR.less {σ' : Sl} (s : SR D K P w ex bs ρ H σc σ st) (hl : σ'.length = σ.length) (h : ∀ (i : Nat) a, σ'[i]? = some (some a) → σ[i]? = some (some a)) : SR D K P w ex bs ρ H σc σ' st := ⟨fun i a e => s.sl i a (h i a e), s.ob, hl.trans s.len⟩
theorem wipeS_len : ∀ (vs : List Nat) (σ : Sl), (wipeS σ vs).length = σ.length
  | [], _ => rfl
  | v :: vs, σ => by show ((wipeS σ vs).set v none).length = _; rw [List.length_set, wipeS_len vs σ]
theorem SR.wipe {vs : List Nat} (s : SR D K P w ex bs ρ H σc σ st) : SR D K P w ex bs ρ H (L2.wipe σc vs) (wipeS σ vs) st := by
  refine ⟨fun j x e => ?_, s.ob, by rw [wipeS_len, wipe_length, s.len]⟩
  have key : ∀ (vs : List Nat), (wipeS σ vs)[j]? = some (some x) → σ[j]? = some (some x) ∧ j ∉ vs := by
    intro vs
    induction vs with
    | nil => intro e; exact ⟨e, by simp⟩
    | cons v vs ih =>
      intro e
      have e : ((wipeS σ vs).set v none)[j]? = some (some x) := e
      by_cases hj : j = v
      · subst hj
        by_cases hl : j < (wipeS σ vs).length
        · rw [List.getElem?_set_self hl] at e; cases e
        · rw [List.getElem?_eq_none (by rw [List.length_set]; omega)] at e; cases e
      · rw [List.getElem?_set_ne (fun z => hj z.symm)] at e
        obtain ⟨h1, h2⟩ := ih e
        exact ⟨h1, by simp [hj, h2]⟩
  obtain ⟨h1, h2⟩ := key vs e
  obtain ⟨v, g1, g2⟩ := s.sl j x h1
  exact ⟨v, by rw [wipe_out h2]; exact g1, g2⟩
theorem foldl_setS : ∀ (is : List Nat) (xs : List A) (σ : Sl), (is.zip xs).foldl (fun σ e => σ.set e.1 (some e.2)) σ = setS σ is xs
  | [], _, _ => by simp [setS]
  | _ :: _, [], _ => by simp [setS]
  | i :: is, x :: xs, σ => by
    rw [List.zip_cons_cons, List.foldl_cons, setS]
    exact foldl_setS is xs _
theorem foldl_setSp : ∀ (is : List Nat) (xs : List Fc.P) (σ : Sl), (is.zip xs).foldl (fun σ e => σ.set e.1 (some (.p e.2))) σ = setS σ is (xs.map .p)
  | [], _, _ => by simp [setS]
  | _ :: _, [], _ => by simp [setS]
  | i :: is, x :: xs, σ => by
    rw [List.zip_cons_cons, List.foldl_cons, List.map_cons, setS]
    exact foldl_setSp is xs _
/-- what a target takes -/
theorem gT_red {ts : List Nat} {v : V} {a : A} {σ' : Sl} (s : SR D K P w ex bs ρ H σc σ st) (r : RA D K ρ H v a) (b : a.bel st.length = true) (e : bindS ts a σ = some σ') :
    ∃ vs, (∀ Q : L2.St → Hp → Prop, Q (Fc.setL σc ts vs) H → gT K ts v σc H Q) ∧ SR D K P w ex bs ρ H (Fc.setL σc ts vs) σ' st := by
  unfold bindS at e
  split at e
  · cases e
    exact ⟨[v], fun Q h => h, SR.set s _ r b⟩
  · rename_i hn
    split at e
    · rename_i hl
      cases e
      cases r with
      | p r => cases r with
        | tup h1 h2 =>
          rename_i vs
          refine ⟨vs, fun Q h => ?_, ?_⟩
          · have g : gTup K ts.length (gN ts) (V.ref _) σc H Q := ⟨_, vs, rfl, h1.sqt, by rw [h2.length, hl], gN_red (by rw [h2.length, hl]) h⟩
            unfold gT
            split
            · exact absurd rfl (hn _)
            · exact g
          · rw [foldl_setSp]
            exact SR.setL s (RAs.of h2) (bels_map _)
    · cases e
  · rename_i hn
    split at e
    · rename_i hl
      cases e
      cases r with
      | tup h1 h2 =>
        rename_i vs
        refine ⟨vs, fun Q h => ?_, ?_⟩
        · have g : gTup K ts.length (gN ts) (V.ref _) σc H Q := ⟨_, vs, rfl, h1.sqt, by rw [h2.length, hl], gN_red (by rw [h2.length, hl]) h⟩
          unfold gT
          split
          · exact absurd rfl (hn _)
          · exact g
        · rw [foldl_setS]
          exact SR.setL s h2 (by simpa [A.bel] using b)
    · cases e
  · cases e
end
section
variable {X : Cx} {N : List Str} {sc : Scope} {fn : Str → Bool}
theorem pgs_names (hN : X.N = N) (hs : X.env.scope = sc) (hnd : N.Nodup) (hf : ∀ x, fn x = true → X.fn x = true) : ∀ {is : List Nat} {es : List Expr}, tgNames N sc fn is es = true → PGs X es (gN is)
  | [], [], _ => pgs_nil
  | [], _ :: _, h => by cases h
  | _ :: _, [], h => by cases h
  | i :: is, e :: es, h => by
    rw [tgNames] at h
    split at h
    · rename_i x hx
      obtain ⟨p, rfl⟩ := vName_eq hx
      simp only [Bool.and_eq_true, decide_eq_true_eq] at h
      obtain ⟨⟨h1, h2⟩, h3⟩ := h
      obtain ⟨l1, l2⟩ := locB_ok h2
      exact pgs_cons (pg_name (by rw [hN]; exact hnd) (by rw [hN]; exact h1) (by rw [hs]; exact l1) (by rw [hs]; rcases l2 with z | z; exact .inl (hf _ z); exact .inr z)) (pgs_names hN hs hnd hf h3)
    · cases h
theorem asg_len {env : Env} : ∀ {is : List Nat} {es : List Expr}, tgNames N sc fn is es = true → (assignEach es env).length = is.length
  | [], [], _ => rfl
  | [], _ :: _, h => by cases h
  | _ :: _, [], h => by cases h
  | i :: is, e :: es, h => by
    rw [tgNames] at h
    split at h
    · rename_i x hx
      obtain ⟨p, rfl⟩ := vName_eq hx
      rw [Bool.and_eq_true] at h
      show (_ :: assignEach es env).length = _
      rw [List.length_cons, asg_len h.2, List.length_cons]
    · cases h
theorem asg_st {env : Env} : ∀ {is : List Nat} {es : List Expr}, tgNames N sc fn is es = true → (assignEach es env).findIdx? (·.1) = none
  | [], [], _ => rfl
  | [], _ :: _, h => by cases h
  | _ :: _, [], h => by cases h
  | i :: is, e :: es, h => by
    rw [tgNames] at h
    split at h
    · rename_i x hx
      obtain ⟨p, rfl⟩ := vName_eq hx
      rw [Bool.and_eq_true] at h
      show ((false, _) :: assignEach es env).findIdx? (·.1) = none
      rw [List.findIdx?_cons]
      simp only [Bool.false_eq_true, if_false]
      rw [asg_st h.2]; rfl
    · cases h
theorem pg_tg (hc : X.calm = true) (hN : X.N = N) (hs : X.env.scope = sc) (hnd : N.Nodup) (hf : ∀ x, fn x = true → X.fn x = true) {ts : List Nat} {e : Expr} (h : tgIs N sc fn ts e = true) : PG X e (gT X.K ts) := by
  unfold tgIs at h
  split at h
  · rename_i es hv
    obtain ⟨k, p, rfl⟩ := vTup_eq hv
    rw [Bool.and_eq_true, decide_eq_true_eq] at h
    have g : PG X (.Tuple es k p) (gTup X.K ts.length (gN ts)) := pg_tup hc (pgs_names hN hs hnd hf h.2) (by rw [asg_len h.2]) (asg_st h.2)
    unfold gT
    split
    · simp at h
    · exact g
  · cases ts with
    | nil => cases h
    | cons i is =>
      rw [tgNames] at h
      split at h
      · rename_i x hx
        obtain ⟨p, rfl⟩ := vName_eq hx
        simp only [Bool.and_eq_true, decide_eq_true_eq] at h
        obtain ⟨⟨h1, h2⟩, h3⟩ := h
        obtain ⟨l1, l2⟩ := locB_ok h2
        cases is with
        | nil => exact pg_name (by rw [hN]; exact hnd) (by rw [hN]; exact h1) (by rw [hs]; exact l1) (by rw [hs]; rcases l2 with z | z; exact .inl (hf _ z); exact .inr z)
        | cons _ _ => cases h3
      · cases h
end
end Fc

set_option Elab.async false
set_option linter.all false
set_option maxRecDepth 100000
set_option maxHeartbeats 4000000
/-! FcSnd8: comprehensions. -/
namespace Fc
open PySem PySem.Spec PyProof.Rows L2

theorem Po.back {D : Dat} {K : PySem.W.Frag} {P : Program} {w : World} {bs : List Nat} {ρ ρ1 : Nat → Addr} {st st1 : St} {H H1 : Hp} (p : Po D K P w bs ρ st H ρ1 st1 H1) {b : Addr} (h : H1 b = none) : H b = none := by
  cases e : H b with
  | none => rfl
  | some o =>
    have : H1 b = some o := p.fr b o e fun i hi z => by
      have hi1 : i < st1.length := Nat.lt_of_lt_of_le hi p.le
      obtain ⟨ho, t1, _⟩ := (p.ob.obj i _ (List.getElem?_eq_getElem hi1)).1.kind
      rw [p.ag i hi, z, h] at t1
      cases t1
    rw [h] at this; cases this
/-- an untracked list that was not there is changed -/
theorem Po.over {D : Dat} {K : PySem.W.Frag} {P : Program} {w : World} {bs : List Nat} {ρ ρ1 : Nat → Addr} {st st1 : St} {H H1 : Hp} (p : Po D K P w bs ρ st H ρ1 st1 H1) {L : Addr} {o : HO} (h0 : H L = none) (hk : H1 L = none ∨ ∃ vs, H1 L = some (.lst vs)) (hu : ∀ j, j < st1.length → ρ1 j ≠ L) :
    Po D K P w bs ρ st H ρ1 st1 (upd H1 L o) ∧ Ext H1 (upd H1 L o) := by
  have ext : Ext H1 (upd H1 L o) := by
    have key : ∀ b u, H1 b = some u → (∀ vs, u ≠ .lst vs) → (upd H1 L o) b = some u := fun b u h hn => by
      by_cases e : b = L
      · subst e
        rcases hk with hk | ⟨vs, hk⟩
        · rw [hk] at h; cases h
        · rw [hk] at h; cases h; exact absurd rfl (hn vs)
      · rw [upd_ne e]; exact h
    exact ⟨fun b xs h => key b _ h fun _ z => (by cases z), fun b o u h => key b _ h fun _ z => (by cases z), fun b fs h => key b _ h fun _ z => (by cases z)⟩
  refine ⟨⟨p.ag, p.le, fun b u h hn => ?_, p.new, ⟨fun j u h => ?_, p.ob.low, p.ob.inj⟩⟩, ext⟩
  · rw [upd_ne (fun e => by subst e; rw [h0] at h; cases h)]
    exact p.fr b u h hn
  · obtain ⟨h1, h2⟩ := p.ob.obj j u h
    exact ⟨h1.mono ext (fun _ _ => rfl) (upd_ne (hu j (List.getElem?_eq_some_iff.mp h).1)) h2, h2⟩
theorem SR.to {D : Dat} {K : PySem.W.Frag} {P : Program} {w : World} {ex : Ex} {bs : List Nat} {ρ : Nat → Addr} {H H1 : Hp} {σc : L2.St} {σ : Sl} {st : St} (s : SR D K P w ex bs ρ H σc σ st) (e : Ext H H1) (o : OR D K P w bs ρ H1 st) : SR D K P w ex bs ρ H1 σc σ st :=
  ⟨fun i a h => by
    obtain ⟨v, h1, h2⟩ := s.sl i a h
    refine ⟨v, h1, ?_⟩
    rcases h2 with ⟨h2, h3⟩ | ⟨c, fs, rfl, hx⟩
    · exact .inl ⟨RA.mono e (fun _ _ => rfl) a v h2 h3, h3⟩
    · exact .inr ⟨c, fs, rfl, hx.ext e⟩, o, s.len⟩
theorem wipe_wipe (own : List Nat) (σ : L2.St) : L2.wipe (L2.wipe σ own) own = L2.wipe σ own := by
  have key : ∀ us : List Nat, (∀ u ∈ us, u ∈ own) → L2.wipe (L2.wipe σ us) own = L2.wipe σ own := by
    intro us
    induction us with
    | nil => intro _; rfl
    | cons u us ih =>
      intro h
      show L2.wipe ((L2.wipe σ us).set u none) own = _
      rw [wipe_set (h u List.mem_cons_self), ih fun v hv => h v (List.mem_cons_of_mem _ hv)]
  exact key own fun _ h => h
noncomputable def cqB (Z : Cfg) (bs : List Nat) (elt : C) (ts : List Nat) (cond : C) (own : List Nat) (σ : Sl) (x : A) (st : St) : Out (Option A) := match bindS ts x (wipeS σ own) with
  | some σ' => (evE Z bs cond σ' st).bind fun b st => (match tru b with
    | some true => (evE Z bs elt σ' st).bind fun y st => .ok (some y) st
    | some false => .ok none st
    | none => .stuck)
  | none => .stuck
theorem evL_cq {Z : Cfg} {bs : List Nat} {elt it cond : C} {ts own : List Nat} {σ : Sl} {st : St} : evL Z bs (.cq elt ts it cond own) σ st = (evE Z bs it σ st).bind fun v st => (match walkOf v st with
    | some (xs, g) => compL g (cqB Z bs elt ts cond own σ) xs [] st
    | none => .stuck) := by rw [evL]; rfl
/-- a turn that does not end in nothing -/
theorem cqB_ok {Z : Cfg} {bs : List Nat} {elt cond : C} {ts own : List Nat} {σ : Sl} {x : A} {st st' : St} {o : Option A} (h : cqB Z bs elt ts cond own σ x st = .ok o st') : ∃ σ' b st1, bindS ts x (wipeS σ own) = some σ' ∧ evE Z bs cond σ' st = .ok (.p (.bl b)) st1 ∧
    ((b = true ∧ ∃ y, o = some y ∧ evE Z bs elt σ' st1 = .ok y st') ∨ (b = false ∧ o = none ∧ st' = st1)) := by
  unfold cqB at h
  split at h
  · rename_i σ' e
    refine ⟨σ', ?_⟩
    cases ec : evE Z bs cond σ' st with
    | ok b st1 =>
      rw [ec] at h
      have h : (match tru b with
        | some true => (evE Z bs elt σ' st1).bind fun y st => .ok (some y) st
        | some false => Out.ok none st1
        | none => .stuck) = .ok o st' := h
      split at h
      · rename_i eb
        cases ee : evE Z bs elt σ' st1 with
        | ok y st2 =>
          rw [ee] at h
          have h : Out.ok (some y) st2 = .ok o st' := h
          cases h
          exact ⟨true, st1, e, by rw [tru_some eb], .inl ⟨rfl, y, rfl, ee⟩⟩
        | exc _ _ _ => rw [ee] at h; cases h
        | stuck => rw [ee] at h; cases h
      · rename_i eb
        cases h
        exact ⟨false, _, e, by rw [tru_some eb], .inr ⟨rfl, rfl, rfl⟩⟩
      · cases h
    | exc _ _ _ => rw [ec] at h; cases h
    | stuck => rw [ec] at h; cases h
  · cases h
section
variable {D : Dat} {Z : Cfg} {X : Cx} {m : MC} {ex : Ex} {W : WX} {bs : List Nat}
abbrev W0 : WX := fun _ _ _ _ => False
theorem CO.blk (co : CO D Z X m [] W) (hc : m.calm = true) (scope : Scope) (s : Shared) (H : Hp) (C : Addr) (cl : List (Str × Addr)) (fp : List Addr) :
    CO D Z (X.blk s H scope (compEnvC scope cl C X.env) fp) ⟨m.N, relS scope m.sc, m.calm, fun x => scope.names.lookup x == some .cell⟩ [] W0 where
  sc := by
    show relabel scope X.env = relS scope m.sc
    rw [← co.sc]; rfl
  N := co.N
  nd := co.nd
  fn := fun x h => h
  calm := fun h => by
    obtain ⟨h1, _, k, h2, h3⟩ := co.calm h
    exact ⟨h1, rfl, k, h2, h3⟩
  pn := fun e he => by cases he
  tk := fun u s' ⟨_, _, _, _, _, _, _, _, _, _, _, _, _, _, _, _, w⟩ => w.elim
  hu := co.hu
  fac := co.fac
  ct := co.ct
/-- the parts of a comprehension's walk -/
def CqP (X : Cx) (e : Expr) (t : TE) : Prop := ∃ (elt tg iter : Expr) (ifs : List Expr) (scope : Scope) (pos : Pos) (own : List (Str × Nat)) (wi : TI) (g : TG) (tt : TT) (te : TE), e = .ListComp elt [⟨tg, iter, ifs, 0⟩] scope pos ∧ X.calm = true ∧ PI X tg iter wi ∧ BlkOk X.N X.env.scope scope own ∧
  (∀ (s : Shared) (H : Hp) (C : Addr) (cl : List (Str × Addr)) (fp : List Addr), PG (X.blk s H scope (compEnvC scope cl C X.env) fp) tg g) ∧
  (∀ (s : Shared) (H : Hp) (C : Addr) (cl : List (Str × Addr)) (fp : List Addr), PTs (X.blk s H scope (compEnvC scope cl C X.env) fp) ifs tt) ∧
  (∀ (s : Shared) (H : Hp) (C : Addr) (cl : List (Str × Addr)) (fp : List Addr), PE (X.blk s H scope (compEnvC scope cl C X.env) fp) elt te) ∧
  (∀ x, foldedSetIterable iter X.env x = pure x) ∧ ∀ σ H Q, t σ H Q → tLc wi g tt te (own.map (·.2)) σ H Q
/-- one turn's end: what was told of the loop goes on -/
theorem compL_step {g : List (Nat × MO)} {f : A → St → Out (Option A)} {x : A} {xs acc : List A} {st : St} {ρ : Nat → Addr} {st0 : St} {H : Hp} {Q : VK} {E : XK} (q : kL D X.K X.prog X.w bs (compL g f (x :: xs) acc st) ρ st0 H Q E) :
    still g st ∧ ∃ o st', f x st = .ok o st' ∧ ((∃ y, o = some y ∧ acc.length < szl ∧ kL D X.K X.prog X.w bs (compL g f xs (acc ++ [y]) st') ρ st0 H Q E) ∨ (o = none ∧ kL D X.K X.prog X.w bs (compL g f xs acc st') ρ st0 H Q E)) := by
  rw [compL] at q
  split at q
  · rename_i hs
    refine ⟨hs, ?_⟩
    split at q
    · rename_i y st' e
      split at q
      · rename_i hz
        exact ⟨_, _, e, .inl ⟨y, rfl, hz, q⟩⟩
      · exact q.elim
    · rename_i st' e
      exact ⟨_, _, e, .inr ⟨rfl, q⟩⟩
    · exact q.elim
  · exact q.elim
theorem s_cqA (co : CO D Z X m ex W) {elt it cond : C} {ts own : List Nat} {e : Expr}
    (hi : ∀ tg e, mI D m it e = true → PI X tg e (tI D X ex bs W (evE Z bs it)))
    (hE : ∀ {X' : Cx} {m' : MC}, CO D Z X' m' [] W0 → ∀ e, mE D m' elt e = true → PE X' e (tE D X' [] bs W0 (evE Z bs elt)))
    (hC : ∀ {X' : Cx} {m' : MC}, CO D Z X' m' [] W0 → tOk cond = true → ∀ e, mE D m' cond e = true → PT X' e (tT D X' [] bs W0 (evE Z bs cond)))
    (h : mQ D m (.cq elt ts it cond own) e = true) : CqP X e (tL D X ex bs W (evL Z bs (.cq elt ts it cond own))) := by
  rw [mQ] at h
  split at h
  · rename_i x tg iter ifs scope hv
    obtain ⟨p, rfl⟩ := vComp_eq hv
    simp only [Bool.and_eq_true] at h
    obtain ⟨⟨⟨⟨⟨⟨⟨h1, h2⟩, h3⟩, h4⟩, h5⟩, h6⟩, h7⟩, h8⟩ := h
    have h5 := of_decide_eq_true h5
    have h3 : mI D m it iter = true := by unfold mI; exact h3
    obtain ⟨hc, rfl, _⟩ := co.calm h1
    have hown : ∀ i ∈ ts, i ∈ own := fun i hi => by
      have := List.all_eq_true.mp h6 i hi
      simpa using this
    have plI : plE iter = true := by
      unfold mI at h3
      split at h3
      · unfold mR at h3
        split at h3
        · unfold rgArgs at h3
          cases hv : vCall iter with
          | none => rw [hv] at h3; cases h3
          | some yx =>
            obtain ⟨p, q, rfl⟩ := vCall_eq (x := yx.1) (es := yx.2) hv
            rfl
        · cases h3
      · exact mE_pl h3
    have pC : ∀ (s : Shared) (H : Hp) (C : Addr) (cl : List (Str × Addr)) (fp : List Addr), PTs (X.blk s H scope (compEnvC scope cl C X.env) fp) ifs (tT D (X.blk s H scope (compEnvC scope cl C X.env) fp) [] bs W0 (evE Z bs cond)) := fun s H C cl fp => by
      have co' := co.blk h1 scope s H C cl fp
      split at h8
      · unfold isYes at h8
        split at h8
        · refine ⟨fun pins s σ H Q I q => (pts_nil (X := X.blk _ _ scope _ fp)).run pins s σ H Q I ?_⟩
          obtain ⟨ρ, σ', st, sr, q⟩ := q
          rw [evE] at q
          obtain ⟨c, e1, e2⟩ := kE.plain q sr.ob (.bl true)
          cases e1
          exact e2
        · cases h8
      · rename_i c
        rw [Bool.and_eq_true] at h8
        exact pts_one (hC co' h8.1 _ h8.2)
      · cases h8
    refine ⟨x, tg, iter, ifs, scope, p, ownOf m.N own, _, gT X.K ts, tT D X [] bs W0 (evE Z bs cond), tE D X [] bs W0 (evE Z bs elt), rfl, hc, hi tg _ h3, by rw [co.N, co.sc]; exact blkOk_by h4,
      (fun s H C cl fp => pg_tg (X := X.blk s H scope (compEnvC scope cl C X.env) fp) hc co.N (co.blk h1 scope s H C cl fp).sc co.nd (fun x z => z) h2),
      (fun s H C cl fp => pC s H C cl fp),
      (fun s H C cl fp => hE (co.blk h1 scope s H C cl fp) _ h7), (pl_fold plI), fun σc H Q ⟨ρ, σ, st, s, q⟩ => ⟨ρ, σ, st, s, ?_⟩⟩
    rw [evL_cq] at q
    generalize evE Z bs it σ st = o at q
    cases o with
    | exc c fs st' => exact q
    | stuck => exact q
    | ok v st1 =>
      have q : kL D X.K X.prog X.w bs (match walkOf v st1 with
        | some (xs, g) => compL g (cqB Z bs elt ts cond own σ) xs [] st1
        | none => .stuck) ρ st H Q (WE W σc) := q
      show (match walkOf v st1 with
        | some (xs, g) => ∀ ρ' H' J, Po D X.K X.prog X.w bs ρ st H ρ' st1 H' → Feeds D X.K X.prog X.w bs ρ' st1 H' xs g J → _
        | none => False)
      split at q
      · rename_i xs g ew
        intro ρ1 H1 J po1 fd L hL
        rw [h5]
        -- the invariant
        refine ⟨fun i mm H' => mm = xs.length - i ∧ i ≤ xs.length ∧ ∃ ρ' st' acc vs, Po D X.K X.prog X.w bs ρ1 st1 H1 ρ' st' H' ∧ H' L = some (.lst vs) ∧ (∀ j, j < st'.length → ρ' j ≠ L) ∧ RAs D X.K ρ' H' vs acc ∧ A.bels st'.length acc = true ∧
          kL D X.K X.prog X.w bs (compL g (cqB Z bs elt ts cond own σ) (xs.drop i) acc st') ρ st H Q (WE W σc), ⟨xs.length, by simp, Nat.zero_le _, ρ1, st1, [], [], (Po.beside po1.ob hL), upd_same, fun j hj z => ?_, .nil, rfl, by simpa using q⟩, ?_⟩
        · obtain ⟨ho, t, _⟩ := (po1.ob.obj j _ (List.getElem?_eq_getElem hj)).1.kind
          rw [z, hL] at t; cases t
        rintro i mm H' ⟨rfl, hle, ρ', st', acc, vs, po, hl, hu, ra, ba, q⟩
        have hL0 : H L = none := po1.back hL
        by_cases hi' : i < xs.length
        · have hx : xs[i]? = some xs[i] := List.getElem?_eq_getElem hi'
          rw [List.drop_eq_getElem_cons hi'] at q
          obtain ⟨hst, o, st'', hf, qn⟩ := compL_step q
          obtain ⟨_, hfd⟩ := fd ρ' st' H' po hst
          obtain ⟨hgo, hy⟩ := hfd i _ hx
          refine .inr ⟨hgo, _, fun H'' hN => ⟨xs.length - (i + 1), by omega, hN⟩, fun x' H'' hyl => ?_⟩
          obtain ⟨po2, rx, bx⟩ := hy x' H'' hyl
          have poA := po1.trans (po.trans po2)
          obtain ⟨σ', b, st2, hb, hcond, hrest⟩ := cqB_ok hf
          have sw : SR D X.K X.prog X.w [] bs ρ' H'' (L2.wipe σc own) (wipeS σ own) st' := (s.step poA).wipe
          obtain ⟨us, gQ, sσ⟩ := gT_red sw rx bx hb
          refine gQ _ ⟨by rw [wipe_setL hown]; exact wipe_wipe own σc, ?_⟩
          refine ⟨ρ', σ', st', sσ, ?_⟩
          rw [hcond]
          intro ρ3 H3 z po3 rz
          obtain ⟨rz, _⟩ := rz
          have ez : z = .bl b := by cases rz with | p rz => cases rz; rfl
          subst ez
          refine ⟨b, rfl, ?_⟩
          -- the list stands
          have hl2 : H'' L = some (.lst vs) := po2.fr L _ hl hu
          have hl3 : H3 L = some (.lst vs) := po3.fr L _ hl2 hu
          have hu3 : ∀ j, j < st2.length → ρ3 j ≠ L := fun j hj z => by
            by_cases hj' : j < st'.length
            · rw [po3.ag j hj'] at z; exact hu j hj' z
            · have := po3.new j (by omega) hj
              rw [z, hl2] at this; cases this
          have po13 : Po D X.K X.prog X.w bs ρ1 st1 H1 ρ3 st2 H3 := (po.trans po2).trans po3
          obtain ⟨ra3, ba3⟩ := (po2.trans po3).ras po.ob ra ba
          rcases hrest with ⟨rfl, y, rfl, hel⟩ | ⟨rfl, rfl, rfl⟩
          · simp only [if_true]
            refine ⟨ρ3, σ', st2, sσ.step po3, ?_⟩
            rw [hel]
            intro ρ4 H4 u po4 ru
            have hl4 : H4 L = some (.lst vs) := po4.fr L _ hl3 hu3
            have hu4 : ∀ j, j < st''.length → ρ4 j ≠ L := fun j hj z => by
              by_cases hj' : j < st2.length
              · rw [po4.ag j hj'] at z; exact hu3 j hj' z
              · have := po4.new j (by omega) hj
                rw [z, hl3] at this; cases this
            obtain ⟨ra4, ba4⟩ := po4.ras po3.ob ra3 ba3
            obtain ⟨po5, ext5⟩ := Po.over (o := .lst (vs ++ [u])) (po13.trans po4) hL (.inr ⟨vs, hl4⟩) hu4
            rcases qn with ⟨y', e1, hz, qn⟩ | ⟨e1, _⟩
            · cases e1
              refine ⟨vs, hl4, by rw [ra4.length]; exact hz, (by first | rfl | trivial), by omega, ρ4, st'', acc ++ [y], vs ++ [u], po5, upd_same, hu4, ?_, ?_, qn⟩
              · exact RAs.mono ext5 (fun _ _ => rfl) (n := st''.length) _ _ (ra4.append (.cons ru.1 .nil)) (bels_all.mpr fun c hc => by
                  rcases List.mem_append.mp hc with z | z
                  · exact bels_all.mp ba4 c z
                  · simp at z; subst z; exact ru.2)
              · exact bels_all.mpr fun c hc => by
                  rcases List.mem_append.mp hc with z | z
                  · exact bels_all.mp ba4 c z
                  · simp at z; subst z; exact ru.2
            · cases e1
          · simp only [Bool.false_eq_true, if_false]
            rcases qn with ⟨y', e1, _⟩ | ⟨_, qn⟩
            · cases e1
            · exact ⟨(by first | rfl | trivial), by omega, ρ3, st'', acc, vs, po13, hl3, hu3, ra3, ba3, qn⟩
        · have ei : i = xs.length := by omega
          subst ei
          rw [List.drop_length, compL] at q
          split at q
          · rename_i hst
            obtain ⟨hstop, _⟩ := fd ρ' st' H' po hst
            exact .inl ⟨hstop, q ρ' H' L vs (po1.trans po) hL0 hl hu ra ba⟩
          · exact q.elim
      · exact q.elim
  · cases h
theorem s_cq (co : CO D Z X m ex W) {elt it cond : C} {ts own : List Nat} {e : Expr}
    (hi : ∀ tg e, mI D m it e = true → PI X tg e (tI D X ex bs W (evE Z bs it)))
    (hE : ∀ {X' : Cx} {m' : MC}, CO D Z X' m' [] W0 → ∀ e, mE D m' elt e = true → PE X' e (tE D X' [] bs W0 (evE Z bs elt)))
    (hC : ∀ {X' : Cx} {m' : MC}, CO D Z X' m' [] W0 → tOk cond = true → ∀ e, mE D m' cond e = true → PT X' e (tT D X' [] bs W0 (evE Z bs cond)))
    (h : mQ D m (.cq elt ts it cond own) e = true) : PE X e (tL D X ex bs W (evL Z bs (.cq elt ts it cond own))) := by
  obtain ⟨x, tg, iter, ifs, scope, p, own', wi, g, tt, te, rfl, hc, hi', ok, hg, ht, he, hs, red⟩ := s_cqA co hi hE hC h
  exact PEimp (pe_lc hc (by rw [co.N]; exact co.nd) hi' ok hg ht he hs) red
end
end Fc

set_option Elab.async false
set_option linter.all false
set_option maxRecDepth 100000
set_option maxHeartbeats 4000000
/-! FcSnd9: dicts laid, lists turned round. -/
namespace Fc
open PySem PySem.Spec PyProof.Rows L2
section
variable {D : Dat} {Z : Cfg} {X : Cx} {m : MC} {ex : Ex} {W : WX} {bs : List Nat} {a b c : C}
theorem RAs.rev {K : PySem.W.Frag} {ρ : Nat → Addr} {H : Hp} : ∀ {ps : List A} {vs : List V}, RAs D K ρ H vs ps → RAs D K ρ H vs.reverse ps.reverse
  | [], _, h => by cases h; exact .nil
  | p :: ps, _, h => by
    cases h with
    | cons h1 h2 =>
      rw [List.reverse_cons, List.reverse_cons]
      exact (RAs.rev h2).append (.cons h1 .nil)
theorem Po.pushE {K : PySem.W.Frag} {P : Program} {w : World} {ρ : Nat → Addr} {st : St} {H : Hp} (o : OR D K P w bs ρ H st) {p : Addr} (hp : H p = none) : Po D K P w bs ρ st H (rho ρ st.length p) (st ++ [.dct .e []]) (upd H p (.dK [])) :=
  Po.push (ho := .dK []) (m := .dct .e []) o hp hk_dct (fun ρ' ag e => ⟨rfl, upd_same⟩) rfl
theorem rho_at (ρ : Nat → Addr) (n : Nat) (p : Addr) : rho ρ n p n = p := by unfold rho; rw [if_pos rfl]
theorem ra_new {K : PySem.W.Frag} {ρ : Nat → Addr} {n : Nat} {p : Addr} {H : Hp} : RA D K (rho ρ n p) H (.ref p) (.ref n) := by
  have z := RA.ref (D := D) (K := K) (ρ := rho ρ n p) (H := H) (j := n)
  rw [rho_at] at z
  exact z
theorem s_dnew (co : CO D Z X m ex W) {e : Expr} (h : mE D m .dnew e = true) : PE X e (tE D X ex bs W (evE Z bs .dnew)) := by
  rw [mE] at h
  split at h
  · rename_i hv
    obtain ⟨p, rfl⟩ := vDict_eq hv
    refine PEimp L2.pe_dnewK fun σc H Q ⟨ρ, σ, st, s, q⟩ p hp => ?_
    rw [evE] at q
    exact q _ _ _ (Po.pushE s.ob hp) ⟨ra_new, by simp [A.bel]⟩
  · cases h
theorem s_srev (co : CO D Z X m ex W) {e : Expr} (ha : ∀ e, mE D m a e = true → PE X e (tE D X ex bs W (evE Z bs a))) (h : mE D m (.srev a) e = true) : PE X e (tE D X ex bs W (evE Z bs (.srev a))) := by
  rw [mE] at h
  split at h
  · rename_i x hv
    obtain ⟨k, p1, p2, p3, pos, rfl⟩ := vRev_eq hv
    refine PEimp (pe_revL (ha _ h)) fun σc H Q ⟨ρ, σ, st, s, q⟩ => ⟨ρ, σ, st, s, ?_⟩
    rw [evE] at q
    refine kG.bind q fun x1 st1 ρ1 H1 v _ po r q1 => ?_
    split at q1
    · split at q1
      · rename_i xs e
        obtain ⟨r, b⟩ := r
        cases r
        obtain ⟨vs, h1, h2, h3⟩ := po.ob.lst e
        refine ⟨_, vs, rfl, SqL.of h1, fun p hp => ?_⟩
        exact (kE.kO q1 (fun _ _ _ z => by cases z)).lst po.ob h2.rev (bels_all.mpr fun c hc => bels_all.mp h3 c (List.mem_reverse.mp hc)) hp
      · exact q1.elim
    · exact q1.elim
  · cases h
/-- {k: v}, k a tuple -/
def tDispT (D : Dat) (X : Cx) (tk tv : TE) : TE := fun σ H Q => ∀ p, H p = none → tk σ (upd H p (.dK [])) fun x H1 => tv σ H1 fun y H2 => H2 p = some (.dK []) ∧ ∃ (b : Addr) (key : Fc.P) (kn : NestedKey), x = .ref b ∧ RP X.K H2 (.ref b) key ∧ key.nk = some kn ∧ kn.depth ≤ 8 ∧ Q (.ref p) (upd H2 p (.ext (DxO X.prog X.w p [(kn, b, y)])))
theorem pe_dispT {k v : Expr} {pos : Pos} {tk tv : TE} (hu : X.A.units + 70 < cLine) (hk : PE X k tk) (hv : PE X v tv) : PE X (.Dict [some k] [v] pos) (tDispT D X tk tv) := by
  refine ⟨fun pins s σ H Q I q => ?_⟩
  have hn := I.hok.fresh (Nat.le_refl s.heap.objs.size)
  have I1 := I.laid (a := s.heap.objs.size) (o := .dK []) (h' := s.heap.push { cls := .type "dict", data := .dict #[] }) (t' := s.toks) (fun _ _ e => Heap.get?_push_of_some _ e) (Nat.le_refl _) (dk_empty s.heap I.big)
  have hroom : (nestedKind X.prog X.w).room X.A := by show X.A.units + 8 < cLine; omega
  rw [arm_eval_Dict, zip_pairTrees [some k] [v] X.env pos rfl rfl, dictDisplay_pairs _ (by intro z; cases z) (by show 1 < _; decide)]
  refine wpAny_bind (wpAny_standAt (wpAny_bind (wpAny_subDictH (knd := nestedKind X.prog X.w) (Q := fun d s' => wpAny (model X.prog X.w) X.A (pure (Value.ref d)) (EP X pins σ Q) X.xe s') hroom (by show 1 ≤ 15; omega) ?_)))
  refine pairTrees_cons_walk (thn (hk.run pins _ σ _ _ I1 (q _ hn)) fun u s1 ⟨x, H1, I2, rx, q1⟩ => thn (hv.run pins s1 σ H1 _ I2 q1) fun w2 s2 ⟨y, H2, I3, ry, e0, b, key, kn, ex, rk, hkn, hd, q2⟩ => pairTrees_nil_walk ?_)
  subst ex
  obtain rfl : u = Value.ref b := rx
  obtain ⟨m, hs⟩ := dx_emp I3 e0
  refine ⟨[(kn, b, w2)], ⟨rfl, rfl, ⟨nk_is I3 _ _ _ _ rk hkn rfl, hd⟩, trivial⟩, m, fun h' t' dd' hs' => wpAny_pure ?_⟩
  have he : ∃ z, h'.get? s.heap.objs.size = some z := let ⟨z, _, _, hz, _⟩ := dd'; ⟨z, hz⟩
  refine ⟨.ref s.heap.objs.size, _, d_write I3 (by rw [e0]; exact True.intro) hs' he (dxo_ok (.cons ⟨rfl, rfl, ry⟩ .nil) dd' hs (by show 1 ≤ sizeLine; rw [sizeLine_eq]; omega)), rfl, q2⟩
theorem s_disp1 (co : CO D Z X m ex W) {e : Expr} (ha : ∀ e, mE D m a e = true → PE X e (tE D X ex bs W (evE Z bs a))) (hb : ∀ e, mE D m b e = true → PE X e (tE D X ex bs W (evE Z bs b))) (h : mE D m (.disp1 a b) e = true) : PE X e (tE D X ex bs W (evE Z bs (.disp1 a b))) := by
  rw [mE] at h
  split at h
  · rename_i x y hv
    obtain ⟨pos, rfl⟩ := vDict_eq hv
    simp only [Bool.and_eq_true] at h
    refine ⟨fun pins s σc H Q I ⟨ρ, σ, st, sr, q⟩ => ?_⟩
    rw [evE] at q
    -- what is told of the key ahead of the run
    by_cases hT : ∃ x0 st1, evE Z bs a σ (st ++ [.dct .e []]) = .ok (.p x0) st1 ∧ dkOf x0 = some .t
    · obtain ⟨x0, st1, e1, e2⟩ := hT
      refine (pe_dispT (D := D) co.hu (ha _ h.1) (hb _ h.2)).run pins s σc H Q I fun p hp => ?_
      have po0 := Po.pushE (D := D) sr.ob hp
      have q := kG.step q po0
      refine ⟨_, σ, _, sr.step po0, kG.bind q fun x1 st1' ρ1 H1 v ex1 po r q1 => ⟨ρ1, σ, st1', (sr.step po0).step po, kG.bind q1 fun y1 st2 ρ2 H2 u _ po2 r2 q2 => ?_⟩⟩
      rw [e1] at ex1
      cases ex1
      have q2 : kG D X.K X.prog X.w bs (RV D X.K) (match st2[st.length]? with
        | some (.dct .e []) => (match dkOf x0 with
          | some k => .ok (.ref st.length) (st2.set st.length (.dct k [(x0, y1)]))
          | none => .stuck)
        | _ => .stuck) ρ2 st2 H2 Q (WE W σc) := q2
      split at q2
      · rename_i e3
        split at q2
        · rename_i kk e4
          rw [e2] at e4
          cases e4
          have pt := po.trans po2
          have hat : ρ2 st.length = p := by rw [pt.ag st.length (by simp), rho_at]
          have ob := (po2.ob.obj _ _ e3).1
          rw [hat] at ob
          obtain ⟨r3, b3⟩ := po2.ra po.ob r.1 r.2
          cases r3 with | p r3 =>
          obtain ⟨xs, rfl⟩ : ∃ xs, x0 = .tup xs := by
            cases x0 <;> simp [dkOf] at e2
            exact ⟨_, rfl⟩
          have hk8 : (Fc.P.tup xs).kd ≤ 8 := by
            rw [dkOf] at e2
            split at e2
            · assumption
            · cases e2
          obtain ⟨kn, hkn, hd⟩ := Fc.P.nk_kd (.tup xs) (by omega)
          cases id r3 with
          | tup t1 t2 =>
            rename_i bb vs
            refine ⟨ob.2, bb, .tup xs, kn, rfl, r3, hkn, by omega, ?_⟩
            have hl : st.length < st2.length := (List.getElem?_eq_some_iff.mp e3).1
            have pf := Po.put (m := .dct .t [(.tup xs, y1)]) (ho := .ext (DxO X.prog X.w p [(kn, bb, u)])) po2.ob hl hk_ext (fun ext => by
              rw [hat]
              exact ⟨_, upd_same, .cons ⟨hkn, by show kn.depth ≤ 8; omega, by have := RP.ext ext _ _ r3; rw [hat] at this; exact this, by have := RA.mono ext (fun _ _ => rfl) _ _ r2.1 r2.2; rw [hat] at this; exact this⟩ .nil⟩) (bel_dct.mpr fun z hz => by rw [List.mem_singleton] at hz; subst hz; exact r2.2) (fun c hc => .inl (by have := (sr.ob.low c hc).1; exact this))
            rw [hat] at pf
            refine q2 ρ2 _ (.ref p) pf ⟨?_, by simp [A.bel, hl]⟩
            have z := RA.ref (D := D) (K := X.K) (ρ := ρ2) (H := upd H2 p (.ext (DxO X.prog X.w p [(kn, bb, u)]))) (j := st.length)
            rw [hat] at z
            exact z
        · exact q2.elim
      · exact q2.elim
    · refine (L2.pe_disp (trs := [(tE D X ex bs W (evE Z bs a), tE D X ex bs W (evE Z bs b))]) (pps_cons (ha _ h.1) (hb _ h.2) pps_nil) rfl rfl (by intro z; cases z) (by show 1 ≤ 15; omega)).run pins s σc H Q I fun p hp => ?_
      have po0 := Po.pushE (D := D) sr.ob hp
      have q := kG.step q po0
      refine ⟨_, σ, _, sr.step po0, kG.bind q fun x1 st1' ρ1 H1 v ex1 po r q1 => ⟨ρ1, σ, st1', (sr.step po0).step po, kG.bind q1 fun y1 st2 ρ2 H2 u _ po2 r2 q2 => ?_⟩⟩
      cases x1 with
      | p x0 =>
        have q2 : kG D X.K X.prog X.w bs (RV D X.K) (match st2[st.length]? with
          | some (.dct .e []) => (match dkOf x0 with
            | some k => .ok (.ref st.length) (st2.set st.length (.dct k [(x0, y1)]))
            | none => .stuck)
          | _ => .stuck) ρ2 st2 H2 Q (WE W σc) := q2
        split at q2
        · rename_i e3
          split at q2
          · rename_i kk e4
            have pt := po.trans po2
            have hat : ρ2 st.length = p := by rw [pt.ag st.length (by simp), rho_at]
            have ob := (po2.ob.obj _ _ e3).1
            rw [hat] at ob
            have hnt : kk ≠ .t := fun z => hT ⟨x0, st1', ex1, by rw [e4, z]⟩
            obtain ⟨r3, b3⟩ := po2.ra po.ob r.1 r.2
            cases r3 with | p r3 =>
            obtain ⟨k1, hk1, hv1⟩ : ∃ k1, x0.k1 = some k1 ∧ v = kV k1 := by
              cases x0 with
              | int i => cases r3; exact ⟨.inl i, rfl, rfl⟩
              | str t => cases r3; exact ⟨.inr t, rfl, rfl⟩
              | tup xs =>
                rw [dkOf] at e4
                split at e4
                · cases e4; exact absurd rfl hnt
                · cases e4
              | _ => cases e4
            refine ⟨ob.2, [(k1, u)], by rw [hv1]; rfl, by show 1 ≤ 15; omega, ?_⟩
            have hl : st.length < st2.length := (List.getElem?_eq_some_iff.mp e3).1
            have pf := Po.put (m := .dct kk [(x0, y1)]) (ho := .dK [(k1, u)]) po2.ob hl hk_dct (fun ext => by
              rw [hat]
              have g : ∃ ws, upd H2 p (.dK [(k1, u)]) p = some (.dK ws) ∧ Paired (RK D X.K ρ2 (upd H2 p (.dK [(k1, u)]))) [(x0, y1)] ws := ⟨_, upd_same, .cons ⟨hk1, by have := RA.mono ext (fun _ _ => rfl) _ _ r2.1 r2.2; rw [hat] at this; exact this⟩ .nil⟩
              cases kk with
              | t => exact absurd rfl hnt
              | e => cases x0 <;> simp [dkOf] at e4
              | i => exact g
              | s => exact g) (bel_dct.mpr fun z hz => by rw [List.mem_singleton] at hz; subst hz; exact r2.2) (fun c hc => .inl (by have := (sr.ob.low c hc).1; exact this))
            rw [hat] at pf
            refine q2 ρ2 _ (.ref p) pf ⟨?_, by simp [A.bel, hl]⟩
            have z := RA.ref (D := D) (K := X.K) (ρ := ρ2) (H := upd H2 p (.dK [(k1, u)])) (j := st.length)
            rw [hat] at z
            exact z
          · exact q2.elim
        · exact q2.elim
      | _ => exact q2.elim
  · cases h
end
end Fc

set_option Elab.async false
set_option linter.all false
set_option maxRecDepth 100000
set_option maxHeartbeats 4000000
/-! FcItm: a dict's entries as they lie; list(d.items()). -/
namespace Fc
open PySem PySem.Spec PyProof.Rows L2
theorem paired_out {α β γ : Type} {F : α → β → Prop} {G : α → γ → Prop} {f : β → γ} (h : ∀ a b, F a b → G a (f b)) : ∀ {l : List α} {m : List β}, Paired F l m → Paired G l (m.map f)
  | _, _, .nil => .nil
  | _, _, .cons r t => .cons (h _ _ r) (paired_out h t)
theorem paired_two {α β γ δ : Type} {F : α → β → Prop} {G : γ → δ → Prop} {f : α → γ} {g : β → δ} (h : ∀ a b, F a b → G (f a) (g b)) : ∀ {l : List α} {m : List β}, Paired F l m → Paired G (l.map f) (m.map g)
  | _, _, .nil => .nil
  | _, _, .cons r t => .cons (h _ _ r) (paired_two h t)
/-- what an entry holds -/
def EnR (u : V × V) (e : DictEntry) : Prop := RelV u.1 e.key ∧ RelV u.2 e.val
def KvR (D : Dat) (K : PySem.W.Frag) (ρ : Nat → Addr) (H : Hp) (p : Fc.P × A) (u : V × V) : Prop := RP K H u.1 p.1 ∧ RA D K ρ H u.2 p.2
theorem mix_entries {P : Program} {w : World} : ∀ {es : List DictEntry} {vs : List (L2.Key × Value)} {xs : List (L2.Key × V)}, Pairs (mixKind P w) es vs → KV xs vs → Paired EnR (xs.map fun x => (kV x.1, x.2)) es := by
  intro es vs xs h
  induction h generalizing xs with
  | nil => intro r; cases r; exact .nil
  | cons h1 h2 _ ih =>
    intro r
    cases r with
    | @cons x _ _ _ g t =>
      refine .cons ⟨?_, ?_⟩ (ih t)
      · show RelV (kV x.1) _
        rw [g.1]
        exact relV_key h1
      · show RelV x.2 _
        rw [h2]
        exact g.2
theorem k1_rp {K : PySem.W.Frag} {H : Hp} {p : Fc.P} {k : L2.Key} (h : p.k1 = some k) : RP K H (kV k) p := by
  cases p <;> simp [Fc.P.k1] at h <;> subst h
  · exact .int _
  · exact .str _
section
variable {D : Dat} {X : Cx} {pins : List (Addr × Obj)} {σ : L2.St} {H : Hp} {s : Shared} {ρ : Nat → Addr} {bs : List Nat} {st : St}
theorem dct_raw (I : Inv X pins σ H s) (o : OR D X.K X.prog X.w bs ρ H st) {j : Nat} {k : DK} {kvs : List (Fc.P × A)} (hj : st[j]? = some (.dct k kvs)) :
    ∃ es ep us, s.heap.DictRaw (ρ j) es ep ∧ (ρ j == sysModules) = false ∧ es.size = kvs.length ∧ es.size ≤ sizeLine ∧ Paired (KvR D X.K ρ H) kvs us ∧ Paired EnR us es.toList := by
  have ro := (o.obj j _ hj).1
  have gk : ∀ xs, H (ρ j) = some (.dK xs) → Paired (RK D X.K ρ H) kvs xs → ∃ es ep us, s.heap.DictRaw (ρ j) es ep ∧ (ρ j == sysModules) = false ∧ es.size = kvs.length ∧ es.size ≤ sizeLine ∧ Paired (KvR D X.K ρ H) kvs us ∧ Paired EnR us es.toList := fun xs e r => by
    obtain ⟨z, hd, vs, rel, ob, es, ep, h1, h2, h3, h4, h5, h6⟩ := dk_of I.hok e
    have m := mix_entries h5 rel
    have l1 := Paired.length r
    have l2 := Paired.length m
    have l3 := Paired.length rel
    have l4 : es.toList.length = es.size := Array.length_toList
    rw [List.length_map] at l2
    refine ⟨es, ep, _, ⟨ob, h1, h2, h3⟩, hd, by omega, by omega, paired_out (fun a b c => ⟨k1_rp c.1, c.2⟩) r, m⟩
  cases k with
  | e =>
    obtain ⟨rfl, e⟩ := ro
    exact gk [] e .nil
  | t =>
    obtain ⟨xs, e, r⟩ := ro
    obtain ⟨⟨ys, ob, es, ep, q1, q2, q3, q4, q5, q6, q7, q8⟩, _, _⟩ := I.hok _ _ e
    have l1 := Paired.length r
    have l2 := Paired.length q1
    have l3 : es.size = ys.length := by rw [← Array.length_toList, q5, List.length_map]
    refine ⟨es, ep, xs.map fun x => (.ref x.2.1, x.2.2), ⟨ob, q2, q3, q4⟩, q7, by omega, by omega, paired_out (fun a b c => ⟨c.2.2.1, c.2.2.2⟩) r, ?_⟩
    rw [q5]
    exact paired_two (fun a b c => ⟨by rw [c.2.1]; rfl, c.2.2⟩) q1
  | i => obtain ⟨xs, e, r⟩ := ro; exact gk xs e r
  | s => obtain ⟨xs, e, r⟩ := ro; exact gk xs e r
/-! ### many objects laid at once -/
theorem laid_many {H1 : Hp} {h' : Heap} {tk : Nat} (I : Inv X pins σ H s) (hk : ∀ b o, s.heap.get? b = some o → h'.get? b = some o) (off : ∀ b, b < s.heap.objs.size → H1 b = H b)
    (new : ∀ b u, s.heap.objs.size ≤ b → H1 b = some u → ObjOk X.prog X.w H1 h' b u) : Inv X pins σ H1 { s with heap := h', toks := tk } := by
  have kp : ∀ b u, H b = some u → H1 b = some u := fun b u e => by rw [off b (I.hok b u e).lt]; exact e
  refine I.call' (s' := { s with heap := h', toks := tk }) (ch := []) rfl ⟨fun b o q _ _ _ => hk b o q, fun b o q _ _ _ => ⟨o.slots, by rw [hk b o q]⟩, fun b o q n _ => ?_, fun b o q _ => ⟨o, hk b o q⟩, fun b xs q => kp b _ q, fun b o u q => kp b _ q, fun b ps q => ⟨#[], by rw [kp b _ q]; simp⟩⟩
    (fun b u q => ?_) I.bare (fun b z => by cases z)
  · rw [off b (Heap.lt_size q)]
    exact n
  · by_cases hb : b < s.heap.objs.size
    · rw [off b hb] at q
      exact (I.hok b u q).stay (fun d v _ y => hk d v y) (fun d y => kp d _ y) (fun d xs y => kp d _ y)
    · exact new b u (Nat.le_of_not_lt hb) q
def itO (e : DictEntry) : Obj := { cls := .type "tuple", data := .seq #[e.key, e.val] }
def putF : Hp → List Addr → List (V × V) → List DictEntry → Hp
  | H, a :: as, u :: us, e :: es => putF (upd H a (.frz (itO e) (.tup [u.1, u.2]))) as us es
  | H, _, _, _ => H
theorem putF_off {b : Addr} : ∀ (as : List Addr) (us : List (V × V)) (es : List DictEntry) (H : Hp), b ∉ as → putF H as us es b = H b
  | a :: as, u :: us, e :: es, H, h => by
    rw [putF, putF_off as us es _ fun z => h (.tail _ z), upd_ne fun z => h (by rw [z]; exact .head _)]
  | [], _, _, _, _ => by rw [putF]; simp
  | _ :: _, [], _, _, _ => by rw [putF]; simp
  | _ :: _, _ :: _, [], _, _ => by rw [putF]; simp
theorem putF_in {b : Addr} : ∀ (as : List Addr) (us : List (V × V)) (es : List DictEntry) (H : Hp), as.length = es.length → us.length = es.length → as.Nodup → b ∈ as →
    ∃ (j : Nat) (u : V × V) (e : DictEntry), as[j]? = some b ∧ us[j]? = some u ∧ es[j]? = some e ∧ putF H as us es b = some (.frz (itO e) (.tup [u.1, u.2]))
  | [], _, _, _, _, _, _, h => by cases h
  | a :: as, [], es, _, h1, h2, _, _ => by simp at h1 h2; omega
  | a :: as, _ :: _, [], _, h1, _, _, _ => by simp at h1
  | a :: as, u :: us, e :: es, H, h1, h2, n, h => by
    have n' := List.nodup_cons.mp n
    rw [putF]
    rcases List.mem_cons.mp h with rfl | h
    · refine ⟨0, u, e, rfl, rfl, rfl, ?_⟩
      rw [putF_off as us es _ n'.1, upd_same]
    · obtain ⟨j, u', e', g1, g2, g3, g4⟩ := putF_in as us es (upd H a (.frz (itO e) (.tup [u.1, u.2]))) (by simpa using h1) (by simpa using h2) n'.2 h
      exact ⟨j + 1, u', e', g1, g2, g3, g4⟩
/-- an item as a tuple -/
def itA (p : Fc.P × A) : A := A.mk [.p p.1, p.2]
theorem kvR_mono {K : PySem.W.Frag} {P : Program} {w : World} {ρ1 : Nat → Addr} {st1 : St} {H1 : Hp} (o : OR D K P w bs ρ H st) (po : Po D K P w bs ρ st H ρ1 st1 H1) : ∀ {kvs : List (Fc.P × A)} {us : List (V × V)}, (∀ p ∈ kvs, p.2.bel st.length = true) → Paired (KvR D K ρ H) kvs us → Paired (KvR D K ρ1 H1) kvs us :=
  fun b r => paired_all (C := fun p => p.2.bel st.length = true) (fun p u c z => ⟨RP.ext (po.ext o) _ _ z.1, (po.ra o z.2 c).1⟩) b r
theorem items_po {K : PySem.W.Frag} {P : Program} {w : World} : ∀ (kvs : List (Fc.P × A)) (us : List (V × V)) (es : List DictEntry) (as : List Addr) (H : Hp), OR D K P w bs ρ H st → Paired (KvR D K ρ H) kvs us → us.length = es.length → as.length = es.length → as.Nodup → (∀ a ∈ as, H a = none) → (∀ p ∈ kvs, p.2.bel st.length = true) →
    Po D K P w bs ρ st H ρ st (putF H as us es) ∧ RAs D K ρ (putF H as us es) (as.map V.ref) (kvs.map itA)
  | [], us, es, as, H, o, r, h1, h2, _, _, _ => by
    cases r
    cases es with
    | cons _ _ => simp at h1
    | nil =>
      cases as with
      | cons _ _ => simp at h2
      | nil => exact ⟨Po.refl o, .nil⟩
  | p :: kvs, us, es, as, H, o, r, h1, h2, nd, fr, bl => by
    cases r with
    | @cons _ u _ us r t =>
      cases es with
      | nil => simp at h1
      | cons e es =>
        cases as with
        | nil => simp at h2
        | cons a as =>
          have nd' := List.nodup_cons.mp nd
          have po := Po.beside (ho := .frz (itO e) (.tup [u.1, u.2])) o (fr a (.head _))
          have bp := bl p (.head _)
          have r1 : RA D K ρ (upd H a (.frz (itO e) (.tup [u.1, u.2]))) (.ref a) (itA p) := RA.mk (TA.new rfl) (.cons (.p (RP.ext (po.ext o) _ _ r.1)) (.cons (po.ra o r.2 bp).1 .nil))
          obtain ⟨po2, r2⟩ := items_po kvs us es as _ po.ob (kvR_mono o po (fun q hq => bl q (.tail _ hq)) t) (by simpa using h1) (by simpa using h2) nd'.2
            (fun b hb => by rw [upd_ne fun z => nd'.1 (by rw [← z]; exact hb)]; exact fr b (.tail _ hb)) (fun q hq => bl q (.tail _ hq))
          rw [putF]
          exact ⟨po.trans po2, .cons (po2.ra po.ob r1 (bel_mk (by simp [A.bels, A.bel, bp]))).1 r2⟩
end
section
variable {D : Dat} {Z : Cfg} {X : Cx} {m : MC} {ex : Ex} {W : WX} {bs : List Nat} {a b c : C}
/-- what list(d.items()) asks -/
def tLsI (D : Dat) (X : Cx) (bs : List Nat) (te : TE) : TE := fun σ H Q => te σ H fun x H1 => ∃ ρ st j k kvs, OR D X.K X.prog X.w bs ρ H1 st ∧ x = .ref (ρ j) ∧ st[j]? = some (.dct k kvs) ∧
  kO D X.K X.prog X.w bs (.ok (.ref st.length) (st ++ [.lst (kvs.map itA)])) ρ st H1 Q
theorem pe_lsti {e : Expr} {te : TE} {p apos cpos pos : Pos} (hc : X.calm = true) (he : PE X e te) (g1 : Gl X "list") (g2 : X.mg "list" = none) (gb : attributeBase e "items" X.env (eval e X.env) = eval e X.env) (gl : (apos.endLine == cpos.line) = true) :
    PE X (.Call (.Name "list" p) [.Call (.Attribute e "items" apos) [] [] cpos] [] pos) (tLsI D X bs te) := by
  have gs : starEach [.Call (.Attribute e "items" apos) [] [] cpos] X.env = (false, eval (.Call (.Attribute e "items" apos) [] [] cpos) X.env) :: starEach [] X.env := star_pl rfl
  refine ⟨fun pins s σ H Q I q => ?_⟩
  refine wpAny_Call_Name_kw (ld_blt I g1 g2 bt_list ?_)
  refine PyProof.Rows.callWith_type1 ?_ gs rfl
  rw [gs]
  refine Calls.spliced_cons ?_
  refine wpAny_Call_method (T := "dict") (id := "dict.items") gb rfl gl F.plainAttrs_dict F.slot_dict_items F.type_dict_items ?_
  refine thn (he.run pins s σ H _ I q) fun u s1 ⟨x, H1, I1, rx, ρ, st, j, k, kvs, o, ex, hj, q⟩ => ?_
  subst ex
  obtain rfl : u = Value.ref (ρ j) := rx
  obtain ⟨es, ep, us, hr, hs0, hz, hz2, hkv, hen⟩ := dct_raw I1 o hj
  have bb := bel_dct.mp (o.obj j _ hj).2
  have I2 : Inv X pins σ H1 { s1 with heap := s1.heap.push { cls := .type "dict_items", data := .fields #[.ref (ρ j)] } } := I1.kept (t' := s1.toks) fun b ob q => Heap.get?_push_of_some _ q
  refine ⟨hr.typeIs, fun b e => ?_, ?_⟩
  · cases e
    obtain ⟨ob, h1, h2, _⟩ := hr
    exact ⟨ob, h1, h2.2.1⟩
  refine method_meetsIn F.slot_dict_items F.entry_dict_items rfl (PySem.evalArgs_none ⟨rfl, hr.typeIs, F.args_dict_items_1 _, _, meets_dict_items_raw (ρ j) hs0, ⟨es, ep, hr⟩, ?_⟩)
  refine Calls.spliced_nil ?_
  refine PySem.W.dil_call (es := es) (ep := ep) (I1.ok.hd hc) ⟨_, Heap.get?_push_size _ rfl, rfl, rfl⟩ (hr.at fun o q => Heap.get?_push_of_some _ q) hz2 fun h' tk acc c as hk hS hl hG hacc => ?_
  have nd : as.Nodup := List.Pairwise.imp (fun {a b} (h : a < b) => Nat.ne_of_lt h) hG.rise
  have l1 := Paired.length hkv
  have l2 := Paired.length hen
  rw [Array.length_toList] at l2
  have fr : ∀ t ∈ as, H1 t = none := fun t ht => I2.hok.fresh (Nat.le_of_lt (hG.above t ht))
  obtain ⟨po, ra⟩ := items_po kvs us es.toList as H1 o hkv (by rw [Array.length_toList]; exact l2) (by rw [hl, Array.length_toList]) nd fr bb
  generalize hp : ({ s1 with heap := s1.heap.push { cls := .type "dict_items", data := .fields #[.ref (ρ j)] } } : Shared).heap.objs.size = p0 at *
  have hpn : p0 ∉ as := fun z => Nat.lt_irrefl _ (hG.above _ z)
  have pn : putF H1 as us es.toList p0 = none := by
    rw [putF_off _ _ _ _ hpn]
    exact I2.hok.fresh (by rw [hp]; exact Nat.le_refl _)
  have bls : A.bels st.length (kvs.map itA) = true := bels_all.mpr fun x hx => by
    obtain ⟨q, hq, rfl⟩ := List.mem_map.mp hx
    exact bel_mk (by simp [A.bels, A.bel, bb q hq])
  refine ⟨.ref p0, upd (putF H1 as us es.toList) p0 (.lst (as.map V.ref)), ?_, rfl, ?_⟩
  · refine laid_many I2 hk (fun b hb => ?_) fun b u hb hu => ?_
    · rw [hp] at hb
      rw [upd_ne (Nat.ne_of_lt hb), putF_off _ _ _ _ fun z => absurd (hG.above b z) (Nat.lt_asymm hb)]
    · by_cases e : b = p0
      · subst e
        rw [upd_same] at hu
        cases hu
        refine ⟨by rw [List.length_map, hl]; exact hz2, acc.toList, c, by rw [hacc]; exact LiI.vals_refs as, ?_⟩
        rw [Array.toArray_toList]
        exact hS
      · rw [upd_ne e] at hu
        by_cases hm : b ∈ as
        · obtain ⟨i, w, en, f1, f2, f3, f4⟩ := putF_in as us es.toList H1 (by rw [hl, Array.length_toList]) (by rw [Array.length_toList]; exact l2) nd hm
          rw [f4] at hu
          cases hu
          obtain ⟨hi, f5⟩ := hG.pairs i b f1
          have f6 : es[i] = en := by
            rw [Array.getElem?_toList, Array.getElem?_eq_getElem hi] at f3
            exact Option.some.inj f3
          rw [f6] at f5
          obtain ⟨y, g1, g2⟩ := LiI.paired_get hen f2
          rw [f3] at g1
          cases g1
          exact ⟨f5, by show 2 ≤ sizeLine; decide, [en.key, en.val], .cons g2.1 (.cons g2.2 .nil), ⟨_, f5, rfl, _, rfl⟩⟩
        · rw [putF_off _ _ _ _ hm, I2.hok.fresh hb] at hu
          cases hu
  · exact (kO.lst (fun ρ' H' v po' => q ρ' H' v (po.trans po')) po.ob ra bls pn)
theorem s_lsti (co : CO D Z X m ex W) {e : Expr} (ha : ∀ e, mE D m a e = true → PE X e (tE D X ex bs W (evE Z bs a))) (h : mE D m (.lsti a) e = true) : PE X e (tE D X ex bs W (evE Z bs (.lsti a))) := by
  rw [mE] at h
  split at h
  · rename_i x y hv
    obtain ⟨p, pos, rfl⟩ := vCall_eq hv
    split at h
    · rename_i z n hw
      obtain ⟨p1, pos1, rfl, hl⟩ := vMeth_eq hw
      simp only [Bool.and_eq_true, decide_eq_true_eq] at h
      obtain ⟨⟨⟨⟨⟨h1, rfl⟩, rfl⟩, h4⟩, h5⟩, h6⟩ := h
      obtain ⟨hc, rfl, _⟩ := co.calm h1
      refine PEimp (pe_lsti (D := D) (bs := bs) hc (ha _ h6) (glB_ok co.sc h4) (co.fac.blt _ (b1_in .list)) (base_ok h5) hl) fun σc H Q ⟨ρ, σ, st, s, q⟩ => ⟨ρ, σ, st, s, ?_⟩
      rw [evE] at q
      refine kG.bind q fun x1 st1 ρ1 H1 v _ po r q1 => ?_
      split at q1
      · split at q1
        · rename_i k kvs e
          obtain ⟨r, b⟩ := r
          cases r
          exact ⟨ρ1, st1, _, k, kvs, po.ob, rfl, e, kE.kO q1 (fun _ _ _ z => by cases z)⟩
        · exact q1.elim
      · exact q1.elim
    · cases h
  · cases h
end
end Fc

set_option Elab.async false
set_option linter.all false
set_option maxRecDepth 100000
set_option maxHeartbeats 4000000
/-! FcXi: isinstance of a caught error with a dict of its own; its fields. -/
namespace Fc
open PySem PySem.Spec PySem.W PyProof.Rows
section
variable {prog : Program} {w : World} {A : Around} {E : Value → Shared → Prop} {s : Shared} {K : Frag} {x D : Addr} {ox : Obj} {od : Option Obj}
theorem findObj_dataD {C : Addr} {name : Str} {a g : Value} (hc : (clsIn K C).isSome = true) (ha : findIn K (.ref C) name = some (some a)) (hg : specialIn K a "__get__" = some (some g)) (ht : takesIn K a = some true) : findObj K C od name = some (.bind g a) := by
  obtain ⟨cd, hc⟩ := Option.isSome_iff_exists.mp hc
  unfold findObj
  rw [hc, Option.bind_some, ha, Option.bind_some]
  simp [hg, ht]
theorem kin_classD {Q : Option Value → Shared → Prop} (F : L2.ExcC K D) (X : K.In s.heap) (I : InstAt s.heap x ox D od) (h : Q (some (.ref D)) { s with toks := s.toks + 1 }) : wpAny (model prog w) A (getAttr? (.ref x) "__class__") Q E s := by
  have hf : findObj K D od "__class__" = some (.bind (.builtin "getset_descriptor.__get__") (.builtin "object.__class__")) := findObj_dataD (by obtain ⟨cd, hc, _⟩ := any_some F.hd; rw [hc]; rfl) F.ha F.hn F.ht
  obtain ⟨hp, g, d, t, os⟩ := s
  have ty := I.type (M := model prog w)
  have ga := looks_findIn (M := model prog w) X F.hg
  have gt := looks_findIn (M := model prog w) X F.hk
  have fd := looks_find (M := model prog w) X I hf
  have sub : Looks (model prog w) hp (isInstance (.ref x) (.type "BaseException")) true := ty.andThen (looks_subIn X F.hs)
  have n0 : (false && onTheHeap (Value.builtin "BaseException.__getattribute__")) = false := rfl
  have n1 : (onTheHeap (Value.ref D) && Value.builtin "BaseException.__getattribute__" == Value.builtin "object.__getattribute__") = false := by
    rw [show (Value.builtin "BaseException.__getattribute__" == Value.builtin "object.__getattribute__") = false by decide +kernel]; rfl
  unfold getAttr? getAttrBy? getAttrBy
  refine wpAny_bind (wpAny_mkText (wpAny_bind (wpAny_attempt (wpAny_holding (wpAny_bind (ty.at (wpAny_bind (ga.at ?_))))))))
  show wpAny _ _ (if (onTheHeap (Value.ref D) && Value.builtin "BaseException.__getattribute__" == Value.builtin "object.__getattribute__") = true then _ else _) _ _ _
  rw [n1, if_neg Bool.false_ne_true]
  unfold getAttrByItsOwn hookBefore
  refine wpAny_bind ?_
  rw [if_pos (show onTheHeap (Value.ref D) = true from rfl)]
  refine gt.at ?_
  refine wpAny_bind (wpAny_attempt (wpAny_holding ?_))
  unfold callGetattribute
  rw [n0, if_neg Bool.false_ne_true]
  unfold boundAndCalled
  rw [PySem.F.excAttr_ValueError.ga.bind (.ref x)]
  refine wpAny_bind (wpAny_pure ?_)
  show wpAny _ _ (call (.builtin "BaseException.__getattribute__") [.ref x, .str "__class__" t]) _ _ _
  refine wpAny_call (codeAny_call_builtin PySem.F.excAttr_ValueError.ga.plain PySem.F.entry_bexc_ga ?_)
  refine @check_slot (model prog w) _ _ ⟨hp, g, d, t + 1, os⟩ "BaseException.__getattribute__" "BaseException" "__getattribute__" (.ref x) [.str "__class__" t] [] _ (by decide +kernel) (by decide +kernel) sub (PySem.F.args_bexc_ga (.ref x) (.str "__class__" t)) ?_
  unfold Builtin.«object.__getattribute__»
  refine wpAny_bind (wpAny_of_eq (a := ((Value.ref x : Value), [Value.str "__class__" t])) (by first | rfl | (simp only [slotArgs]; rfl)) ?_)
  refine wpAny_bind (wpAny_pure (wpAny_bind (ty.at (wpAny_bind (fd.at ?_)))))
  show wpAny _ _ (holding [Value.builtin "object.__class__"] (call (.builtin "getset_descriptor.__get__") [.builtin "object.__class__", .ref x, .ref D]) >>= ret) _ _ _
  refine wpAny_bind (wpAny_holding (wpAny_call (class_get (s := ⟨hp, g, d, t + 1, os⟩) (ox := ox) (od := od) X I F.hm ?_)))
  refine wpAny_pure ?_
  show wpAny _ _ (handedOut (.ref D)) _ _ _
  rw [handedOut_of (v := .ref D) rfl]
  first
    | exact wpAny_pure (wpAny_pure h)
    | exact wpAny_pure h
    | exact wpAny_pure (wpAny_bind (wpAny_pure (wpAny_pure h)))
theorem kitx_excD (F : L2.ExcC K D) : KitX K (.ref x) (.ref D) (fun h => InstAt h x ox D od) where
  ty := fun _ _ _ I => I.type
  it := fun M h X _ => by
    obtain ⟨cdD, hcD, _⟩ := any_some F.hd
    unfold clsIn at hcD
    split at hcD
    · rename_i c1 d1 cd1 sl1 ho
      intro A1 Q1 E1 s1 k q
      unfold isType loadHead
      exact wpAny_bind (wpAny_loadPart (k _ _ (X _ _ ho)) (wpAny_pure q))
    · cases hcD
  ne := fun h tp dd its n sl X htp => by
    obtain ⟨cdD, hcD, _⟩ := any_some F.hd
    refine Bool.eq_false_iff.mpr fun q => ?_
    have e : D = tp := Value.ref.inj (beq_iff_eq.mp q)
    subst e
    unfold clsIn at hcD
    split at hcD
    · rename_i c' d' cd' sl' ho
      have z := (X _ _ ho).symm.trans htp
      cases z
    · cases hcD
  ca := fun X I k => kin_classD F X I k
end
end Fc
namespace Fc
open PySem PySem.Spec PyProof.Rows L2
section
variable {D : Dat} {Z : Cfg} {X : Cx} {m : MC} {ex : Ex} {W : WX} {bs : List Nat}
/-- the object of an error that a slot holds -/
theorem ExAt.inst {pins : List (Addr × Obj)} {σc : L2.St} {H : Hp} {s : Shared} {i : Nat} {v : V} {c : Nat} {fs : List Fc.P} (hp : ∀ e ∈ ex, e.2 ∈ X.pn) (I : L2.Inv X pins σc H s) (h : ExAt D X.K ex i H v c fs) :
    ∃ a oe cd fl od, v = .ref a ∧ D.ct[c]? = some cd ∧ FlAt X.K H fl cd.flds fs ∧ PySem.W.InstAt s.heap a oe (D.ca X.K c) (some od) ∧ (∃ mA : Str → Option Value, (∀ name, PySem.W.lookIn name od = some (mA name)) ∧ ∀ f, RelO (fl.lookup f) (mA f)) := by
  obtain ⟨a, oe, cls, d, rfl, hm, hz, ⟨vs, hd⟩, cd, dd, fl, h1, rfl, rfl, h2, h3⟩ := h
  obtain ⟨ha, _⟩ := I.pin (a, oe) (List.mem_append_left _ (hp _ hm))
  obtain ⟨mA, hns, hr⟩ := (show ObjOk X.prog X.w H s.heap dd (.xd fl) from I.hok dd _ h2)
  obtain ⟨od, ho, hl⟩ := lookIn_ns hns
  exact ⟨a, oe, cd, fl, od, rfl, h1, h3, ⟨ha, hz.1, by unfold PySem.W.notCls; rw [hd] <;> rfl, by rw [hz.2]; exact ho⟩, mA, hl, hr⟩
/-- the slot is read -/
theorem pe_slot (co : CO D Z X m ex W) {i : Nat} {x : Str} {p : Pos} (h1 : m.N[i]? = some x) (h2 : visB m.sc x = true) (h3 : okName x = true) : PE X (.Name x p) (tVar i) := by
  obtain ⟨n1, n2, _⟩ := okName_ok h3
  exact pe_var (i := i) (by rw [co.N]; exact h1) (by rw [co.sc]; exact visB_ok h2) n1 n2
theorem find_fld {xs : List Str} {n : Str} {j : Nat} (h : xs.findIdx? (· == n) = some j) : xs[j]? = some n := by
  rw [List.findIdx?_eq_some_iff_getElem] at h
  obtain ⟨hj, e, _⟩ := h
  rw [List.getElem?_eq_getElem hj, eq_of_beq e]
theorem s_exa (co : CO D Z X m ex W) {i : Nat} {n : Str} {e : Expr} (h : mE D m (.exa i n) e = true) : PE X e (tE D X ex bs W (evE Z bs (.exa i n))) := by
  rw [mE] at h
  split at h
  · rename_i b y q hv
    have e1 := vAttr_eq hv
    subst e1
    split at h
    · rename_i x hx
      obtain ⟨p, rfl⟩ := vName_eq hx
      simp only [Bool.and_eq_true, decide_eq_true_eq] at h
      obtain ⟨⟨⟨⟨h1, h2⟩, h3⟩, rfl⟩, h5⟩ := h
      refine ⟨fun pins s σc H Q I ⟨ρ, σ, st, sr, q⟩ => ?_⟩
      rw [evE] at q
      split at q
      · rename_i v ev
        obtain ⟨a, ha, q⟩ := kE.of q
        obtain ⟨u, hu, hs⟩ := sr.sl _ _ ev
        have hx : ∃ c fs, v = .exn c fs := by
          unfold fieldOf at ha
          split at ha
          · exact ⟨_, _, rfl⟩
          · cases ha
        obtain ⟨c, fs, rfl⟩ := hx
        have hex : ExAt D X.K ex i H u c fs := by
          rcases hs with ⟨r, _⟩ | ⟨c', fs', e, hs⟩
          · cases r
          · cases e; exact hs
        refine attr_of rfl (thn ((pe_slot co h1 h2 h3).run pins s σc H (fun x H1 => x = u ∧ H1 = H) I ⟨u, hu, rfl, rfl⟩) fun u' s1 ⟨x', H1, I1, r1, e1, e2⟩ => ?_)
        subst e1 e2
        obtain ⟨a', oe, cd, fl, od, rfl, hc, hfl, J, mA, hl, hr⟩ := hex.inst co.pn I1
        cases r1
        have ef := co.fac.exc c cd hc
        unfold fieldOf at ha
        rw [co.ct] at ha
        simp only [hc] at ha
        obtain ⟨j, hj, ha⟩ := Option.bind_eq_some_iff.mp ha
        obtain ⟨p', hp', rfl⟩ := Option.map_eq_some_iff.mp ha
        have hj' := find_fld hj
        obtain ⟨fv, fp, g1, g2, g3⟩ := hfl j y hj'
        rw [hp'] at g2; cases g2
        obtain ⟨u2, hu2, ru2⟩ := RelO.some_of (v := fv) (o := mA y) (by rw [← g1]; exact hr y)
        exact HandSPX.exc_get I1.kIn J ef.xf.ga ef.xf.gg ef.xf.exC (PySem.W.findObj_own ef.xf.hdC (ef.fld y (List.mem_of_getElem? hj')) rfl (by rw [hl, hu2])) (handed_of ru2) ⟨fv, H1, I1.tok _, ru2, kE.plain q sr.ob g3⟩
      · exact q.elim
    · cases h
  · cases h
/-- isinstance of it -/
def rXi (D : Dat) (K : PySem.W.Frag) (ex : Ex) (i : Nat) : List V → Hp → VK → Prop := fun xs H Q => ∃ v c fs cv uv b, xs = [v, cv] ∧ ExAt D K ex i H v c fs ∧ (∀ u, RelV cv u → u = uv) ∧ PySem.W.kitOne K (.ref (D.ca K c)) uv = some b ∧ Q (.bl b) H
theorem call_xi {i : Nat} (co : CO D Z X m ex W) : CallR X (.builtin "isinstance") (rXi D X.K ex i) := by
  intro pins s σ H xs us Q I r h
  obtain ⟨v, c, fs, cv, uv, b, rfl, hex, hu, hk, q⟩ := h
  obtain ⟨u1, u2, rfl, r1, r2⟩ := Vals.two r
  have e2 := hu _ r2
  subst e2
  obtain ⟨a, oe, cd, fl, od, rfl, hc, _, J, _⟩ := hex.inst co.pn I
  cases r1
  exact PySem.W.kia_one (kitx_excD (co.fac.exc c cd hc).is) I.kIn J hk (fun z => nomatch z) fun tk => ⟨.bl b, H, I.tok tk, rfl, q⟩
theorem s_exi (co : CO D Z X m ex W) {i : Nat} {t : Ty} {e : Expr} (h : mE D m (.exi i t) e = true) : PE X e (tE D X ex bs W (evE Z bs (.exi i t))) := by
  rw [mE] at h
  split at h
  · rename_i x y z hv
    obtain ⟨p, pos, rfl⟩ := vCall_eq hv
    simp only [Bool.and_eq_true, decide_eq_true_eq] at h
    obtain ⟨⟨rfl, h2⟩, h3⟩ := h
    split at h3
    · rename_i yn zn hy hz
      obtain ⟨py, rfl⟩ := vName_eq hy
      obtain ⟨pz, rfl⟩ := vName_eq hz
      simp only [Bool.and_eq_true, decide_eq_true_eq] at h3
      obtain ⟨⟨⟨⟨⟨h4, h5⟩, h6⟩, h7⟩, h8⟩, h9⟩ := h3
      have fin : ∀ (cv : V) (uv : Value), PE X (.Name zn pz) (tC cv) → (∀ u, RelV cv u → u = uv) → (∀ c cd b, D.ct[c]? = some cd → isx D.ct (.exn c []) t = some b → PySem.W.kitOne X.K (.ref (D.ca X.K c)) uv = some b) → PE X (.Call (.Name "isinstance" p) [.Name yn py, .Name zn pz] [] pos) (tE D X ex bs W (evE Z bs (.exi i t))) := by
        intro cv uv hp hu hk
        refine PEimp (pe_callB (call_xi (i := i) co) (glB_ok co.sc h2) (co.fac.blt _ (by decide)) bt_isinstance (pa_cons (pe_slot co h4 h5 h6) (pa_cons hp pa_nil rfl) rfl) (by decide) (by decide) rfl rfl) fun σc H Q ⟨ρ, σ, st, sr, q⟩ => ?_
        rw [evE] at q
        split at q
        · rename_i v ev
          obtain ⟨a, ha, q2⟩ := kE.of q
          obtain ⟨b, hb, ea⟩ := Option.map_eq_some_iff.mp ha
          subst ea
          obtain ⟨u, hu', hs⟩ := sr.sl _ _ ev
          have hx : ∃ c fs, v = .exn c fs := by
            unfold isx at hb
            split at hb <;> first | (cases hb; done) | exact ⟨_, _, rfl⟩
          obtain ⟨c, fs, rfl⟩ := hx
          have hex : ExAt D X.K ex i H u c fs := by
            rcases hs with ⟨r, _⟩ | ⟨c', fs', e, hs⟩
            · cases r
            · cases e; exact hs
          refine ⟨u, hu', u, c, fs, cv, uv, b, rfl, hex, hu, ?_, kE.plain q2 sr.ob (.bl b)⟩
          obtain ⟨a, oe, cls, d, _, _, _, _, cd, dd, fl, hc, _⟩ := hex
          rw [co.ct] at hb
          refine hk c cd b hc ?_
          unfold isx at hb ⊢
          split at hb <;> first | (cases hb; done) | (rename_i e1 e2; cases e1; exact hb) | skip
        · exact q.elim
      cases t <;> first | (cases h9; done) | skip
      · have h9 : zn = "ValueError" := of_decide_eq_true h9
        subst h9
        refine fin (.ty "ValueError") (.type "ValueError") (pe_bltn (glB_ok co.sc h7) (co.fac.blt _ (by decide)) bt_ve rfl) (fun u r => r) fun c cd b hc hb => ?_
        cases hb
        exact (co.fac.exc c cd hc).ve
      · rename_i d
        have h9 : (D.ct[d]?).map (·.name) = some zn := of_decide_eq_true h9
        obtain ⟨dd, hd, rfl⟩ := Option.map_eq_some_iff.mp h9
        refine fin (.ref (D.ca X.K d)) (.ref (D.ca X.K d)) (pe_glob (glB_ok co.sc h7) (co.fac.exc d dd hd).mg rfl (okName_ok h8).1) (fun u r => r) fun c cd b hc hb => ?_
        cases hb
        exact (co.fac.exc c cd hc).sub d dd hd
    · cases h3
  · cases h
end
end Fc

set_option Elab.async false
set_option linter.all false
set_option maxRecDepth 100000
set_option maxHeartbeats 4000000
/-! FcAll: every form. -/
namespace Fc
open PySem PySem.Spec PyProof.Rows L2

structure Snd (D : Dat) (Z : Cfg) (bs : List Nat) (c : C) : Prop where
  e : ∀ {X : Cx} {m : MC} {ex : Ex} {W : WX}, CO D Z X m ex W → ∀ e, mE D m c e = true → PE X e (tE D X ex bs W (evE Z bs c))
  t : ∀ {X : Cx} {m : MC} {ex : Ex} {W : WX}, CO D Z X m ex W → tOk c = true → ∀ e, mE D m c e = true → PT X e (tT D X ex bs W (evE Z bs c))
  es : ∀ {X : Cx} {m : MC} {ex : Ex} {W : WX}, CO D Z X m ex W → ∀ es, mEs D m c es = true → PA X es (tAs D X ex bs W (evEs Z bs c))
  an : ∀ {X : Cx} {m : MC} {ex : Ex} {W : WX}, CO D Z X m ex W → ∀ v vs pos, mEs D m c (v :: vs) = true → PE X (.BoolOp .And (v :: vs) pos) (tE D X ex bs W (evAnd Z bs c))
  o : ∀ {X : Cx} {m : MC} {ex : Ex} {W : WX}, CO D Z X m ex W → ∀ v vs pos, mEs D m c (v :: vs) = true → PE X (.BoolOp .Or (v :: vs) pos) (tE D X ex bs W (evOr Z bs c))
  ant : ∀ {X : Cx} {m : MC} {ex : Ex} {W : WX}, CO D Z X m ex W → tOk c = true → ∀ v vs pos, mEs D m c (v :: vs) = true → PW X (.BoolOp .And (v :: vs) pos) (tT D X ex bs W (evAnd Z bs c))
  ot : ∀ {X : Cx} {m : MC} {ex : Ex} {W : WX}, CO D Z X m ex W → tOk c = true → ∀ v vs pos, mEs D m c (v :: vs) = true → PW X (.BoolOp .Or (v :: vs) pos) (tT D X ex bs W (evOr Z bs c))
  r : ∀ {X : Cx} {m : MC} {ex : Ex} {W : WX}, CO D Z X m ex W → ∀ tg e, mR D m c e = true → PI X tg e (tI D X ex bs W (evE Z bs c))
  q : ∀ {X : Cx} {m : MC} {ex : Ex} {W : WX}, CO D Z X m ex W → ∀ e, mQ D m c e = true → PE X e (tL D X ex bs W (evL Z bs c))
variable {D : Dat} {Z : Cfg} {bs : List Nat}
/-- for the forms that are no list, no range, no comprehension -/
theorem Snd.of {c : C} (he : ∀ {X : Cx} {m : MC} {ex : Ex} {W : WX}, CO D Z X m ex W → ∀ e, mE D m c e = true → PE X e (tE D X ex bs W (evE Z bs c)))
    (ht : ∀ {X : Cx} {m : MC} {ex : Ex} {W : WX}, CO D Z X m ex W → tOk c = true → ∀ e, mE D m c e = true → PT X e (tT D X ex bs W (evE Z bs c)))
    (n1 : ∀ m es, mEs D m c es = false) (n2 : ∀ m e, mR D m c e = false) (n3 : ∀ m e, mQ D m c e = false) : Snd D Z bs c where
  e := he
  t := ht
  es := fun _ es h => by rw [n1] at h; cases h
  an := fun _ v vs pos h => by rw [n1] at h; cases h
  o := fun _ v vs pos h => by rw [n1] at h; cases h
  ant := fun _ _ v vs pos h => by rw [n1] at h; cases h
  ot := fun _ _ v vs pos h => by rw [n1] at h; cases h
  r := fun _ tg e h => by rw [n2] at h; cases h
  q := fun _ e h => by rw [n3] at h; cases h
/-- .. whose text is no test of its own kind -/
theorem Snd.pl {c : C} (he : ∀ {X : Cx} {m : MC} {ex : Ex} {W : WX}, CO D Z X m ex W → ∀ e, mE D m c e = true → PE X e (tE D X ex bs W (evE Z bs c)))
    (hp : ∀ m e, tOk c = true → mE D m c e = true → ptE e = true)
    (n1 : ∀ m es, mEs D m c es = false) (n2 : ∀ m e, mR D m c e = false) (n3 : ∀ m e, mQ D m c e = false) : Snd D Z bs c :=
  Snd.of he (fun co ho e h => pt_val (he co e h) (pt_pl (hp _ e ho h))) n1 n2 n3
theorem mI_sound {it : C} (S : Snd D Z bs it) {X : Cx} {m : MC} {ex : Ex} {W : WX} (co : CO D Z X m ex W) : ∀ tg e, mI D m it e = true → PI X tg e (tI D X ex bs W (evE Z bs it)) := fun tg e h => by
  unfold mI at h
  split at h
  · exact S.r co tg e h
  · exact s_iv (S.e co e h)
theorem snd : ∀ c : C, Snd D Z bs c := by
  intro c
  induction c with
  | var i =>
    exact Snd.pl (fun co e h => s_var co h) (fun m e _ h => by
      rw [mE] at h; split at h
      · rename_i x hx; obtain ⟨p, rfl⟩ := vName_eq hx; rfl
      · cases h) (by (intro m es; rfl)) (by (intro m es; rfl)) (by (intro m es; rfl))
  | k x =>
    exact Snd.pl (fun co e h => s_k co h) (fun m e _ h => by
      rw [mE] at h; split at h
      · rename_i x hx; obtain ⟨k, p, rfl⟩ := vConst_eq hx; rfl
      · cases h) (by (intro m es; rfl)) (by (intro m es; rfl)) (by (intro m es; rfl))
  | glob x v =>
    exact Snd.pl (fun co e h => s_glob co h) (fun m e _ h => by
      rw [mE] at h; split at h
      · rename_i x hx; obtain ⟨p, rfl⟩ := vName_eq hx; rfl
      · cases h) (by (intro m es; rfl)) (by (intro m es; rfl)) (by (intro m es; rfl))
  | bin op a b ha hb =>
    exact Snd.pl (fun co e h => s_bin co (ha.e co) (hb.e co) h) (fun m e _ h => by
      rw [mE] at h; split at h
      · rename_i hx; obtain ⟨p, rfl⟩ := vBin_eq hx; rfl
      · cases h) (by (intro m es; rfl)) (by (intro m es; rfl)) (by (intro m es; rfl))
  | neg a ha =>
    exact Snd.pl (fun co e h => s_neg co (ha.e co) h) (fun m e _ h => by
      rw [mE] at h; split at h
      · rename_i hx; obtain ⟨p, rfl⟩ := vUn_eq hx; rfl
      · cases h) (by (intro m es; rfl)) (by (intro m es; rfl)) (by (intro m es; rfl))
  | cmp op a b ha hb =>
    exact Snd.of (fun co e h => (s_cmp co (ha.e co) (hb.e co) h).1) (fun co _ e h => (s_cmp co (ha.e co) (hb.e co) h).2) (by (intro m es; rfl)) (by (intro m es; rfl)) (by (intro m es; rfl))
  | chain o1 o2 a b c ha hb hc =>
    exact Snd.of (fun co e h => (s_chain co (ha.e co) (hb.e co) (hc.e co) h).1) (fun co _ e h => (s_chain co (ha.e co) (hb.e co) (hc.e co) h).2) (by (intro m es; rfl)) (by (intro m es; rfl)) (by (intro m es; rfl))
  | andl a ha =>
    exact Snd.of (fun co e h => by
      rw [mE] at h; split at h
      · rename_i vs hx
        obtain ⟨p, rfl⟩ := vBool_eq hx
        rw [Bool.and_eq_true] at h
        cases vs with
        | nil => cases h.2
        | cons v vs =>
          refine PEimp (ha.an co v vs p h.1) fun σc H Q ⟨ρ, σ, st, s, q⟩ => ⟨ρ, σ, st, s, ?_⟩
          rw [evE] at q; exact q
      · cases h) (fun co ho e h => by
      rw [mE] at h; split at h
      · rename_i vs hx
        obtain ⟨p, rfl⟩ := vBool_eq hx
        rw [Bool.and_eq_true] at h
        cases vs with
        | nil => cases h.2
        | cons v vs =>
          refine PTimp (PW.pt (ha.ant co ho v vs p h.1)) fun σc H Q ⟨ρ, σ, st, s, q⟩ => ⟨ρ, σ, st, s, ?_⟩
          rw [evE] at q; exact q
      · cases h) (by (intro m es; rfl)) (by (intro m es; rfl)) (by (intro m es; rfl))
  | orl a ha =>
    exact Snd.of (fun co e h => by
      rw [mE] at h; split at h
      · rename_i vs hx
        obtain ⟨p, rfl⟩ := vBool_eq hx
        rw [Bool.and_eq_true] at h
        cases vs with
        | nil => cases h.2
        | cons v vs =>
          refine PEimp (ha.o co v vs p h.1) fun σc H Q ⟨ρ, σ, st, s, q⟩ => ⟨ρ, σ, st, s, ?_⟩
          rw [evE] at q; exact q
      · cases h) (fun co ho e h => by
      rw [mE] at h; split at h
      · rename_i vs hx
        obtain ⟨p, rfl⟩ := vBool_eq hx
        rw [Bool.and_eq_true] at h
        cases vs with
        | nil => cases h.2
        | cons v vs =>
          refine PTimp (PW.pt (ha.ot co ho v vs p h.1)) fun σc H Q ⟨ρ, σ, st, s, q⟩ => ⟨ρ, σ, st, s, ?_⟩
          rw [evE] at q; exact q
      · cases h) (by (intro m es; rfl)) (by (intro m es; rfl)) (by (intro m es; rfl))
  | not a ha =>
    exact Snd.of (fun co e h => s_not co (ha.e co) h) (fun co ho e h => s_notT co (ha.t co ho) h) (by (intro m es; rfl)) (by (intro m es; rfl)) (by (intro m es; rfl))
  | ife a b c ha hb hc =>
    exact Snd.of (fun co e h => s_ife co (ha.t co) (hb.e co) (hc.e co) h) (fun co ho e h => by cases ho) (by (intro m es; rfl)) (by (intro m es; rfl)) (by (intro m es; rfl))
  | nil => exact ⟨fun co e h => (by cases h), fun co _ e h => (by cases h), fun co es h => s_nilA h, fun co v vs pos h => (by cases h), fun co v vs pos h => (by cases h), fun co _ v vs pos h => (by cases h), fun co _ v vs pos h => (by cases h), fun co tg e h => (by cases h), fun co e h => (by cases h)⟩
  | cons a r ha hr =>
    refine ⟨fun co e h => (by cases h), fun co _ e h => (by cases h), fun co es h => s_consA (ha.e co) (hr.es co) h, fun co v vs pos h => ?_, fun co v vs pos h => ?_, fun co ho v vs pos h => ?_, fun co ho v vs pos h => ?_, fun co tg e h => (by cases h), fun co e h => (by cases h)⟩
    · rw [mEs, Bool.and_eq_true] at h
      cases vs with
      | nil =>
        cases r <;> first | exact s_and1 (ha.e co _ h.1) | (cases h.2; done)
      | cons w ws =>
        obtain ⟨a', r', rfl, _, _⟩ := mEs_cons h.2
        exact s_and2 (ha.e co _ h.1) (hr.an co w ws pos h.2)
    · rw [mEs, Bool.and_eq_true] at h
      cases vs with
      | nil =>
        cases r <;> first | exact s_or1 (ha.e co _ h.1) | (cases h.2; done)
      | cons w ws =>
        obtain ⟨a', r', rfl, _, _⟩ := mEs_cons h.2
        exact s_or2 (ha.e co _ h.1) (hr.o co w ws pos h.2)
    · rw [mEs, Bool.and_eq_true] at h
      have ho : (tOk a && tOk r) = true := ho
      rw [Bool.and_eq_true] at ho
      cases vs with
      | nil =>
        cases r <;> first | exact s_and1T (ha.t co ho.1 _ h.1) | (cases h.2; done)
      | cons w ws =>
        obtain ⟨a', r', rfl, _, _⟩ := mEs_cons h.2
        exact s_and2T (ha.t co ho.1 _ h.1) (hr.ant co ho.2 w ws pos h.2)
    · rw [mEs, Bool.and_eq_true] at h
      have ho : (tOk a && tOk r) = true := ho
      rw [Bool.and_eq_true] at ho
      cases vs with
      | nil =>
        cases r <;> first | exact s_or1T (ha.t co ho.1 _ h.1) | (cases h.2; done)
      | cons w ws =>
        obtain ⟨a', r', rfl, _, _⟩ := mEs_cons h.2
        exact s_or2T (ha.t co ho.1 _ h.1) (hr.ot co ho.2 w ws pos h.2)
  | tup a ha =>
    exact Snd.pl (fun co e h => s_tup co (ha.es co) h) (fun m e _ h => by
      rw [mE] at h; split at h
      · rename_i hx; obtain ⟨k, p, rfl⟩ := vTup_eq hx; rfl
      · cases h) (by (intro m es; rfl)) (by (intro m es; rfl)) (by (intro m es; rfl))
  | lst a ha =>
    exact Snd.pl (fun co e h => s_lst co (ha.es co) h) (fun m e _ h => by
      rw [mE] at h; split at h
      · rename_i hx; obtain ⟨p, rfl⟩ := vLst_eq hx; rfl
      · cases h) (by (intro m es; rfl)) (by (intro m es; rfl)) (by (intro m es; rfl))
  | ix a b ha hb =>
    exact Snd.pl (fun co e h => s_ix co (ha.e co) (hb.e co) h) (fun m e _ h => by
      rw [mE] at h; split at h
      · rename_i hx; obtain ⟨p, rfl⟩ := vSub_eq hx; rfl
      · cases h) (by (intro m es; rfl)) (by (intro m es; rfl)) (by (intro m es; rfl))
  | slice a b c ha hb hc =>
    exact Snd.pl (fun co e h => s_slice co (ha.e co) (hb.e co) (hc.e co) h) (fun m e _ h => by
      rw [mE] at h; split at h
      · rename_i hx; obtain ⟨p, rfl⟩ := vSub_eq hx; rfl
      · cases h) (by (intro m es; rfl)) (by (intro m es; rfl)) (by (intro m es; rfl))
  | call f a ha =>
    exact Snd.pl (fun co e h => s_call co (ha.es co) h) (fun m e _ h => by
      rw [mE] at h; split at h
      · rename_i hx; obtain ⟨p, q, rfl⟩ := vCall_eq hx; rfl
      · cases h) (by (intro m es; rfl)) (by (intro m es; rfl)) (by (intro m es; rfl))
  | b1 f a ha =>
    exact Snd.pl (fun co e h => s_b1 co (ha.e co) h) (fun m e _ h => by
      rw [mE] at h; split at h
      · rename_i hx; obtain ⟨p, q, rfl⟩ := vCall_eq hx; rfl
      · cases h) (by (intro m es; rfl)) (by (intro m es; rfl)) (by (intro m es; rfl))
  | b2 f a b ha hb =>
    exact Snd.pl (fun co e h => s_b2 co (ha.e co) (hb.e co) h) (fun m e _ h => by
      rw [mE] at h; split at h
      · rename_i hx; obtain ⟨p, q, rfl⟩ := vCall_eq hx; rfl
      · cases h) (by (intro m es; rfl)) (by (intro m es; rfl)) (by (intro m es; rfl))
  | bq f a ha =>
    exact Snd.pl (fun co e h => s_bq co (ha.q co) h) (fun m e _ h => by
      rw [mE] at h; split at h
      · rename_i hx; obtain ⟨p, q, rfl⟩ := vCall_eq hx; rfl
      · cases h) (by (intro m es; rfl)) (by (intro m es; rfl)) (by (intro m es; rfl))
  | comp a ha =>
    exact Snd.pl (fun co e h => s_comp co (ha.q co) h) (fun m e ho h => by cases ho) (by (intro m es; rfl)) (by (intro m es; rfl)) (by (intro m es; rfl))
  | cq elt ts it cond own he hi hc =>
    exact ⟨fun co e h => (by cases h), fun co _ e h => (by cases h), fun co es h => (by cases h), fun co v vs pos h => (by cases h), fun co v vs pos h => (by cases h), fun co _ v vs pos h => (by cases h), fun co _ v vs pos h => (by cases h), fun co tg e h => (by cases h),
      fun co e h => s_cq co (mI_sound hi co) (fun co' => he.e co') (fun co' => hc.t co') h⟩
  | isi a t ha =>
    exact Snd.pl (fun co e h => s_isi co (ha.e co) h) (fun m e _ h => by
      rw [mE] at h; split at h
      · rename_i hx; obtain ⟨p, q, rfl⟩ := vCall_eq hx; rfl
      · cases h) (by (intro m es; rfl)) (by (intro m es; rfl)) (by (intro m es; rfl))
  | m1 mt a b ha hb =>
    exact Snd.pl (fun co e h => s_m1 co (ha.e co) (hb.e co) h) (fun m e _ h => by
      rw [mE] at h; split at h
      · rename_i hx; obtain ⟨p, q, rfl, _⟩ := vMeth_eq hx; rfl
      · cases h) (by (intro m es; rfl)) (by (intro m es; rfl)) (by (intro m es; rfl))
  | m2 mt a b c ha hb hc =>
    exact Snd.pl (fun co e h => s_m2 co (ha.e co) (hb.e co) (hc.e co) h) (fun m e _ h => by
      rw [mE] at h; split at h
      · rename_i hx; obtain ⟨p, q, rfl, _⟩ := vMeth_eq hx; rfl
      · cases h) (by (intro m es; rfl)) (by (intro m es; rfl)) (by (intro m es; rfl))
  | m0 mt a ha =>
    exact Snd.pl (fun co e h => s_m0 co (ha.e co) h) (fun m e _ h => by
      rw [mE] at h; split at h
      · rename_i hx; obtain ⟨p, q, rfl, _⟩ := vMeth_eq hx; rfl
      · cases h) (by (intro m es; rfl)) (by (intro m es; rfl)) (by (intro m es; rfl))
  | dnew =>
    exact Snd.pl (fun co e h => s_dnew co h) (fun m e ho h => by cases ho) (by (intro m es; rfl)) (by (intro m es; rfl)) (by (intro m es; rfl))
  | disp1 a b ha hb =>
    exact Snd.pl (fun co e h => s_disp1 co (ha.e co) (hb.e co) h) (fun m e ho h => by cases ho) (by (intro m es; rfl)) (by (intro m es; rfl)) (by (intro m es; rfl))
  | srev a ha =>
    exact Snd.pl (fun co e h => s_srev co (ha.e co) h) (fun m e _ h => by
      rw [mE] at h; split at h
      · rename_i hx; obtain ⟨k, p1, p2, p3, pos, rfl⟩ := vRev_eq hx; rfl
      · cases h) (by (intro m es; rfl)) (by (intro m es; rfl)) (by (intro m es; rfl))
  | lsti a ha =>
    exact Snd.pl (fun co e h => s_lsti co (ha.e co) h) (fun m e ho h => by cases ho) (by (intro m es; rfl)) (by (intro m es; rfl)) (by (intro m es; rfl))
  | exa i x =>
    exact Snd.pl (fun co e h => s_exa co h) (fun m e _ h => by
      rw [mE] at h; split at h
      · rename_i hx; have e1 := vAttr_eq hx; subst e1; rfl
      · cases h) (by (intro m es; rfl)) (by (intro m es; rfl)) (by (intro m es; rfl))
  | exi i t =>
    exact Snd.pl (fun co e h => s_exi co h) (fun m e _ h => by
      rw [mE] at h; split at h
      · rename_i hx; obtain ⟨p, q, rfl⟩ := vCall_eq hx; rfl
      · cases h) (by (intro m es; rfl)) (by (intro m es; rfl)) (by (intro m es; rfl))
  | trng a b ha hb =>
    exact Snd.pl (fun co e h => s_trng co (ha.e co) (hb.e co) h) (fun m e _ h => by
      rw [mE] at h; split at h
      · rename_i hx; obtain ⟨p, q, rfl⟩ := vCall_eq hx; rfl
      · cases h) (by (intro m es; rfl)) (by (intro m es; rfl)) (by (intro m es; rfl))
  | rng a b c ha hb hc =>
    exact ⟨fun co e h => (by cases h), fun co _ e h => (by cases h), fun co es h => (by cases h), fun co v vs pos h => (by cases h), fun co v vs pos h => (by cases h), fun co _ v vs pos h => (by cases h), fun co _ v vs pos h => (by cases h),
      fun co tg e h => s_rng co (fun a' b' c' ez => by cases ez; exact ⟨ha.e co, hb.e co⟩) h, fun co e h => (by cases h)⟩
  | _ =>
    exact Snd.pl (fun co e h => by cases h) (fun m e _ h => by cases h) (by (intro m es; rfl)) (by (intro m es; rfl)) (by (intro m es; rfl))
end Fc

set_option Elab.async false
set_option linter.all false
set_option maxRecDepth 100000
set_option maxHeartbeats 4000000
/-! FcStm: statements: the match. -/
namespace Fc
open PySem PySem.Spec PyProof.Rows L2

/-- the display is swapped with the name it goes to -/
def swB (sc : Scope) (v : Expr) (x : Str) (p : Pos) : Bool := match v with
  | .ListComp _ _ s pos => decide (sc.names.lookup x = some .local) && (p.line == pos.line) && !(s.names.any fun (n, k) => n == x && (k == .local || k == .cell))
  | _ => false
def notLC : Expr → Bool
  | .ListComp _ _ _ _ => false
  | .SetComp _ _ _ _ => false
  | .DictComp _ _ _ _ _ => false
  | _ => true
/-- a value that is no display -/
def notDisp : Expr → Bool
  | .Tuple _ _ _ => false
  | .List _ _ => false
  | .ListComp _ _ _ _ => false
  | .SetComp _ _ _ _ => false
  | .DictComp _ _ _ _ _ => false
  | _ => true
def vAsg : Stmt → Option (Expr × Expr)
  | .Assign [t] v _ => some (t, v)
  | _ => none
theorem vAsg_eq {s : Stmt} {t v : Expr} (h : vAsg s = some (t, v)) : ∃ p, s = .Assign [t] v p := by
  unfold vAsg at h
  split at h
  · cases h; exact ⟨_, rfl⟩
  · cases h
/-- o[i] as a target -/
def vSubT : Expr → Option (Expr × Expr)
  | .Subscript x y _ => some (x, y)
  | _ => none
def vFor : Stmt → Option (Expr × Expr × List Stmt)
  | .For t i b [] _ => some (t, i, b)
  | _ => none
theorem vFor_eq {s : Stmt} {t i : Expr} {b : List Stmt} (h : vFor s = some (t, i, b)) : ∃ p, s = .For t i b [] p := by
  unfold vFor at h
  split at h
  · cases h; exact ⟨_, rfl⟩
  · cases h
def vWhile : Stmt → Option (Expr × List Stmt)
  | .While t b [] _ => some (t, b)
  | _ => none
theorem vWhile_eq {s : Stmt} {t : Expr} {b : List Stmt} (h : vWhile s = some (t, b)) : ∃ p, s = .While t b [] p := by
  unfold vWhile at h
  split at h
  · cases h; exact ⟨_, rfl⟩
  · cases h
def vRaise : Stmt → Option Expr
  | .Raise (some e) none _ => some e
  | _ => none
theorem vRaise_eq {s : Stmt} {e : Expr} (h : vRaise s = some e) : ∃ p, s = .Raise (some e) none p := by
  unfold vRaise at h
  split at h
  · cases h; exact ⟨_, rfl⟩
  · cases h
def vTry : Stmt → Option (List Stmt × List ExceptHandler)
  | .Try b hs [] [] _ => some (b, hs)
  | _ => none
theorem vTry_eq {s : Stmt} {b : List Stmt} {hs : List ExceptHandler} (h : vTry s = some (b, hs)) : ∃ p, s = .Try b hs [] [] p := by
  unfold vTry at h
  split at h
  · cases h; exact ⟨_, rfl⟩
  · cases h
def vHd : ExceptHandler → Option (Str × Option Str × List Stmt)
  | .ExceptHandler (some (.Name x _)) n (b :: bs) _ => some (x, n, b :: bs)
  | _ => none
theorem vHd_eq {s : ExceptHandler} {x : Str} {n : Option Str} {b : List Stmt} (h : vHd s = some (x, n, b)) : ∃ np p b0 bs, b = b0 :: bs ∧ s = .ExceptHandler (some (.Name x np)) n (b0 :: bs) p := by
  unfold vHd at h
  split at h
  · cases h; exact ⟨_, _, _, _, rfl, rfl⟩
  · cases h
def asOk (N : List Str) (sc : Scope) : Option Nat → Option Str → Bool
  | some i, some n => decide (N[i]? = some n) && decide (sc.names.lookup n = some .local)
  | none, none => true
  | _, _ => false
def isComp : C → Bool
  | .comp _ => true
  | _ => false
section
variable (D : Dat)
mutual
def mS (m : MC) : S → Stmt → Bool
  | .skip, s => (match s with
    | .Pass _ => true
    | _ => false)
  | .set i e, s => (match vAsg s with
    | some (.Name x p, v) => decide (m.N[i]? = some x) && locB m.sc m.fn x && mE D m e v && (!(swB m.sc v x p) || isComp e)
    | _ => false)
  | .sett is e, s => (match vAsg s with
    | some (t, v) => m.calm && (match vTup t with
      | some es => decide (2 ≤ is.length) && tgNames m.N m.sc m.fn is es && mE D m e v && notDisp v
      | none => false)
    | _ => false)
  | .aug i op e, s => (match s with
    | .AugAssign (.Name x _) o v _ => decide (o = op.op) && decide (op = .add ∨ op = .sub) && decide (m.N[i]? = some x) && locB m.sc m.fn x && mE D m e v
    | _ => false)
  | .setix o i e, s => (match vAsg s with
    | some (t, v) => (match vSub t with
      | some (x, y) => mE D m o x && mE D m i y && mE D m e v && notLC v
      | none => false)
    | _ => false)
  | .ex e, s => (match s with
    | .Expr v _ => mE D m e v && notLC v
    | _ => false)
  | .ret e, s => (match s with
    | .Return (some v) _ => mE D m e v
    | _ => false)
  | .retn, s => (match s with
    | .Return none _ => true
    | _ => false)
  | .ite t a b, s => (match s with
    | .If x y z _ => tOk t && mE D m t x && mSs m a y && mSs m b z
    | _ => false)
  | .whil t b, s => (match vWhile s with
    | some (x, y) => m.calm && tOk t && mE D m t x && mSs m b y
    | _ => false)
  | .for_ ts it b, s => (match vFor s with
    | some (x, y, z) => m.calm && tgIs m.N m.sc m.fn ts x && mI D m it y && mSs m b z
    | _ => false)
  | .brk, s => (match s with
    | .Break _ => true
    | _ => false)
  | .cnt, s => (match s with
    | .Continue _ => true
    | _ => false)
  | .raise c es, s => (match vRaise s with
    | some e => m.calm && (match vCall e with
      | some (x, xs) => decide ((D.ct[c]?).map (·.name) = some x) && glB m.sc x && okName x && mEs D m es xs
      | none => false)
    | none => false)
  | .tr b h, s => (match vTry s with
    | some (x, hs) => m.calm && !hs.isEmpty && mSs m b x && mHs m h hs
    | none => false)
  | .gc s, x => mS m s x
  | _, _ => false
def mSs (m : MC) : S → List Stmt → Bool
  | .skip, l => l.isEmpty
  | .seq a b, l => (match l with
    | x :: xs => mS m a x && mSs m b xs
    | [] => false)
  | .gc s, l => mSs m s l
  | _, _ => false
def mHs (m : MC) : S → List ExceptHandler → Bool
  | .hnil, l => l.isEmpty
  | .hcons c i s r, l => (match l with
    | x :: xs => (match vHd x with
      | some (y, n, b) => decide ((D.ct[c]?).map (·.name) = some y) && glB m.sc y && okName y && asOk m.N m.sc i n && mSs ⟨m.N, m.sc, false, m.fn⟩ s b && mHs m r xs
      | none => false)
    | [] => false)
  | _, _ => false
end
end
end Fc

set_option Elab.async false
set_option linter.all false
set_option maxRecDepth 100000
set_option maxHeartbeats 4000000
/-! FcTry: several except clauses, with and without names. -/
namespace Fc
open PySem PySem.Spec PyProof.Rows L2

abbrev TsX := Addr → Value → Option Addr → TS
/-- behind a named clause the name is gone -/
def goneE (i : Option Nat) (D : Ends) : Ends := match i with
  | none => D
  | some i => { nx := fun σ' H' => D.nx (σ'.set i none) H', rt := D.rt, bk := fun σ' H' => D.bk (σ'.set i none) H', ct := fun σ' H' => D.ct (σ'.set i none) H' }
def putE (i : Option Nat) (a : Addr) (σ : L2.St) : L2.St := match i with
  | none => σ
  | some i => σ.set i (some (.ref a))
def wL (K : PySem.W.Frag) (Wout : WX) (D : Ends) : List (Value × Option Nat × TsX) → WX
  | [] => Wout
  | (c, i, ts) :: r => fun cls d σ H => ∃ b, PySem.W.exmOne K cls c = some b ∧ (b = true → ∀ a, H a = none → ts a cls d (goneE i D) (putE i a σ) H) ∧ (b = false → wL K Wout D r cls d σ H)
inductive HdsL (X : Cx) : List ExceptHandler → List (Value × Option Nat × TsX) → Prop
  | nil : HdsL X [] []
  | cons {x : Str} {c : Value} {ts : TsX} {b₀ : Stmt} {suite : List Stmt} {np pos' : Pos} {hds : List ExceptHandler} {l : List (Value × Option Nat × TsX)} (hc : Names X x c)
      (hsu : ∀ (a : Addr) (oe : Obj) (cls : Value) (d : Option Addr) (pn : List (Addr × Obj)), Zc cls d oe → (∃ vs, oe.data = .fields vs) → PSs (X.suite a ((a, oe) :: pn)) (b₀ :: suite) (ts a cls d)) (r : HdsL X hds l) :
      HdsL X (.ExceptHandler (some (.Name x np)) none (b₀ :: suite) pos' :: hds) ((c, none, ts) :: l)
  | as_ {x n : Str} {i : Nat} {c : Value} {ts : TsX} {b₀ : Stmt} {suite : List Stmt} {np pos' : Pos} {hds : List ExceptHandler} {l : List (Value × Option Nat × TsX)} (hc : Names X x c) (hN : X.N.Nodup) (hi : X.N[i]? = some n) (hln : X.env.kindOf n = some .local)
      (hsu : ∀ (a : Addr) (oe : Obj) (cls : Value) (d : Option Addr) (pn : List (Addr × Obj)), Zc cls d oe → (∃ vs, oe.data = .fields vs) → PSs (X.suite a ((a, oe) :: pn)) (b₀ :: suite) (ts a cls d)) (r : HdsL X hds l) :
      HdsL X (.ExceptHandler (some (.Name x np)) (some n) (b₀ :: suite) pos' :: hds) ((c, some i, ts) :: l)
section
variable {X : Cx} {body : List Stmt} {h₀ : ExceptHandler} {hds : List ExceptHandler} {l : List (Value × Option Nat × TsX)} {pos : Pos} {tb : WX → TS} {Wout : WX}
theorem ps_try_l (hs : X.stack = X.env :: X.outer) (hf : X.env.frame = some X.env.locals) (tk : Takes X Wout)
    (hb : ∀ (W : WX) (pn : List (Addr × Obj)) (xe : Value → Shared → Prop), Takes (X.tr pn xe) W → PassesOwn (model X.prog X.w) X.A X.env xe → PSs (X.tr pn xe) body (tb W))
    (hh : HdsL X (h₀ :: hds) l) : PS X (.Try body (h₀ :: hds) [] [] pos) (fun D σ H => tb (wL X.K Wout D l) D σ H) := by
  refine ⟨fun pins s σ H D I h => ?_⟩
  have ok := I.ok
  have hfr : X.A.frames = some (X.env :: X.outer) := by rw [ok.frames, hs]
  refine wpAny_Try_except ?_
  refine wpAny_mono ((hb (wL X.K Wout D l) (X.pn ++ pins) (fun e s₁ => wpAny (model X.prog X.w) X.A (noteFrame e X.env) (fun _ s₂ => wpAny (model X.prog X.w) X.A (setFlight e none) (fun _ s₃ =>
    wpAny (model X.prog X.w) X.A (handleBy e X.env (h₀ :: hds)) (SP X pins D) X.xe s₃) X.xe s₂) X.xe s₁) (fun u s' xx => ?_) PassesOwn.looking).run [] s σ H D (I.toTry _) h) (fun f s1 hsp => ?_) (fun e s1 he => he)
  · obtain ⟨a, B, sI, pins', σ', H', cls, d, rfl, J', nb, up, sky, na, os, ag, w⟩ := xx
    have J : Inv X pins σ' H' sI := J'.ofTry ok
    have sky' : Sky B (X.env :: X.outer) a (Zc cls d) X.env.locals s'.heap := by rw [← hs]; exact sky
    show wpAny (model X.prog X.w) X.A (noteFrame (.ref a) X.env) _ _ _
    refine Sky.land Zc.steady hfr hf sky' fun h3 fl3 up3 => ?_
    have J3 : Inv X pins σ' H' { s' with heap := h3 } := J.landed nb fl3.1 (up.trans up3) os ag
    obtain ⟨oe3, vs3, he3, hz3, hd3⟩ := fl3.there
    have notFr : ∀ {h : Heap} {o : Obj} {vs : Array Value}, h.FunFrames B (X.env :: X.outer) → h.get? a = some o → o.data = .fields vs → a ∉ frs (X.env :: X.outer) := fun {h o vs} ff e dd hm => by
      obtain ⟨_, o', e', hnf⟩ := ff.mem hm
      rw [e] at e'; cases e'
      exact hnf _ dd
    have nfr := notFr fl3.2.2.1 he3 hd3
    have nL : a ≠ X.env.locals := fun z => nfr (List.mem_filterMap.mpr ⟨X.env, List.mem_cons_self, by rw [hf, z]⟩)
    have nF : a ∉ X.fs := fun hm => by
      obtain ⟨e, he, q⟩ := List.mem_filterMap.mp hm
      exact nfr (List.mem_filterMap.mpr ⟨e, List.mem_cons_of_mem _ he, q⟩)
    have S3 := J3.suite he3 hd3 na nL nF
    have LT : PySem.W.Looks (model X.prog X.w) h3 (typeOf (.ref a)) cls := fun A Q E s k q => wpAny_typeOf_ref (k _ _ he3) (by rw [hz3.1]; exact q)
    have test : ∀ {x : Str} {np : Pos} {c : Value} {Q : Value → Shared → Prop} {E : Value → Shared → Prop}, Names X x c → Q c { s' with heap := h3 } → wpAny (model X.prog X.w) (X.A.mark (some (.ref a))) (eval (.Name x np) X.env) Q E { s' with heap := h3 } := fun {x np c Q E} hc q => by
      obtain ⟨hg, hdbg, hm | ⟨hm, hv, hnn⟩⟩ := hc
      · exact ld_glob (X := X.suite a ((a, oe3) :: (X.pn ++ pins))) S3 hg hm q hdbg
      · exact ld_blt (X := X.suite a ((a, oe3) :: (X.pn ++ pins))) S3 hg hm hv q hnn hdbg
    have go : ∀ {hds' : List ExceptHandler} {l' : List (Value × Option Nat × TsX)}, HdsL X hds' l' → wL X.K Wout D l' cls d σ' H' →
        wpAny (model X.prog X.w) X.A (handleBy (.ref a) X.env hds') (SP X pins D) X.xe { s' with heap := h3 } := by
      intro hds' l' hk
      induction hk with
      | nil =>
        intro w
        refine wpAny_handleBy_nil ?_
        obtain ⟨k1, k2, k3, oe, vs, T, oT, ts', he, hz, hd, h1, hr⟩ := id fl3
        unfold PySem.passOn
        refine wpAny_bind (wpAny_field he hd h1 ?_)
        rw [if_neg (show ¬ ((Value.ref T == Value.none) = true) from by simp)]
        have fin : wpAny (model X.prog X.w) X.A (setFlight (.ref a) X.env.frame) (fun _ s4 => wpAny (model X.prog X.w) X.A (throw (.ref a) : Sem PySem.Flow) (SP X pins D) X.xe s4) X.xe { s' with heap := h3 } := by
          rw [hf]
          refine HandSPX.setFlight_upZ fl3 fun h4 hh4 up4 => wpAny_throw (tk _ _ ?_)
          exact ⟨a, B, sI, pins, σ', H', cls, d, rfl, J, nb, (up.trans up3).trans up4, .inr (.inr (by rw [hs]; exact hh4)), na, os, ag, w⟩
        first
          | exact wpAny_bind (wpAny_pure (wpAny_bind fin))
          | exact wpAny_bind fin
      | @cons x c ts b₀ suite np pos' hds2 l2 hc hsu r ih =>
        intro w
        obtain ⟨b, hb1, hyes, hno⟩ := w
        refine wpAny_handleBy_cons (codeAny_handlers_test ?_) (by intro q; cases q)
        have LM := PySem.W.exm_one (M := model X.prog X.w) (J3.kIn) LT hb1
        refine test hc (LM.here ?_)
        cases b with
        | true =>
          refine codeAny_handlers_suite ?_
          refine HandSPX.lands_againZ fl3 fun h4 fl4 up4 => ?_
          have J4 : Inv X pins σ' H' { s' with heap := h4 } := J.landed nb fl4.1 ((up.trans up3).trans up4) os ag
          obtain ⟨oe4, vs4, he4, hz4, hd4⟩ := fl4.there
          have S4 := J4.suite he4 hd4 na nL nF
          refine wpAny_mono ((hsu a oe4 cls d (X.pn ++ pins) hz4 ⟨_, hd4⟩).run [] _ _ H' _ S4 (hyes rfl a na)) (fun f s6 hsp => ?_) (fun _ _ z => False.elim z)
          cases f with
          | next =>
            obtain ⟨σ6, H6, S6, q6⟩ := hsp
            exact ⟨_, _, S6.unsuite ok, q6⟩
          | brk =>
            obtain ⟨σ6, H6, S6, q6⟩ := hsp
            exact ⟨_, _, S6.unsuite ok, q6⟩
          | cont =>
            obtain ⟨σ6, H6, S6, q6⟩ := hsp
            exact ⟨_, _, S6.unsuite ok, q6⟩
          | ret u =>
            obtain ⟨v6, σ6, H6, S6, r6, q6⟩ := hsp
            exact ⟨_, _, _, S6.unsuite ok, r6, q6⟩
        | false =>
          show wpAny _ X.A (handleBy (.ref a) X.env hds2) _ _ _
          exact ih (hno rfl)
      | @as_ x n i c ts b₀ suite np pos' hds2 l2 hc hN hi hln hsu r ih =>
        intro w
        obtain ⟨b, hb1, hyes, hno⟩ := w
        refine wpAny_handleBy_cons (codeAny_handlers_test ?_) (by intro q; cases q)
        have LM := PySem.W.exm_one (M := model X.prog X.w) (J3.kIn) LT hb1
        refine test hc (LM.here ?_)
        cases b with
        | true =>
          refine codeAny_handlers_suite_as ?_
          refine HandSPX.lands_againZ fl3 fun h4 fl4 up4 => ?_
          have J4 : Inv X pins σ' H' { s' with heap := h4 } := J.landed nb fl4.1 ((up.trans up3).trans up4) os ag
          obtain ⟨oe4, vs4, he4, hz4, hd4⟩ := fl4.there
          have S4 := J4.suite he4 hd4 na nL nF
          refine store_ok (X := X.suite a ((a, oe4) :: (X.pn ++ pins))) (v := .ref a) S4 hN hi (.inl hln) rfl (fun s5 S5 => ?_) (.inr hln)
          refine wpAny_mono ((hsu a oe4 cls d (X.pn ++ pins) hz4 ⟨_, hd4⟩).run [] s5 _ H' _ S5 (hyes rfl a na)) (fun f s6 hsp => ?_) (fun _ _ z => False.elim z)
          have end_ : ∀ {σ6 : L2.St} {H6 : Hp} {Q : Shared → Prop}, Inv (X.suite a ((a, oe4) :: (X.pn ++ pins))) [] σ6 H6 s6 → (∀ s7, Inv X pins (σ6.set i none) H6 s7 → Q s7) →
              wpAny (model X.prog X.w) X.A (do bindName X.env n .none; unbindBehindTheSuite X.env n pos') (fun _ s7 => Q s7) X.xe s6 := fun {σ6 H6 Q} S6 hq => gone_ok (S6.unsuite ok) hN hi hln hq
          cases f with
          | next =>
            obtain ⟨σ6, H6, S6, q6⟩ := hsp
            exact end_ S6 fun s7 J7 => ⟨_, _, J7, q6⟩
          | brk =>
            obtain ⟨σ6, H6, S6, q6⟩ := hsp
            exact end_ S6 fun s7 J7 => ⟨_, _, J7, q6⟩
          | cont =>
            obtain ⟨σ6, H6, S6, q6⟩ := hsp
            exact end_ S6 fun s7 J7 => ⟨_, _, J7, q6⟩
          | ret u =>
            obtain ⟨v6, σ6, H6, S6, r6, q6⟩ := hsp
            exact end_ S6 fun s7 J7 => ⟨_, _, _, J7, r6, q6⟩
        | false =>
          show wpAny _ X.A (handleBy (.ref a) X.env hds2) _ _ _
          exact ih (hno rfl)
    exact go hh w
  · cases f with
    | next =>
      obtain ⟨σ', H', J', q⟩ := hsp
      exact wpAny_execs_nil ⟨σ', H', J'.ofTry ok, q⟩
    | brk =>
      obtain ⟨σ', H', J', q⟩ := hsp
      exact ⟨σ', H', J'.ofTry ok, q⟩
    | cont =>
      obtain ⟨σ', H', J', q⟩ := hsp
      exact ⟨σ', H', J'.ofTry ok, q⟩
    | ret u =>
      obtain ⟨v, σ', H', J', r, q⟩ := hsp
      exact ⟨v, σ', H', J'.ofTry ok, r, q⟩
end
end Fc

set_option Elab.async false
set_option linter.all false
set_option maxRecDepth 100000
set_option maxHeartbeats 4000000
/-! FcStm2: what the text's statements do is what the evaluator tells. -/
namespace Fc
open PySem PySem.Spec PyProof.Rows L2

section
variable (D : Dat) (K : PySem.W.Frag) (P : Program) (w : World) (ex : Ex) (bs : List Nat)
/-- what an outcome promises -/
def kS (o : Flow) (ρ : Nat → Addr) (st : St) (H : Hp) (J : Ends) (W : WX) : Prop := match o with
  | .next σ' st' => ∀ ρ' H' σc', Po D K P w bs ρ st H ρ' st' H' → SR D K P w ex bs ρ' H' σc' σ' st' → J.nx σc' H'
  | .brk σ' st' => ∀ ρ' H' σc', Po D K P w bs ρ st H ρ' st' H' → SR D K P w ex bs ρ' H' σc' σ' st' → J.bk σc' H'
  | .cnt σ' st' => ∀ ρ' H' σc', Po D K P w bs ρ st H ρ' st' H' → SR D K P w ex bs ρ' H' σc' σ' st' → J.ct σc' H'
  | .ret a st' => ∀ ρ' H' v, Po D K P w bs ρ st H ρ' st' H' → RA D K ρ' H' v a → a.bel st'.length = true → J.rt v H'
  | .exc c fs σ' st' => ∀ ρ' H' σc' cls d, Po D K P w bs ρ st H ρ' st' H' → SR D K P w ex bs ρ' H' σc' σ' st' → XR D K cls d H' c fs → W cls d σc' H'
  | .stuck => False
end
def tS (D : Dat) (X : Cx) (ex : Ex) (bs : List Nat) (W : WX) (f : Sl → St → Flow) : TS := fun J σc H => ∃ ρ σ st, SR D X.K X.prog X.w ex bs ρ H σc σ st ∧ kS D X.K X.prog X.w ex bs (f σ st) ρ st H J W
section
variable {D : Dat} {K : PySem.W.Frag} {P : Program} {w : World} {ex : Ex} {bs : List Nat} {ρ ρ1 : Nat → Addr} {st st1 : St} {H H1 : Hp} {J J' : Ends} {W : WX} {σc : L2.St} {σ : Sl}
theorem kS.step {o : Flow} (h : kS D K P w ex bs o ρ st H J W) (p : Po D K P w bs ρ st H ρ1 st1 H1) : kS D K P w ex bs o ρ1 st1 H1 J W := by
  cases o with
  | next σ' st' => exact fun ρ' H' σc' po s => h ρ' H' σc' (p.trans po) s
  | brk σ' st' => exact fun ρ' H' σc' po s => h ρ' H' σc' (p.trans po) s
  | cnt σ' st' => exact fun ρ' H' σc' po s => h ρ' H' σc' (p.trans po) s
  | ret a st' => exact fun ρ' H' v po s => h ρ' H' v (p.trans po) s
  | exc c fs σ' st' => exact fun ρ' H' σc' cls d po s => h ρ' H' σc' cls d (p.trans po) s
  | stuck => exact h
/-- an expression ahead -/
theorem kS.outF {o : Out A} {f : A → St → Flow} {Q : VK} (s : SR D K P w ex bs ρ H σc σ st) (h : kS D K P w ex bs (outF σ o f) ρ st H J W)
    (i : ∀ a st1 ρ1 H1 v, Po D K P w bs ρ st H ρ1 st1 H1 → RA D K ρ1 H1 v a → a.bel st1.length = true → kS D K P w ex bs (f a st1) ρ1 st1 H1 J W → Q v H1) : kE D K P w bs o ρ st H Q (WE W σc) := by
  cases o with
  | ok a st1 => exact fun ρ' H' v po r => i a st1 ρ' H' v po r.1 r.2 (kS.step (o := f a st1) h po)
  | exc c fs st' => exact fun ρ' H' cls d po x => h ρ' H' σc cls d po (s.step po) x
  | stuck => exact h
theorem kS.nx {σ' : Sl} {σc' : L2.St} (h : kS D K P w ex bs (.next σ' st) ρ st H J W) (s : SR D K P w ex bs ρ H σc' σ' st) : J.nx σc' H := h ρ H σc' (Po.refl s.ob) s
end
structure COs (D : Dat) (Z : Cfg) (X : Cx) (m : MC) (ex : Ex) (W : WX) : Prop extends CO D Z X m ex W where
  pas : m.calm = true → PassesOwn (model X.prog X.w) X.A X.env X.xe
  stk : X.stack = X.env :: X.outer
  frm : X.env.frame = some X.env.locals
  kd : X.env.scope.kind = .function
  mkx : m.calm = true → ∀ (pn : List (Addr × Obj)) (xe : Value → Shared → Prop) c cd, D.ct[c]? = some cd → ∀ (es : List Expr) (t : L2.TA) (p pos : Pos), (∀ e ∈ es, plE e = true) → Gl X cd.name → (cd.name == ("__debug__" : Str)) = false → PA (X.tr pn xe) es t →
    PMk (X.tr pn xe) (.Call (.Name cd.name p) es [] pos) (fun σ H Q => t σ H fun vs H1 => ∃ ps, RPs X.K H1 vs ps ∧ ps.length + 1 = cd.flds.length ∧ ∀ cls d H2, (∀ b o, H1 b = some o → H2 b = some o) → XR D X.K cls d H2 c (.str cd.word :: ps) → Q cls d H2)
/-! ### displays that are swapped -/
theorem sw_no {v : Expr} {x : Str} {p : Pos} {l : Nat} {env : Env} {sc : Scope} (hs : env.scope = sc) (h : swB sc v x p = false) (hp : plE v = true) : swapsWith v (some (.Name x p)) l env = pure false := by
  unfold swB at h
  split at h
  · rename_i elt gs s pos
    unfold swapsWith
    simp only
    show (pure (env.blockKind == .function && env.kindOf x == some .local && p.line == pos.line && !(s.names.any fun (n, k) => n == x && (k == .local || k == .cell))) : Sem Bool) = pure false
    congr 1
    have e1 : (env.kindOf x == some NameKind.local) = decide (sc.names.lookup x = some .local) := by
      show (env.scope.names.lookup x == some NameKind.local) = _
      rw [hs]
      cases sc.names.lookup x with
      | none => rfl
      | some k => cases k <;> rfl
    rw [e1]
    have h : (decide (sc.names.lookup x = some .local) && (p.line == pos.line) && !(s.names.any fun (n, k) => n == x && (k == .local || k == .cell))) = false := h
    rw [Bool.and_assoc, Bool.and_assoc]
    rw [Bool.and_assoc] at h
    rw [h, Bool.and_false]
  · cases v <;> first | rfl | (cases hp; done) | (rename_i hn _; exact absurd rfl (hn _ _ _ _)) | (rename_i hn; exact absurd rfl (hn _ _ _ _))
theorem sw_yes {elt : Expr} {gs : List Comprehension} {s : Scope} {pos p : Pos} {x : Str} {l : Nat} {env : Env} {sc : Scope} (hs : env.scope = sc) (hk : env.scope.kind = .function) (h : swB sc (.ListComp elt gs s pos) x p = true) :
    sc.names.lookup x = some .local ∧ swapsWith (.ListComp elt gs s pos) (some (.Name x p)) l env = pure true := by
  have h : (decide (sc.names.lookup x = some .local) && (p.line == pos.line) && !(s.names.any fun (n, k) => n == x && (k == .local || k == .cell))) = true := h
  simp only [Bool.and_eq_true, decide_eq_true_eq, Bool.not_eq_true'] at h
  obtain ⟨⟨h1, h2⟩, h3⟩ := h
  exact ⟨h1, sw_true hk (by rw [hs]; exact h1) h2 h3⟩
theorem swB_lc {sc : Scope} {v : Expr} {x : Str} {p : Pos} (h : swB sc v x p = true) : ∃ elt gs s pos, v = .ListComp elt gs s pos := by
  unfold swB at h
  split at h
  · exact ⟨_, _, _, _, rfl⟩
  · cases h
/-! ### statement by statement -/
section
variable {D : Dat} {Z : Cfg} {X : Cx} {m : MC} {ex : Ex} {W : WX} {bs : List Nat}
theorem st_skip {s : Stmt} (h : mS D m .skip s = true) : PS X s (tS D X ex bs W (evS Z bs .skip)) := by
  unfold mS at h
  split at h
  · exact PSimp ps_pass fun J σc H ⟨ρ, σ, st, sr, q⟩ => by rw [evS] at q; exact kS.nx q sr
  · cases h
theorem st_nil {l : List Stmt} (h : mSs D m .skip l = true) : PSs X l (tS D X ex bs W (evS Z bs .skip)) := by
  rw [mSs] at h
  cases l with
  | nil => exact PSsimp pss_nil fun J σc H ⟨ρ, σ, st, sr, q⟩ => by rw [evS] at q; exact kS.nx q sr
  | cons _ _ => cases h
theorem st_seq {a b : S} {x : Stmt} {xs : List Stmt} (ha : PS X x (tS D X ex bs W (evS Z bs a))) (hb : PSs X xs (tS D X ex bs W (evS Z bs b))) : PSs X (x :: xs) (tS D X ex bs W (evS Z bs (.seq a b))) := by
  refine PSsimp (pss_cons ha hb) fun J σc H ⟨ρ, σ, st, sr, q⟩ => ⟨ρ, σ, st, sr, ?_⟩
  rw [evS] at q
  generalize evS Z bs a σ st = o at q
  cases o with
  | next σ' st' => exact fun ρ' H' σc' po s' => ⟨ρ', σ', st', s', kS.step (o := evS Z bs b σ' st') q po⟩
  | brk σ' st' => exact q
  | cnt σ' st' => exact q
  | ret a st' => exact q
  | exc c fs σ' st' => exact q
  | stuck => exact q
theorem gName_red {i : Nat} {v : V} {a : A} {ρ : Nat → Addr} {st : St} {σ : Sl} {σc : L2.St} {H : Hp} {J : Ends} (sr : SR D X.K X.prog X.w ex bs ρ H σc σ st) (r : RA D X.K ρ H v a) (b : a.bel st.length = true)
    (q : kS D X.K X.prog X.w ex bs (.next (σ.set i (some a)) st) ρ st H J W) : gName i v σc H J.nx := kS.nx q (sr.set i r b)
theorem st_set (co : COs D Z X m ex W) {i : Nat} {e : C} {s : Stmt} (h : mS D m (.set i e) s = true) : PS X s (tS D X ex bs W (evS Z bs (.set i e))) := by
  unfold mS at h
  split at h
  · rename_i x p v hv
    obtain ⟨pos, rfl⟩ := vAsg_eq hv
    simp only [Bool.and_eq_true, decide_eq_true_eq] at h
    obtain ⟨⟨⟨h1, h2⟩, h3⟩, h4⟩ := h
    obtain ⟨l1, l2⟩ := locB_ok h2
    have red : ∀ {J : Ends} {σc : L2.St} {H : Hp}, tS D X ex bs W (evS Z bs (.set i e)) J σc H → tAsg (tE D X ex bs W (evE Z bs e)) (gName i) J σc H := fun {J σc H} ⟨ρ, σ, st, sr, q⟩ => by
      rw [evS] at q
      exact ⟨ρ, σ, st, sr, kS.outF sr q fun a st1 ρ1 H1 v po r b q1 => gName_red (sr.step po) r b q1⟩
    cases hsw : swB m.sc v x p with
    | false => exact PSimp (ps_set (by rw [co.N]; exact co.nd) (by rw [co.N]; exact h1) (by rw [co.sc]; exact l1) ((snd (bs := bs) e).e co.toCO v h3) (sw_no co.sc hsw (mE_pl h3)) (by rw [co.sc]; rcases l2 with z | z; exact .inl (co.fn _ z); exact .inr z)) fun J σc H q => red q
    | true =>
      rw [hsw] at h4
      obtain ⟨elt, gs, sc', pos', rfl⟩ := swB_lc hsw
      cases e with
      | comp qq =>
        obtain ⟨hl, hy⟩ := sw_yes (l := pos.line) co.sc co.kd hsw
        rw [mE] at h3
        cases qq with
        | cq elt' ts it cond own =>
          have g := s_cqA (bs := bs) co.toCO (mI_sound (snd it) co.toCO) (fun co' => (snd elt').e co') (fun co' => (snd cond).t co') h3
          obtain ⟨elt2, tg, iter, ifs, scope, pos2, own2, wi, gg, tt, te, e1, hc, hi, ok, hg, ht, he, hs, hred⟩ := g
          cases e1
          refine PSimp (ps_setLc hc (by rw [co.N]; exact co.nd) (by rw [co.N]; exact h1) (by rw [co.sc]; exact hl) hy hi ok hg ht he hs) fun J σc H q => ?_
          obtain ⟨ρ, σ, st, sr, q⟩ := red q
          refine hred _ _ _ ⟨ρ, σ, st, sr, ?_⟩
          rw [evE] at q
          generalize evL Z bs _ σ st = o at q
          cases o with
          | ok xs st' =>
            intro ρ' H' L vs po h0 h1 hu r b
            obtain ⟨p, ra⟩ := po.adopt h0 h1 hu r b
            exact q _ H' _ p ⟨ra, by simp [A.bel]⟩
          | exc c fs st' => exact q
          | stuck => exact q
        | _ => unfold mQ at h3; cases h3
      | _ => simp [isComp] at h4
  · cases h
theorem notDisp_pl {v : Expr} (h : notDisp v = true) {t : Expr} {l : Nat} {env : Env} : swapsWithSole [t] v l env = pure false ∧ ∀ es k p, swappedStores [.Tuple es k p] v env = pure none := by
  cases v <;> first | (cases h; done) | exact ⟨rfl, fun es k p => rfl⟩
theorem st_sett (co : COs D Z X m ex W) {is : List Nat} {e : C} {s : Stmt} (h : mS D m (.sett is e) s = true) : PS X s (tS D X ex bs W (evS Z bs (.sett is e))) := by
  unfold mS at h
  split at h
  · rename_i t v hv
    obtain ⟨pos, rfl⟩ := vAsg_eq hv
    rw [Bool.and_eq_true] at h
    obtain ⟨hcm, h⟩ := h
    split at h
    · rename_i es ht
      obtain ⟨k, p, rfl⟩ := vTup_eq ht
      simp only [Bool.and_eq_true, decide_eq_true_eq] at h
      obtain ⟨⟨⟨h1, h2⟩, h3⟩, h4⟩ := h
      obtain ⟨hc, _⟩ := co.calm hcm
      obtain ⟨g1, g2⟩ := notDisp_pl h4 (t := .Tuple es k p) (l := pos.line) (env := X.env)
      have hg : PG X (.Tuple es k p) (gT X.K is) := pg_tg hc co.N co.sc co.nd co.fn (by unfold tgIs; simp only [vTup]; rw [Bool.and_eq_true, decide_eq_true_eq]; exact ⟨h1, h2⟩)
      refine PSimp (ps_asg ((snd (bs := bs) e).e co.toCO v h3) hg g1 (g2 es k p) rfl) fun J σc H ⟨ρ, σ, st, sr, q⟩ => ⟨ρ, σ, st, sr, ?_⟩
      rw [evS] at q
      refine kS.outF sr q fun a st1 ρ1 H1 v po r b q1 => ?_
      split at q1
      · rename_i σ' eb
        obtain ⟨vs, gQ, sσ⟩ := gT_red (sr.step po) r b eb
        exact gQ _ (kS.nx q1 sσ)
      · exact q1.elim
    · cases h
  · cases h
theorem st_aug (co : COs D Z X m ex W) {i : Nat} {op : BOp} {e : C} {s : Stmt} (h : mS D m (.aug i op e) s = true) : PS X s (tS D X ex bs W (evS Z bs (.aug i op e))) := by
  unfold mS at h
  split at h
  · rename_i x p o v pos
    simp only [Bool.and_eq_true, decide_eq_true_eq] at h
    obtain ⟨⟨⟨⟨rfl, h0⟩, h1⟩, h2⟩, h3⟩ := h
    obtain ⟨l1, l2⟩ := locB_ok h2
    have ip : PIp X op.op (rr2 D X.K X.prog X.w bs fun x y st => Out.of st (augop op x y)) := by
      intro pins s σ H x y v u Q I rx ry hq
      obtain ⟨ρ, st, a, b, o, ra, ba, rb, bb, q⟩ := hq
      obtain ⟨c, hc, q⟩ := of_opt o q
      unfold augop at hc
      split at hc
      · cases hc; cases ra with | p ra => cases ra; cases rb with | p rb => cases rb; exact iop_add pins s σ H _ _ v u Q I rx ry ⟨_, _, rfl, rfl, q.plain o (.int _)⟩
      · cases hc; cases ra with | p ra => cases ra; cases rb with | p rb => cases rb; exact iop_sub pins s σ H _ _ v u Q I rx ry ⟨_, _, rfl, rfl, q.plain o (.int _)⟩
      · cases hc
    refine PSimp (ps_aug (i := i) (by rw [co.N]; exact co.nd) (by rw [co.N]; exact h1) (by rw [co.sc]; exact l1) ((snd (bs := bs) e).e co.toCO v h3) ip (by rw [co.sc]; rcases l2 with z | z; exact .inl (co.fn _ z); exact .inr z)) fun J σc H ⟨ρ, σ, st, sr, q⟩ => ?_
    rw [evS] at q
    split at q
    · rename_i xv hx
      by_cases hn : ∃ c fs, xv = .exn c fs
      · obtain ⟨c, fs, rfl⟩ := hn
        obtain ⟨v, hv1, _⟩ := sr.sl _ _ hx
        refine ⟨v, hv1, ρ, σ, st, sr, kS.outF sr q fun a st1 ρ1 H1 v1 po r b q1 => ?_⟩
        have e1 : augop op (.exn c fs) a = none := by unfold augop; cases op <;> rfl
        rw [e1] at q1
        exact q1.elim
      · obtain ⟨v, hv1, rv, bv⟩ := sr.var hx fun c fs z => hn ⟨c, fs, z⟩
        refine ⟨v, hv1, ρ, σ, st, sr, kS.outF sr q fun a st1 ρ1 H1 v1 po r b q1 => ?_⟩
        obtain ⟨rv1, bv1⟩ := po.ra sr.ob rv bv
        refine ⟨ρ1, st1, xv, a, po.ob, rv1, bv1, r, b, ?_⟩
        exact kE.kO (kS.outF (sr.step po) q1 fun z st2 ρ2 H2 zv po2 rz bz q2 => kS.nx q2 (((sr.step po).step po2).set i rz bz)) (Out.of_nx)
    · exact q.elim
  · cases h
theorem pl_asg {o i : Expr} {p : Pos} {env : Env} {v : Value} (h : plE i = true) : assign (.Subscript o i p) env v = (do
      let ov ← holding [v] (eval o env)
      let iv ← holding [v, ov] (eval i env)
      standAt p
      holding [v, ov, iv] (setItem ov iv v)
      release [v, ov, iv] []) := by
  cases i <;> first | rfl | (cases h; done)
theorem st_setix (co : COs D Z X m ex W) {o i e : C} {s : Stmt} (h : mS D m (.setix o i e) s = true) : PS X s (tS D X ex bs W (evS Z bs (.setix o i e))) := by
  unfold mS at h
  split at h
  · rename_i t v hv
    obtain ⟨pos, rfl⟩ := vAsg_eq hv
    split at h
    · rename_i x y ht
      obtain ⟨p, rfl⟩ := vSub_eq ht
      simp only [Bool.and_eq_true] at h
      obtain ⟨⟨⟨h1, h2⟩, h3⟩, h4⟩ := h
      have hsw : swapsWithSole [.Subscript x y p] v pos.line X.env = pure false := by cases v <;> first | rfl | (cases h4; done)
      have hst : swappedStores [.Subscript x y p] v X.env = pure none := by cases v <;> rfl
      refine PSimp (ps_asg ((snd (bs := bs) e).e co.toCO v h3) (pg_sub ((snd (bs := bs) o).e co.toCO x h1) ((snd (bs := bs) i).e co.toCO y h2) (set_ix (D := D) (bs := bs) co.hu) (fun v => pl_asg (mE_pl h2))) hsw hst rfl) fun J σc H ⟨ρ, σ, st, sr, q⟩ => ⟨ρ, σ, st, sr, ?_⟩
      rw [evS] at q
      refine kS.outF sr q fun a st1 ρ1 H1 v po r b q1 => ⟨ρ1, σ, st1, sr.step po, ?_⟩
      refine kS.outF (sr.step po) q1 fun a2 st2 ρ2 H2 v2 po2 r2 b2 q2 => ⟨ρ2, σ, st2, (sr.step po).step po2, ?_⟩
      refine kS.outF ((sr.step po).step po2) q2 fun a3 st3 ρ3 H3 v3 po3 r3 b3 q3 => ?_
      obtain ⟨ra, ba⟩ := (po2.trans po3).ra po.ob r b
      obtain ⟨rb, bb⟩ := po3.ra po2.ob r2 b2
      refine ⟨ρ3, st3, a2, a3, a, po3.ob, rb, r3, ra, ba, ?_⟩
      split at q3
      · rename_i st4 e4
        try rw [e4]
        intro ρ' H' po4
        exact kS.nx (kS.step q3 po4) ((((sr.step po).step po2).step po3).step po4)
      · exact q3.elim
    · cases h
  · cases h
theorem st_ex (co : COs D Z X m ex W) {e : C} {s : Stmt} (h : mS D m (.ex e) s = true) : PS X s (tS D X ex bs W (evS Z bs (.ex e))) := by
  unfold mS at h
  split at h
  · rename_i v pos
    simp only [Bool.and_eq_true] at h
    have hs : swapsWith v none pos.line X.env = pure false := by cases v <;> first | rfl | (cases h.2; done)
    refine PSimp (ps_expr ((snd (bs := bs) e).e co.toCO v h.1) hs) fun J σc H ⟨ρ, σ, st, sr, q⟩ => ⟨ρ, σ, st, sr, ?_⟩
    rw [evS] at q
    exact kS.outF sr q fun a st1 ρ1 H1 v po r b q1 => kS.nx q1 (sr.step po)
  · cases h
theorem st_ret (co : COs D Z X m ex W) {e : C} {s : Stmt} (h : mS D m (.ret e) s = true) : PS X s (tS D X ex bs W (evS Z bs (.ret e))) := by
  unfold mS at h
  split at h
  · rename_i v pos
    refine PSimp (ps_ret ((snd (bs := bs) e).e co.toCO v h)) fun J σc H ⟨ρ, σ, st, sr, q⟩ => ⟨ρ, σ, st, sr, ?_⟩
    rw [evS] at q
    exact kS.outF sr q fun a st1 ρ1 H1 v po r b q1 => q1 ρ1 H1 v (Po.refl po.ob) r b
  · cases h
theorem st_retn {s : Stmt} (h : mS D m .retn s = true) : PS X s (tS D X ex bs W (evS Z bs .retn)) := by
  unfold mS at h
  split at h
  · refine PSimp ps_retN fun J σc H ⟨ρ, σ, st, sr, q⟩ => ?_
    rw [evS] at q
    exact q ρ H .non (Po.refl sr.ob) (.p .non) rfl
  · cases h
theorem st_brk {s : Stmt} (h : mS D m .brk s = true) : PS X s (tS D X ex bs W (evS Z bs .brk)) := by
  unfold mS at h
  split at h
  · refine PSimp ps_break fun J σc H ⟨ρ, σ, st, sr, q⟩ => ?_
    rw [evS] at q
    exact q ρ H σc (Po.refl sr.ob) sr
  · cases h
theorem st_cnt {s : Stmt} (h : mS D m .cnt s = true) : PS X s (tS D X ex bs W (evS Z bs .cnt)) := by
  unfold mS at h
  split at h
  · refine PSimp ps_continue fun J σc H ⟨ρ, σ, st, sr, q⟩ => ?_
    rw [evS] at q
    exact q ρ H σc (Po.refl sr.ob) sr
  · cases h
theorem st_ite (co : COs D Z X m ex W) {t : C} {a b : S} {s : Stmt} (ha : ∀ l, mSs D m a l = true → PSs X l (tS D X ex bs W (evS Z bs a))) (hb : ∀ l, mSs D m b l = true → PSs X l (tS D X ex bs W (evS Z bs b))) (h : mS D m (.ite t a b) s = true) :
    PS X s (tS D X ex bs W (evS Z bs (.ite t a b))) := by
  unfold mS at h
  split at h
  · rename_i x y z pos
    simp only [Bool.and_eq_true] at h
    obtain ⟨⟨⟨h1, h2⟩, h3⟩, h4⟩ := h
    refine PSimp (ps_if ((snd (bs := bs) t).t co.toCO h1 x h2) (ha y h3) (hb z h4)) fun J σc H ⟨ρ, σ, st, sr, q⟩ => ⟨ρ, σ, st, sr, ?_⟩
    rw [evS] at q
    refine kS.outF sr q fun v st1 ρ1 H1 vv po r b q1 => ?_
    split at q1
    · rename_i e
      exact ⟨true, kE.tru (P := X.prog) (w := X.w) (st := st1) e r, by simp only [if_true]; exact ⟨ρ1, σ, st1, sr.step po, q1⟩⟩
    · rename_i e
      exact ⟨false, kE.tru (P := X.prog) (w := X.w) (st := st1) e r, by simp only [Bool.false_eq_true, if_false]; exact ⟨ρ1, σ, st1, sr.step po, q1⟩⟩
    · exact q1.elim
  · cases h
end
end Fc

set_option Elab.async false
set_option linter.all false
set_option maxRecDepth 100000
set_option maxHeartbeats 4000000
/-! FcStm3: loops, raise, try, dropped objects. -/
namespace Fc
open PySem PySem.Spec PyProof.Rows L2
section
variable {D : Dat} {Z : Cfg} {X : Cx} {m : MC} {ex : Ex} {W : WX} {bs : List Nat}
theorem st_whil (co : COs D Z X m ex W) {t : C} {b : S} {s : Stmt} (hb : ∀ l, mSs D m b l = true → PSs X l (tS D X ex bs W (evS Z bs b))) (h : mS D m (.whil t b) s = true) : PS X s (tS D X ex bs W (evS Z bs (.whil t b))) := by
  unfold mS at h
  split at h
  · rename_i x y hv
    obtain ⟨pos, rfl⟩ := vWhile_eq hv
    simp only [Bool.and_eq_true] at h
    obtain ⟨⟨⟨h0, h1⟩, h2⟩, h3⟩ := h
    refine PSimp (ps_while (co.pas h0) ((snd (bs := bs) t).t co.toCO h1 x h2) (hb y h3)) fun J σc H ⟨ρ, σ, st, sr, q⟩ => ?_
    rw [evS] at q
    refine ⟨fun n σc' H' => ∃ ρ' σ' st', SR D X.K X.prog X.w ex bs ρ' H' σc' σ' st' ∧ kS D X.K X.prog X.w ex bs (whileL (evE Z bs t) (evS Z bs b) n σ' st') ρ' st' H' J W, ⟨loopMax, ρ, σ, st, sr, q⟩, ?_⟩
    rintro n σc' H' ⟨ρ', σ', st', sr', q'⟩
    cases n with
    | zero => exact q'.elim
    | succ n =>
      refine ⟨ρ', σ', st', sr', ?_⟩
      rw [whileL] at q'
      generalize evE Z bs t σ' st' = o at q'
      cases o with
      | exc c fs st1 => exact fun ρ1 H1 cls d po x => q' ρ1 H1 σc' cls d po (sr'.step po) x
      | stuck => exact q'
      | ok v st1 =>
        intro ρ1 H1 vv po r
        have q' : kS D X.K X.prog X.w ex bs (match tru v with
          | some true => (match evS Z bs b σ' st1 with
            | .next σ st => whileL (evE Z bs t) (evS Z bs b) n σ st
            | .cnt σ st => whileL (evE Z bs t) (evS Z bs b) n σ st
            | .brk σ st => .next σ st
            | r => r)
          | some false => .next σ' st1
          | none => .stuck) ρ' st' H' J W := q'
        split at q'
        · rename_i e
          refine ⟨true, kE.tru (P := X.prog) (w := X.w) (st := st1) e r.1, ?_⟩
          simp only [if_true]
          refine ⟨fun σc2 H2 => ∃ ρ2 σ2 st2, SR D X.K X.prog X.w ex bs ρ2 H2 σc2 σ2 st2 ∧ kS D X.K X.prog X.w ex bs (whileL (evE Z bs t) (evS Z bs b) n σ2 st2) ρ2 st2 H2 J W, fun σc2 H2 hN => ⟨n, Nat.lt_succ_self n, hN⟩, ρ1, σ', st1, sr'.step po, ?_⟩
          generalize evS Z bs b σ' st1 = o2 at q'
          cases o2 with
          | next σ2 st2 => exact fun ρ2 H2 σc2 po2 s2 => ⟨ρ2, σ2, st2, s2, kS.step (o := whileL (evE Z bs t) (evS Z bs b) n σ2 st2) q' (po.trans po2)⟩
          | cnt σ2 st2 => exact fun ρ2 H2 σc2 po2 s2 => ⟨ρ2, σ2, st2, s2, kS.step (o := whileL (evE Z bs t) (evS Z bs b) n σ2 st2) q' (po.trans po2)⟩
          | brk σ2 st2 => exact fun ρ2 H2 σc2 po2 s2 => q' ρ2 H2 σc2 (po.trans po2) s2
          | ret a st2 => exact fun ρ2 H2 v2 po2 r2 b2 => q' ρ2 H2 v2 (po.trans po2) r2 b2
          | exc c fs σ2 st2 => exact fun ρ2 H2 σc2 cls d po2 s2 x => q' ρ2 H2 σc2 cls d (po.trans po2) s2 x
          | stuck => exact q'
        · rename_i e
          refine ⟨false, kE.tru (P := X.prog) (w := X.w) (st := st1) e r.1, ?_⟩
          simp only [Bool.false_eq_true, if_false]
          exact q' ρ1 H1 σc' po (sr'.step po)
        · exact q'.elim
  · cases h
theorem mI_pl {it : C} {e : Expr} (h : mI D m it e = true) : plE e = true := by
  unfold mI at h
  split at h
  · unfold mR at h
    split at h
    · unfold rgArgs at h
      cases hv : vCall e with
      | none => rw [hv] at h; cases h
      | some yx =>
        obtain ⟨p, q, rfl⟩ := vCall_eq (x := yx.1) (es := yx.2) hv
        rfl
    · cases h
  · exact mE_pl h
theorem st_for (co : COs D Z X m ex W) {ts : List Nat} {it : C} {b : S} {s : Stmt} (hb : ∀ l, mSs D m b l = true → PSs X l (tS D X ex bs W (evS Z bs b))) (h : mS D m (.for_ ts it b) s = true) : PS X s (tS D X ex bs W (evS Z bs (.for_ ts it b))) := by
  unfold mS at h
  split at h
  · rename_i x y z hv
    obtain ⟨pos, rfl⟩ := vFor_eq hv
    simp only [Bool.and_eq_true] at h
    obtain ⟨⟨⟨h0, h1⟩, h2⟩, h3⟩ := h
    obtain ⟨hc, _⟩ := co.calm h0
    refine PSimp (ps_for (co.pas h0) hc (mI_sound (bs := bs) (snd it) co.toCO x y h2) (pg_tg hc co.N co.sc co.nd co.fn h1) (hb z h3) (pl_fold (mI_pl h2))) fun J σc H ⟨ρ, σ, st, sr, q⟩ => ⟨ρ, σ, st, sr, ?_⟩
    rw [evS] at q
    generalize evE Z bs it σ st = o at q
    cases o with
    | exc c fs st1 => exact fun ρ1 H1 cls d po x => q ρ1 H1 σc cls d po (sr.step po) x
    | stuck => exact q
    | ok v st1 =>
      have q : kS D X.K X.prog X.w ex bs (match walkOf v st1 with
        | some (xs, g) => forL g ts (evS Z bs b) xs σ st1
        | none => .stuck) ρ st H J W := q
      show (match walkOf v st1 with
        | some (xs, g) => ∀ ρ' H' J', Po D X.K X.prog X.w bs ρ st H ρ' st1 H' → Feeds D X.K X.prog X.w bs ρ' st1 H' xs g J' → _
        | none => False)
      split at q
      · rename_i xs g ew
        intro ρ1 H1 I po1 fd
        refine ⟨fun i mm σc' H' => mm = xs.length - i ∧ i ≤ xs.length ∧ ∃ ρ' σ' st', SR D X.K X.prog X.w ex bs ρ' H' σc' σ' st' ∧ Po D X.K X.prog X.w bs ρ1 st1 H1 ρ' st' H' ∧ kS D X.K X.prog X.w ex bs (forL g ts (evS Z bs b) (xs.drop i) σ' st') ρ' st' H' J W,
          ⟨xs.length, by simp, Nat.zero_le _, ρ1, σ, st1, sr.step po1, Po.refl po1.ob, kS.step (by simpa using q) po1⟩, ?_⟩
        rintro i mm σc' H' ⟨rfl, hle, ρ', σ', st', sr', po, q⟩
        by_cases hi : i < xs.length
        · rw [List.drop_eq_getElem_cons hi, forL] at q
          split at q
          · rename_i hst
            obtain ⟨_, hfd⟩ := fd ρ' st' H' po hst
            obtain ⟨hgo, hy⟩ := hfd i _ (List.getElem?_eq_getElem hi)
            refine .inr ⟨hgo, _, fun σc2 H2 hN => ⟨xs.length - (i + 1), by omega, hN⟩, fun x' H'' hyl => ?_⟩
            obtain ⟨po2, rx, bx⟩ := hy x' H'' hyl
            split at q
            · rename_i σ2 eb
              obtain ⟨us, gQ, sσ⟩ := gT_red (sr'.step po2) rx bx eb
              refine gQ _ ⟨ρ', σ2, st', sσ, ?_⟩
              generalize evS Z bs b σ2 st' = o2 at q
              cases o2 with
              | next σ3 st3 => exact fun ρ3 H3 σc3 po3 s3 => ⟨(by first | rfl | trivial), by omega, ρ3, σ3, st3, s3, po.trans (po2.trans po3), kS.step (o := forL g ts (evS Z bs b) _ σ3 st3) q (po2.trans po3)⟩
              | cnt σ3 st3 => exact fun ρ3 H3 σc3 po3 s3 => ⟨(by first | rfl | trivial), by omega, ρ3, σ3, st3, s3, po.trans (po2.trans po3), kS.step (o := forL g ts (evS Z bs b) _ σ3 st3) q (po2.trans po3)⟩
              | brk σ3 st3 => exact fun ρ3 H3 σc3 po3 s3 => q ρ3 H3 σc3 (po2.trans po3) s3
              | ret a st3 => exact fun ρ3 H3 v3 po3 r3 b3 => q ρ3 H3 v3 (po2.trans po3) r3 b3
              | exc c fs σ3 st3 => exact fun ρ3 H3 σc3 cls d po3 s3 x => q ρ3 H3 σc3 cls d (po2.trans po3) s3 x
              | stuck => exact q
            · exact q.elim
          · exact q.elim
        · have ei : i = xs.length := by omega
          subst ei
          rw [List.drop_length, forL] at q
          split at q
          · rename_i hst
            obtain ⟨hstop, _⟩ := fd ρ' st' H' po hst
            exact .inl ⟨hstop, kS.nx q sr'⟩
          · exact q.elim
      · exact q.elim
  · cases h
/-! ### raise -/
theorem Po.keep {K : PySem.W.Frag} {P : Program} {w : World} {ρ : Nat → Addr} {st : St} {H H1 : Hp} (o : OR D K P w bs ρ H st) (h : ∀ b u, H b = some u → H1 b = some u) : Po D K P w bs ρ st H ρ st H1 := by
  have ext : Ext H H1 := ⟨fun b xs z => h b _ z, fun b o u z => h b _ z, fun b fs z => h b _ z⟩
  refine ⟨fun _ _ => rfl, Nat.le_refl _, fun b u z _ => h b u z, fun j h1 h2 => absurd h2 (by omega), ⟨fun j u z => ?_, o.low, o.inj⟩⟩
  obtain ⟨h1, h2⟩ := o.obj j u z
  obtain ⟨hq, t, _⟩ := id h1.kind
  exact ⟨h1.mono ext (fun _ _ => rfl) ((h _ _ t).trans t.symm) h2, h2⟩
theorem mEs_plAll : ∀ {c : C} {es : List Expr}, mEs D m c es = true → ∀ e ∈ es, plE e = true := by
  intro c
  induction c with
  | nil => intro es h; rw [mEs] at h; cases es with | nil => intro e he; cases he | cons _ _ => cases h
  | cons a r iha ihr =>
    intro es h e he
    cases es with
    | nil => cases he
    | cons x xs =>
      rw [mEs, Bool.and_eq_true] at h
      rcases List.mem_cons.mp he with rfl | he
      · exact mE_pl h.1
      · exact ihr h.2 e he
  | _ => intro es h; unfold mEs at h; cases h
theorem st_raise (co : COs D Z X m ex W) {c : Nat} {es : C} {s : Stmt} (h : mS D m (.raise c es) s = true) : PS X s (tS D X ex bs W (evS Z bs (.raise c es))) := by
  unfold mS at h
  split at h
  · rename_i e hv
    obtain ⟨pos, rfl⟩ := vRaise_eq hv
    rw [Bool.and_eq_true] at h
    obtain ⟨h0, h⟩ := h
    split at h
    · rename_i x xs hv2
      obtain ⟨p, pos2, rfl⟩ := vCall_eq hv2
      simp only [Bool.and_eq_true, decide_eq_true_eq] at h
      obtain ⟨⟨⟨h1, h2⟩, h3⟩, h4⟩ := h
      obtain ⟨cd, hcd, rfl⟩ := Option.map_eq_some_iff.mp h1
      obtain ⟨hc, _⟩ := co.calm h0
      refine PSimp (ps_raise hc co.tk (co.mkx h0 X.pn X.xe c cd hcd xs _ p pos2 (mEs_plAll h4) (glB_ok co.sc h2) (okName_ok h3).1 ((snd (bs := bs) es).es co.toCO xs h4))) fun J σc H ⟨ρ, σ, st, sr, q⟩ => ⟨ρ, σ, st, sr, ?_⟩
      rw [evS] at q
      generalize evEs Z bs es σ st = o at q
      cases o with
      | exc c fs st1 => exact fun ρ1 H1 cls d po x => q ρ1 H1 σc cls d po (sr.step po) x
      | stuck => exact q
      | ok as st1 =>
        intro ρ1 H1 vs po r
        have q : kS D X.K X.prog X.w ex bs (match A.pure? as, Z.ct[c]? with
          | some ps, some cd => if ps.length + 1 = cd.flds.length then .exc c (.str cd.word :: ps) σ st1 else .stuck
          | _, _ => .stuck) ρ st H J W := q
        rw [co.ct, hcd] at q
        cases hp : A.pure? as with
        | none => rw [hp] at q; exact q.elim
        | some ps =>
          rw [hp] at q
          by_cases hl : ps.length + 1 = cd.flds.length
          · have q : kS D X.K X.prog X.w ex bs (if ps.length + 1 = cd.flds.length then .exc c (.str cd.word :: ps) σ st1 else .stuck) ρ st H J W := q
            rw [if_pos hl] at q
            refine ⟨ps, r.1.pure hp, hl, fun cls d H2 hk x => ?_⟩
            have po2 := po.trans (Po.keep po.ob hk)
            exact q ρ1 H2 σc cls d po2 (sr.step po2) x
          · have q : kS D X.K X.prog X.w ex bs (if ps.length + 1 = cd.flds.length then .exc c (.str cd.word :: ps) σ st1 else .stuck) ρ st H J W := q
            rw [if_neg hl] at q
            exact q.elim
    · cases h
  · cases h
/-! ### what is dropped -/
theorem OR.gc {K : PySem.W.Frag} {P : Program} {w : World} {ρ : Nat → Addr} {st : St} {H : Hp} (o : OR D K P w bs ρ H st) : OR D K P w (st.length :: bs) ρ H st := ⟨o.obj, fun b hb => by
  rcases List.mem_cons.mp hb with rfl | hb
  · exact ⟨Nat.le_refl _, fun j u _ h => (o.obj j u h).2⟩
  · exact o.low b hb, o.inj⟩
theorem OR.ungc {K : PySem.W.Frag} {P : Program} {w : World} {ρ : Nat → Addr} {st : St} {H : Hp} {n : Nat} (o : OR D K P w (n :: bs) ρ H st) : OR D K P w bs ρ H st := ⟨o.obj, fun b hb => o.low b (List.mem_cons_of_mem _ hb), o.inj⟩
theorem Po.ungc {K : PySem.W.Frag} {P : Program} {w : World} {ρ ρ1 : Nat → Addr} {st st1 : St} {H H1 : Hp} {n : Nat} (p : Po D K P w (n :: bs) ρ st H ρ1 st1 H1) : Po D K P w bs ρ st H ρ1 st1 H1 := ⟨p.ag, p.le, p.fr, p.new, p.ob.ungc⟩
theorem Po.cut {K : PySem.W.Frag} {P : Program} {w : World} {ρ ρ1 : Nat → Addr} {st st1 : St} {H H1 : Hp} (o : OR D K P w bs ρ H st) (p : Po D K P w (st.length :: bs) ρ st H ρ1 st1 H1) : Po D K P w bs ρ st H ρ1 (st1.take st.length) H1 := by
  have hl : (st1.take st.length).length = st.length := by rw [List.length_take]; exact Nat.min_eq_left p.le
  refine ⟨p.ag, by rw [hl]; exact Nat.le_refl _, p.fr, fun j h1 h2 => by rw [hl] at h2; omega, ⟨fun j u h => ?_, fun b hb => ?_, fun i j hi hj e => ?_⟩⟩
  · have hj : j < st.length := by
      have := (List.getElem?_eq_some_iff.mp h).1
      rw [hl] at this; exact this
    rw [List.getElem?_take_of_lt hj] at h
    obtain ⟨h1, h2⟩ := p.ob.obj j u h
    rw [hl]
    exact ⟨h1, (p.ob.low st.length List.mem_cons_self).2 j u hj h⟩
  · rw [hl]
    refine ⟨(o.low b hb).1, fun j u hj h => ?_⟩
    have hj2 : j < st.length := Nat.lt_of_lt_of_le hj (o.low b hb).1
    rw [List.getElem?_take_of_lt hj2] at h
    exact (p.ob.low b (List.mem_cons_of_mem _ hb)).2 j u hj h
  · rw [hl] at hi hj
    exact p.ob.inj i j (Nat.lt_of_lt_of_le hi p.le) (Nat.lt_of_lt_of_le hj p.le) e
theorem SR.clean {K : PySem.W.Frag} {P : Program} {w : World} {ρ ρ1 : Nat → Addr} {st st1 : St} {H H1 : Hp} {σc : L2.St} {σ : Sl} (o : OR D K P w bs ρ H st) (p : Po D K P w (st.length :: bs) ρ st H ρ1 st1 H1) (s : SR D K P w ex (st.length :: bs) ρ1 H1 σc σ st1) :
    SR D K P w ex bs ρ1 H1 σc (cleanS st.length σ) (st1.take st.length) := by
  have hl : (st1.take st.length).length = st.length := by rw [List.length_take]; exact Nat.min_eq_left p.le
  refine ⟨fun i a e => ?_, (p.cut o).ob, by unfold cleanS; rw [List.length_map]; exact s.len⟩
  unfold cleanS at e
  rw [List.getElem?_map] at e
  obtain ⟨x, hx, e⟩ := Option.map_eq_some_iff.mp e
  split at e
  · rename_i b
    split at e
    · rename_i hb
      cases e
      obtain ⟨v, h1, h2⟩ := s.sl i a hx
      refine ⟨v, h1, ?_⟩
      rw [hl]
      rcases h2 with ⟨h2, _⟩ | h2
      · exact .inl ⟨h2, hb⟩
      · exact .inr h2
    · cases e
  · cases e
theorem st_gc (co : COs D Z X m ex W) {b : S} {x : Stmt} (hb : ∀ bs, PS X x (tS D X ex bs W (evS Z bs b))) : PS X x (tS D X ex bs W (evS Z bs (.gc b))) := by
  refine ⟨fun pins s0 σc H J I ⟨ρ, σ, st, sr, q⟩ => (hb (st.length :: bs)).run pins s0 σc H J I ⟨ρ, σ, st, ⟨sr.sl, sr.ob.gc, sr.len⟩, ?_⟩⟩
  rw [evS] at q
  generalize evS Z (st.length :: bs) b σ st = o at q
  have back : ∀ {ρ' : Nat → Addr} {H' : Hp} {σc' : L2.St} {σ' : Sl} {st' : St}, SR D X.K X.prog X.w ex (st.length :: bs) ρ' H' σc' σ' st' → SR D X.K X.prog X.w ex bs ρ' H' σc' σ' st' := fun s => ⟨s.sl, s.ob.ungc, s.len⟩
  cases o with
  | next σ' st' => exact fun ρ' H' σc' po s => q ρ' H' σc' (po.cut sr.ob) (s.clean sr.ob po)
  | brk σ' st' => exact fun ρ' H' σc' po s => q ρ' H' σc' (po.cut sr.ob) (s.clean sr.ob po)
  | cnt σ' st' => exact fun ρ' H' σc' po s => q ρ' H' σc' (po.cut sr.ob) (s.clean sr.ob po)
  | ret a st' => exact fun ρ' H' v po r b => q ρ' H' v po.ungc r b
  | exc c fs σ' st' => exact fun ρ' H' σc' cls d po s x => q ρ' H' σc' cls d po.ungc (back s) x
  | stuck => exact q
theorem st_gcs (co : COs D Z X m ex W) {b : S} {x : List Stmt} (hb : ∀ bs, PSs X x (tS D X ex bs W (evS Z bs b))) : PSs X x (tS D X ex bs W (evS Z bs (.gc b))) := by
  refine ⟨fun pins s0 σc H J I ⟨ρ, σ, st, sr, q⟩ => (hb (st.length :: bs)).run pins s0 σc H J I ⟨ρ, σ, st, ⟨sr.sl, sr.ob.gc, sr.len⟩, ?_⟩⟩
  rw [evS] at q
  generalize evS Z (st.length :: bs) b σ st = o at q
  have back : ∀ {ρ' : Nat → Addr} {H' : Hp} {σc' : L2.St} {σ' : Sl} {st' : St}, SR D X.K X.prog X.w ex (st.length :: bs) ρ' H' σc' σ' st' → SR D X.K X.prog X.w ex bs ρ' H' σc' σ' st' := fun s => ⟨s.sl, s.ob.ungc, s.len⟩
  cases o with
  | next σ' st' => exact fun ρ' H' σc' po s => q ρ' H' σc' (po.cut sr.ob) (s.clean sr.ob po)
  | brk σ' st' => exact fun ρ' H' σc' po s => q ρ' H' σc' (po.cut sr.ob) (s.clean sr.ob po)
  | cnt σ' st' => exact fun ρ' H' σc' po s => q ρ' H' σc' (po.cut sr.ob) (s.clean sr.ob po)
  | ret a st' => exact fun ρ' H' v po r b => q ρ' H' v po.ungc r b
  | exc c fs σ' st' => exact fun ρ' H' σc' cls d po s x => q ρ' H' σc' cls d po.ungc (back s) x
  | stuck => exact q
end
end Fc

set_option Elab.async false
set_option linter.all false
set_option maxRecDepth 100000
set_option maxHeartbeats 4000000
/-! FcStm4: try; every statement. -/
namespace Fc
open PySem PySem.Spec PyProof.Rows L2
/-- the errors that a clause's suite holds -/
def exl (i : Option Nat) (a : Addr) (oe : Obj) : Ex := match i with
  | some i => [(i, a, oe)]
  | none => []
section
variable {D : Dat} {Z : Cfg} {X : Cx} {m : MC} {W : WX} {bs : List Nat}
theorem COs.suite {ex : Ex} (co : COs D Z X m ex W) (i : Option Nat) (a : Addr) (oe : Obj) (pn : List (Addr × Obj)) : COs D Z (X.suite a ((a, oe) :: pn)) ⟨m.N, m.sc, false, m.fn⟩ (exl i a oe) W0 where
  sc := co.sc
  N := co.N
  nd := co.nd
  fn := co.fn
  calm := fun h => by cases h
  pn := fun e he => by
    cases i with
    | none => cases he
    | some i =>
      have : e = (i, a, oe) := by simpa [exl] using he
      subst this
      exact List.mem_cons_self
  tk := fun u s' ⟨_, _, _, _, _, _, _, _, _, _, _, _, _, _, _, _, w⟩ => w.elim
  hu := co.hu
  fac := co.fac
  ct := co.ct
  pas := fun h => by cases h
  stk := co.stk
  frm := co.frm
  kd := co.kd
  mkx := fun h => by cases h
theorem COs.tr (co : COs D Z X m [] W) {W' : WX} {pn : List (Addr × Obj)} {xe : Value → Shared → Prop} (tk : Takes (X.tr pn xe) W') (pas : PassesOwn (model X.prog X.w) X.A X.env xe) : COs D Z (X.tr pn xe) m [] W' where
  sc := co.sc
  N := co.N
  nd := co.nd
  fn := co.fn
  calm := co.calm
  pn := fun e he => by cases he
  tk := tk
  hu := co.hu
  fac := co.fac
  ct := co.ct
  pas := fun _ => pas
  stk := co.stk
  frm := co.frm
  kd := co.kd
  mkx := fun h pn xe => co.mkx h pn xe
/-! ### try -/
/-- a clause's reading -/
def tHd (D : Dat) (X : Cx) (bs : List Nat) (f : Sl → St → Flow) (i : Option Nat) : TsX := fun a cls d J σc H => ∃ ρ σ st, ∀ oe : Obj, Zc cls d oe → (∃ vs, oe.data = .fields vs) → SR D X.K X.prog X.w (exl i a oe) bs ρ H σc σ st ∧ kS D X.K X.prog X.w (exl i a oe) bs (f σ st) ρ st H J W0
theorem SR.ex0 {K : PySem.W.Frag} {P : Program} {w : World} {ρ : Nat → Addr} {H : Hp} {σc : L2.St} {σ : Sl} {st : St} (s : SR D K P w [] bs ρ H σc σ st) {i : Nat} {a : Addr} {oe : Obj} {c : Nat} {fs : List Fc.P} {cls : Value} {d : Option Addr} (hz : Zc cls d oe) (hf : ∃ vs, oe.data = .fields vs) (x : XR D K cls d H c fs) :
    SR D K P w [(i, a, oe)] bs ρ H (σc.set i (some (.ref a))) (σ.set i (some (.exn c fs))) st := by
  refine ⟨fun j y e => ?_, s.ob, by rw [List.length_set, List.length_set, s.len]⟩
  by_cases hj : j = i
  · subst hj
    by_cases hl : j < σ.length
    · rw [List.getElem?_set_self hl] at e
      cases e
      exact ⟨.ref a, List.getElem?_set_self (by rw [← s.len]; exact hl), .inr ⟨c, fs, rfl, a, oe, cls, d, rfl, List.mem_cons_self, hz, hf, x⟩⟩
    · rw [List.getElem?_eq_none (by rw [List.length_set]; omega)] at e
      cases e
  · rw [List.getElem?_set_ne (fun z => hj z.symm)] at e
    obtain ⟨u, h1, h2⟩ := s.sl j y e
    refine ⟨u, by rw [List.getElem?_set_ne (fun z => hj z.symm)]; exact h1, ?_⟩
    rcases h2 with h2 | ⟨c', fs', _, a', oe', cls', d', _, hm, _⟩
    · exact .inl h2
    · cases hm
theorem SR.unex {K : PySem.W.Frag} {P : Program} {w : World} {ρ : Nat → Addr} {H : Hp} {σc : L2.St} {σ : Sl} {st : St} {i : Nat} {a : Addr} {oe : Obj} (s : SR D K P w [(i, a, oe)] bs ρ H σc σ st) : SR D K P w [] bs ρ H (σc.set i none) (σ.set i none) st := by
  refine ⟨fun j y e => ?_, s.ob, by rw [List.length_set, List.length_set, s.len]⟩
  by_cases hj : j = i
  · subst hj
    by_cases hl : j < σ.length
    · rw [List.getElem?_set_self hl] at e; cases e
    · rw [List.getElem?_eq_none (by rw [List.length_set]; omega)] at e; cases e
  · rw [List.getElem?_set_ne (fun z => hj z.symm)] at e
    obtain ⟨u, h1, h2⟩ := s.sl j y e
    refine ⟨u, by rw [List.getElem?_set_ne (fun z => hj z.symm)]; exact h1, ?_⟩
    rcases h2 with h2 | ⟨c', fs', _, a', oe', cls', d', _, hm, _⟩
    · exact .inl h2
    · have : (j, a', oe') = (i, a, oe) := by simpa using hm
      exact absurd (congrArg (·.1) this) hj
/-- what the clauses do -/
def HdT (D : Dat) (Z : Cfg) (bs : List Nat) (X : Cx) (W : WX) (h : S) (hs : List ExceptHandler) : Prop := ∃ l, HdsL X hs l ∧ ∀ (J : Ends) (c : Nat) (fs : List Fc.P) (ρ : Nat → Addr) (σ : Sl) (st : St) (σc : L2.St) (H : Hp) (cls : Value) (d : Option Addr),
  SR D X.K X.prog X.w [] bs ρ H σc σ st → XR D X.K cls d H c fs → kS D X.K X.prog X.w [] bs (evH Z bs c fs h σ st) ρ st H J W → wL X.K W J l cls d σc H
theorem hd_nil {hs : List ExceptHandler} (h : mHs D m .hnil hs = true) : HdT D Z bs X W .hnil hs := by
  rw [mHs] at h
  cases hs with
  | nil => exact ⟨[], .nil, fun J c fs ρ σ st σc H cls d s x q => by rw [evH] at q; exact q ρ H σc cls d (Po.refl s.ob) s x⟩
  | cons _ _ => cases h
theorem hd_cons (co : COs D Z X m [] W) {c0 : Nat} {i : Option Nat} {s r : S} {hs : List ExceptHandler} (hsu : ∀ {X' : Cx} {m' : MC} {ex : Ex} {W' : WX}, COs D Z X' m' ex W' → ∀ l, mSs D m' s l = true → PSs X' l (tS D X' ex bs W' (evS Z bs s)))
    (hr : ∀ hs, mHs D m r hs = true → HdT D Z bs X W r hs) (h : mHs D m (.hcons c0 i s r) hs = true) : HdT D Z bs X W (.hcons c0 i s r) hs := by
  cases hs with
  | nil => rw [mHs] at h; cases h
  | cons x xs =>
    rw [mHs] at h
    split at h
    · rename_i y n b hv
      obtain ⟨np, p, b0, bss, rfl, rfl⟩ := vHd_eq hv
      simp only [Bool.and_eq_true, decide_eq_true_eq] at h
      obtain ⟨⟨⟨⟨⟨h1, h2⟩, h3⟩, h4⟩, h5⟩, h6⟩ := h
      obtain ⟨cd, hcd, rfl⟩ := Option.map_eq_some_iff.mp h1
      obtain ⟨l, hl, hred⟩ := hr xs h6
      have nm : Names X cd.name (.ref (D.ca X.K c0)) := ⟨glB_ok co.sc h2, (okName_ok h3).1, .inl (co.fac.exc c0 cd hcd).mg⟩
      have pss : ∀ (a : Addr) (oe : Obj) (cls : Value) (d : Option Addr) (pn : List (Addr × Obj)), Zc cls d oe → (∃ vs, oe.data = .fields vs) → PSs (X.suite a ((a, oe) :: pn)) (b0 :: bss) (tHd D X bs (evS Z bs s) i a cls d) := fun a oe cls d pn hz hf =>
        PSsimp (hsu (co.suite i a oe pn) (b0 :: bss) h5) fun J σc H ⟨ρ, σ, st, q⟩ => ⟨ρ, σ, st, (q oe hz hf).1, (q oe hz hf).2⟩
      cases i with
      | none =>
        cases n with
        | some n => cases h4
        | none =>
          refine ⟨_, .cons nm pss hl, fun J c fs ρ σ st σc H cls d sr x q => ?_⟩
          obtain ⟨cdx, dd, fl, e1, e2, e3, e4, e5⟩ := id x
          refine ⟨subc D.ct 8 c c0, by rw [e2]; exact (co.fac.exc c cdx e1).exm c0 cd hcd, fun hb a ha => ?_, fun hb => ?_⟩
          · rw [evH, co.ct, hb] at q
            simp only [if_true] at q
            refine ⟨ρ, σ, st, fun oe hz hf => ⟨sr, ?_⟩⟩
            show kS D X.K X.prog X.w [] bs (evS Z bs s σ st) ρ st H J W0
            generalize evS Z bs s σ st = o at q
            cases o with
            | exc c' fs' σ' st' => exact q.elim
            | next σ' st' => exact q
            | brk σ' st' => exact q
            | cnt σ' st' => exact q
            | ret a st' => exact q
            | stuck => exact q
          · rw [evH, co.ct, hb] at q
            simp only [Bool.false_eq_true, if_false] at q
            exact hred J c fs ρ σ st σc H cls d sr x q
      | some i =>
        cases n with
        | none => cases h4
        | some n =>
          have h4 : (decide (m.N[i]? = some n) && decide (m.sc.names.lookup n = some .local)) = true := h4
          simp only [Bool.and_eq_true, decide_eq_true_eq] at h4
          refine ⟨_, .as_ nm (by rw [co.N]; exact co.nd) (by rw [co.N]; exact h4.1) (by show X.env.scope.names.lookup n = _; rw [co.sc]; exact h4.2) pss hl, fun J c fs ρ σ st σc H cls d sr x q => ?_⟩
          obtain ⟨cdx, dd, fl, e1, e2, e3, e4, e5⟩ := id x
          refine ⟨subc D.ct 8 c c0, by rw [e2]; exact (co.fac.exc c cdx e1).exm c0 cd hcd, fun hb a ha => ?_, fun hb => ?_⟩
          · rw [evH, co.ct, hb] at q
            simp only [if_true] at q
            refine ⟨ρ, σ.set i (some (.exn c fs)), st, fun oe hz hf => ⟨sr.ex0 hz hf x, ?_⟩⟩
            generalize evS Z bs s (σ.set i (some (.exn c fs))) st = o at q
            cases o with
            | exc c' fs' σ' st' => exact q.elim
            | next σ' st' => exact fun ρ' H' σc' po s' => q ρ' H' _ po s'.unex
            | brk σ' st' => exact fun ρ' H' σc' po s' => q ρ' H' _ po s'.unex
            | cnt σ' st' => exact fun ρ' H' σc' po s' => q ρ' H' _ po s'.unex
            | ret a st' => exact q
            | stuck => exact q
          · rw [evH, co.ct, hb] at q
            simp only [Bool.false_eq_true, if_false] at q
            exact hred J c fs ρ σ st σc H cls d sr x q
    · cases h
theorem st_tr (co : COs D Z X m [] W) {b h : S} {s : Stmt} (hb : ∀ {X' : Cx} {m' : MC} {ex : Ex} {W' : WX}, COs D Z X' m' ex W' → ∀ l, mSs D m' b l = true → PSs X' l (tS D X' ex bs W' (evS Z bs b)))
    (hh : ∀ hs, mHs D m h hs = true → HdT D Z bs X W h hs) (hm : mS D m (.tr b h) s = true) : PS X s (tS D X [] bs W (evS Z bs (.tr b h))) := by
  unfold mS at hm
  split at hm
  · rename_i x hs hv
    obtain ⟨pos, rfl⟩ := vTry_eq hv
    simp only [Bool.and_eq_true] at hm
    obtain ⟨⟨⟨h0, h1⟩, h2⟩, h3⟩ := hm
    cases hs with
    | nil => cases h1
    | cons h₀ hds =>
      obtain ⟨l, hl, hred⟩ := hh _ h3
      refine PSimp (ps_try_l (tb := fun W' => tS D X [] bs W' (evS Z bs b)) co.stk co.frm co.tk (fun W' pn xe tk pas => hb (co.tr tk pas) x h2) hl) fun J σc H ⟨ρ, σ, st, sr, q⟩ => ⟨ρ, σ, st, sr, ?_⟩
      rw [evS] at q
      generalize evS Z bs b σ st = o at q
      cases o with
      | exc c fs σ' st' => exact fun ρ' H' σc' cls d po s' xr => hred J c fs ρ' σ' st' σc' H' cls d s' xr (kS.step q po)
      | next σ' st' => exact q
      | brk σ' st' => exact q
      | cnt σ' st' => exact q
      | ret a st' => exact q
      | stuck => exact q
  · cases hm
end
/-! ### every statement -/
structure Snt (D : Dat) (Z : Cfg) (s : S) : Prop where
  st : ∀ {bs : List Nat} {X : Cx} {m : MC} {ex : Ex} {W : WX}, COs D Z X m ex W → ∀ x, mS D m s x = true → PS X x (tS D X ex bs W (evS Z bs s))
  ss : ∀ {bs : List Nat} {X : Cx} {m : MC} {ex : Ex} {W : WX}, COs D Z X m ex W → ∀ l, mSs D m s l = true → PSs X l (tS D X ex bs W (evS Z bs s))
  hd : ∀ {bs : List Nat} {X : Cx} {m : MC} {W : WX}, COs D Z X m [] W → ∀ hs, mHs D m s hs = true → HdT D Z bs X W s hs
theorem Snt.of {D : Dat} {Z : Cfg} {s : S} (h1 : ∀ {bs : List Nat} {X : Cx} {m : MC} {ex : Ex} {W : WX}, COs D Z X m ex W → ∀ x, mS D m s x = true → PS X x (tS D X ex bs W (evS Z bs s))) (h2 : ∀ m l, mSs D m s l = false) (h3 : ∀ m l, mHs D m s l = false) : Snt D Z s :=
  ⟨h1, fun _ l h => (by rw [h2] at h; cases h), fun _ l h => (by rw [h3] at h; cases h)⟩
theorem snt {D : Dat} {Z : Cfg} : ∀ s : S, Snt D Z s := by
  intro s
  induction s with
  | skip => exact ⟨fun co x h => st_skip h, fun co l h => st_nil h, fun co hs h => (by cases h)⟩
  | seq a b ha hb =>
    refine ⟨fun co x h => (by cases h), fun co l h => ?_, fun co hs h => (by cases h)⟩
    cases l with
    | nil => rw [mSs] at h; cases h
    | cons x xs =>
      rw [mSs, Bool.and_eq_true] at h
      exact st_seq (ha.st co x h.1) (hb.ss co xs h.2)
  | set i e => exact Snt.of (fun co x h => st_set co h) (fun _ _ => rfl) (fun _ _ => rfl)
  | sett is e => exact Snt.of (fun co x h => st_sett co h) (fun _ _ => rfl) (fun _ _ => rfl)
  | par i j a b => exact Snt.of (fun co x h => by cases h) (fun _ _ => rfl) (fun _ _ => rfl)
  | aug i op e => exact Snt.of (fun co x h => st_aug co h) (fun _ _ => rfl) (fun _ _ => rfl)
  | setix o i e => exact Snt.of (fun co x h => st_setix co h) (fun _ _ => rfl) (fun _ _ => rfl)
  | ex e => exact Snt.of (fun co x h => st_ex co h) (fun _ _ => rfl) (fun _ _ => rfl)
  | ret e => exact Snt.of (fun co x h => st_ret co h) (fun _ _ => rfl) (fun _ _ => rfl)
  | retn => exact Snt.of (fun co x h => st_retn h) (fun _ _ => rfl) (fun _ _ => rfl)
  | ite t a b ha hb => exact Snt.of (fun co x h => st_ite co (ha.ss co) (hb.ss co) h) (fun _ _ => rfl) (fun _ _ => rfl)
  | whil t b hb => exact Snt.of (fun co x h => st_whil co (hb.ss co) h) (fun _ _ => rfl) (fun _ _ => rfl)
  | for_ ts it b hb => exact Snt.of (fun co x h => st_for co (hb.ss co) h) (fun _ _ => rfl) (fun _ _ => rfl)
  | brk => exact Snt.of (fun co x h => st_brk h) (fun _ _ => rfl) (fun _ _ => rfl)
  | cnt => exact Snt.of (fun co x h => st_cnt h) (fun _ _ => rfl) (fun _ _ => rfl)
  | raise c es => exact Snt.of (fun co x h => st_raise co h) (fun _ _ => rfl) (fun _ _ => rfl)
  | tr b h hb hh =>
    refine Snt.of (fun {bs X m ex W} co x hm => ?_) (fun _ _ => rfl) (fun _ _ => rfl)
    have hc : m.calm = true := by
      unfold mS at hm
      split at hm
      · simp only [Bool.and_eq_true] at hm; exact hm.1.1.1
      · cases hm
    obtain ⟨_, rfl, _⟩ := co.calm hc
    exact st_tr co (fun co' => hb.ss co') (fun hs => hh.hd co hs) hm
  | hnil => exact ⟨fun co x h => (by cases h), fun co l h => (by cases h), fun co hs h => hd_nil h⟩
  | hcons c i s r hs hr => exact ⟨fun co x h => (by cases h), fun co l h => (by cases h), fun co l h => hd_cons co (fun co' => hs.ss co') (hr.hd co) h⟩
  | ndef i f caps => exact Snt.of (fun co x h => by cases h) (fun _ _ => rfl) (fun _ _ => rfl)
  | gc s hs =>
    refine ⟨fun {bs X m ex W} co x h => ?_, fun {bs X m ex W} co l h => ?_, fun co hs h => (by cases h)⟩
    · have h : mS D m s x = true := by unfold mS at h; exact h
      exact st_gc co fun bs => hs.st co x h
    · have h : mSs D m s l = true := by unfold mSs at h; exact h
      exact st_gcs co fun bs => hs.ss co l h
end Fc

set_option Elab.async false
set_option linter.all false
set_option maxRecDepth 100000
set_option maxHeartbeats 4000000
/-! FcFn: every def keeps what the evaluator tells of it. -/
namespace Fc
open PySem PySem.Spec PyProof.Rows L2

/-- what is known of a def, its function object fd -/
def DefG (D : Dat) (K : PySem.W.Frag) (mg : Str → Option Value) (f : Nat) (x : Str) (fd : FuncData) (d : FD) (N : List Str) : Prop :=
  ∃ (oc : Value) (od : Option Addr) (osl : Array (Option Value)) (name qual : Str) (params : Arguments) (body : List Stmt) (scope : Scope) (dV kV doc pm : Value) (an : Option Addr) (cdv ct : Value),
    fd = PySem.W.fnOf name qual params body scope dV kV doc pm an cdv ct ∧
    D.ft[f]? = some d ∧ K.lookup (D.fa K f) = some ⟨oc, od, .func (PySem.W.fnOf name qual params body scope dV kV doc pm an cdv ct), osl⟩ ∧ PySem.W.codeIn K cdv qual = true ∧ FnScope N (N.take d.np) scope ∧ N.length = d.ns ∧ d.np ≤ d.ns ∧
    mSs D ⟨N, scope, true, fun _ => true⟩ d.body body = true ∧ (∀ us : List Value, us.length = (N.take d.np).length → bindArgs fd ⟨us, []⟩ = pure ((N.take d.np).zip us)) ∧ PySem.W.keepIn K (.ref (D.fa K f)) = true ∧ mg x = some (.ref (D.fa K f))
def DefF (D : Dat) (K : PySem.W.Frag) (mg : Str → Option Value) (f : Nat) (x : Str) : Prop := ∃ fd d N, DefG D K mg f x fd d N
/-- the making of errors -/
def MkAll (D : Dat) (P : Program) (w : World) (K : PySem.W.Frag) (mg : Str → Option Value) (base : Heap) : Prop :=
  ∀ X : Cx, X.prog = P → X.w = w → X.K = K → X.mg = mg → X.base = base → X.calm = true → Room 4 X.A → ∀ c cd, D.ct[c]? = some cd → ∀ (es : List Expr) (t : L2.TA) (p pos : Pos), (∀ e ∈ es, plE e = true) → Gl X cd.name → (cd.name == ("__debug__" : Str)) = false → PA X es t →
    PMk X (.Call (.Name cd.name p) es [] pos) (fun σ H Q => t σ H fun vs H1 => ∃ ps, RPs X.K H1 vs ps ∧ ps.length + 1 = cd.flds.length ∧ ∀ cls d H2, (∀ b o, H1 b = some o → H2 b = some o) → XR D X.K cls d H2 c (.str cd.word :: ps) → Q cls d H2)
section
variable {D : Dat} {K : PySem.W.Frag} {P : Program} {w : World} {mg : Str → Option Value} {base : Heap} {bs : List Nat} {ρ ρ1 : Nat → Addr} {st st1 : St} {H H1 : Hp}
theorem Po.adopt2 (p : Po D K P w bs ρ st H ρ1 st1 H1) {L : Addr} {m : MO} (h0 : H L = none) (hm : RO D K P w ρ1 H1 L m) (hu : ∀ j, j < st1.length → ρ1 j ≠ L) (b : m.bel st1.length = true) :
    Po D K P w bs ρ st H (rho ρ1 st1.length L) (st1 ++ [m]) H1 ∧ RA D K (rho ρ1 st1.length L) H1 (.ref L) (.ref st1.length) := by
  have ag : ∀ j, j < st1.length → rho ρ1 st1.length L j = ρ1 j := fun j h => by unfold rho; rw [if_neg (by omega)]
  have at_ : rho ρ1 st1.length L st1.length = L := by unfold rho; rw [if_pos rfl]
  have o := p.ob
  refine ⟨⟨fun j h => (ag j (Nat.lt_of_lt_of_le h p.le)).trans (p.ag j h), by simp; exact Nat.le_succ_of_le p.le, p.fr, fun j g1 g2 => ?_, ⟨fun j u h => ?_, fun c hc => ?_, fun i j hi hj e => ?_⟩⟩, ?_⟩
  · by_cases hj : j < st1.length
    · rw [ag j hj]; exact p.new j g1 hj
    · have : j = st1.length := by simp at g2; omega
      subst this
      rw [at_]; exact h0
  · by_cases hj : j < st1.length
    · rw [List.getElem?_append_left hj] at h
      obtain ⟨g1, g2⟩ := o.obj j u h
      refine ⟨?_, obel_mono (by simp) u g2⟩
      rw [ag j hj]
      exact g1.mono (Ext.refl H1) ag rfl g2
    · have e : j = st1.length := by
        have := (List.getElem?_eq_some_iff.mp h).1
        simp at this; omega
      subst e
      simp at h
      subst h
      rw [at_]
      exact ⟨hm.mono (Ext.refl H1) ag rfl b, obel_mono (by simp) m b⟩
  · obtain ⟨g1, g2⟩ := o.low c hc
    refine ⟨by simp; omega, fun j u hj h => g2 j u hj ?_⟩
    rw [List.getElem?_append_left (by omega)] at h
    exact h
  · simp only [List.length_append, List.length_cons, List.length_nil] at hi hj
    by_cases g1 : i < st1.length <;> by_cases g2 : j < st1.length
    · rw [ag i g1, ag j g2] at e; exact o.inj i j g1 g2 e
    · have : j = st1.length := by omega
      subst this
      rw [ag i g1, at_] at e
      exact absurd e (hu i g1)
    · have : i = st1.length := by omega
      subst this
      rw [ag j g2, at_] at e
      exact absurd e.symm (hu j g2)
    · omega
  · have z := RA.ref (D := D) (K := K) (ρ := rho ρ1 st1.length L) (H := H1) (j := st1.length)
    rw [at_] at z
    exact z
/-- a call's end -/
theorem fin_ok {a : A} {v : V} {Q : VK} {E : XK} (o : OR D K P w bs ρ H st) (p : Po D K P w (st.length :: bs) ρ st H ρ1 st1 H1) (r : RA D K ρ1 H1 v a) (b : a.bel st1.length = true) (q : kE D K P w bs (fin st.length a st1) ρ st H Q E) : Q v H1 := by
  have hl : (st1.take st.length).length = st.length := by rw [List.length_take]; exact Nat.min_eq_left p.le
  have plain : (∀ j, a ≠ .ref j) → Q v H1 := fun hn => by
    have e : fin st.length a st1 = if a.bel st.length then .ok a (st1.take st.length) else .ok a st1 := by
      unfold fin
      cases a <;> first | rfl | exact absurd rfl (hn _)
    rw [e] at q
    split at q
    · rename_i hb
      exact q ρ1 H1 v (p.cut o) ⟨r, by rw [hl]; exact hb⟩
    · exact q ρ1 H1 v p.ungc ⟨r, b⟩
  cases a with
  | ref j =>
    have b : j < st1.length := by simpa [A.bel] using b
    cases r
    unfold fin at q
    simp only at q
    split at q
    · rename_i hj
      exact q ρ1 H1 _ (p.cut o) ⟨.ref, by rw [hl]; simpa [A.bel] using hj⟩
    · rename_i hj
      rw [List.getElem?_eq_getElem b] at q
      simp only at q
      split at q
      · rename_i hb
        obtain ⟨h1, _⟩ := p.ob.obj j _ (List.getElem?_eq_getElem b)
        obtain ⟨p2, ra⟩ := (p.cut o).adopt2 (p.new j (by omega) b) h1 (fun i hi e => by
          rw [hl] at hi
          have := p.ob.inj i j (Nat.lt_of_lt_of_le hi p.le) b e
          omega) (by rw [hl]; exact hb)
        rw [hl] at p2 ra
        exact q _ H1 _ p2 ⟨ra, by simp [A.bel, hl, Nat.min_eq_left p.le]⟩
      · exact q ρ1 H1 _ p.ungc ⟨.ref, by simpa [A.bel] using b⟩
  | _ => exact plain fun j z => by cases z
theorem start_sr {N : List Str} {vs : List V} {as : List A} {d : FD} (o : OR D K P w bs ρ H st) (r : RAs D K ρ H vs as) (b : A.bels st.length as = true) (hn : N.length = d.ns) (hle : d.np ≤ d.ns) (hl : as.length = d.np) :
    SR D K P w [] (st.length :: bs) ρ H (L2.start N vs) (as.map some ++ List.replicate (d.ns - d.np) none) st := by
  refine ⟨fun i a e => ?_, o.gc, ?_⟩
  · by_cases hi : i < as.length
    · rw [List.getElem?_append_left (by simpa using hi), List.getElem?_map] at e
      obtain ⟨x, hx, e⟩ := Option.map_eq_some_iff.mp e
      cases e
      obtain ⟨v, hv, rv⟩ := r.get hx
      refine ⟨v, ?_, .inl ⟨rv, bels_get b hx⟩⟩
      unfold L2.start
      rw [List.getElem?_append_left (by rw [List.length_map, r.length]; exact hi), List.getElem?_map, hv]
      rfl
    · rw [List.getElem?_append_right (by simpa using hi), List.getElem?_replicate] at e
      split at e <;> cases e
  · unfold L2.start
    rw [List.length_append, List.length_append, List.length_map, List.length_map, List.length_replicate, List.length_replicate, r.length]
    omega
theorem fn_len {f : Nat} {d : FD} {N : List Str} {k : Nat} (h1 : D.ft[f]? = some d) (h5 : N.length = d.ns) (h6 : d.np ≤ d.ns) : ∀ vs H Q E, spF D K P w (callF D.ft D.ct k) f vs H Q E → vs.length = (N.take d.np).length := fun vs H Q E ⟨bs, ρ, st, as, o, r, b, q⟩ => by
  cases k with
  | zero => rw [callF] at q; exact q.elim
  | succ k =>
    rw [callF, h1] at q
    simp only at q
    split at q
    · rename_i hl
      rw [r.length, hl, List.length_take, h5, Nat.min_eq_left h6]
    · exact q.elim
theorem fn_one {f : Nat} {x : Str} {fd : FuncData} {d : FD} {N : List Str} {k : Nat} (fac : Facts D K mg) (mk : MkAll D P w K mg base) (df : DefG D K mg f x fd d N) (ih : FnsOk D (callF D.ft D.ct k) P w K mg base (k + 4)) :
    FnOk P w K mg base (L2.CX P w) (k + 1 + 4) (D.fa K f) fd (N.take d.np) (spF D K P w (callF D.ft D.ct (k + 1)) f) := by
  obtain ⟨oc, od, osl, name, qual, params, body, scope, dV, kV, doc, pm, an, cdv, ct, rfl, h1, h2, h3, h4, h5, h6, h7, h8, h9, h10⟩ := df
  have g := fn_of (CX := L2.CX P w) (P := P) (w := w) (mg := mg) (base := base) (k := k + 4) (N := N) (ps := N.take d.np) (sp := spF D K P w (callF D.ft D.ct (k + 1)) f) h2 h3 h4 (fn_len h1 h5 h6) (fun A outer s H vs Q E hr hsp => ?_)
  · exact g
  obtain ⟨bs, ρ, st, as, o, r, b, q⟩ := hsp
  rw [callF, h1] at q
  simp only at q
  split at q
  · rename_i hl
    have co : COs D ⟨callF D.ft D.ct k, D.ct⟩ (cxOf (L2.CX P w) P w K mg base N qual scope (D.fa K f) cdv A outer s H E) ⟨N, scope, true, fun _ => true⟩ [] (fun cls d _ H' => E cls d H') :=
      { sc := rfl, N := rfl, nd := h4.nd, fn := fun _ _ => rfl, calm := fun _ => ⟨rfl, rfl, k + 4, hr, ih⟩, pn := fun e he => (by cases he),
        tk := takes_of rfl rfl rfl rfl, hu := (by have := hr.un; show (A.deeper _).units + 70 < cLine; omega), fac := fac, ct := rfl, pas := fun _ => passes_of rfl, stk := rfl, frm := rfl, kd := h4.kind,
        mkx := fun _ pn xe => mk ((cxOf (L2.CX P w) P w K mg base N qual scope (D.fa K f) cdv A outer s H E).tr pn xe) rfl rfl rfl rfl rfl rfl (Room.mono (k := k + 4) hr (by omega)) }
    refine ⟨_, (snt d.body).ss (bs := st.length :: bs) co body h7, ρ, _, st, start_sr o r b h5 h6 hl, ?_⟩
    generalize evS ⟨callF D.ft D.ct k, D.ct⟩ (st.length :: bs) d.body (as.map some ++ List.replicate (d.ns - d.np) none) st = fl at q
    cases fl with
    | next σ' st' => exact fun ρ' H' σc' po s' => fin_ok o po (.p .non) rfl q
    | ret a st' => exact fun ρ' H' v po ra ba => fin_ok o po ra ba q
    | exc c fs σ' st' => exact fun ρ' H' σc' cls d po s' xr => q ρ' H' cls d (po.cut o) xr
    | brk σ' st' => exact q.elim
    | cnt σ' st' => exact q.elim
    | stuck => exact q.elim
  · exact q.elim
theorem fns_ok (fac : Facts D K mg) (df : ∀ f x, D.fnm[f]? = some x → DefF D K mg f x) (mk : MkAll D P w K mg base) : ∀ k, FnsOk D (callF D.ft D.ct k) P w K mg base (k + 4) := by
  intro k
  induction k with
  | zero =>
    refine ⟨fun f x hx => ?_⟩
    obtain ⟨fd, d, N, oc, od, osl, name, qual, params, body, scope, dV, kV, doc, pm, an, cdv, ct, rfl, h1, h2, h3, h4, h5, h6, h7, h8, h9, h10⟩ := df f x hx
    exact ⟨_, _, ⟨fun vs H Q E ⟨bs, ρ, st, as, _, _, _, q⟩ => by rw [callF] at q; exact q.elim, fun A outer s H args us vs Q E _ _ _ _ ⟨bs, ρ, st, as, _, _, _, q⟩ => by rw [callF] at q; exact q.elim⟩, .all h8, h9, h10⟩
  | succ k ih =>
    refine ⟨fun f x hx => ?_⟩
    obtain ⟨fd, d, N, g⟩ := df f x hx
    have g2 := fn_one fac mk g ih
    obtain ⟨oc, od, osl, name, qual, params, body, scope, dV, kV, doc, pm, an, cdv, ct, rfl, h1, h2, h3, h4, h5, h6, h7, h8, h9, h10⟩ := g
    exact ⟨_, _, g2, .all h8, h9, h10⟩
end
end Fc

set_option Elab.async false
set_option linter.all false
set_option maxRecDepth 100000
set_option maxHeartbeats 4000000
/-! FcExc: errors of own classes whose __init__ says super().__init__(..). -/
namespace Fc
open PySem PySem.Spec PyProof.Rows L2 NdefX

abbrev cls_ : Str := "__class__"
/-- what is known of a class's __init__: the class at C, the function at f -/
structure IniF (K : PySem.W.Frag) (P : Program) (C f : Addr) (F : NF) (ps : List Str) (fd : FuncData) : Prop where
  lk : ∃ oc od osl, K.lookup f = some ⟨oc, od, .func fd, osl⟩ ∧ oc = .type "function"
  fdx : ∃ dV kV doc pm an ct, fd = PySem.W.fnX F.name F.qual F.params F.body F.scope F.cl dV kV doc pm an (.ref F.c) ct
  bi : L2.Binds K fd ps []
  cd : PySem.W.codeIn K (.ref F.c) F.qual = true
  cc : ∃ cc o, F.cl = [(cls_, cc)] ∧ K.lookup cc = some o ∧ o.data = .cell (some (.ref C))
  sc : NScope (ps ++ [cls_]) ps [cls_] F.scope
  sup : F.scope.names.lookup ("super" : Str) = some .globalImplicit
  hd : ∃ ar, (F.params.posonlyargs ++ F.params.args).head? = some ar ∧ ps[0]? = some ar.arg
  fl : ∃ oc vs file tf, K.lookup F.c = some oc ∧ oc.data = .fields vs ∧ vs[2]? = some (.str file tf) ∧ (P.main.file == file) = true
section
variable {CX : CXT} {P : Program} {w : World} {K : PySem.W.Frag} {mg : Str → Option Value} {base : Heap} {C f : Addr} {F : NF} {ps : List Str} {fd : FuncData} {k : Nat} {sp : Sp}
/-- an __init__ by its body -/
theorem ini_of (I : IniF K P C f F ps fd) (len : ∀ vs H Q E, sp vs H Q E → vs.length = ps.length)
    (hbody : ∀ (A : Around) (outer : List Env) (s : Shared) (H : Hp) (vs : List V) (Q : VK) (E : XK) (s1 : Shared), Room k (A.deeper (envF F f s.heap.objs.size)) → sp vs H Q E → L2.Inv (ncx CX P w K mg base (ps ++ [cls_]) F f A outer s H E) [] (startF (ps ++ [cls_]) vs [some (.ref C)]) H s1 →
      _root_.PySem.wpAt (model P w) (A.deeper (envF F f s.heap.objs.size)) (.func F.body (envF F f s.heap.objs.size)) (execs F.body (envF F f s.heap.objs.size)) (SP (ncx CX P w K mg base (ps ++ [cls_]) F f A outer s H E) [] { nx := fun _ H' => Q .non H', rt := Q }) (ncx CX P w K mg base (ps ++ [cls_]) F f A outer s H E).xe s1) :
    FnOk P w K mg base CX (k + 1) f fd ps sp := by
  refine ⟨len, fun A outer s H args us vs Q E hr e0 hb r hsp => ?_⟩
  obtain ⟨oc, od, osl, lk, hoc⟩ := I.lk
  obtain ⟨dV, kV, doc, pm, an, ct, hfd⟩ := I.fdx
  obtain ⟨cc, oo, hcl, hcc, hcd⟩ := I.cc
  subst hfd
  have KX : K.In s.heap := e0.mod.kin.keeps fun b o e => (e0.bs b o e).1
  have lim : s.heap.NoLimit := e0.mod.nolimit.keeps fun b o e => (e0.bs b o e).1
  have hl := len _ _ _ _ hsp
  have C0 : CellsAt F.cl [cls_] [some (.ref C)] s.heap H := by
    have hc : s.heap.IsCell cc (some (.ref C)) := ⟨oo, KX _ _ hcc, hcd⟩
    refine ⟨rfl, fun y c h => ?_, fun x y c h1 h2 => ?_, fun i y h => ?_⟩
    · have e : c = cc := by
        rw [hcl] at h
        simp only [List.lookup] at h
        split at h
        · exact (Option.some.inj h).symm
        · cases h
      subst e
      exact ⟨(e0.bs _ _ (e0.mod.kin _ _ hcc)).2, _, hc⟩
    · have key : ∀ z, F.cl.lookup z = some c → z = "__class__" := fun z hz => by
        rw [hcl] at hz
        simp only [List.lookup] at hz
        split at hz
        · rename_i e; exact eq_of_beq e
        · cases hz
      rw [key x h1, key y h2]
    · cases i with
      | zero =>
        have e : y = "__class__" := by simpa using h.symm
        subst e
        exact ⟨cc, by rw [hcl]; rfl, fun v hv => by cases hv; exact ⟨.ref C, rfl, hc⟩⟩
      | succ i => simp at h
  refine PySem.ks_codeAny_call_defAt (body := F.body) (binds := ps.zip us) hr.depth (KX _ _ lk) rfl lim (PySem.W.codeRec_of KX I.cd) rfl hb I.sc.nocell (fun ⟨n, v⟩ hy => I.sc.par n (List.of_mem_zip hy).1) (fun h₁ hns kp => ?_) I.sc.co I.sc.gen I.sc.kind
  have J := inv_startN (CX := CX) (P := P) (w := w) (K := K) (mg := mg) (base := base) (F := F) (f := f) (E := E) (tk := s.toks + (ps.zip us).length) I.sc hr.hd e0 hl r C0 hns kp
  have g := hbody A outer s H vs Q E _ (hr.deeper _) hsp J
  refine PySem.ks_wpAt_mono g (fun fl s' hs => ?_) (fun e s' hs => hs)
  have fin : ∀ {σ' : L2.St} {H' : Hp} {v : V} {u : Value}, L2.Inv (ncx CX P w K mg base (ps ++ [cls_]) F f A outer s H E) [] σ' H' s' → L2.RelV v u → Q v H' → CE outer P w H s Q u s' :=
    fun {σ' H' v u} J rv q => ⟨v, H', J.os, J.bare, J.base, J.hok, rv, q⟩
  cases fl with
  | ret u =>
    obtain ⟨v, σ', H', J, rv, q⟩ := hs
    exact fin J rv q
  | next =>
    obtain ⟨σ', H', J, q⟩ := hs
    exact fin (v := V.non) (u := Value.none) J rfl q
  | brk =>
    obtain ⟨_, _, _, q⟩ := hs
    exact False.elim q
  | cont =>
    obtain ⟨_, _, _, q⟩ := hs
    exact False.elim q
end

/-! ### super() -/
section
variable {X : Cx} {pins : List (Addr × Obj)} {σ : L2.St} {H : Hp} {s : Shared} {C C' f a : Addr} {F : NF} {ps : List Str} {fd : FuncData} {Lc : Addr}
/-- an instance that is being made -/
theorem exo_inst {d : Option Addr} (I : L2.Inv X pins σ H s) (e : H a = some (exo a C' d)) : ∃ t1 : Addr, s.heap.get? a = some ({ cls := .ref C', dict := d, data := .fields #[.ref t1, .none, .none, .none, .bool false, .none] } : Obj) := exo_at I.hok e
theorem sup_base {body : List Stmt} {p0 p1 : Pos} {whole : Sem Value} {Q : Value → Shared → Prop} {t1 : Addr} {dd : Option Addr} (Ii : IniF X.K X.prog C f F ps fd) (I : L2.Inv X pins σ H s) (he : X.env = envF F f Lc) (hms : X.mg "super" = none)
    (htop : (X.prog.main.scope.names.lookup ("super" : Str)).isSome = false) (hN : X.N = ps ++ [cls_]) (hs0 : σ[0]? = some (some (.ref a))) (ha : s.heap.get? a = some ({ cls := .ref C', dict := dd, data := .fields #[.ref t1, .none, .none, .none, .bool false, .none] } : Obj))
    (hC : ∃ cd, PySem.W.clsIn X.K C = some cd) (hsub : PySem.W.mroIn X.K C' (.ref C) = some true)
    (h : ∀ so h', h'.get? so = some (PySem.W.ks_superObj C a C') → (∀ y o, s.heap.get? y = some o → h'.get? y = some o) → s.heap.objs.size ≤ so → Q (.ref so) { s with heap := h' }) :
    _root_.PySem.wpAt (model X.prog X.w) X.A (.func body X.env) (attributeBase (.Call (.Name "super" p0) [] [] p1) "__init__" X.env whole) Q X.xe s := by
  obtain ⟨oc, od, osl, lk, hoc⟩ := Ii.lk
  obtain ⟨dV, kV, doc, pm, an, ct, hfd⟩ := Ii.fdx
  obtain ⟨cc, oo, hcl, hcc, hcd⟩ := Ii.cc
  obtain ⟨ar, har, hps⟩ := Ii.hd
  obtain ⟨ofl, vs, file, tf, hfl, hfd2, hvs, hfile⟩ := Ii.fl
  obtain ⟨cdC, hcC⟩ := hC
  have KX := I.kIn
  have hsc : X.env.scope = F.scope := by rw [he]
  have kf : X.env.kindOf "__class__" = some .free := by show X.env.scope.names.lookup _ = _; rw [hsc]; exact Ii.sc.frk _ List.mem_cons_self
  have ks : X.env.kindOf "super" = some .globalImplicit := by show X.env.scope.names.lookup _ = _; rw [hsc]; exact Ii.sup
  have ka : X.env.kindOf ar.arg = some .local := by show X.env.scope.names.lookup _ = _; rw [hsc]; exact Ii.sc.par _ (List.mem_of_getElem? hps)
  obtain ⟨oD, hD1, hD2⟩ : ∃ oD, s.heap.get? C = some oD ∧ oD.data = .cls cdC := by
    unfold PySem.W.clsIn at hcC
    split at hcC
    · rename_i c d cd' sl ho
      cases hcC
      exact ⟨_, KX _ _ ho, rfl⟩
    · cases hcC
  refine PySem.ks_wpAt_super_base (f := f) (cc := F.c) (fd := fd) ks kf (by decide) (by rw [he]) (KX _ _ lk) rfl (by rw [hfd]; exact har) (by rw [he]) (KX _ _ hfl) hfd2 hvs hfile htop ?_
  obtain ⟨mb, b1, b2⟩ := I.mod.blt
  refine PySem.W.ks_loadName_global I.ok.kind ks (Calls.loadGlobal_builtin (by rw [I.ok.glob]; exact I.mod.glob.keeps I.bk) hms (by rw [I.ok.blt]; exact b1.keeps I.bk) ((b2 "super" (by decide)).trans (by decide +kernel)) ⟨rfl, ?_⟩)
  refine wpAny_loadName_free I.ok.kind kf (c := cc) (by rw [he]; show F.cl.lookup _ = _; rw [hcl]; rfl) ⟨oo, KX _ _ hcc, hcd⟩ ?_ (by decide)
  obtain ⟨m, hns, hl⟩ := I.loc
  have hv0 : X.N[0]? = some ar.arg := by
    rw [hN, List.getElem?_append_left (List.getElem?_eq_some_iff.mp hps).1]; exact hps
  obtain ⟨u, ru, lk2⟩ := hl 0 ar.arg (.ref a) hv0 hs0 (.inl (by rw [hsc]; exact Ii.sc.par _ (List.mem_of_getElem? hps)))
  cases ru
  have hm : m ar.arg = some (.ref a) := by
    rcases lk2 with ⟨_, h⟩ | ⟨h | h, _⟩
    · exact h
    · rw [ka] at h; cases h
    · rw [ka] at h; cases h
  refine wpAny_loadName_local I.ok.kind ka hns hm ?_
  obtain ⟨hh, g, d, t, os⟩ := s
  refine PySem.ks_wpAny_isType_cls hD1 hD2 ⟨rfl, ?_⟩
  exact PySem.ks_wpAny_call_super hD1 hD2 ha rfl (fun c e => by cases e) (PySem.W.looks_mroIn KX hsub) (fun h' e k => h _ _ e k (Nat.le_refl _))
theorem exo_ne {h : Heap} {K : PySem.W.Frag} {t1 : Addr} {dd : Option Addr} {cd : ClassData} (KX : K.In h) (ha : h.get? a = some ({ cls := .ref C', dict := dd, data := .fields #[.ref t1, .none, .none, .none, .bool false, .none] } : Obj)) (hc : PySem.W.clsIn K C' = some cd) : a ≠ C' := by
  rintro rfl
  unfold PySem.W.clsIn at hc
  split at hc
  · rename_i c d cd' sl ho
    have e := KX _ _ ho
    rw [ha] at e
    cases e
  · cases hc
end
end Fc

set_option Elab.async false
set_option linter.all false
set_option maxRecDepth 100000
set_option maxHeartbeats 4000000
/-! FcExc2: super().__init__(..) called; the fields; the making. -/
namespace Fc
open PySem PySem.Spec PyProof.Rows L2 NdefX

abbrev supS (e : Expr) (p0 p1 p2 p3 p4 : Pos) : Stmt := .Expr (.Call (.Attribute (.Call (.Name "super" p0) [] [] p1) "__init__" p2) [e] [] p3) p4
theorem at_method {M : Model} {A : Around} {c : Code} {E : Value → Shared → Prop} {s : Shared} {env : Env} {o e : Expr} {name : Str} {apos pos : Pos} {Q : Value → Shared → Prop} (hpl : plE e = true) (hline : (apos.endLine == pos.line) = true)
    (h : _root_.PySem.wpAt M A c (attributeBase o name env (eval o env)) (fun ov s₁ => wpAny M A (getMethod ov name (do return (← importBound o env).getD true)) (fun fx s₂ => wpAny M A (callWith pos fx.1 fx.2 (backTo pos (starEach [e] env)) []) Q E s₂) E s₁) E s) :
    _root_.PySem.wpAt M A c (eval (.Call (.Attribute o name apos) [e] [] pos) env) Q E s := by
  rw [arm_eval_Call]
  refine PySem.wpAt_bind (PySem.wpAt_mono h (fun ov s₁ h₁ => PySem.wpAt_of_wpAny (wpAny_bind (wpAny_standAt ?_))) fun _ _ x => x)
  have hform : methodCallForm ([e].length + ([] : List Keyword).length) (backTo pos (starEach [e] env)) (backToKw pos (keywordEach [] env)) = true := few1 hpl
  have hpos : methodCallPos true o env apos pos = pure pos := by unfold methodCallPos; simp [hline]
  unfold methodCall
  rw [hform]
  refine wpAny_bind (wpAny_holding (wpAny_mono h₁ (fun fx s₂ h₂ => ?_) fun _ _ x => x))
  exact wpAny_bind (wpAny_of_eq hpos h₂)
/-- ValueError.__init__, bound, called -/
theorem call_vew {prog : Program} {w : World} {A : Around} {E : Value → Shared → Prop} {h : Heap} {g : Array GenState} {d : Drawn} {t : Nat} {os : OsState} {nm q : Str} {C N : Addr} {bs bm : List Value} {sn : List Str} {sub : List Value} {ab : Bool} {col : Option Bool} {dd : Option Addr} {k0 k1 k2 k3 k5 : Option Value}
    {u e t0 : Addr} {rest : List Value} {Q : Value → Shared → Prop}
    (hC : h.get? C = some (excClassObj nm q C N bs bm true sn sub ab col dd k0 k1 k2 k3 k5 "ValueError.__new__")) (he : h.get? e = some (HandSPX.excO C t0)) (hu : h.get? u = some (PySem.W.kxs_mw "ValueError.__init__" e)) (hrest : rest.length ≤ sizeLine)
    (hq : ∀ h' t1, (∀ b o, b ≠ e → h.get? b = some o → h'.get? b = some o) → h'.get? e = some (HandSPX.excO C t1) → Q .none ⟨h', g, d, t, os⟩) :
    wpAny (model prog w) A (call (.ref u) rest) Q E ⟨h, g, d, t, os⟩ := by
  refine wpAny_call (codeAny_of_tree ?_)
  show wpAny _ A.in1 (callAny (.ref u) ⟨rest, []⟩) _ _ _
  simp only [callAny]
  refine wpAny_bind (wpAny_load hu ?_)
  simp only [PySem.W.kxs_mw, show (Value.type "method-wrapper" == Value.type "method" || Value.type "method-wrapper" == Value.type "builtin_function_or_method" || Value.type "method-wrapper" == Value.type "method-wrapper") = true by decide, if_true]
  refine W.KFB.if_so (by decide) ?_
  refine wpAny_bind (PySem.ESX.check_bound PySem.F.excBase_ValueError hC he rfl ?_)
  refine wpAny_bind (wpAny_pure (wpAny_pure ?_))
  refine ⟨Code.quiet_builtin _ (by decide +kernel), codeAny_builtin PySem.F.excBase_ValueError.initEntry ?_⟩
  rw [Around.under_plainId PySem.F.excBase_ValueError.init.plain _]
  wp_walk
  refine hq _ h.objs.size (fun b o hb ho => ?_) ?_
  · rw [Heap.get?_update_other _ _ (Ne.symm hb)]
    exact Heap.get?_push_of_some _ ho
  · rw [Heap.get?_update_self _ (Heap.get?_push_of_some _ he) rfl]
    rfl
section
variable {X : Cx} {pins : List (Addr × Obj)} {σ : L2.St} {H : Hp} {s : Shared} {C C' f a : Addr} {F : NF} {ps : List Str} {fd : FuncData} {Lc : Addr}
theorem vew_ok {u : Addr} {us : List Value} {Q : Value → Shared → Prop} {E : Value → Shared → Prop} {A : Around} (T : OexC X.K C') (I : L2.Inv X pins σ H s) (e : H a = some (exo a C' none)) (hu : s.heap.get? u = some (PySem.W.kxs_mw "ValueError.__init__" a)) (hl : us.length ≤ sizeLine) (h : ∀ s', L2.Inv X pins σ H s' → Q .none s') :
    wpAny (model X.prog X.w) A (call (.ref u) us) Q E s := by
  obtain ⟨nm, q, N, bs, bm, sn, sub, ab, col, dd, k0, k1, k2, k3, k5, hC, hbm⟩ := T.cls
  obtain ⟨t1, ho⟩ := exo_at I.hok e
  obtain ⟨hp, g, d, t, os⟩ := s
  refine call_vew (I.kIn _ _ hC) ho hu hl fun h' t2 k hx => ?_
  have J := I.write (t' := t) (x := a) (e := a) (o := exo a C' none) (by rw [e]; exact True.intro) (.inl rfl) k ⟨_, hx⟩ (exo_ok hx)
  have eu : upd H a (exo a C' none) = H := by
    funext b
    by_cases hb : b = a
    · rw [hb, upd_same, e]
    · rw [upd_ne hb]
  rw [eu] at J
  exact h _ J
/-- what the classes of the line say of super().__init__: the class C of the code, C' of the instance -/
structure SupF (X : Cx) (C C' : Addr) : Prop where
  hC : ∃ cd, PySem.W.clsIn X.K C = some cd
  hC' : ∃ cd, PySem.W.clsIn X.K C' = some cd
  sub : PySem.W.mroIn X.K C' (.ref C) = some true
  opq : PySem.W.nsIn X.K cStatics "thirdparty.any" = some none
  mg : X.mg "super" = none
  top : (X.prog.main.scope.names.lookup ("super" : Str)).isSome = false
theorem fresh_pin (I : L2.Inv X pins σ H s) {q : Addr} {o : Obj} (hq : s.heap.get? q = some o) (hn : H q = none) (h1 : q ≠ X.env.locals) (h2 : q ∉ X.fs) (h3 : ∀ v, o.data ≠ .cell v) : L2.Inv X ((q, o) :: pins) σ H s := I.pins_of fun p hp => by
  rcases List.mem_cons.mp hp with rfl | hp
  · exact ⟨hq, hn, h1, h2, h3⟩
  · exact I.pin p (List.mem_append_right _ hp)
/-- super().__init__(e), where it is ValueError's -/
theorem sup_b {body : List Stmt} {p0 p1 p2 p3 p4 : Pos} {e : Expr} {t : L2.TA} {v : V} {J : Ends} (Ii : IniF X.K X.prog C f F ps fd) (S : SupF X C C') (T : OexC X.K C') (hB : PySem.W.subIn X.K (.ref C') (.type "ValueError") = some true) (hm : PySem.W.ks_superIn X.K C' C "__init__" = some (some (.builtin "ValueError.__init__")))
    (I : L2.Inv X pins σ H s) (he : X.env = envF F f Lc) (hN : X.N = ps ++ [cls_]) (hs0 : σ[0]? = some (some (.ref a))) (ha : H a = some (exo a C' none))
    (pa : PA X [e] t) (hpl : plE e = true) (hline : (p2.endLine == p3.line) = true) (hA : t σ H fun vs H1 => vs = [v] ∧ H1 = H) (q : J.nx σ H) :
    _root_.PySem.wpAt (model X.prog X.w) X.A (.func body X.env) (exec (supS e p0 p1 p2 p3 p4) X.env) (SP X pins J) X.xe s := by
  obtain ⟨t1, hat⟩ := exo_at I.hok ha
  obtain ⟨cdC', hcC'⟩ := S.hC'
  refine PySem.ks_wpAt_Expr_any (at_method hpl hline (sup_base Ii I he S.mg S.top hN hs0 hat S.hC S.sub fun so h' hso k hsz => ?_)) I.quiet rfl
  · have I1 : L2.Inv X pins σ H { s with heap := h' } := I.kept (t' := s.toks) k
    obtain ⟨hp, g, d, tk, os⟩ := s
    have hI : PySem.W.Looks (model X.prog X.w) h' (isInstance (.ref a) (.type "ValueError")) true := (PySem.W.InstAt.type (od := none) ⟨k _ _ hat, rfl, rfl, trivial⟩).andThen (PySem.W.looks_subIn I1.kIn hB)
    have hal : PySem.W.alongIn X.K "__init__" ((cdC'.mro.dropWhile (· != .ref C)).drop 1) = some (some (.builtin "ValueError.__init__")) := by
      unfold PySem.W.ks_superIn at hm
      rw [hcC'] at hm
      exact hm
    refine PySem.W.kxs_getMethod PySem.W.kxs_ValueError hso (PySem.W.looks_opaque I1.kIn S.opq) (l₀ := cdC'.mro) (fun A Q E s k q => wpAny_bind ((PySem.W.looks_clsIn I1.kIn hcC') A _ E s k (wpAny_pure q))) rfl I1.kIn hal hI (exo_ne I1.kIn (k _ _ hat) hcC') (by decide) ?_
    have hg : (h'.push (PySem.W.kxs_mw "ValueError.__init__" a)).get? h'.objs.size = some (PySem.W.kxs_mw "ValueError.__init__" a) := Heap.get?_push_size _ rfl
    have I2 : L2.Inv X pins σ H ⟨h'.push (PySem.W.kxs_mw "ValueError.__init__" a), g, d, tk + 1, os⟩ := I1.kept (t' := tk + 1) fun b o e => Heap.get?_push_of_some _ e
    have I3 := fresh_pin I2 hg (I1.hok.fresh (Nat.le_refl _)) (Nat.ne_of_gt I1.lt) (I1.nofs (Nat.le_refl _)) (fun v z => by cases z)
    have st : starEach [e] X.env = [(false, eval e X.env)] := star_pl hpl
    have hsp := pa.run p3 _ _ σ H _ I3 hA
    rw [st] at hsp ⊢
    refine PySem.W.kxs_callWith (i := "ValueError.__init__") (x := a) rfl (Calls.evalArgs_plain ?_)
    refine thn hsp fun us s1 ⟨vs, H1, I4, r, ev, eH⟩ => ?_
    subst ev eH
    refine ⟨(I4.pin _ (List.mem_append_right _ List.mem_cons_self)).1, ?_⟩
    refine vew_ok T I4 ha (I4.pin _ (List.mem_append_right _ List.mem_cons_self)).1 ?_ fun s' J' => ?_
    · show us.length ≤ sizeLine
      rw [← r.length, sizeLine_eq]
      exact (by decide : 1 ≤ 16777216)
    · exact ⟨σ, _, J'.pins_of fun p hp => J'.pin p (List.mem_append_right _ (List.mem_cons_of_mem _ hp)), q⟩
/-- super().__init__(e), where it is a def of a class above -/
theorem sup_f {body : List Stmt} {p0 p1 p2 p3 p4 : Pos} {e : Expr} {t : L2.TA} {v : V} {J : Ends} {f2 : Addr} {fd2 : FuncData} {ps2 : List Str} {sp2 : Sp} {kk : Nat} (Ii : IniF X.K X.prog C f F ps fd) (S : SupF X C C') (hm : PySem.W.ks_superIn X.K C' C "__init__" = some (some (.ref f2)))
    (F2 : FnOk X.prog X.w X.K X.mg X.base (L2.CX X.prog X.w) kk f2 fd2 ps2 sp2) (hr : Room kk X.A) (hb2 : L2.Binds X.K fd2 ps2 []) (lk2 : ∃ oc od osl, X.K.lookup f2 = some ⟨oc, od, .func fd2, osl⟩ ∧ oc = .type "function")
    (I : L2.Inv X pins σ H s) (he : X.env = envF F f Lc) (hN : X.N = ps ++ [cls_]) (hs0 : σ[0]? = some (some (.ref a))) {dd : Option Addr} (ha : H a = some (exo a C' dd))
    (pa : PA X [e] t) (hpl : plE e = true) (hline : (p2.endLine == p3.line) = true) (hA : t σ H fun vs H1 => vs = [v] ∧ H1 = H) (q : sp2 [.ref a, v] H (fun _ H' => J.nx σ H') noE) :
    _root_.PySem.wpAt (model X.prog X.w) X.A (.func body X.env) (exec (supS e p0 p1 p2 p3 p4) X.env) (SP X pins J) X.xe s := by
  obtain ⟨t1, hat⟩ := exo_at I.hok ha
  obtain ⟨cdC', hcC'⟩ := S.hC'
  obtain ⟨oc, od, osl, lk, rfl⟩ := lk2
  refine PySem.ks_wpAt_Expr_any (at_method hpl hline (sup_base Ii I he S.mg S.top hN hs0 hat S.hC S.sub fun so h' hso k hsz => ?_)) I.quiet rfl
  · have I1 : L2.Inv X pins σ H { s with heap := h' } := I.kept (t' := s.toks) k
    obtain ⟨hp, g, d, tk, os⟩ := s
    have hal : PySem.W.alongIn X.K "__init__" ((cdC'.mro.dropWhile (· != .ref C)).drop 1) = some (some (.ref f2)) := by
      unfold PySem.W.ks_superIn at hm
      rw [hcC'] at hm
      exact hm
    refine PySem.ks_wpAny_getMethod_super hso (PySem.W.looks_opaque I1.kIn S.opq) (l₀ := cdC'.mro) (fun A Q E s k q => wpAny_bind ((PySem.W.looks_clsIn I1.kIn hcC') A _ E s k (wpAny_pure q))) rfl I1.kIn hal (I1.kIn _ _ lk) rfl (exo_ne I1.kIn (k _ _ hat) hcC') (by decide) ?_
    have hg : (h'.push (PySem.W.methodObj (.ref f2) (.ref a))).get? h'.objs.size = some (PySem.W.methodObj (.ref f2) (.ref a)) := Heap.get?_push_size _ rfl
    have I2 : L2.Inv X pins σ H ⟨h'.push (PySem.W.methodObj (.ref f2) (.ref a)), g, d, tk + 1, os⟩ := I1.kept (t' := tk + 1) fun b o e => Heap.get?_push_of_some _ e
    have I3 := fresh_pin I2 hg (I1.hok.fresh (Nat.le_refl _)) (Nat.ne_of_gt I1.lt) (I1.nofs (Nat.le_refl _)) (fun v z => by cases z)
    have st : starEach [e] X.env = [(false, eval e X.env)] := star_pl hpl
    have hsp := pa.run p3 _ _ σ H _ I3 hA
    rw [st] at hsp ⊢
    refine PySem.W.callWith_of (P := PySem.W.MethP X.K h'.objs.size f2 (.ref a)) rfl (PySem.W.keeps_M (by unfold PySem.W.fnIn; rw [lk])) (Calls.evalArgs_plain ?_)
    refine thn hsp fun us s1 ⟨vs, H1, I4, r, ev, eH⟩ => ?_
    subst ev eH
    have hq1 := (I4.pin _ (List.mem_append_right _ List.mem_cons_self)).1
    refine ⟨⟨hq1, I4.kIn⟩, ?_⟩
    have r2 : Vals [V.ref a, v] (Value.ref a :: us ++ []) := by rw [List.append_nil]; exact .cons rfl r
    have hl : (Value.ref a :: us ++ []).length = ps2.length := by rw [← r2.length]; exact F2.len _ _ _ _ q
    refine wpAny_call (PySem.ks_codeAny_call_bound hq1 (codeAny_mono (F2.run X.A X.stack s1 _ ⟨Value.ref a :: us, []⟩ (Value.ref a :: us ++ []) [V.ref a, v] _ noE hr I4.env0 (hb2 s1 (Value.ref a :: us) I4.kIn hl) r2 q) fun r' s' hq => ?_))
    cases r' with
    | error e' =>
      obtain ⟨_, _, _, _, _, _, _, _, _, _, _, _, z⟩ := hq
      exact z.elim
    | ok fl =>
      cases fl with
      | ret u =>
        obtain ⟨v', H', I5, rv, q5⟩ := I4.after hq
        exact ⟨σ, H', I5.pins_of fun p hp => I5.pin p (List.mem_append_right _ (List.mem_cons_of_mem _ hp)), q5⟩
      | next => exact False.elim hq
      | brk => exact False.elim hq
      | cont => exact False.elim hq
end
end Fc

set_option Elab.async false
set_option linter.all false
set_option maxRecDepth 100000
set_option maxHeartbeats 4000000
/-! FcExc3: the making of an error of an own class. -/
namespace Fc
open PySem PySem.Spec PyProof.Rows L2 NdefX

/-! ### the making, by the def that __init__ is -/
section
variable {X : Cx} {C fI : Addr} {fd : FuncData} {ps : List Str} {sp : Sp} {k : Nat}
theorem mk_run {pins : List (Addr × Obj)} {σ : L2.St} {H1 : Hp} {s1 : Shared} {us : List Value} {vs : List V} {Q : XK} (T : OexC X.K C) (iC : PySem.W.findIn X.K (.ref C) "__init__" = some (some (.ref fI))) (tI : PySem.W.typeIn X.K (.ref fI) = some (.type "function"))
    (F1 : FnOk X.prog X.w X.K X.mg X.base (L2.CX X.prog X.w) k fI fd ps sp) (hr : Room (k + 1) X.A) (hb : L2.Binds X.K fd ps []) (I1 : L2.Inv X pins σ H1 s1) (r1 : Vals vs us) (hz : vs.length ≤ 1000)
    (q1 : ∀ a, H1 a = none → sp (.ref a :: (vs ++ [])) (upd H1 a (exo a C none)) (fun v H2 => v = .non ∧ ∃ (d : Addr) (fs : List (Str × V)), H2 a = some (exo a C (some d)) ∧ H2 d = some (exd d fs) ∧ H1 d = none ∧ Q (.ref C) (some d) (upd (del H2 a) d (.xd fs))) noE) :
    wpAny (model X.prog X.w) X.A (call (.ref C) us) (MkP X pins σ Q) X.xe s1 := by
  obtain ⟨nm, q, N, bs, bm, sn, sub, ab, col, dd, k0, k1, k2, k3, k5, hC, hbm⟩ := T.cls
  obtain ⟨hp, g, dr, tk, os⟩ := s1
  have hsz : hp.objs.size ≤ hp.objs.size + 1 := Nat.le_succ _
  have hn : H1 (hp.objs.size + 1) = none := I1.hok.fresh hsz
  have hq := q1 (hp.objs.size + 1) hn
  have kk : ∀ b o, hp.get? b = some o → ((hp.push (PySem.W.kdv_tup us)).push (PySem.HandSPX.excO C hp.objs.size)).get? b = some o := fun b o e => Heap.get?_push_of_some _ (Heap.get?_push_of_some _ e)
  have hget : ((hp.push (PySem.W.kdv_tup us)).push (PySem.HandSPX.excO C hp.objs.size)).get? (hp.objs.size + 1) = some (PySem.HandSPX.excO C hp.objs.size) := by heap_get
  have I2 : L2.Inv X pins σ (upd H1 (hp.objs.size + 1) (exo (hp.objs.size + 1) C none)) ⟨(hp.push (PySem.W.kdv_tup us)).push (PySem.HandSPX.excO C hp.objs.size), g, dr, tk, os⟩ :=
    I1.laid (t' := tk) (a := hp.objs.size + 1) (o := exo (hp.objs.size + 1) C none) (h' := (hp.push (PySem.W.kdv_tup us)).push (PySem.HandSPX.excO C hp.objs.size)) kk hsz (exo_ok hget)
  have r2 : Vals (V.ref (hp.objs.size + 1) :: (vs ++ [])) (Value.ref (hp.objs.size + 1) :: (us ++ [])) := .cons rfl (r1.append .nil)
  have hl : (Value.ref (hp.objs.size + 1) :: us ++ []).length = ps.length := by
    have e := r2.length
    rw [F1.len _ _ _ _ hq] at e
    exact e.symm
  have hus : us.length ≤ sizeLine := by
    rw [← Paired.length r1, sizeLine_eq]
    omega
  refine wpAny_call (PySem.HandSPX.call_own F.excBase_ValueError (fun Y => PySem.HandSPX.refsVE_contains Y bm hbm) (I1.kIn _ _ hC) (PySem.W.looks_findIn I1.kIn iC) (fun self => PySem.W.bind_fn I1.kIn self tI) hus
    (codeAny_mono (F1.run _ X.stack _ _ ⟨Value.ref (hp.objs.size + 1) :: us, []⟩ (Value.ref (hp.objs.size + 1) :: (us ++ [])) _ _ noE (hr.make C us []) (I2.env0.make C us []) (by have z := hb _ (Value.ref (hp.objs.size + 1) :: us) I2.kIn hl; exact z) r2 hq) fun r s' hq' => ?_))
  cases r with
  | error er =>
    obtain ⟨_, _, _, _, _, _, _, _, _, _, _, _, z⟩ := hq'
    exact z.elim
  | ok fl =>
    cases fl with
    | ret u =>
      obtain ⟨v, H2, os2, bare2, un2, hok2, rv, ev, d, fs, ea, ed, hd1, q2⟩ := hq'
      subst ev
      obtain ⟨h2, g2, d2, t2, os'⟩ := s'
      exact ⟨rv, mk_end (raises_own T.exC T.tyC) I1 hsz kk un2 hok2 os2 bare2 ea ed hd1 q2⟩
    | next => exact False.elim hq'
    | brk => exact False.elim hq'
    | cont => exact False.elim hq'
theorem args_nil2 {M : Model} {A : Around} {E : Value → Shared → Prop} {s : Shared} {f : Value} {Q : Args → Shared → Prop} (h : wpAny M A (spliced []) (fun vs s' => Q ⟨vs, []⟩ s') E s) : wpAny M A (evalArgs f true [] []) Q E s := by
  unfold evalArgs
  show wpAny M A (spliced [] >>= _) Q E s
  refine wpAny_bind (wpAny_mono h (fun vs s' h' => wpAny_bind (wpAny_pure ?_)) fun _ _ x => x)
  refine wpAny_holding ?_
  exact wpAny_bind (wpAny_pure (wpAny_bind (wpAny_pure (wpAny_pure h'))))
theorem pmk_ini {x : Str} {p pos : Pos} {es : List Expr} {ta : L2.TA} (T : OexC X.K C) (iC : PySem.W.findIn X.K (.ref C) "__init__" = some (some (.ref fI))) (tI : PySem.W.typeIn X.K (.ref fI) = some (.type "function"))
    (F1 : FnOk X.prog X.w X.K X.mg X.base (L2.CX X.prog X.w) k fI fd ps sp) (hr : Room (k + 1) X.A) (hb : L2.Binds X.K fd ps []) (hg : Gl X x) (hm : X.mg x = some (.ref C)) (ha : PA X es ta) (hpl : ∀ e ∈ es, plE e = true) (hdb : (x == ("__debug__" : Str)) = false) :
    PMk X (.Call (.Name x p) es [] pos) (tMkO C sp [] ta) := by
  intro pins s σ H Q I h
  refine wpAny_Call_Name_kw (ld_glob I hg hm ?_ hdb)
  cases es with
  | nil =>
    have hA := ha.run pos pins s σ H _ I h
    refine PySem.W.callWith_of (P := X.K.In) rfl (PySem.W.keeps_K T.kC) (args_nil2 ?_)
    exact thn hA fun us s1 ⟨vs, H1, I1, r1, hz, q1⟩ => ⟨I1.kIn, mk_run T iC tI F1 hr hb I1 r1 hz q1⟩
  | cons e es =>
    refine PySem.W.callWith_K (h₀ := X.base) I.ok.mod.kin T.kC (thn (ha.run pos pins s σ H _ I h) fun us s1 ⟨vs, H1, I1, r1, hz, q1⟩ => ⟨I1.kIn, ?_⟩) (star_pl (hpl e List.mem_cons_self)) ?_
    · exact mk_run T iC tI F1 hr hb I1 r1 hz q1
    · have key : ∀ es : List Expr, (∀ e ∈ es, plE e = true) → (backTo pos (starEach es X.env)).any (·.1) = false := by
        intro es
        induction es with
        | nil => intro _; rfl
        | cons x xs ih =>
          intro h
          rw [star_pl (h x List.mem_cons_self)]
          show (false || (backTo pos (starEach xs X.env)).any (·.1)) = false
          rw [ih fun e he => h e (List.mem_cons_of_mem _ he)]; rfl
      exact key es fun e he => hpl e (List.mem_cons_of_mem _ he)
end
end Fc

set_option Elab.async false
set_option linter.all false
set_option maxRecDepth 100000
set_option maxHeartbeats 4000000
/-! FcExc4: the bodies of the __init__ defs. -/
namespace Fc
open PySem PySem.Spec PyProof.Rows L2 NdefX

abbrev word_ : Str := "word"
/-- super().__init__(e) -/
def vSup : Stmt → Option Expr
  | .Expr (.Call (.Attribute (.Call (.Name f _) [] [] _) n p2) [e] [] p3) _ => if (decide (f = "super") && decide (n = "__init__") && (p2.endLine == p3.line)) = true then some e else none
  | _ => none
theorem vSup_eq {s : Stmt} {e : Expr} (h : vSup s = some e) : ∃ p0 p1 p2 p3 p4, s = supS e p0 p1 p2 p3 p4 ∧ (p2.endLine == p3.line) = true := by
  unfold vSup at h
  split at h
  · split at h
    · rename_i hc
      simp only [Bool.and_eq_true, decide_eq_true_eq] at hc
      obtain ⟨⟨rfl, rfl⟩, h3⟩ := hc
      cases h
      exact ⟨_, _, _, _, _, rfl, h3⟩
    · cases h
  · cases h
/-- self.f = x -/
def vFld : Stmt → Option (Str × Str × Str)
  | .Assign [.Attribute (.Name s _) f _] (.Name x _) _ => some (s, f, x)
  | _ => none
theorem vFld_eq {s : Stmt} {a f x : Str} (h : vFld s = some (a, f, x)) : ∃ p1 p2 p3 p4, s = .Assign [.Attribute (.Name a p1) f p2] (.Name x p3) p4 := by
  unfold vFld at h
  split at h
  · cases h; exact ⟨_, _, _, _, rfl⟩
  · cases h
def fldsIs (self : Str) : List Str → List Stmt → Bool
  | [], [] => true
  | f :: fs, s :: ss => decide (vFld s = some (self, f, f)) && fldsIs self fs ss
  | _, _ => false
def rootB (self : Str) : List Stmt → Bool
  | [s0, s1] => (match vSup s0 with
    | some e => decide (vName e = some word_)
    | none => false) && decide (vFld s1 = some (self, word_, word_))
  | _ => false
def subB (self w : Str) (pars : List Str) : List Stmt → Bool
  | s0 :: rest => (match vSup s0 with
    | some e => decide (vConst e = some (.str w))
    | none => false) && fldsIs self pars rest
  | _ => false
section
variable {X : Cx} {pins : List (Addr × Obj)} {σ : L2.St} {H : Hp} {s : Shared} {C C' f a : Addr} {F : NF} {ps : List Str} {fd : FuncData} {Lc : Addr}
/-- a parameter is read -/
theorem pe_par (hN : X.N = ps ++ [cls_]) (hsc : X.env.scope = F.scope) (S : NScope (ps ++ [cls_]) ps [cls_] F.scope) {i : Nat} {x : Str} {p : Pos} (h : ps[i]? = some x) (ok : okName x = true) : PE X (.Name x p) (tVar i) := by
  obtain ⟨n1, n2, _⟩ := okName_ok ok
  exact pe_var (by rw [hN, List.getElem?_append_left (List.getElem?_eq_some_iff.mp h).1]; exact h) (by rw [hsc]; exact .inl (S.par _ (List.mem_of_getElem? h))) n1 n2
/-- the further fields -/
theorem flds_ok {self : Str} (hN : X.N = ps ++ [cls_]) (hsc : X.env.scope = F.scope) (S : NScope (ps ++ [cls_]) ps [cls_] F.scope) (hself : ps[0]? = some self) (oks : okName self = true) (T : OexC X.K C) {dx : Addr} : ∀ {pars : List Str} {rest : List Stmt} {j : Nat}, fldsIs self pars rest = true →
    (∀ (i : Nat) (x : Str), pars[i]? = some x → ps[j + i]? = some x ∧ okName x = true ∧ PySem.W.findIn X.K (.ref C) x = some none) →
    ∃ t, PSs X rest t ∧ ∀ (J : Ends) (σ : L2.St) (H : Hp) (fs : List (Str × V)) (vs : List V), σ[0]? = some (some (.ref a)) → (∀ (i : Nat) (v : V), vs[i]? = some v → σ[j + i]? = some (some v)) → vs.length = pars.length → H a = some (exo a C (some dx)) → H dx = some (exd dx fs) → dx ≠ a → fs.length + pars.length ≤ 900 →
      (∀ H', (∀ b, b ≠ dx → H' b = H b) → H' dx = some (exd dx ((pars.zip vs).reverse ++ fs)) → J.nx σ H') → t J σ H := by
  intro pars
  induction pars with
  | nil =>
    intro rest j h _
    cases rest with
    | nil => exact ⟨_, pss_nil, fun J σ H fs vs _ _ hl ha hd _ _ q => q H (fun _ _ => rfl) (by simpa using hd)⟩
    | cons _ _ => cases h
  | cons x pars ih =>
    intro rest j h hp
    cases rest with
    | nil => cases h
    | cons st rest =>
      rw [fldsIs, Bool.and_eq_true, decide_eq_true_eq] at h
      obtain ⟨p1, p2, p3, p4, rfl⟩ := vFld_eq h.1
      obtain ⟨h0, h1, h2⟩ := hp 0 x rfl
      obtain ⟨t, ht, hq⟩ := ih (j := j + 1) h.2 fun i y hy => by
        have z := hp (i + 1) y (by simpa using hy)
        rw [show j + 1 + i = j + (i + 1) by omega]
        exact z
      refine ⟨_, pss_cons (ps_ost (f := x) (pe_par hN hsc S hself oks) (pe_par hN hsc S (i := j) h0 h1)) ht, fun J σ H fs vs hs0 hv hl ha hd hne hz q => ?_⟩
      cases vs with
      | nil => simp at hl
      | cons v vs =>
        refine ⟨v, by simpa using hv 0 v rfl, .ref a, hs0, a, C, rfl, T, h2, .inr ⟨dx, fs, ha, hd, by omega, ?_⟩⟩
        refine hq J σ _ ((x, v) :: fs) vs hs0 (fun i u hu => ?_) (by simpa using hl) (by rw [upd_ne (fun z => hne z.symm)]; exact ha) upd_same hne (by simp at hz ⊢; omega) fun H' k1 k2 => ?_
        · rw [show j + 1 + i = j + (i + 1) by omega]
          exact hv (i + 1) u (by simpa using hu)
        · refine q H' (fun b hb => (k1 b hb).trans (upd_ne hb)) ?_
          rw [k2]
          simp
end
section
variable {D : Dat} {K : PySem.W.Frag} {P : Program} {w : World} {mg : Str → Option Value} {base : Heap} {r C f : Addr} {F : NF} {ps : List Str} {fd : FuncData}
/-- what is said of a class whose errors the root's __init__ may make -/
structure RootFor (K : PySem.W.Frag) (r C' : Addr) : Prop where
  ex : OexC K C'
  cl : ∃ cd, PySem.W.clsIn K C' = some cd
  sub : PySem.W.mroIn K C' (.ref r) = some true
  su : PySem.W.ks_superIn K C' r "__init__" = some (some (.builtin "ValueError.__init__"))
  ve : PySem.W.subIn K (.ref C') (.type "ValueError") = some true
  wd : PySem.W.findIn K (.ref C') word_ = some none
/-- what is said of the text as a whole -/
structure TxtF (K : PySem.W.Frag) (P : Program) (mg : Str → Option Value) : Prop where
  opq : PySem.W.nsIn K cStatics "thirdparty.any" = some none
  mg : mg "super" = none
  top : (P.main.scope.names.lookup ("super" : Str)).isSome = false
def spR (K : PySem.W.Frag) (r : Addr) : Sp := fun vs H Q _ => ∃ (a : Addr) (v : V) (C' : Addr), vs = [.ref a, v] ∧ RootFor K r C' ∧ H a = some (exo a C' none) ∧ ∀ dx, H dx = none → dx ≠ a → Q .non (upd (upd H dx (exd dx [(word_, v)])) a (exo a C' (some dx)))
theorem root_ok {CX : CXT} {self : Str} (Ii : IniF K P r f F ps fd) (tf : TxtF K P mg) (hps : ps = [self, word_]) (oks : okName self = true) (hr : ∃ cd, PySem.W.clsIn K r = some cd) (hb : rootB self F.body = true) : FnOk P w K mg base CX 1 f fd ps (spR K r) := by
  subst hps
  refine ini_of (k := 0) Ii (fun vs H Q E ⟨a, v, C', e, _⟩ => by rw [e]; rfl) fun A outer s H vs Q E s1 room ⟨a, v, C', e, rf, ha, q⟩ I => ?_
  subst e
  generalize hbd : F.body = body at hb
  unfold rootB at hb
  split at hb
  · rename_i s0 s1'
    rw [Bool.and_eq_true, decide_eq_true_eq] at hb
    obtain ⟨hb1, hb2⟩ := hb
    split at hb1
    · rename_i e he
      have hb1 := of_decide_eq_true hb1
      obtain ⟨pw, rfl⟩ := vName_eq hb1
      obtain ⟨p0, p1, p2, p3, p4, rfl, hline⟩ := vSup_eq he
      obtain ⟨q1, q2, q3, q4, rfl⟩ := vFld_eq hb2
      have pw' : PE (ncx CX P w K mg base ([self, word_] ++ [cls_]) F f A outer s H E) (.Name word_ pw) (tVar 1) := pe_par (i := 1) rfl rfl Ii.sc rfl (by decide)
      refine PySem.ks_wpAt_execs_cons (PySem.ks_wpAt_mono (sup_b (J := { nx := fun σ' H' => σ' = startF ([self, word_] ++ [cls_]) [V.ref a, v] [some (.ref r)] ∧ H' = H, rt := fun _ _ => False }) (Lc := s.heap.objs.size) Ii ⟨hr, rf.cl, rf.sub, tf.opq, tf.mg, tf.top⟩ rf.ex rf.ve rf.su I rfl rfl rfl ha (pa_cons pw' pa_nil) rfl hline ⟨v, rfl, rfl, rfl⟩ ⟨rfl, rfl⟩) (fun fl s' hs => ?_) fun _ _ x => x)
      cases fl with
      | next =>
        obtain ⟨σ', H', I', rfl, rfl⟩ := hs
        refine PySem.wpAt_of_wpAny ?_
        have hst := ps_ost (X := ncx CX P w K mg base ([self, word_] ++ [cls_]) F f A outer s H' E) (f := word_) (p' := q2) (pos := q4) (pe_par (i := 0) (p := q1) rfl rfl Ii.sc rfl oks) (pe_par (i := 1) (p := q3) rfl rfl Ii.sc rfl (by decide))
        refine (pss_one hst).run [] s' _ H' _ I' ⟨v, rfl, .ref a, rfl, a, C', rfl, rf.ex, rf.wd, .inl ⟨ha, fun dx h1 h2 => q dx h1 h2⟩⟩
      | ret u => obtain ⟨_, _, _, _, _, z⟩ := hs; exact z.elim
      | brk => obtain ⟨_, _, _, z⟩ := hs; exact z.elim
      | cont => obtain ⟨_, _, _, z⟩ := hs; exact z.elim
    · cases hb1
  · cases hb
def spSub (C : Addr) (wd : Str) (pars : List Str) : Sp := fun vs H Q _ => ∃ (a : Addr) (args : List V), vs = .ref a :: args ∧ args.length = pars.length ∧ H a = some (exo a C none) ∧
  ∀ dx H', H dx = none → dx ≠ a → (∀ b, b ≠ a → b ≠ dx → H' b = H b) → H' a = some (exo a C (some dx)) → H' dx = some (exd dx ((pars.zip args).reverse ++ [(word_, .str wd)])) → Q .non H'
theorem sub_ok {self wd : Str} {pars : List Str} {fr : Addr} {fdr : FuncData} {psr : List Str} (Ii : IniF K P C f F ps fd) (tf : TxtF K P mg) (rf : RootFor K r C) (hps : ps = self :: pars) (oks : okName self = true) (hpo : ∀ x ∈ pars, okName x = true ∧ PySem.W.findIn K (.ref C) x = some none) (hpl : pars.length ≤ 100)
    (hsub : PySem.W.mroIn K C (.ref C) = some true) (hsu : PySem.W.ks_superIn K C C "__init__" = some (some (.ref fr))) (Fr : FnOk P w K mg base (L2.CX P w) 1 fr fdr psr (spR K r)) (hbr : L2.Binds K fdr psr []) (lkr : ∃ oc od osl, K.lookup fr = some ⟨oc, od, .func fdr, osl⟩ ∧ oc = .type "function")
    (hb : subB self wd pars F.body = true) : FnOk P w K mg base (L2.CX P w) 2 f fd ps (spSub C wd pars) := by
  subst hps
  refine ini_of (k := 1) Ii (fun vs H Q E ⟨a, args, e, hl, _⟩ => by rw [e, List.length_cons, hl]; rfl) fun A outer s H vs Q E s1 room ⟨a, args, e, hl, ha, q⟩ I => ?_
  subst e
  generalize hbd : F.body = body at hb
  unfold subB at hb
  split at hb
  · rename_i s0 rest
    rw [Bool.and_eq_true] at hb
    obtain ⟨hb1, hb2⟩ := hb
    split at hb1
    · rename_i e he
      have hb1 := of_decide_eq_true hb1
      obtain ⟨kk, pw, rfl⟩ := vConst_eq hb1
      obtain ⟨p0, p1, p2, p3, p4, rfl, hline⟩ := vSup_eq he
      refine PySem.ks_wpAt_execs_cons (PySem.ks_wpAt_mono (sup_f (X := ncx (L2.CX P w) P w K mg base ((self :: pars) ++ [cls_]) F f A outer s H E) (v := .str wd) (J := { nx := fun σ' H' => σ' = startF ((self :: pars) ++ [cls_]) (V.ref a :: args) [some (.ref C)] ∧ ∃ dx, H dx = none ∧ dx ≠ a ∧ H' = upd (upd H dx (exd dx [(word_, .str wd)])) a (exo a C (some dx)), rt := fun _ _ => False }) (Lc := s.heap.objs.size) Ii ⟨rf.cl, rf.cl, hsub, tf.opq, tf.mg, tf.top⟩ hsu Fr room hbr lkr I rfl rfl rfl ha (pa_cons pe_str pa_nil) rfl hline ⟨rfl, rfl⟩ ⟨a, .str wd, C, rfl, rf, ha, fun dx h1 h2 => ⟨rfl, dx, h1, h2, rfl⟩⟩) (fun fl s' hs => ?_) fun _ _ x => x)
      cases fl with
      | next =>
        obtain ⟨σ', H', I', rfl, dx, h1, h2, rfl⟩ := hs
        refine PySem.wpAt_of_wpAny ?_
        obtain ⟨t, ht, hq⟩ := flds_ok (X := ncx (L2.CX P w) P w K mg base ((self :: pars) ++ [cls_]) F f A outer s H E) (F := F) (a := a) (C := C) (dx := dx) (j := 1) rfl rfl Ii.sc rfl oks rf.ex hb2 fun i x hx => ⟨by rw [Nat.add_comm]; simpa using hx, hpo x (List.mem_of_getElem? hx)⟩
        refine ht.run [] s' _ _ _ I' (hq _ _ _ [(word_, .str wd)] args rfl (fun i v hv => ?_) hl upd_same (by rw [upd_ne h2]; exact upd_same) h2 (by simp; omega) fun H' k1 k2 => ?_)
        · show (List.map some (V.ref a :: args) ++ _)[1 + i]? = _
          rw [List.getElem?_append_left (by have := (List.getElem?_eq_some_iff.mp hv).1; simp; omega), Nat.add_comm, List.map_cons, List.getElem?_cons_succ, List.getElem?_map, hv]
          rfl
        · refine q dx H' h1 h2 (fun b hb1 hb2 => ?_) ?_ k2
          · rw [k1 b hb2, upd_ne hb1, upd_ne hb2]
          · rw [k1 a (fun z => h2 z.symm)]; exact upd_same
      | ret u => obtain ⟨_, _, _, _, _, z⟩ := hs; exact z.elim
      | brk => obtain ⟨_, _, _, z⟩ := hs; exact z.elim
      | cont => obtain ⟨_, _, _, z⟩ := hs; exact z.elim
    · cases hb1
  · cases hb
end
/-! ### all of them -/
/-- a class below the root -/
structure SubF (D : Dat) (K : PySem.W.Frag) (P : Program) (r fr : Addr) (c : Nat) (cd : CD) : Prop where
  ini : ∃ f F fd self pars, IniF K P (D.ca K c) f F (self :: pars) fd ∧ okName self = true ∧ cd.flds = word_ :: pars ∧ (word_ :: pars).Nodup ∧ pars.length ≤ 100 ∧ (∀ x ∈ pars, okName x = true ∧ PySem.W.findIn K (.ref (D.ca K c)) x = some none) ∧ subB self cd.word pars F.body = true ∧
    PySem.W.findIn K (.ref (D.ca K c)) "__init__" = some (some (.ref f)) ∧ PySem.W.typeIn K (.ref f) = some (.type "function")
  rf : RootFor K r (D.ca K c)
  sub : PySem.W.mroIn K (D.ca K c) (.ref (D.ca K c)) = some true
  su : PySem.W.ks_superIn K (D.ca K c) (D.ca K c) "__init__" = some (some (.ref fr))
/-- the classes of the text: the root (whose errors are not made), and those below it -/
structure ExF (D : Dat) (K : PySem.W.Frag) (P : Program) (mg : Str → Option Value) : Prop where
  txt : TxtF K P mg
  root : ∃ r fr F fd self, IniF K P r fr F [self, word_] fd ∧ okName self = true ∧ (∃ cd, PySem.W.clsIn K r = some cd) ∧ rootB self F.body = true ∧ ∀ c cd, D.ct[c]? = some cd → cd.flds ≠ [] → SubF D K P r fr c cd
theorem zip_lookup {fs : List (Str × V)} : ∀ {pars : List Str} {args : List V} {i : Nat} {x : Str} {v : V}, pars.Nodup → pars[i]? = some x → args[i]? = some v → ((pars.zip args).reverse ++ fs).lookup x = some v
  | [], _, _, _, _, _, h, _ => by simp at h
  | _ :: _, [], _, _, _, _, _, h => by simp at h
  | p :: pars, a :: args, 0, x, v, nd, h1, h2 => by
    simp at h1 h2
    subst h1 h2
    rw [List.zip_cons_cons, List.reverse_cons, List.append_assoc, List.lookup_append]
    have : (pars.zip args).reverse.lookup p = none := by
      cases e : (pars.zip args).reverse.lookup p with
      | none => rfl
      | some u => exact absurd (List.of_mem_zip (List.mem_reverse.mp (PySem.mem_of_lookup e))).1 (List.nodup_cons.mp nd).1
    rw [this]
    simp [List.lookup]
  | p :: pars, a :: args, i + 1, x, v, nd, h1, h2 => by
    rw [List.zip_cons_cons, List.reverse_cons, List.append_assoc]
    exact zip_lookup (fs := [(p, a)] ++ fs) (i := i) (List.nodup_cons.mp nd).2 (by simpa using h1) (by simpa using h2)
theorem mk_all {D : Dat} {K : PySem.W.Frag} {P : Program} {w : World} {mg : Str → Option Value} {base : Heap} (fac : Facts D K mg) (E : ExF D K P mg) : MkAll D P w K mg base := by
  intro X hP hw hK hm hba hc hr c cd hcd es t p pos hpl hg hdb pa
  subst hP hw hK hm hba
  obtain ⟨r, fr, F, fd, self, Ir, oks, hrc, hrb, hsub⟩ := E.root
  by_cases hfl : cd.flds = []
  · -- never
    intro pins s σ H Q I h
    have pm : ∀ vs H1, (∃ ps, RPs X.K H1 vs ps ∧ ps.length + 1 = cd.flds.length ∧ ∀ cls d H2, (∀ b o, H1 b = some o → H2 b = some o) → XR D X.K cls d H2 c (.str cd.word :: ps) → Q cls d H2) → False := fun vs H1 ⟨ps, _, h2, _⟩ => by rw [hfl] at h2; simp at h2
    refine wpAny_Call_Name_kw (ld_glob I hg (fac.exc c cd hcd).mg ?_ hdb)
    cases es with
    | nil =>
      refine PySem.W.callWith_of (P := X.K.In) rfl (PySem.W.keeps_K (fac.exc c cd hcd).keep) (args_nil2 ?_)
      exact thn (pa.run pos pins s σ H _ I h) fun us s1 ⟨vs, H1, I1, r1, q1⟩ => (pm vs H1 q1).elim
    | cons e es =>
      refine PySem.W.callWith_K (h₀ := X.base) I.ok.mod.kin (fac.exc c cd hcd).keep (thn (pa.run pos pins s σ H _ I h) fun us s1 ⟨vs, H1, I1, r1, q1⟩ => (pm vs H1 q1).elim) (star_pl (hpl e List.mem_cons_self)) ?_
      have key : ∀ es : List Expr, (∀ e ∈ es, plE e = true) → (backTo pos (starEach es X.env)).any (·.1) = false := by
        intro es
        induction es with
        | nil => intro _; rfl
        | cons x xs ih =>
          intro h
          rw [star_pl (h x List.mem_cons_self)]
          show (false || (backTo pos (starEach xs X.env)).any (·.1)) = false
          rw [ih fun e he => h e (List.mem_cons_of_mem _ he)]; rfl
      exact key es fun e he => hpl e (List.mem_cons_of_mem _ he)
  · obtain ⟨⟨f, F', fd', self', pars, Ii, oks', hfs, hnd, hlen, hpo, hsb, hin, hty⟩, rf, hmr, hsu⟩ := hsub c cd hcd hfl
    have Fr : FnOk X.prog X.w X.K X.mg X.base (L2.CX X.prog X.w) 1 fr fd [self, word_] (spR X.K r) := root_ok Ir E.txt rfl oks hrc hrb
    have Fs : FnOk X.prog X.w X.K X.mg X.base (L2.CX X.prog X.w) 2 f fd' (self' :: pars) (spSub (D.ca X.K c) cd.word pars) := sub_ok Ii E.txt rf rfl oks' hpo hlen hmr hsu Fr Ir.bi Ir.lk hsb
    intro pins s σ H Q I h
    have pa' : PA X es (fun σ H Q' => ∃ Q0, t σ H Q0 ∧ ∀ vs H1, Q0 vs H1 → Q' vs H1) := ⟨fun pos pins s σ H Q' I ⟨Q0, h0, hi⟩ => thn (pa.run pos pins s σ H Q0 I h0) fun us s1 ⟨vs, H1, I1, r1, q1⟩ => ⟨vs, H1, I1, r1, hi _ _ q1⟩⟩
    refine pmk_ini (k := 2) rf.ex hin hty Fs (hr.mono (by omega)) Ii.bi hg (fac.exc c cd hcd).mg pa' hpl hdb pins s σ H Q I ⟨_, h, fun vs H1 ⟨qs, r, hl, hq⟩ => ?_⟩
    have hln : vs.length = pars.length := by rw [r.length]; rw [hfs, List.length_cons] at hl; omega
    refine ⟨by omega, fun a ha => ⟨a, vs ++ [], rfl, by rw [List.append_nil]; exact hln, upd_same, fun dx H' h1 h2 h3 h4 h5 => ?_⟩⟩
    rw [List.append_nil] at h5
    have hdx : H1 dx = none := by rw [upd_ne h2] at h1; exact h1
    refine ⟨rfl, dx, _, h4, h5, hdx, hq _ _ _ (fun b o hb => ?_) ?_⟩
    · have hba : b ≠ a := fun z => by rw [z, ha] at hb; cases hb
      have hbd : b ≠ dx := fun z => by rw [z, hdx] at hb; cases hb
      rw [upd_ne hbd, del_ne hba, h3 b hba hbd, upd_ne hba]
      exact hb
    · have ext : Ext H1 (upd (del H' a) dx (.xd ((pars.zip vs).reverse ++ [(word_, V.str cd.word)]))) := by
        have key : ∀ b o, H1 b = some o → (upd (del H' a) dx (.xd ((pars.zip vs).reverse ++ [(word_, V.str cd.word)]))) b = some o := fun b o hb => by
          have hba : b ≠ a := fun z => by rw [z, ha] at hb; cases hb
          have hbd : b ≠ dx := fun z => by rw [z, hdx] at hb; cases hb
          rw [upd_ne hbd, del_ne hba, h3 b hba hbd, upd_ne hba]
          exact hb
        exact ⟨fun b xs z => key b _ z, fun b o u z => key b _ z, fun b fs z => key b _ z⟩
      refine ⟨cd, dx, _, hcd, rfl, rfl, upd_same, fun i x hx => ?_⟩
      rw [hfs] at hx
      cases i with
      | zero =>
        simp at hx
        subst hx
        refine ⟨.str cd.word, .str cd.word, ?_, rfl, .str _⟩
        rw [List.lookup_append]
        have : (pars.zip vs).reverse.lookup word_ = none := by
          cases e : (pars.zip vs).reverse.lookup word_ with
          | none => rfl
          | some u => exact absurd (List.of_mem_zip (List.mem_reverse.mp (PySem.mem_of_lookup e))).1 (List.nodup_cons.mp hnd).1
        rw [this]
        simp [List.lookup]
      | succ i =>
        have hx : pars[i]? = some x := by simpa using hx
        have hi : i < vs.length := by rw [hln]; exact (List.getElem?_eq_some_iff.mp hx).1
        have hi2 : i < qs.length := by rw [← r.length]; exact hi
        obtain ⟨v, hv, rv⟩ := r.get (List.getElem?_eq_getElem hi2)
        exact ⟨v, qs[i], zip_lookup (List.nodup_cons.mp hnd).2 hx hv, by rw [List.getElem?_cons_succ]; exact List.getElem?_eq_getElem hi2, RP.ext ext _ _ rv⟩
end Fc

set_option Elab.async false
set_option linter.all false
set_option maxRecDepth 100000
set_option maxHeartbeats 4000000
/-! FcHead: the facts by names; the law's end. -/
namespace Fc
open PySem PySem.Spec PyProof.Rows L2 NdefX

/-! ### parameters bound -/
theorem zip_has {α : Type} : ∀ {ps : List Str} {us : List α} {x : Str}, us.length = ps.length → x ∈ ps → ((ps.zip us).lookup x).isSome = true
  | [], _, _, _, h => by cases h
  | p :: ps, [], _, e, _ => by simp at e
  | p :: ps, u :: us, x, e, h => by
    rw [List.zip_cons_cons]
    by_cases hx : x = p
    · subst hx; simp [List.lookup]
    · rcases List.mem_cons.mp h with h | h
      · exact absurd h hx
      · have := zip_has (us := us) (by simpa using e) h
        simp only [List.lookup, beq_eq_false_iff_ne.mpr hx]
        exact this
theorem fm_congr {α β : Type} {f g : α → Option β} : ∀ {l : List α}, (∀ x ∈ l, f x = g x) → l.filterMap f = l.filterMap g
  | [], _ => rfl
  | x :: xs, h => by
    rw [List.filterMap_cons, List.filterMap_cons, h x List.mem_cons_self, fm_congr fun y hy => h y (List.mem_cons_of_mem _ hy)]
theorem zip_fm {α : Type} : ∀ {ps : List Str} {us : List α}, us.length = ps.length → ps.Nodup → (ps.filterMap fun n => ((ps.zip us).lookup n).map fun x => (n, x)) = ps.zip us
  | [], us, e, _ => by cases us with | nil => rfl | cons _ _ => simp at e
  | p :: ps, [], e, _ => by simp at e
  | p :: ps, u :: us, e, nd => by
    have ih := zip_fm (ps := ps) (us := us) (by simpa using e) (List.nodup_cons.mp nd).2
    rw [List.zip_cons_cons, List.filterMap_cons]
    simp only [List.lookup, beq_self_eq_true, Option.map_some]
    congr 1
    rw [← ih]
    refine fm_congr fun x hx => ?_
    have hne : (x == p) = false := beq_eq_false_iff_ne.mpr fun z => (List.nodup_cons.mp nd).1 (z ▸ hx)
    rw [hne, ih]
theorem bind_all {fd : FuncData} {ps : List Str} {us : List Value} {args : List Arg} (hp : fd.params = ⟨[], args, none, [], [], none, []⟩) (hps : args.map (·.arg) = ps) (hd : fd.defaults = .none) (hnd : ps.Nodup) (hl : us.length = ps.length) : bindArgs fd ⟨us, []⟩ = pure (ps.zip us) := by
  obtain ⟨n1, n2, n3, n4, n5, n6, n7, n8, n9, n10, n11, n12, n13, n14, n15⟩ := fd
  dsimp only at hp hd
  subst hp hd
  have hm : (ps.filter fun n => ((ps.zip us).lookup n).isNone) = [] := by
    rw [List.filter_eq_nil_iff]
    intro x hx
    have := zip_has (us := us) hl hx
    cases e : (ps.zip us).lookup x with
    | none => rw [e] at this; cases this
    | some _ => simp
  unfold bindArgs
  have hz : (ps.filterMap fun n => ((ps.zip us).lookup n).map fun x => (n, x)) = ps.zip us := zip_fm hl hnd
  have hn : notAStandIn Value.none = pure () := rfl
  simp [hps, seqItems?, hl, hm, hz, hn]
/-- parameters without any ado -/
def parsB (ps : List Str) : Arguments → Bool
  | ⟨[], args, none, [], [], none, []⟩ => decide (args.map (·.arg) = ps)
  | _ => false
theorem parsB_eq {ps : List Str} {p : Arguments} (h : parsB ps p = true) : ∃ args, p = ⟨[], args, none, [], [], none, []⟩ ∧ args.map (·.arg) = ps := by
  unfold parsB at h
  split at h
  · exact ⟨_, rfl, of_decide_eq_true h⟩
  · cases h

/-! ### what is told of a def, off the text -/
def defB (D : Dat) (d : He.DefD) (v : FD) (N : List Str) : Bool := parsB (N.take v.np) d.params && C8.scC N (N.take v.np) d.scope && decide (N.length = v.ns) && decide (v.np ≤ v.ns) && mSs D ⟨N, d.scope, true, fun _ => true⟩ v.body d.body
/-- all defs -/
def defsB (D : Dat) : List He.DefD → List FD → List (List Str) → List Str → Bool
  | [], [], [], [] => true
  | d :: ds, v :: vs, N :: Ns, x :: xs => decide (d.at_.1 = x) && d.at_.2.isNone && d.dfl.isEmpty && d.kwd.isEmpty && defB D d v N && defsB D ds vs Ns xs
  | _, _, _, _ => false
theorem defsB_at {D : Dat} : ∀ {ds : List He.DefD} {vs : List FD} {Ns : List (List Str)} {xs : List Str} {f : Nat} {x : Str}, defsB D ds vs Ns xs = true → xs[f]? = some x →
    ∃ d v N, ds[f]? = some d ∧ vs[f]? = some v ∧ Ns[f]? = some N ∧ d.at_ = (x, none) ∧ d.dfl = [] ∧ d.kwd = [] ∧ defB D d v N = true := by
  intro ds
  induction ds with
  | nil =>
    intro vs Ns xs f x h hx
    cases vs with
    | cons _ _ => cases h
    | nil => cases Ns with
      | cons _ _ => cases h
      | nil => cases xs with
        | cons _ _ => cases h
        | nil => simp at hx
  | cons d ds ih =>
    intro vs Ns xs f x h hx
    cases vs with
    | nil => cases h
    | cons v vs => cases Ns with
      | nil => cases h
      | cons N Ns => cases xs with
        | nil => cases h
        | cons y xs =>
          simp only [defsB, Bool.and_eq_true, decide_eq_true_eq] at h
          obtain ⟨⟨⟨⟨⟨h1, h2⟩, h3⟩, h4⟩, h5⟩, h6⟩ := h
          cases f with
          | zero =>
            simp at hx
            subst hx
            refine ⟨d, v, N, rfl, rfl, rfl, ?_, by simpa using h3, by simpa using h4, h5⟩
            obtain ⟨⟨p, q⟩, _⟩ := d
            dsimp only at h1 h2
            subst h1
            cases q with
            | none => rfl
            | some _ => cases h2
          | succ f => exact ih h6 (by simpa using hx)

/-! ### what is told of the classes, off the written part -/
def oexB (K : PySem.W.Frag) (C : Addr) : Bool := (match K.lookup C with
  | some ⟨.type t, _, .cls cd, sl⟩ => decide (t = "type") && (match cd.mro, sl.toList with
    | .ref C' :: bm, [_, _, _, _, some (.builtin n), _] => decide (C' = C) && decide (n = "ValueError.__new__") && !cd.hasDel && cd.hasDict && PySem.HandSPX.refsVE bm
    | _, _ => false)
  | _ => false) && decide (PySem.W.findIn K (.ref C) "__setattr__" = some (some (.builtin "object.__setattr__"))) && decide (PySem.W.subIn K (.ref C) (.type "BaseException") = some true) && decide (PySem.W.typeIn K (.ref C) = some (.type "type")) && PySem.W.keepIn K (.ref C)
theorem oexB_ok {K : PySem.W.Frag} {C : Addr} (h : oexB K C = true) : OexC K C := by
  unfold oexB at h
  simp only [Bool.and_eq_true, decide_eq_true_eq] at h
  obtain ⟨⟨⟨⟨h0, h1⟩, h2⟩, h3⟩, h4⟩ := h
  refine ⟨?_, h1, h2, h3, h4⟩
  split at h0
  · rename_i t dd cd sl ho
    rw [Bool.and_eq_true, decide_eq_true_eq] at h0
    obtain ⟨rfl, h0⟩ := h0
    split at h0
    · rename_i C' bm k0 k1 k2 k3 n k5 hm hs
      simp only [Bool.and_eq_true, decide_eq_true_eq, Bool.not_eq_true'] at h0
      obtain ⟨⟨⟨⟨rfl, rfl⟩, hdel⟩, hdic⟩, ht⟩ := h0
      obtain ⟨nm, bs, mro, ns, qn, hd, sn, sub, ab, col, del⟩ := cd
      dsimp only at hm hdel hdic
      subst hm hdel hdic
      have hsl : sl = #[k0, k1, k2, k3, some (.builtin "ValueError.__new__"), k5] := by
        obtain ⟨l⟩ := sl
        simp only at hs
        rw [hs]
      subst hsl
      exact ⟨nm, qn, ns, bs, bm, sn, sub, ab, col, dd, k0, k1, k2, k3, k5, ho, ht⟩
    · cases h0
  · cases h0
def excB (K : PySem.W.Frag) (C : Addr) : Bool := decide (PySem.W.findIn K (.ref C) "__getattribute__" = some (some (.builtin "BaseException.__getattribute__"))) && decide (PySem.W.findIn K (.ref C) "__getattr__" = some none) && decide (PySem.W.subIn K (.ref C) (.type "BaseException") = some true) && PySem.W.hasDictIn K C &&
  decide (PySem.W.findIn K (.ref C) "__class__" = some (some (.builtin "object.__class__"))) && decide (PySem.W.specialIn K (.builtin "object.__class__") "__get__" = some (some (.builtin "getset_descriptor.__get__"))) && decide (PySem.W.takesIn K (.builtin "object.__class__") = some true) && decide (PySem.W.mroIn K C (.type "object") = some true)
theorem excB_ok {K : PySem.W.Frag} {C : Addr} (h : excB K C = true) : ExcC K C ∧ XfC K C := by
  unfold excB at h
  simp only [Bool.and_eq_true, decide_eq_true_eq] at h
  obtain ⟨⟨⟨⟨⟨⟨⟨h1, h2⟩, h3⟩, h4⟩, h5⟩, h6⟩, h7⟩, h8⟩ := h
  exact ⟨⟨h1, h2, h3, h4, h5, h6, h7, h8⟩, ⟨h1, h2, h3, h4⟩⟩
/-- ExcFact but for the name -/
def ecfB (D : Dat) (K : PySem.W.Frag) (c : Nat) (cd : CD) : Bool := decide (PySem.W.nsIn K mainGlobals cd.name = some (some (.ref (D.ca K c)))) && PySem.W.keepIn K (.ref (D.ca K c)) && excB K (D.ca K c) && (cd.flds.all fun n => decide (PySem.W.findIn K (.ref (D.ca K c)) n = some none)) &&
  ((List.range D.ct.length).all fun d => decide (PySem.W.kitOne K (.ref (D.ca K c)) (.ref (D.ca K d)) = some (subc D.ct 8 c d)) && decide (PySem.W.exmOne K (.ref (D.ca K c)) (.ref (D.ca K d)) = some (subc D.ct 8 c d))) && decide (PySem.W.kitOne K (.ref (D.ca K c)) (.type "ValueError") = some true)
theorem ecfB_ok {D : Dat} {K : PySem.W.Frag} {mg : Str → Option Value} {h : Heap} {c : Nat} {cd : CD} (X : K.In h) (G : h.Ns mainGlobals mg) (e : ecfB D K c cd = true) : ExcFact D K mg c cd := by
  unfold ecfB at e
  simp only [Bool.and_eq_true, decide_eq_true_eq, List.all_eq_true] at e
  obtain ⟨⟨⟨⟨⟨h1, h2⟩, h3⟩, h4⟩, h5⟩, h6⟩ := e
  obtain ⟨i, x⟩ := excB_ok h3
  have hr : ∀ d dd, D.ct[d]? = some dd → d ∈ List.range D.ct.length := fun d dd hd => List.mem_range.mpr (List.getElem?_eq_some_iff.mp hd).1
  exact ⟨PySem.W.mg_of X G h1, h2, x, h4, i, fun d dd hd => (h5 d (hr d dd hd)).1, fun d dd hd => (h5 d (hr d dd hd)).2, h6⟩
/-- IniF, with the shape of the body -/
def iniB (K : PySem.W.Frag) (P : Program) (C f : Addr) (ps : List Str) (bodyB : List Stmt → Bool) : Bool := match K.lookup f with
  | some ⟨.type t, _, .func fd, _⟩ => decide (t = "function") && parsB ps fd.params && (match fd.body with
      | .stmts b => bodyB b
      | _ => false) && decide (fd.globals = mainGlobals) && decide (fd.builtins = builtinsNs) && (match fd.defaults with
      | .none => true
      | _ => false) && (match fd.code with
      | .ref c => PySem.W.codeIn K (.ref c) fd.qualname && (match K.lookup c with
        | some ⟨_, _, .fields vs, _⟩ => (match (vs[2]? : Option Value) with
          | some (.str file _) => P.main.file == file
          | _ => false)
        | _ => false)
      | _ => false) && (match fd.closure with
      | [(n, cc)] => decide (n = cls_) && (match K.lookup cc with
        | some ⟨_, _, .cell (some (.ref C')), _⟩ => decide (C' = C)
        | _ => false)
      | _ => false) && nscB (ps ++ [cls_]) ps [cls_] fd.scope && decide (fd.scope.names.lookup ("super" : Str) = some .globalImplicit)
  | _ => false
theorem iniB_ok {K : PySem.W.Frag} {P : Program} {C f : Addr} {p : Str} {ps : List Str} {bodyB : List Stmt → Bool} (h : iniB K P C f (p :: ps) bodyB = true) (nd : (p :: ps).Nodup) : ∃ F fd, IniF K P C f F (p :: ps) fd ∧ bodyB F.body = true := by
  unfold iniB at h
  split at h
  · rename_i t od fd osl lk
    simp only [Bool.and_eq_true, decide_eq_true_eq] at h
    obtain ⟨⟨⟨⟨⟨⟨⟨⟨⟨rfl, h1⟩, h2⟩, h3⟩, h4⟩, h5⟩, h6⟩, h7⟩, h8⟩, h9⟩ := h
    obtain ⟨args, hp, hargs⟩ := parsB_eq h1
    have hd0 : fd.defaults = .none := by
      split at h5
      · assumption
      · cases h5
    have bi : L2.Binds K fd (p :: ps) [] := .all fun us hl => bind_all hp hargs hd0 nd hl
    obtain ⟨n1, n2, n3, n4, n5, n6, n7, n8, n9, n10, n11, n12, n13, n14, n15⟩ := fd
    dsimp only at h1 h2 h3 h4 h5 h6 h7 h8 h9 hp hd0
    split at h2
    · rename_i b
      split at h6
      · rename_i c
        rw [Bool.and_eq_true] at h6
        obtain ⟨h6, h6b⟩ := h6
        split at h6b
        · rename_i oc2 od2 vs sl2 lc
          split at h6b
          · rename_i file tk hvs
            split at h7
            · rename_i n cc
              rw [Bool.and_eq_true, decide_eq_true_eq] at h7
              obtain ⟨rfl, h7⟩ := h7
              split at h7
              · rename_i oc3 od3 C' sl3 lcc
                have h7 := of_decide_eq_true h7
                subst h7 h3 h4
                refine ⟨⟨n1, n2, n3, b, n5, [(cls_, cc)], c⟩, _, ⟨⟨_, _, _, lk, rfl⟩, ⟨n8, n9, n10, n11, n12, n14, rfl⟩, bi, h6, ⟨cc, _, rfl, lcc, rfl⟩, nscope_by h8, h9, ?_, ⟨_, vs, file, tk, lc, rfl, hvs, h6b⟩⟩, h2⟩
                cases args with
                | nil => simp at hargs
                | cons ar args =>
                  simp at hargs
                  exact ⟨ar, by rw [hp]; rfl, by simp [hargs.1]⟩
              · cases h7
            · cases h7
          · cases h6b
        · cases h6b
      · cases h6
    · cases h2
  · cases h
def rootForB (K : PySem.W.Frag) (r C' : Addr) : Bool := oexB K C' && (PySem.W.clsIn K C').isSome && decide (PySem.W.mroIn K C' (.ref r) = some true) && decide (PySem.W.ks_superIn K C' r "__init__" = some (some (.builtin "ValueError.__init__"))) && decide (PySem.W.subIn K (.ref C') (.type "ValueError") = some true) && decide (PySem.W.findIn K (.ref C') word_ = some none)
theorem rootForB_ok {K : PySem.W.Frag} {r C' : Addr} (h : rootForB K r C' = true) : RootFor K r C' := by
  unfold rootForB at h
  simp only [Bool.and_eq_true, decide_eq_true_eq] at h
  obtain ⟨⟨⟨⟨⟨h1, h2⟩, h3⟩, h4⟩, h5⟩, h6⟩ := h
  exact ⟨oexB_ok h1, Option.isSome_iff_exists.mp h2, h3, h4, h5, h6⟩
def subFB (D : Dat) (K : PySem.W.Frag) (P : Program) (r fr : Addr) (self : Str) (c : Nat) (cd : CD) : Bool := match cd.flds with
  | [] => true
  | w :: pars => decide (w = word_) && decide (word_ :: pars).Nodup && decide (self :: pars).Nodup && decide (pars.length ≤ 100) && (pars.all fun x => okName x && decide (PySem.W.findIn K (.ref (D.ca K c)) x = some none)) &&
    iniB K P (D.ca K c) (He.ma K (D.ca K c) "__init__") (self :: pars) (subB self cd.word pars) && decide (PySem.W.findIn K (.ref (D.ca K c)) "__init__" = some (some (.ref (He.ma K (D.ca K c) "__init__")))) && decide (PySem.W.typeIn K (.ref (He.ma K (D.ca K c) "__init__")) = some (.type "function")) &&
    rootForB K r (D.ca K c) && decide (PySem.W.mroIn K (D.ca K c) (.ref (D.ca K c)) = some true) && decide (PySem.W.ks_superIn K (D.ca K c) (D.ca K c) "__init__" = some (some (.ref fr)))
theorem subFB_ok {D : Dat} {K : PySem.W.Frag} {P : Program} {r fr : Addr} {self : Str} {c : Nat} {cd : CD} (oks : okName self = true) (h : subFB D K P r fr self c cd = true) (hn : cd.flds ≠ []) : SubF D K P r fr c cd := by
  unfold subFB at h
  split at h
  · rename_i e; exact absurd e hn
  · rename_i w pars e
    simp only [Bool.and_eq_true, decide_eq_true_eq, List.all_eq_true] at h
    obtain ⟨⟨⟨⟨⟨⟨⟨⟨⟨⟨rfl, h1⟩, h2⟩, h3⟩, h4⟩, h5⟩, h6⟩, h7⟩, h8⟩, h9⟩, h10⟩ := h
    obtain ⟨F, fd, Ii, hb⟩ := iniB_ok h5 h2
    exact ⟨⟨_, F, fd, self, pars, Ii, oks, e, h1, h3, h4, hb, h6, h7⟩, rootForB_ok h8, h9, h10⟩
def glvB : Option (Option Value) → P → Bool
  | some (some (.int j _)), .int i => decide (j = i)
  | some (some (.str y _)), .str z => decide (y = z)
  | some (some (.bool b)), .bl c => b == c
  | some (some .none), .non => true
  | _, _ => false
theorem glvB_ok {o : Option (Option Value)} {v : P} (h : glvB o v = true) : ∃ u, o = some (some u) ∧ RelV (pV v) u := by
  unfold glvB at h
  split at h
  · have h := of_decide_eq_true h; subst h; exact ⟨_, rfl, _, rfl⟩
  · have h := of_decide_eq_true h; subst h; exact ⟨_, rfl, _, rfl⟩
  · have h := eq_of_beq h; subst h; exact ⟨_, rfl, rfl⟩
  · exact ⟨_, rfl, rfl⟩
  · cases h
/-- all that is looked at -/
def allB (D : Dat) (P : Program) (root self : Str) (K : PySem.W.Frag) : Bool := (bltNames.all fun x => decide (PySem.W.nsIn K mainGlobals x = some none)) && (D.gl.all fun e => glvB (PySem.W.nsIn K mainGlobals e.1) e.2) && (D.fnm.all fun x => decide (PySem.W.nsIn K mainGlobals x = some (some (.ref (He.ga K x))))) &&
  ((List.range D.ct.length).all fun c => match D.ct[c]? with
    | some cd => ecfB D K c cd && subFB D K P (He.ga K root) (He.ma K (He.ga K root) "__init__") self c cd
    | none => false) && decide (PySem.W.nsIn K cStatics "thirdparty.any" = some none) && !(P.main.scope.names.lookup ("super" : Str)).isSome && okName self && decide (self ≠ word_) && (PySem.W.clsIn K (He.ga K root)).isSome &&
  iniB K P (He.ga K root) (He.ma K (He.ga K root) "__init__") [self, word_] (rootB self)
theorem lookup_all {β : Type} {p : Str × β → Bool} : ∀ {l : List (Str × β)} {x : Str} {v : β}, l.all p = true → l.lookup x = some v → p (x, v) = true := fun {l x v} h e => List.all_eq_true.mp h _ (PySem.mem_of_lookup e)
theorem allB_ok {D : Dat} {P : Program} {root self : Str} {K : PySem.W.Frag} {h : Heap} {mg : Str → Option Value} (X : K.In h) (G : h.Ns mainGlobals mg) (e : allB D P root self K = true) : Facts D K mg ∧ ExF D K P mg ∧ ∀ f x, D.fnm[f]? = some x → mg x = some (.ref (D.fa K f)) := by
  unfold allB at e
  simp only [Bool.and_eq_true, decide_eq_true_eq, List.all_eq_true, Bool.not_eq_true'] at e
  obtain ⟨⟨⟨⟨⟨⟨⟨⟨⟨h1, h2⟩, h3⟩, h4⟩, h5⟩, h6⟩, h7⟩, h8⟩, h9⟩, h10⟩ := e
  have blt : ∀ x, bltNames.contains x = true → mg x = none := fun x hx => PySem.W.mg_none_of X G (h1 x (by simpa using hx))
  have hc : ∀ c cd, D.ct[c]? = some cd → ecfB D K c cd = true ∧ subFB D K P (He.ga K root) (He.ma K (He.ga K root) "__init__") self c cd = true := fun c cd hcd => by
    have z := h4 c (List.mem_range.mpr (List.getElem?_eq_some_iff.mp hcd).1)
    rw [hcd] at z
    exact Bool.and_eq_true_iff.mp z
  refine ⟨⟨blt, fun x v hv => ?_, fun c cd hcd => ecfB_ok X G (hc c cd hcd).1⟩, ⟨⟨h5, blt "super" (by decide), h6⟩, ?_⟩, fun f x hx => ?_⟩
  · obtain ⟨u, e1, r⟩ := glvB_ok (h2 _ (PySem.mem_of_lookup hv))
    exact ⟨u, PySem.W.mg_of X G e1, r⟩
  · obtain ⟨F, fd, Ir, hb⟩ := iniB_ok h10 (by
      simp only [List.nodup_cons, List.mem_singleton, List.not_mem_nil, not_false_eq_true, List.nodup_nil, and_true]
      exact h8)
    exact ⟨_, _, F, fd, self, Ir, h7, Option.isSome_iff_exists.mp h9, hb, fun c cd hcd hn => subFB_ok h7 (hc c cd hcd).2 hn⟩
  · have z := h3 x (List.mem_of_getElem? hx)
    have e1 : D.fa K f = He.ga K x := by unfold Dat.fa; rw [hx]
    rw [e1]
    exact PySem.W.mg_of X G z

/-! ### the Hook -/
def asC (g : Addr → Option Obj) (n : Nat) : List Addr := cStatics :: builtinsNs :: He.asD g n
abbrev AlC : Type := He.AlD × Bool
def obsC (n : Nat) (fn : List He.DefD) (ex : PySem.W.Frag → Bool) (g : Addr → Option Obj) : AlC := (He.obsD [] fn (He.frG g (asC g n)), ex (He.frG g (asC g n)))
def hookC (n : Nat) (fn : List He.DefD) (ex : PySem.W.Frag → Bool) : PySem.W.Hook where
  α := AlC
  obs := fun s => obsC n fn ex s.heap.get?
  val := fun _ => (He.valD fn, true)
  says := fun _ h => ∃ K : PySem.W.Frag, K.In h ∧ He.SaysD [] fn K ∧ ex K = true
  of := fun _ _ e => ⟨_, He.frG_in, congrArg (fun z : AlC => z.1) e, congrArg (fun z : AlC => z.2) e⟩
  keeps := fun _ _ _ ⟨K, hK, c⟩ k => ⟨K, PySem.W.Frag.In.keeps hK k, c⟩
theorem obsC_eq {n : Nat} {fn : List He.DefD} {ex : PySem.W.Frag → Bool} {g : Addr → Option Obj} {s : Shared} (h : ∀ a, g a = s.heap.get? a) : obsC n fn ex g = (hookC n fn ex).obs s := by
  have e : g = s.heap.get? := funext h
  rw [e] <;> rfl
/-- a def, by what is said -/
theorem deff_at {D : Dat} {fn : List He.DefD} {Ns : List (List Str)} {K : PySem.W.Frag} {mg : Str → Option Value} (hd : defsB D fn D.ft Ns D.fnm = true) (c : He.SaysD [] fn K) (hm : ∀ f x, D.fnm[f]? = some x → mg x = some (.ref (D.fa K f))) {f : Nat} {x : Str} (hx : D.fnm[f]? = some x) :
    ∃ fd d N, Ns[f]? = some N ∧ DefG D K mg f x fd d N := by
  obtain ⟨d, v, N, h1, h2, hN, h3, h4, h5, h6⟩ := defsB_at hd hx
  obtain ⟨fd, F⟩ := He.SaysD.def_ c f (d := d) h1
  have ea : He.fAd K d.at_ = D.fa K f := by
    rw [h3]
    unfold Dat.fa
    rw [hx]
    rfl
  rw [ea] at F
  unfold defB at h6
  simp only [Bool.and_eq_true, decide_eq_true_eq] at h6
  obtain ⟨⟨⟨⟨g1, g2⟩, g3⟩, g4⟩, g5⟩ := h6
  obtain ⟨args, hp, ha⟩ := parsB_eq g1
  have S := C8.fnScope_by g2
  obtain ⟨oc, od, dV, kV, doc, pm, an, cdv, ct, osl, rfl, lk, hcd, hD, hK⟩ := F.ex
  have hdv : dV = .none := by
    have e : d.dvs K = [] := by unfold He.DefD.dvs; rw [h4]; rfl
    rw [e] at hD
    rcases hD with ⟨_, rfl⟩ | ⟨hne, _⟩
    · rfl
    · exact absurd rfl hne
  subst hdv
  refine ⟨_, v, N, hN, oc, od, osl, d.name, d.qual, d.params, d.body, d.scope, .none, kV, doc, pm, an, cdv, ct, rfl, h2, lk, hcd, S, g3, g4, g5, ?_, F.kp, hm f x hx⟩
  exact fun us hl => bind_all (args := args) hp ha rfl (S.nd.sublist (List.take_sublist _ _)) hl
theorem deff_ok {D : Dat} {fn : List He.DefD} {Ns : List (List Str)} {K : PySem.W.Frag} {mg : Str → Option Value} (hd : defsB D fn D.ft Ns D.fnm = true) (c : He.SaysD [] fn K) (hm : ∀ f x, D.fnm[f]? = some x → mg x = some (.ref (D.fa K f))) : ∀ f x, D.fnm[f]? = some x → DefF D K mg f x := fun f x hx =>
  let ⟨fd, d, N, _, g⟩ := deff_at hd c hm hx
  ⟨fd, d, N, g⟩

/-! ### the law's end -/
/-- the plain law: its def's value is True at every script -/
def Plain (D : Dat) (k f : Nat) : Prop := ∀ ns : List Int, ns.length ≤ 63 → ∃ st, callF D.ft D.ct k [] f [.p (.frz (ns.map .int))] [] = .ok (.p (.bl true)) st
theorem rps_ints {K : PySem.W.Frag} {H : Hp} : ∀ ns : List Int, RPs K H (ns.map V.int) (ns.map P.int)
  | [] => .nil
  | _ :: ns => .cons (.int _) (rps_ints ns)
theorem sp_end {D : Dat} {K : PySem.W.Frag} {P : Program} {w : World} {k f : Nat} (pl : Plain D k f) (H : Hp) (a : Addr) (ns : List Int) (hl : ns.length ≤ 63) (O : Only H) (S : SqL K H a (ns.map V.int)) :
    spF D K P w (callF D.ft D.ct k) f [.ref a] H (fun v _ => v = .bl true) fun _ _ _ => False := by
  have sf : SF K H a (ns.map V.int) := by
    rcases S with (h | h) | h
    · rcases O a with z | ⟨o, xs, z⟩
      · rw [z] at h; cases h
      · rw [z] at h; cases h
    · exact .inl h
    · exact .inr h
  obtain ⟨st, e⟩ := pl ns hl
  refine ⟨[], fun _ => 0, [], [.p (.frz (ns.map .int))], ⟨fun j o h => (by simp at h), fun b h => (by cases h), fun i j hi => (by simp at hi)⟩, .cons (.p (.frz sf (rps_ints ns))) .nil, rfl, ?_⟩
  rw [e]
  intro ρ' H' v po r
  obtain ⟨r, _⟩ := r
  cases r with
  | p r => cases r; rfl
theorem law_end {D : Dat} {P : Program} {w : World} {K : PySem.W.Frag} {mg : Str → Option Value} {h : Heap} {fn : List He.DefD} {Ns : List (List Str)} {root self x : Str} {k f : Nat} {fa : Addr} (hd : defsB D fn D.ft Ns D.fnm = true) (X : K.In h) (G : h.Ns mainGlobals mg) (c : He.SaysD [] fn K) (e : allB D P root self K = true)
    (hf : D.fnm[f]? = some "law") (hft : (D.ft[f]?).map (·.np) = some 1) (hN : (Ns[f]?).map (·.take 1) = some [x]) (hmg : mg "law" = some (.ref fa)) (pl : Plain D (k + 1) f) :
    ∃ (fd : FuncData) (sp : Sp), (∀ (s : Shared) (u : Value), BindsTo s fd ⟨[u], []⟩ [(x, u)]) ∧ (∀ (H : Hp) (a : Addr) (ns : List Int), ns.length ≤ 63 → Only H → SqL K H a (ns.map V.int) → sp [.ref a] H (fun v _ => v = .bl true) fun _ _ _ => False) ∧
      ∀ base : Heap, K.In base → base.Ns mainGlobals mg → FnOk P w K mg base (L2.CX P w) (k + 1 + 4) fa fd [x] sp := by
  obtain ⟨fac, exF, hm⟩ := allB_ok X G e
  obtain ⟨fd, d, N, hN2, g⟩ := deff_at hd c hm hf
  have one : ∀ base, FnOk P w K mg base (L2.CX P w) (k + 1 + 4) (D.fa K f) fd (N.take d.np) (spF D K P w (callF D.ft D.ct (k + 1)) f) := fun base =>
    fn_one fac (mk_all fac exF) g (fns_ok fac (deff_ok hd c hm) (mk_all fac exF) k)
  have ea : D.fa K f = fa := by
    have := (hm f _ hf).symm.trans hmg
    cases this; rfl
  rw [ea] at one
  obtain ⟨oc, od, osl, name, qual, params, body, scope, dV, kV, doc, pm, an, cdv, ct, rfl, h1, h2, h3, h4, h5, h6, h7, h8, h9, h10⟩ := g
  have hnp : d.np = 1 := by rw [h1] at hft; simpa using hft
  have hx : N.take d.np = [x] := by rw [hN2] at hN; rw [hnp]; simpa using hN
  rw [hx] at one h8
  exact ⟨_, _, fun s u => .of_eq (h8 [u] rfl), fun H a ns hl O S => sp_end pl H a ns hl O S, fun base _ _ => one base⟩
theorem walk_C {l : PySem.W.OpenLaw} {k : Nat} {q : Program} {loose : List Str} {XP : (Str → Option Value) → Heap → Prop} {YP : World → Heap → Prop} {d : DefRec} {x : Str}
    (hn : l.most = some 63) (hdf : d.params.defaults = []) (hr : Room k callerA)
    (F : ∀ (w : World) (mg : Str → Option Value) (fa : Addr) (h : Heap), YP w h → h.Ns mainGlobals mg → mg d.name = some (.ref fa) →
      ∃ (K : PySem.W.Frag) (fd : FuncData) (sp : Sp), K.In h ∧ (∀ (s : Shared) (u : Value), BindsTo s fd ⟨[u], []⟩ [(x, u)]) ∧
        (∀ (H : Hp) (a : Addr) (ns : List Int), ns.length ≤ 63 → Only H → SqL K H a (ns.map V.int) → sp [.ref a] H (fun v _ => v = .bl true) fun _ _ _ => False) ∧
        ∀ base : Heap, K.In base → base.Ns mainGlobals mg → FnOk l.prog w K mg base (L2.CX l.prog w) k fa fd [x] sp) :
    PySem.W.WalkO q loose XP YP l.row.toRowW d [] (fun f vs => PySem.call f vs) := by
  refine Att.attach_call hn hdf fun w s₀ s₁ mg mb fa o pm cd doc a vs ns G Y ho hd hcd hmg hobj hints hlen hg => ?_
  obtain ⟨K, fd, sp, KX, hb, hsp, hF⟩ := F w mg fa _ Y G.T.g hmg
  exact law_call KX G.T.g G.T.b G.T.builtins G.T.nolimit hg hobj hints (Nat.le_trans hlen (by decide)) hr hF hb (fun H hO hS => hsp H a ns hlen hO hS) fun H e s' ⟨_, _, _, _, _, _, _, _, _, _, _, _, h⟩ => h
end Fc

set_option Elab.async false
set_option linter.all false
set_option maxRecDepth 100000
set_option maxHeartbeats 4000000
/-! FcRun: rules to run the evaluator. -/
namespace Fc
open PySem

/-- a flow's end as a call's -/
def endF (n : Nat) : Flow → Out A
  | .next _ st' => fin n (.p .non) st'
  | .ret a st' => fin n a st'
  | .exc c fs _ st' => .exc c fs (st'.take n)
  | _ => .stuck
theorem callF_s {ft : List FD} {ct : List CD} {k : Nat} {bs : List Nat} {f : Nat} {xs : List A} {st : St} (d : FD) (h : ft[f]? = some d) (hl : xs.length = d.np) :
    callF ft ct (k + 1) bs f xs st = endF st.length (evS ⟨callF ft ct k, ct⟩ (st.length :: bs) d.body (xs.map some ++ List.replicate (d.ns - d.np) none) st) := by
  rw [callF, h]
  simp only [hl, if_true]
  unfold endF
  rfl
theorem fin_p {n : Nat} {x : P} {st : St} : fin n (.p x) st = .ok (.p x) (st.take n) := rfl
section
variable {Z : Cfg} {bs : List Nat} {σ : Sl} {st : St}
theorem seq_next {a b : S} {σ' : Sl} {st' : St} (h : evS Z bs a σ st = .next σ' st') : evS Z bs (.seq a b) σ st = evS Z bs b σ' st' := by rw [evS, h]
theorem seq_ret {a b : S} {x : A} {st' : St} (h : evS Z bs a σ st = .ret x st') : evS Z bs (.seq a b) σ st = .ret x st' := by rw [evS, h]
theorem seq_exc {a b : S} {c : Nat} {fs : List P} {σ' : Sl} {st' : St} (h : evS Z bs a σ st = .exc c fs σ' st') : evS Z bs (.seq a b) σ st = .exc c fs σ' st' := by rw [evS, h]
/-! ### loops -/
theorem forL_wp {g : List (Nat × MO)} {ts : List Nat} {b : Sl → St → Flow} {Q : Flow → Prop} : ∀ {xs : List A} {σ : Sl} {st : St} (I : Nat → Sl → St → Prop), I 0 σ st → (∀ i σ st, I i σ st → still g st) →
    (∀ i x σ st, xs[i]? = some x → I i σ st → ∃ σ1, bindS ts x σ = some σ1 ∧ match b σ1 st with
      | .next σ2 st2 => I (i + 1) σ2 st2
      | .cnt σ2 st2 => I (i + 1) σ2 st2
      | .brk σ2 st2 => Q (.next σ2 st2)
      | r => Q r) → (∀ σ st, I xs.length σ st → Q (.next σ st)) → Q (forL g ts b xs σ st)
  | [], σ, st, I, h0, hs, _, hq => by
    rw [forL, if_pos (hs 0 σ st h0)]
    exact hq σ st h0
  | x :: xs, σ, st, I, h0, hs, hb, hq => by
    rw [forL, if_pos (hs 0 σ st h0)]
    obtain ⟨σ1, e1, h⟩ := hb 0 x σ st rfl h0
    rw [e1]
    simp only
    have rest : ∀ σ2 st2, I 1 σ2 st2 → Q (forL g ts b xs σ2 st2) := fun σ2 st2 h1 =>
      forL_wp (fun i => I (i + 1)) h1 (fun i => hs (i + 1)) (fun i x σ st hx => hb (i + 1) x σ st (by simpa using hx)) hq
    cases e : b σ1 st with
    | next σ2 st2 => rw [e] at h; exact rest σ2 st2 h
    | cnt σ2 st2 => rw [e] at h; exact rest σ2 st2 h
    | brk σ2 st2 => rw [e] at h; exact h
    | ret a st2 => rw [e] at h; exact h
    | exc c fs σ2 st2 => rw [e] at h; exact h
    | stuck => rw [e] at h; exact h
/-- a body's end is a next (or a continue) with I -/
def NX (I : Sl → St → Prop) : Flow → Prop
  | .next σ st => I σ st
  | .cnt σ st => I σ st
  | _ => False
@[simp] theorem NX_next {I : Sl → St → Prop} : NX I (.next σ st) = I σ st := id rfl
@[simp] theorem NX_cnt {I : Sl → St → Prop} : NX I (.cnt σ st) = I σ st := id rfl
/-- a loop that goes through -/
theorem forL_next {g : List (Nat × MO)} {ts : List Nat} {b : Sl → St → Flow} {xs : List A} {σ : Sl} {st : St} (I : Nat → Sl → St → Prop) (h0 : I 0 σ st) (hs : ∀ i σ st, I i σ st → still g st)
    (hb : ∀ i x σ st, xs[i]? = some x → I i σ st → ∃ σ1, bindS ts x σ = some σ1 ∧ NX (I (i + 1)) (b σ1 st)) : ∃ σ' st', forL g ts b xs σ st = .next σ' st' ∧ I xs.length σ' st' := by
  have := forL_wp (g := g) (ts := ts) (b := b) (Q := fun f => ∃ σ' st', f = .next σ' st' ∧ I xs.length σ' st') I h0 hs (fun i x σ st hx hI => by
    obtain ⟨σ1, e1, e2⟩ := hb i x σ st hx hI
    refine ⟨σ1, e1, ?_⟩
    cases e : b σ1 st <;> rw [e] at e2 <;> first | exact e2 | exact e2.elim) (fun σ st h => ⟨σ, st, rfl, h⟩)
  exact this
theorem still_nil {st : St} : still [] st := fun e h => by cases h
/-- a comprehension, item by item -/
theorem compL_map {g : List (Nat × MO)} {f : A → St → Out (Option A)} {h : A → Option A} : ∀ {xs acc : List A} {st : St}, still g st → acc.length + xs.length < szl → (∀ x ∈ xs, f x st = .ok (h x) st) → compL g f xs acc st = .ok (acc ++ xs.filterMap h) st
  | [], acc, st, hs, _, _ => by rw [compL, if_pos hs]; simp
  | x :: xs, acc, st, hs, hl, hf => by
    rw [compL, if_pos hs, hf x List.mem_cons_self]
    simp only [List.length_cons] at hl
    cases e : h x with
    | some y =>
      simp only
      rw [if_pos (by omega), compL_map hs (by simp; omega) fun z hz => hf z (List.mem_cons_of_mem _ hz), List.filterMap_cons, e]
      simp
    | none =>
      simp only
      rw [compL_map hs (by omega) fun z hz => hf z (List.mem_cons_of_mem _ hz), List.filterMap_cons, e]
/-- .. with a state -/
theorem compL_st {g : List (Nat × MO)} {f : A → St → Out (Option A)} : ∀ {xs acc : List A} {st : St} (I : Nat → List A → St → Prop), I 0 acc st → (∀ i acc st, I i acc st → still g st ∧ acc.length < szl) →
    (∀ i x acc st, xs[i]? = some x → I i acc st → ∃ o st2, f x st = .ok o st2 ∧ I (i + 1) (acc ++ o.toList) st2) → ∃ r st2, compL g f xs acc st = .ok r st2 ∧ I xs.length r st2
  | [], acc, st, I, h0, hs, _ => by
    rw [compL, if_pos (hs _ _ _ h0).1]
    exact ⟨acc, st, rfl, h0⟩
  | x :: xs, acc, st, I, h0, hs, hf => by
    rw [compL, if_pos (hs _ _ _ h0).1]
    obtain ⟨o, st2, e, h1⟩ := hf 0 x acc st rfl h0
    have rest : ∀ acc2, I 1 acc2 st2 → ∃ r st2', compL g f xs acc2 st2 = .ok r st2' ∧ I (x :: xs).length r st2' := fun acc2 h =>
      compL_st (fun i => I (i + 1)) h (fun i => hs (i + 1)) fun i y acc st hy => hf (i + 1) y acc st (by simpa using hy)
    rw [e]
    cases o with
    | some y =>
      simp only
      rw [if_pos (hs _ _ _ h0).2]
      exact rest _ h1
    | none =>
      simp only
      exact rest _ (by simpa using h1)
end

/-! ### the words, run -/
theorem bind_m {α β : Type} {o : Out α} {f : α → St → Out β} : o.bind f = (match o with
    | .ok a st => f a st
    | .exc c fs st => .exc c fs st
    | .stuck => .stuck) := by cases o <;> rfl
theorem outF_m {σ : Sl} {o : Out A} {f : A → St → Flow} : outF σ o f = (match o with
    | .ok a st => f a st
    | .exc c fs st => .exc c fs σ st
    | .stuck => .stuck) := by cases o <;> rfl
section
variable {Z : Cfg} {bs : List Nat} {σ : Sl} {st : St}
theorem rE_k {x : P} : evE Z bs (.k x) σ st = .ok (.p x) st := by
  rw [evE]
theorem rE_glob {n : Str} {x : P} : evE Z bs (.glob n x) σ st = .ok (.p x) st := by
  rw [evE]
theorem rE_bin {op : BOp} {a b : C} : evE Z bs (.bin op a b) σ st = (match evE Z bs a σ st with
    | .ok x st => (match evE Z bs b σ st with
    | .ok y st => binop op x y st
    | .exc c fs st => .exc c fs st
    | .stuck => .stuck)
    | .exc c fs st => .exc c fs st
    | .stuck => .stuck) := by
  rw [evE]; simp only [Fc.bind_m, Fc.outF_m] <;> (first | rfl | ((repeat' split) <;> simp_all))
theorem rE_neg {a : C} : evE Z bs (.neg a) σ st = (match evE Z bs a σ st with
    | .ok x st => (match x with
    | .p (.int i) => .ok (.p (.int (-i))) st
    | _ => .stuck)
    | .exc c fs st => .exc c fs st
    | .stuck => .stuck) := by
  rw [evE, bind_m]
  cases evE Z bs a σ st with
  | ok x st1 => cases x with
    | p q => cases q <;> rfl
    | _ => rfl
  | _ => rfl
theorem rE_cmp {op : COp} {a b : C} : evE Z bs (.cmp op a b) σ st = (match evE Z bs a σ st with
    | .ok x st => (match evE Z bs b σ st with
    | .ok y st => (match cmpop op x y st with
    | some b => .ok (.p (.bl b)) st
    | none => .stuck)
    | .exc c fs st => .exc c fs st
    | .stuck => .stuck)
    | .exc c fs st => .exc c fs st
    | .stuck => .stuck) := by
  rw [evE]; simp only [Out.bind]; cases evE Z bs a σ st <;> try rfl
  rename_i x st1; simp only; cases evE Z bs b σ st1 <;> try rfl
  rename_i y st2; simp only; cases cmpop op x y st2 <;> rfl
theorem rE_not {a : C} : evE Z bs (.not a) σ st = (match evE Z bs a σ st with
    | .ok x st => (match tru x with
    | some b => .ok (.p (.bl (!b))) st
    | none => .stuck)
    | .exc c fs st => .exc c fs st
    | .stuck => .stuck) := by
  rw [evE]; simp only [Out.bind]; cases evE Z bs a σ st <;> try rfl
  rename_i x st1; simp only; cases tru x <;> rfl
theorem rE_chain {o1 o2 : COp} {a b c : C} : evE Z bs (.chain o1 o2 a b c) σ st = (match evE Z bs a σ st with
    | .ok x st => (match evE Z bs b σ st with
    | .ok y st => (match cmpop o1 x y st with
    | some q => if q = true then (match evE Z bs c σ st with
    | .ok z st => (match cmpop o2 y z st with
    | some b => .ok (.p (.bl b)) st
    | none => .stuck)
    | .exc c fs st => .exc c fs st
    | .stuck => .stuck) else .ok (.p (.bl false)) st
    | none => .stuck)
    | .exc c fs st => .exc c fs st
    | .stuck => .stuck)
    | .exc c fs st => .exc c fs st
    | .stuck => .stuck) := by
  rw [evE]; simp only [bind_m]; cases evE Z bs a σ st <;> try rfl
  rename_i x st1; simp only; cases evE Z bs b σ st1 <;> try rfl
  rename_i y st2; simp only; cases cmpop o1 x y st2 <;> try rfl
  rename_i q; cases q <;> try rfl
  simp only [if_true]; cases evE Z bs c σ st2 <;> try rfl
  rename_i z st3; simp only; cases cmpop o2 y z st3 <;> rfl
theorem rE_and {es : C} : evE Z bs (.andl es) σ st = evAnd Z bs es σ st := by
  rw [evE]
theorem rE_or {es : C} : evE Z bs (.orl es) σ st = evOr Z bs es σ st := by
  rw [evE]
theorem rE_ife {t a b : C} : evE Z bs (.ife t a b) σ st = (match evE Z bs t σ st with
    | .ok x st => (match tru x with
    | some q => if q = true then evE Z bs a σ st else evE Z bs b σ st
    | none => .stuck)
    | .exc c fs st => .exc c fs st
    | .stuck => .stuck) := by
  rw [evE, bind_m]
  cases evE Z bs t σ st <;> try rfl
  rename_i x st1; simp only; cases tru x <;> try rfl
  rename_i q; cases q <;> rfl
theorem rE_tup {es : C} : evE Z bs (.tup es) σ st = (match evEs Z bs es σ st with
    | .ok xs st => .ok (A.mk xs) st
    | .exc c fs st => .exc c fs st
    | .stuck => .stuck) := by
  rw [evE]; simp only [Fc.bind_m, Fc.outF_m] <;> (first | rfl | ((repeat' split) <;> simp_all))
theorem rE_lst {es : C} : evE Z bs (.lst es) σ st = (match evEs Z bs es σ st with
    | .ok xs st => .ok (.ref st.length) (st ++ [.lst xs])
    | .exc c fs st => .exc c fs st
    | .stuck => .stuck) := by
  rw [evE]; simp only [Fc.bind_m, Fc.outF_m] <;> (first | rfl | ((repeat' split) <;> simp_all))
theorem rE_ix {a i : C} : evE Z bs (.ix a i) σ st = (match evE Z bs a σ st with
    | .ok x st => (match evE Z bs i σ st with
    | .ok y st => (match getix x y st with
    | some v => .ok v st
    | none => .stuck)
    | .exc c fs st => .exc c fs st
    | .stuck => .stuck)
    | .exc c fs st => .exc c fs st
    | .stuck => .stuck) := by
  rw [evE]; simp only [Out.bind]; cases evE Z bs a σ st <;> try rfl
  rename_i x st1; simp only; cases evE Z bs i σ st1 <;> try rfl
  rename_i y st2; simp only; cases getix x y st2 <;> rfl
theorem rE_slice {a l h : C} : evE Z bs (.slice a l h) σ st = (match evE Z bs a σ st with
    | .ok x st => (match evE Z bs l σ st with
    | .ok y st => (match partI l y with
    | some lo => (match evE Z bs h σ st with
    | .ok z st => (match partI h z with
    | some hi => sliceA x lo hi st
    | none => .stuck)
    | .exc c fs st => .exc c fs st
    | .stuck => .stuck)
    | none => .stuck)
    | .exc c fs st => .exc c fs st
    | .stuck => .stuck)
    | .exc c fs st => .exc c fs st
    | .stuck => .stuck) := by
  rw [evE]; simp only [Out.bind]; cases evE Z bs a σ st <;> try rfl
  rename_i x st1; simp only; cases evE Z bs l σ st1 <;> try rfl
  rename_i y st2; simp only; cases partI l y <;> try rfl
  simp only [Out.of]; cases evE Z bs h σ st2 <;> try rfl
  rename_i z st3; simp only; cases partI h z <;> rfl
theorem rE_call {f : Nat} {es : C} : evE Z bs (.call f es) σ st = (match evEs Z bs es σ st with
    | .ok xs st => Z.cal bs f xs st
    | .exc c fs st => .exc c fs st
    | .stuck => .stuck) := by
  rw [evE]; simp only [Fc.bind_m, Fc.outF_m] <;> (first | rfl | ((repeat' split) <;> simp_all))
theorem rE_b1 {b : B1} {a : C} : evE Z bs (.b1 b a) σ st = (match evE Z bs a σ st with
    | .ok x st => b1fun b x st
    | .exc c fs st => .exc c fs st
    | .stuck => .stuck) := by
  rw [evE]; simp only [Fc.bind_m, Fc.outF_m] <;> (first | rfl | ((repeat' split) <;> simp_all))
theorem rE_b2 {b : B2} {a c : C} : evE Z bs (.b2 b a c) σ st = (match evE Z bs a σ st with
    | .ok x st => (match evE Z bs c σ st with
    | .ok y st => (match b2fun b x y with
    | some v => .ok v st
    | none => .stuck)
    | .exc c fs st => .exc c fs st
    | .stuck => .stuck)
    | .exc c fs st => .exc c fs st
    | .stuck => .stuck) := by
  rw [evE]; simp only [Out.bind]; cases evE Z bs a σ st <;> try rfl
  rename_i x st1; simp only; cases evE Z bs c σ st1 <;> try rfl
  rename_i y st2; simp only; cases b2fun b x y <;> rfl
theorem rE_bq {b : B1} {q : C} : evE Z bs (.bq b q) σ st = (match evL Z bs q σ st with
    | .ok xs st => lfun b xs st
    | .exc c fs st => .exc c fs st
    | .stuck => .stuck) := by
  rw [evE]; simp only [Fc.bind_m, Fc.outF_m] <;> (first | rfl | ((repeat' split) <;> simp_all))
theorem rE_comp {q : C} : evE Z bs (.comp q) σ st = (match evL Z bs q σ st with
    | .ok xs st => .ok (.ref st.length) (st ++ [.lst xs])
    | .exc c fs st => .exc c fs st
    | .stuck => .stuck) := by
  rw [evE]; simp only [Fc.bind_m, Fc.outF_m] <;> (first | rfl | ((repeat' split) <;> simp_all))
theorem rE_isi {a : C} {t : Ty} : evE Z bs (.isi a t) σ st = (match evE Z bs a σ st with
    | .ok x st => (match isi Z.ct x t with
    | some b => .ok (.p (.bl b)) st
    | none => .stuck)
    | .exc c fs st => .exc c fs st
    | .stuck => .stuck) := by
  rw [evE]; simp only [Out.bind]; cases evE Z bs a σ st <;> try rfl
  rename_i x st1; simp only; cases isi Z.ct x t <;> rfl
theorem rE_m1 {m : M} {o a : C} : evE Z bs (.m1 m o a) σ st = (match evE Z bs o σ st with
    | .ok x st => (if recv m x st = true then (match evE Z bs a σ st with
    | .ok y st => m1fun bs m x y st
    | .exc c fs st => .exc c fs st
    | .stuck => .stuck) else .stuck)
    | .exc c fs st => .exc c fs st
    | .stuck => .stuck) := by
  rw [evE]; simp only [Fc.bind_m, Fc.outF_m] <;> (first | rfl | ((repeat' split) <;> simp_all))
theorem rE_m2 {m : M} {o a c : C} : evE Z bs (.m2 m o a c) σ st = (match evE Z bs o σ st with
    | .ok x st => (if recv m x st = true then (match evE Z bs a σ st with
    | .ok y st => (match evE Z bs c σ st with
    | .ok z st => m2fun m x y z st
    | .exc c fs st => .exc c fs st
    | .stuck => .stuck)
    | .exc c fs st => .exc c fs st
    | .stuck => .stuck) else .stuck)
    | .exc c fs st => .exc c fs st
    | .stuck => .stuck) := by
  rw [evE]; simp only [Fc.bind_m, Fc.outF_m] <;> (first | rfl | ((repeat' split) <;> simp_all))
theorem rE_m0 {m : M} {o : C} : evE Z bs (.m0 m o) σ st = (match evE Z bs o σ st with
    | .ok x st => (if recv m x st = true then m0fun m x st else .stuck)
    | .exc c fs st => .exc c fs st
    | .stuck => .stuck) := by
  rw [evE]; simp only [Fc.bind_m, Fc.outF_m] <;> (first | rfl | ((repeat' split) <;> simp_all))
theorem rE_trng {a b : C} : evE Z bs (.trng a b) σ st = (match evE Z bs a σ st with
    | .ok x st => (match evE Z bs b σ st with
    | .ok y st => (match x, y with
    | .p (.int lo), .p (.int hi) => if -1000000000000 < lo ∧ lo < 1000000000000 ∧ -1000000000000 < hi ∧ hi < 1000000000000 ∧ hi - lo ≤ 1000000 then
        .ok (.p (.tup ((List.range (hi - lo).toNat).map fun i : Nat => .int (lo + (i : Int))))) st else .stuck
    | _, _ => .stuck)
    | .exc c fs st => .exc c fs st
    | .stuck => .stuck)
    | .exc c fs st => .exc c fs st
    | .stuck => .stuck) := by
  rw [evE, bind_m]; simp only [bind_m]; cases evE Z bs a σ st <;> try rfl
  rename_i x st1; simp only; cases evE Z bs b σ st1 <;> try rfl
theorem rE_rng {a b d : C} : evE Z bs (.rng a b d) σ st = (match evE Z bs a σ st with
    | .ok x st => (match evE Z bs b σ st with
    | .ok y st => (match evE Z bs d σ st with
    | .ok z st => (match rngA x y z with
    | some v => .ok v st
    | none => .stuck)
    | .exc c fs st => .exc c fs st
    | .stuck => .stuck)
    | .exc c fs st => .exc c fs st
    | .stuck => .stuck)
    | .exc c fs st => .exc c fs st
    | .stuck => .stuck) := by
  rw [evE]; simp only [Out.bind]; cases evE Z bs a σ st <;> try rfl
  rename_i x st1; simp only; cases evE Z bs b σ st1 <;> try rfl
  rename_i y st2; simp only; cases evE Z bs d σ st2 <;> try rfl
  rename_i z st3; simp only; cases rngA x y z <;> rfl
theorem rE_nil : evE Z bs .nil σ st = .ok (.p .non) st := by
  rw [evE]
theorem rA_one {a : C} : evAnd Z bs (.cons a .nil) σ st = evE Z bs a σ st := by
  rw [evAnd]
theorem rA_two {a b r : C} : evAnd Z bs (.cons a (.cons b r)) σ st = (match evE Z bs a σ st with
    | .ok x st => (match tru x with
    | some q => if q = true then evAnd Z bs (.cons b r) σ st else .ok (.p (.bl false)) st
    | none => .stuck)
    | .exc c fs st => .exc c fs st
    | .stuck => .stuck) := by
  rw [evAnd, bind_m]
  · cases evE Z bs a σ st <;> try rfl
    rename_i x st1; simp only; cases tru x <;> try rfl
    rename_i q; cases q <;> rfl
  · exact fun h => by cases h
theorem rO_one {a : C} : evOr Z bs (.cons a .nil) σ st = evE Z bs a σ st := by
  rw [evOr]
theorem rO_two {a b r : C} : evOr Z bs (.cons a (.cons b r)) σ st = (match evE Z bs a σ st with
    | .ok x st => (match tru x with
    | some q => if q = true then .ok (.p (.bl true)) st else evOr Z bs (.cons b r) σ st
    | none => .stuck)
    | .exc c fs st => .exc c fs st
    | .stuck => .stuck) := by
  rw [evOr, bind_m]
  · cases evE Z bs a σ st <;> try rfl
    rename_i x st1; simp only; cases tru x <;> try rfl
    rename_i q; cases q <;> rfl
  · exact fun h => by cases h
theorem rEs_nil : evEs Z bs .nil σ st = .ok [] st := by
  rw [evEs]
theorem rEs_cons {a r : C} : evEs Z bs (.cons a r) σ st = (match evE Z bs a σ st with
    | .ok x st => (match evEs Z bs r σ st with
    | .ok xs st => .ok (x :: xs) st
    | .exc c fs st => .exc c fs st
    | .stuck => .stuck)
    | .exc c fs st => .exc c fs st
    | .stuck => .stuck) := by
  rw [evEs]; simp only [Fc.bind_m, Fc.outF_m] <;> (first | rfl | ((repeat' split) <;> simp_all))
theorem rS_skip : evS Z bs .skip σ st = .next σ st := by
  rw [evS]
theorem rS_seq {a b : S} : evS Z bs (.seq a b) σ st = (match evS Z bs a σ st with
    | .next σ st => evS Z bs b σ st
    | r => r) := by
  (rw [evS]) <;> try rfl
theorem rS_set {i : Nat} {e : C} : evS Z bs (.set i e) σ st = (match evE Z bs e σ st with
    | .ok a st => .next (σ.set i (some a)) st
    | .exc c fs st => .exc c fs σ st
    | .stuck => .stuck) := by
  rw [evS]; simp only [Fc.bind_m, Fc.outF_m] <;> (first | rfl | ((repeat' split) <;> simp_all))
theorem rS_sett {is : List Nat} {e : C} : evS Z bs (.sett is e) σ st = (match evE Z bs e σ st with
    | .ok a st => (match bindS is a σ with
    | some σ => .next σ st
    | none => .stuck)
    | .exc c fs st => .exc c fs σ st
    | .stuck => .stuck) := by
  rw [evS]; simp only [Fc.bind_m, Fc.outF_m] <;> (first | rfl | ((repeat' split) <;> simp_all))
theorem rS_aug {i : Nat} {op : BOp} {e : C} : evS Z bs (.aug i op e) σ st = (match σ[i]? with
    | some (some x) => (match evE Z bs e σ st with
    | .ok y st => (match augop op x y with
    | some z => .next (σ.set i (some z)) st
    | none => .stuck)
    | .exc c fs st => .exc c fs σ st
    | .stuck => .stuck)
    | _ => .stuck) := by
  rw [evS]
  cases σ[i]? with
  | none => rfl
  | some o => cases o with
    | none => rfl
    | some x =>
      simp only [outF_m]
      cases evE Z bs e σ st <;> try rfl
      rename_i y st1; simp only; cases augop op x y <;> rfl
theorem rS_setix {o i e : C} : evS Z bs (.setix o i e) σ st = (match evE Z bs e σ st with
    | .ok v st => (match evE Z bs o σ st with
    | .ok x st => (match evE Z bs i σ st with
    | .ok y st => (match setix bs x y v st with
    | .ok _ st => .next σ st
    | _ => .stuck)
    | .exc c fs st => .exc c fs σ st
    | .stuck => .stuck)
    | .exc c fs st => .exc c fs σ st
    | .stuck => .stuck)
    | .exc c fs st => .exc c fs σ st
    | .stuck => .stuck) := by
  rw [evS]; simp only [Fc.bind_m, Fc.outF_m] <;> (first | rfl | ((repeat' split) <;> simp_all))
theorem rS_ex {e : C} : evS Z bs (.ex e) σ st = (match evE Z bs e σ st with
    | .ok _a st => .next σ st
    | .exc c fs st => .exc c fs σ st
    | .stuck => .stuck) := by
  rw [evS]; simp only [Fc.bind_m, Fc.outF_m] <;> (first | rfl | ((repeat' split) <;> simp_all))
theorem rS_ret {e : C} : evS Z bs (.ret e) σ st = (match evE Z bs e σ st with
    | .ok a st => .ret a st
    | .exc c fs st => .exc c fs σ st
    | .stuck => .stuck) := by
  rw [evS]; simp only [Fc.bind_m, Fc.outF_m] <;> (first | rfl | ((repeat' split) <;> simp_all))
theorem rS_retn : evS Z bs .retn σ st = .ret (.p .non) st := by
  rw [evS]
theorem rS_ite {t : C} {a b : S} : evS Z bs (.ite t a b) σ st = (match evE Z bs t σ st with
    | .ok x st => (match tru x with
      | some q => if q = true then evS Z bs a σ st else evS Z bs b σ st
      | none => .stuck)
    | .exc c fs st => .exc c fs σ st
    | .stuck => .stuck) := by
  rw [evS, outF_m]
  cases evE Z bs t σ st <;> try rfl
  rename_i x st1; simp only; cases tru x <;> try rfl
  rename_i q; cases q <;> rfl
theorem rS_whil {t : C} {b : S} : evS Z bs (.whil t b) σ st = whileL (evE Z bs t) (evS Z bs b) loopMax σ st := by
  rw [evS]
/-- a for over what is walked -/
noncomputable def runFor (o : Option (List A × List (Nat × MO))) (ts : List Nat) (b : Sl → St → Flow) (σ : Sl) (st : St) : Flow := match o with
  | some (xs, g) => forL g ts b xs σ st
  | none => .stuck
@[simp] theorem runFor_some {xs : List A} {g : List (Nat × MO)} {ts : List Nat} {b : Sl → St → Flow} : runFor (some (xs, g)) ts b σ st = forL g ts b xs σ st := id rfl
theorem rS_for {ts : List Nat} {it : C} {b : S} : evS Z bs (.for_ ts it b) σ st = (match evE Z bs it σ st with
    | .ok v st => runFor (walkOf v st) ts (evS Z bs b) σ st
    | .exc c fs st => .exc c fs σ st
    | .stuck => .stuck) := by
  rw [evS, outF_m]; rfl
theorem rS_brk : evS Z bs .brk σ st = .brk σ st := by
  rw [evS]
theorem rS_cnt : evS Z bs .cnt σ st = .cnt σ st := by
  rw [evS]
theorem rS_raise {c : Nat} {es : C} : evS Z bs (.raise c es) σ st = (match evEs Z bs es σ st with
    | .ok xs st => (match A.pure? xs, Z.ct[c]? with
      | some ps, some cd => if ps.length + 1 = cd.flds.length then .exc c (.str cd.word :: ps) σ st else .stuck
      | _, _ => .stuck)
    | .exc c fs st => .exc c fs σ st
    | .stuck => .stuck) := by
  (rw [evS]) <;> try rfl
theorem rS_tr {b h : S} : evS Z bs (.tr b h) σ st = (match evS Z bs b σ st with
    | .exc c fs σ st => evH Z bs c fs h σ st
    | r => r) := by
  (rw [evS]) <;> try rfl
theorem rH_nil {c : Nat} {fs : List P} : evH Z bs c fs .hnil σ st = .exc c fs σ st := by
  rw [evH]
theorem rH_cons {c d : Nat} {fs : List P} {i : Option Nat} {s r : S} : evH Z bs c fs (.hcons d i s r) σ st = (if subc Z.ct 8 c d then (match i with
      | some i => unslot i (evS Z bs s (σ.set i (some (.exn c fs))) st)
      | none => (match evS Z bs s σ st with
        | .exc _ _ _ _ => .stuck
        | r => r))
    else evH Z bs c fs r σ st) := by
  (conv => lhs; unfold evH) <;> (cases h : subc Z.ct 8 c d with
  | true =>
    simp only [if_true]
    cases i with
    | some i => rfl
    | none => simp only; cases evS Z bs s σ st <;> rfl
  | false => rfl)
theorem rS_gc {s : S} : evS Z bs (.gc s) σ st = gcF st.length (evS Z (st.length :: bs) s σ st) := by
  rw [evS]
theorem rE_exa {i : Nat} {x : Str} : evE Z bs (.exa i x) σ st = (match σ[i]? with
    | some (some v) => (match fieldOf Z.ct v x with
      | some u => .ok u st
      | none => .stuck)
    | _ => .stuck) := by
  rw [evE]
  cases σ[i]? with
  | none => rfl
  | some o => cases o with
    | none => rfl
    | some v => simp only; cases fieldOf Z.ct v x <;> rfl
theorem rE_exi {i : Nat} {t : Ty} : evE Z bs (.exi i t) σ st = (match σ[i]? with
    | some (some v) => (match isx Z.ct v t with
      | some b => .ok (.p (.bl b)) st
      | none => .stuck)
    | _ => .stuck) := by
  rw [evE]
  cases σ[i]? with
  | none => rfl
  | some o => cases o with
    | none => rfl
    | some v => simp only; cases isx Z.ct v t <;> rfl
theorem rE_var {i : Nat} : evE Z bs (.var i) σ st = (match σ[i]? with
    | some (some (.exn _ _)) => .stuck
    | some (some a) => .ok a st
    | _ => .stuck) := by
  (rw [evE]) <;> rfl
/-- a comprehension's step -/
noncomputable def stepC (Z : Cfg) (bs : List Nat) (elt cond : C) (ts own : List Nat) (σ : Sl) (x : A) (st : St) : Out (Option A) := match bindS ts x (wipeS σ own) with
  | some σ' => (evE Z bs cond σ' st).bind fun b st => (match tru b with
    | some true => (evE Z bs elt σ' st).bind fun y st => .ok (some y) st
    | some false => .ok none st
    | none => .stuck)
  | none => .stuck
theorem rL_cq {elt it cond : C} {ts own : List Nat} {v : A} {st1 : St} {xs : List A} {g : List (Nat × MO)} (h : evE Z bs it σ st = .ok v st1) (hw : walkOf v st1 = some (xs, g)) : evL Z bs (.cq elt ts it cond own) σ st =
    compL g (stepC Z bs elt cond ts own σ) xs [] st1 := by
  rw [evL, h]
  show (match walkOf v st1 with
    | some (xs, g) => _
    | none => _) = _
  rw [hw]
  rfl
theorem stepC_t {elt cond : C} {ts own : List Nat} {x y : A} {σ' : Sl} {st1 st2 : St} (h1 : bindS ts x (wipeS σ own) = some σ') (h2 : evE Z bs cond σ' st = .ok (.p (.bl true)) st1) (h3 : evE Z bs elt σ' st1 = .ok y st2) : stepC Z bs elt cond ts own σ x st = .ok (some y) st2 := by
  unfold stepC
  rw [h1]
  simp only [h2, Out.bind, tru, h3]
theorem stepC_f {elt cond : C} {ts own : List Nat} {x : A} {σ' : Sl} {st1 : St} (h1 : bindS ts x (wipeS σ own) = some σ') (h2 : evE Z bs cond σ' st = .ok (.p (.bl false)) st1) : stepC Z bs elt cond ts own σ x st = .ok none st1 := by
  unfold stepC
  rw [h1]
  simp only [h2, Out.bind, tru]
/-- all items, nothing left out, the store as it was -/
theorem cq_map {elt it : C} {ts own : List Nat} {v : A} {st1 : St} {xs : List A} {g : List (Nat × MO)} {h : A → A} (h1 : evE Z bs it σ st = .ok v st1) (hw : walkOf v st1 = some (xs, g)) (hs : still g st1) (hl : xs.length < szl)
    (hb : ∀ x ∈ xs, ∃ σ', bindS ts x (wipeS σ own) = some σ' ∧ evE Z bs elt σ' st1 = .ok (h x) st1) : evL Z bs (.cq elt ts it (.k (.bl true)) own) σ st = .ok (xs.map h) st1 := by
  rw [rL_cq h1 hw, compL_map (h := fun x => some (h x)) hs (by simpa using hl) fun x hx => by
    obtain ⟨σ', e1, e2⟩ := hb x hx
    exact stepC_t e1 rE_k e2]
  simp
theorem fm_if {α β : Type} {h : α → β} {c : α → Bool} : ∀ xs : List α, (xs.filterMap fun x => if c x then some (h x) else none) = (xs.filter c).map h
  | [] => rfl
  | x :: xs => by
    rw [List.filterMap_cons, fm_if xs, List.filter_cons]
    cases c x <;> rfl
/-- those with the condition -/
theorem cq_filter {elt it cond : C} {ts own : List Nat} {v : A} {st1 : St} {xs : List A} {g : List (Nat × MO)} {h : A → A} {c : A → Bool} (h1 : evE Z bs it σ st = .ok v st1) (hw : walkOf v st1 = some (xs, g)) (hs : still g st1) (hl : xs.length < szl)
    (hb : ∀ x ∈ xs, ∃ σ', bindS ts x (wipeS σ own) = some σ' ∧ evE Z bs cond σ' st1 = .ok (.p (.bl (c x))) st1 ∧ (c x = true → evE Z bs elt σ' st1 = .ok (h x) st1)) : evL Z bs (.cq elt ts it cond own) σ st = .ok ((xs.filter c).map h) st1 := by
  rw [rL_cq h1 hw, compL_map (h := fun x => if c x then some (h x) else none) hs (by simpa using hl) fun x hx => by
    obtain ⟨σ', e1, e2, e3⟩ := hb x hx
    cases hc : c x with
    | true =>
      rw [hc] at e2
      simpa using stepC_t e1 e2 (e3 hc)
    | false =>
      rw [hc] at e2
      simpa using stepC_f e1 e2]
  rw [List.nil_append, fm_if]
end
end Fc

set_option Elab.async false
set_option linter.all false
set_option maxRecDepth 100000
set_option maxHeartbeats 4000000
/-! FcRun2: small facts for laws. -/
namespace Fc
open PySem
/-! ### numbers, rows, machines as data -/
def eI (xs : List Nat) : P := .tup (xs.map fun n : Nat => .int (n : Int))
def eC (c : Nat × Nat) : P := .tup [.int c.1, .int c.2]
def eS (s : List (Nat × Nat)) : P := .tup (s.map eC)
def eM (m : List (List (Nat × Nat))) : P := .tup (m.map eS)
def eH (h : List (List Nat)) : P := .tup (h.map eI)
def eO (p : List Nat) (h : List (List Nat)) : P := .tup [eI p, eH h]
/-! ### indices -/
@[simp] theorem getix_n {xs : List P} {n : Nat} {st : St} : getix (.p (.tup xs)) (.p (.int (n : Int))) st = (xs[n]?).map .p := by
  unfold getix idx
  by_cases h : n < xs.length
  · simp [h]
  · simp [h]
@[simp] theorem getix_0 {xs : List P} {st : St} : getix (.p (.tup xs)) (.p (.int 0)) st = (xs[0]?).map .p := getix_n (n := 0)
@[simp] theorem getix_1 {xs : List P} {st : St} : getix (.p (.tup xs)) (.p (.int 1)) st = (xs[1]?).map .p := getix_n (n := 1)
@[simp] theorem getix_2 {xs : List P} {st : St} : getix (.p (.tup xs)) (.p (.int 2)) st = (xs[2]?).map .p := getix_n (n := 2)
@[simp] theorem getix_3 {xs : List P} {st : St} : getix (.p (.tup xs)) (.p (.int 3)) st = (xs[3]?).map .p := getix_n (n := 3)
theorem getix_l {xs : List A} {n j : Nat} {st : St} (h : st[j]? = some (.lst xs)) : getix (.ref j) (.p (.int (n : Int))) st = xs[n]? := by
  unfold getix idx
  simp only [h]
  by_cases h : n < xs.length
  · simp [h]
  · simp [h]
theorem getix_l0 {xs : List A} {j : Nat} {st : St} (h : st[j]? = some (.lst xs)) : getix (.ref j) (.p (.int 0)) st = xs[0]? := getix_l (n := 0) h
theorem getix_l1 {xs : List A} {j : Nat} {st : St} (h : st[j]? = some (.lst xs)) : getix (.ref j) (.p (.int 1)) st = xs[1]? := getix_l (n := 1) h
theorem getix_l2 {xs : List A} {j : Nat} {st : St} (h : st[j]? = some (.lst xs)) : getix (.ref j) (.p (.int 2)) st = xs[2]? := getix_l (n := 2) h
theorem getix_l3 {xs : List A} {j : Nat} {st : St} (h : st[j]? = some (.lst xs)) : getix (.ref j) (.p (.int 3)) st = xs[3]? := getix_l (n := 3) h
@[simp] theorem wk_tup {xs : List P} {st : St} : walkOf (.p (.tup xs)) st = some (xs.map .p, []) := id rfl
theorem wk_rng {n : Nat} {st : St} (h : n < 1000000000000) : walkOf (.rng 0 (n : Int) 1) st = some ((List.range n).map fun i => .p (.int (i : Int)), []) := by
  show seqOf (.rng 0 (n : Int) 1) st = _
  unfold seqOf
  simp only
  rw [if_pos (by omega)]
  simp
/-- equality of rows -/
theorem eqvs_nat : ∀ a b : List Nat, P.eqvs (a.map fun n : Nat => P.int (n : Int)) (b.map fun n : Nat => P.int (n : Int)) = decide (a = b)
  | [], [] => rfl
  | [], _ :: _ => rfl
  | _ :: _, [] => rfl
  | x :: xs, y :: ys => by
    simp only [List.map_cons, P.eqvs, P.eqv, eqvs_nat xs ys]
    by_cases h : x = y
    · subst h; simp
    · simp [h]; intro e; omega
theorem depths_nat : ∀ a : List Nat, P.depths (a.map fun n : Nat => P.int (n : Int)) = 0
  | [] => rfl
  | x :: xs => by simp [P.depths, P.depth, depths_nat xs]
@[simp] theorem eqq_eI {a b : List Nat} : eqq (eI a) (eI b) = some (decide (a = b)) := by
  unfold eqq eI
  simp [P.depth, depths_nat, P.eqv, eqvs_nat]
@[simp] theorem eqq_nn {a b : Int} : eqq (.int a) (.int b) = some (decide (a = b)) := by
  unfold eqq
  simp [P.depth, P.eqv, Bool.beq_eq_decide_eq]
theorem memq_nat (x : Nat) : ∀ a : List Nat, memq (.int x) (a.map fun n : Nat => P.int (n : Int)) = some (decide (x ∈ a))
  | [] => rfl
  | y :: ys => by
    simp only [List.map_cons, memq, eqq_nn, memq_nat x ys]
    by_cases h : x = y
    · subst h; simp
    · have : decide ((y : Int) = x) = false := by simp; omega
      rw [this]
      simp [h]
/-! ### the law's bag -/
def bagO (n g s c : Int) : MO := .lst [.p (.int n), .p (.int g), .p (.int s), .p (.int c)]
def Bag (B : Nat) (o : MO) : Prop := ∃ n g s c : Int, o = bagO n g s c ∧ 0 ≤ c ∧ c ≤ B
theorem Bag.mono {B C : Nat} {o : MO} (h : Bag B o) (k : B ≤ C) : Bag C o := by
  obtain ⟨n, g, s, c, e, h1, h2⟩ := h
  exact ⟨n, g, s, c, e, h1, by omega⟩
/-- a bag stands at j -/
def BagAt (B j : Nat) (st : St) : Prop := ∃ o, st[j]? = some o ∧ Bag B o
/-! ### the words at work -/
@[simp] theorem b1_len {xs : List P} {st : St} : b1fun .len (.p (.tup xs)) st = .ok (.p (.int xs.length)) st := id rfl
@[simp] theorem b1_lenf {xs : List P} {st : St} : b1fun .len (.p (.frz xs)) st = .ok (.p (.int xs.length)) st := id rfl
@[simp] theorem b1_lent {xs : List A} {st : St} : b1fun .len (.tup xs) st = .ok (.p (.int xs.length)) st := id rfl
@[simp] theorem b1_int {i : Int} {st : St} : b1fun .int (.p (.int i)) st = .ok (.p (.int i)) st := id rfl
@[simp] theorem b1_tup {xs : List P} {st : St} : b1fun .tuple (.p (.tup xs)) st = .ok (.p (.tup xs)) st := id rfl
@[simp] theorem cmp_lt {a b : Int} {st : St} : cmpop .lt (.p (.int a)) (.p (.int b)) st = some (decide (a < b)) := id rfl
@[simp] theorem cmp_le {a b : Int} {st : St} : cmpop .le (.p (.int a)) (.p (.int b)) st = some (decide (a ≤ b)) := id rfl
@[simp] theorem cmp_gt {a b : Int} {st : St} : cmpop .gt (.p (.int a)) (.p (.int b)) st = some (decide (b < a)) := id rfl
@[simp] theorem cmp_ge {a b : Int} {st : St} : cmpop .ge (.p (.int a)) (.p (.int b)) st = some (decide (b ≤ a)) := id rfl
@[simp] theorem cmp_mem {x : P} {ys : List P} {st : St} : cmpop .mem (.p x) (.p (.tup ys)) st = memq x ys := id rfl
@[simp] theorem cmp_nmem {x : P} {ys : List P} {st : St} : cmpop .nmem (.p x) (.p (.tup ys)) st = (memq x ys).map (!·) := id rfl
@[simp] theorem cmp_eq {a b : P} {st : St} : cmpop .eq (.p a) (.p b) st = eqq a b := id rfl
@[simp] theorem cmp_ne {a b : P} {st : St} : cmpop .ne (.p a) (.p b) st = (eqq a b).map (!·) := id rfl
@[simp] theorem cmp_is {a : P} {st : St} : cmpop .is (.p a) (.p .non) st = some (A.isN (.p a)) := id rfl
@[simp] theorem cmp_isnot {a : P} {st : St} : cmpop .isnot (.p a) (.p .non) st = some (!A.isN (.p a)) := id rfl
@[simp] theorem isN_non : A.isN (.p .non) = true := id rfl
@[simp] theorem isN_int {i : Int} : A.isN (.p (.int i)) = false := id rfl
@[simp] theorem isN_tup {i : List P} : A.isN (.p (.tup i)) = false := id rfl
@[simp] theorem bin_add {a b : Int} {st : St} : binop .add (.p (.int a)) (.p (.int b)) st = .ok (.p (.int (a + b))) st := id rfl
@[simp] theorem bin_sub {a b : Int} {st : St} : binop .sub (.p (.int a)) (.p (.int b)) st = .ok (.p (.int (a - b))) st := id rfl
@[simp] theorem bin_addt {a b : List P} {st : St} : binop .add (.p (.tup a)) (.p (.tup b)) st = if a.length + b.length ≤ szl then .ok (.p (.tup (a ++ b))) st else .stuck := id rfl
@[simp] theorem bin_mul {a b : Int} {st : St} : binop .mul (.p (.int a)) (.p (.int b)) st = if (-18446744073709551616 < a ∧ a < 18446744073709551616) ∨ (-18446744073709551616 < b ∧ b < 18446744073709551616) then .ok (.p (.int (a * b))) st else .stuck := id rfl
@[simp] theorem bin_fdiv {a b : Int} {st : St} : binop .fdiv (.p (.int a)) (.p (.int b)) st = if 0 < b ∧ b < 1073741824 then .ok (.p (.int (a / b))) st else .stuck := id rfl
@[simp] theorem bin_mod {a b : Int} {st : St} : binop .mod (.p (.int a)) (.p (.int b)) st = if 0 < b then .ok (.p (.int (a % b))) st else .stuck := id rfl
@[simp] theorem bin_pow {a b : Int} {st : St} : binop .pow (.p (.int a)) (.p (.int b)) st = if 0 ≤ b ∧ b ≤ 1000000 ∧ a.natAbs < 18446744073709551616 then .ok (.p (.int (a ^ b.toNat))) st else .stuck := id rfl
@[simp] theorem tru_bl {b : Bool} : tru (.p (.bl b)) = some b := id rfl
@[simp] theorem isi_int_int {ct : List CD} {i : Int} : isi ct (.p (.int i)) .int = some true := id rfl
@[simp] theorem isi_tup_int {ct : List CD} {i : List P} : isi ct (.p (.tup i)) .int = some false := id rfl
@[simp] theorem isi_bl_int {ct : List CD} {i : Bool} : isi ct (.p (.bl i)) .int = some true := id rfl
@[simp] theorem isi_str_int {ct : List CD} {i : Str} : isi ct (.p (.str i)) .int = some false := id rfl
@[simp] theorem isi_non_int {ct : List CD} : isi ct (.p .non) .int = some false := id rfl
@[simp] theorem isi_int_bool {ct : List CD} {i : Int} : isi ct (.p (.int i)) .bool = some false := id rfl
@[simp] theorem isi_tup_bool {ct : List CD} {i : List P} : isi ct (.p (.tup i)) .bool = some false := id rfl
@[simp] theorem isi_bl_bool {ct : List CD} {i : Bool} : isi ct (.p (.bl i)) .bool = some true := id rfl
@[simp] theorem isi_str_bool {ct : List CD} {i : Str} : isi ct (.p (.str i)) .bool = some false := id rfl
@[simp] theorem isi_non_bool {ct : List CD} : isi ct (.p .non) .bool = some false := id rfl
@[simp] theorem isi_int_tuple {ct : List CD} {i : Int} : isi ct (.p (.int i)) .tuple = some false := id rfl
@[simp] theorem isi_tup_tuple {ct : List CD} {i : List P} : isi ct (.p (.tup i)) .tuple = some true := id rfl
@[simp] theorem isi_bl_tuple {ct : List CD} {i : Bool} : isi ct (.p (.bl i)) .tuple = some false := id rfl
@[simp] theorem isi_str_tuple {ct : List CD} {i : Str} : isi ct (.p (.str i)) .tuple = some false := id rfl
@[simp] theorem isi_non_tuple {ct : List CD} : isi ct (.p .non) .tuple = some false := id rfl
@[simp] theorem isi_int_dict {ct : List CD} {i : Int} : isi ct (.p (.int i)) .dict = some false := id rfl
@[simp] theorem isi_tup_dict {ct : List CD} {i : List P} : isi ct (.p (.tup i)) .dict = some false := id rfl
@[simp] theorem isi_bl_dict {ct : List CD} {i : Bool} : isi ct (.p (.bl i)) .dict = some false := id rfl
@[simp] theorem isi_str_dict {ct : List CD} {i : Str} : isi ct (.p (.str i)) .dict = some false := id rfl
@[simp] theorem isi_non_dict {ct : List CD} : isi ct (.p .non) .dict = some false := id rfl
@[simp] theorem isi_int_list {ct : List CD} {i : Int} : isi ct (.p (.int i)) .list = some false := id rfl
@[simp] theorem isi_tup_list {ct : List CD} {i : List P} : isi ct (.p (.tup i)) .list = some false := id rfl
@[simp] theorem isi_bl_list {ct : List CD} {i : Bool} : isi ct (.p (.bl i)) .list = some false := id rfl
@[simp] theorem isi_str_list {ct : List CD} {i : Str} : isi ct (.p (.str i)) .list = some false := id rfl
@[simp] theorem isi_non_list {ct : List CD} : isi ct (.p .non) .list = some false := id rfl
@[simp] theorem isi_int_str {ct : List CD} {i : Int} : isi ct (.p (.int i)) .str = some false := id rfl
@[simp] theorem isi_tup_str {ct : List CD} {i : List P} : isi ct (.p (.tup i)) .str = some false := id rfl
@[simp] theorem isi_bl_str {ct : List CD} {i : Bool} : isi ct (.p (.bl i)) .str = some false := id rfl
@[simp] theorem isi_str_str {ct : List CD} {i : Str} : isi ct (.p (.str i)) .str = some true := id rfl
@[simp] theorem isi_non_str {ct : List CD} : isi ct (.p .non) .str = some false := id rfl
@[simp] theorem aug_add {a b : Int} : augop .add (.p (.int a)) (.p (.int b)) = some (.p (.int (a + b))) := id rfl
@[simp] theorem aug_sub {a b : Int} : augop .sub (.p (.int a)) (.p (.int b)) = some (.p (.int (a - b))) := id rfl
@[simp] theorem rngA_i {a b c : Int} : rngA (.p (.int a)) (.p (.int b)) (.p (.int c)) = some (.rng a b c) := id rfl
@[simp] theorem endF_next {n : Nat} {σ : Sl} {st : St} : endF n (.next σ st) = fin n (.p .non) st := id rfl
@[simp] theorem endF_ret {n : Nat} {a : A} {st : St} : endF n (.ret a st) = fin n a st := id rfl
@[simp] theorem endF_exc {n c : Nat} {fs : List P} {σ : Sl} {st : St} : endF n (.exc c fs σ st) = .exc c fs (st.take n) := id rfl
@[simp] theorem fin_pp {n : Nat} {x : P} {st : St} : fin n (.p x) st = .ok (.p x) (st.take n) := id rfl
@[simp] theorem pure_nil : A.pure? [] = some [] := id rfl
@[simp] theorem pure_cons {x : P} {r : List A} : A.pure? (.p x :: r) = (A.pure? r).map (x :: ·) := id rfl
@[simp] theorem bindS_1 {i : Nat} {a : A} {σ : Sl} : bindS [i] a σ = some (σ.set i (some a)) := id rfl
@[simp] theorem bindS_2 {i j : Nat} {a b : P} {σ : Sl} : bindS [i, j] (.p (.tup [a, b])) σ = some ((σ.set i (some (.p a))).set j (some (.p b))) := id rfl
@[simp] theorem lfun_tuple {xs : List A} {st : St} : lfun .tuple xs st = .ok (A.mk xs) st := id rfl
@[simp] theorem lfun_len {xs : List A} {st : St} : lfun .len xs st = .ok (.p (.int xs.length)) st := id rfl
@[simp] theorem partI_nil {v : A} : partI .nil v = some none := id rfl
@[simp] theorem mk_nil : A.mk [] = .p (.tup []) := id rfl
@[simp] theorem mk_pure {xs : List P} : A.mk (xs.map .p) = .p (.tup xs) := A.mk_map xs
@[simp] theorem mk_1 {x : P} : A.mk [.p x] = .p (.tup [x]) := id rfl
@[simp] theorem mk_2 {x y : P} : A.mk [.p x, .p y] = .p (.tup [x, y]) := id rfl
@[simp] theorem mk_3 {x y z : P} : A.mk [.p x, .p y, .p z] = .p (.tup [x, y, z]) := id rfl
theorem mk_f {α : Type} {f : α → P} (xs : List α) : A.mk (xs.map fun x => .p (f x)) = .p (.tup (xs.map f)) := by
  have := A.mk_map (xs.map f)
  rwa [List.map_map] at this
theorem bools_f {α : Type} {f : α → Bool} : ∀ xs : List α, bools? (xs.map fun x => .p (.bl (f x))) = some (xs.map f)
  | [] => rfl
  | x :: xs => by simp [bools?, bools_f xs]
theorem ints_f {α : Type} {f : α → Int} : ∀ xs : List α, ints? (xs.map fun x => .p (.int (f x))) = some (xs.map f)
  | [] => rfl
  | x :: xs => by simp [ints?, ints_f xs]
theorem lall {α : Type} {f : α → Bool} {xs : List α} {st : St} : lfun .all (xs.map fun x => .p (.bl (f x))) st = .ok (.p (.bl (xs.all f))) st := by
  show Out.of st ((bools? _).map _) = _
  rw [bools_f]
  simp [Out.of, Function.comp_def]
theorem lany {α : Type} {f : α → Bool} {xs : List α} {st : St} : lfun .any (xs.map fun x => .p (.bl (f x))) st = .ok (.p (.bl (xs.any f))) st := by
  show Out.of st ((bools? _).map _) = _
  rw [bools_f]
  simp [Out.of, Function.comp_def]
theorem lsum {α : Type} {f : α → Int} {xs : List α} {st : St} : lfun .sum (xs.map fun x => .p (.int (f x))) st = .ok (.p (.int (xs.map f).sum)) st := by
  show Out.of st ((ints? _).map _) = _
  rw [ints_f]
  rfl
/-! ### loops over numbers, over rows -/
theorem forR {ts : List Nat} {b : Sl → St → Flow} {n : Nat} {σ : Sl} {st : St} (I : Nat → Sl → St → Prop) (h0 : I 0 σ st)
    (hb : ∀ j σ st, j < n → I j σ st → ∃ σ1, bindS ts (.p (.int (j : Nat))) σ = some σ1 ∧ NX (I (j + 1)) (b σ1 st)) : ∃ σ' st', forL [] ts b ((List.range n).map fun i : Nat => .p (.int (i : Int))) σ st = .next σ' st' ∧ I n σ' st' := by
  have := forL_next (g := []) (ts := ts) (b := b) (xs := (List.range n).map fun i : Nat => .p (.int (i : Int))) I h0 (fun _ _ _ _ => still_nil) fun i x σ st hx hI => by
    obtain ⟨a, ha, rfl⟩ : ∃ a, (List.range n)[i]? = some a ∧ A.p (P.int (a : Nat)) = x := by simpa using hx
    obtain ⟨hj, e⟩ := List.getElem?_eq_some_iff.mp ha
    simp at hj e
    subst e
    exact hb i σ st hj hI
  simpa using this
theorem forT {α : Type} {e : α → P} {xs : List α} {ts : List Nat} {b : Sl → St → Flow} {σ : Sl} {st : St} (I : Nat → Sl → St → Prop) (h0 : I 0 σ st)
    (hb : ∀ j y σ st, xs[j]? = some y → I j σ st → ∃ σ1, bindS ts (.p (e y)) σ = some σ1 ∧ NX (I (j + 1)) (b σ1 st)) : ∃ σ' st', forL [] ts b ((xs.map e).map .p) σ st = .next σ' st' ∧ I xs.length σ' st' := by
  have := forL_next (g := []) (ts := ts) (b := b) (xs := (xs.map e).map .p) I h0 (fun _ _ _ _ => still_nil) fun i x σ st hx hI => by
    obtain ⟨y, hy, rfl⟩ : ∃ y, xs[i]? = some y ∧ A.p (e y) = x := by simpa using hx
    exact hb i y σ st hy hI
  simpa using this
/-- .. that may end early -/
theorem forR_wp {ts : List Nat} {b : Sl → St → Flow} {n : Nat} {σ : Sl} {st : St} {Q : Flow → Prop} (I : Nat → Sl → St → Prop) (h0 : I 0 σ st)
    (hb : ∀ j σ st, j < n → I j σ st → ∃ σ1, bindS ts (.p (.int (j : Nat))) σ = some σ1 ∧ match b σ1 st with
      | .next σ2 st2 => I (j + 1) σ2 st2
      | .cnt σ2 st2 => I (j + 1) σ2 st2
      | .brk σ2 st2 => Q (.next σ2 st2)
      | r => Q r) (hq : ∀ σ st, I n σ st → Q (.next σ st)) : Q (forL [] ts b ((List.range n).map fun i : Nat => .p (.int (i : Int))) σ st) :=
  forL_wp I h0 (fun _ _ _ _ => still_nil) (fun i x σ st hx hI => by
    obtain ⟨a, ha, rfl⟩ : ∃ a, (List.range n)[i]? = some a ∧ A.p (P.int (a : Nat)) = x := by simpa using hx
    obtain ⟨hj, e⟩ := List.getElem?_eq_some_iff.mp ha
    simp at hj e
    subst e
    exact hb i σ st hj hI) (by simpa using hq)
/-- a tuple's comprehension over numbers, the store as it was -/
theorem cqR {Z : Cfg} {bs : List Nat} {σ : Sl} {st : St} {elt it : C} {ts own : List Nat} {n : Nat} {f : Nat → A} (h1 : evE Z bs it σ st = .ok (.rng 0 (n : Int) 1) st) (hn : n < szl)
    (hb : ∀ j, j < n → ∃ σ', bindS ts (.p (.int (j : Nat))) (wipeS σ own) = some σ' ∧ evE Z bs elt σ' st = .ok (f j) st) : evL Z bs (.cq elt ts it (.k (.bl true)) own) σ st = .ok ((List.range n).map f) st := by
  have hn' : n < 16777216 := hn
  rw [cq_map (h := fun x => match x with
    | .p (.int i) => f i.toNat
    | _ => .p .non) h1 (wk_rng (by omega)) still_nil (by simpa using hn) fun x hx => by
      obtain ⟨j, hj, rfl⟩ : ∃ j, j < n ∧ A.p (.int j) = x := by simpa using hx
      obtain ⟨σ', e1, e2⟩ := hb j hj
      exact ⟨σ', e1, by simpa using e2⟩]
  simp [Function.comp_def]
theorem cqR_if {Z : Cfg} {bs : List Nat} {σ : Sl} {st : St} {elt it cond : C} {ts own : List Nat} {n : Nat} {f : Nat → A} {c : Nat → Bool} (h1 : evE Z bs it σ st = .ok (.rng 0 (n : Int) 1) st) (hn : n < szl)
    (hb : ∀ j, j < n → ∃ σ', bindS ts (.p (.int (j : Nat))) (wipeS σ own) = some σ' ∧ evE Z bs cond σ' st = .ok (.p (.bl (c j))) st ∧ (c j = true → evE Z bs elt σ' st = .ok (f j) st)) : evL Z bs (.cq elt ts it cond own) σ st = .ok (((List.range n).filter c).map f) st := by
  have hn' : n < 16777216 := hn
  rw [cq_filter (h := fun x => match x with
    | .p (.int i) => f i.toNat
    | _ => .p .non) (c := fun x => match x with
    | .p (.int i) => c i.toNat
    | _ => false) h1 (wk_rng (by omega)) still_nil (by simpa using hn) fun x hx => by
      obtain ⟨j, hj, rfl⟩ : ∃ j, j < n ∧ A.p (.int j) = x := by simpa using hx
      obtain ⟨σ', e1, e2, e3⟩ := hb j hj
      exact ⟨σ', e1, by simpa using e2, fun h => by simpa using e3 (by simpa using h)⟩]
  simp [List.filter_map, Function.comp_def]
/-- .. over the items of a tuple -/
theorem cqT {α : Type} {e : α → P} {xs : List α} {Z : Cfg} {bs : List Nat} {σ : Sl} {st : St} {elt it : C} {ts own : List Nat} {f : α → A} (h1 : evE Z bs it σ st = .ok (.p (.tup (xs.map e))) st) (hn : xs.length < szl)
    (hb : ∀ y ∈ xs, ∃ σ', bindS ts (.p (e y)) (wipeS σ own) = some σ' ∧ evE Z bs elt σ' st = .ok (f y) st) : evL Z bs (.cq elt ts it (.k (.bl true)) own) σ st = .ok (xs.map f) st := by
  have key : ∀ (ys : List α) (acc : List A), (∀ y ∈ ys, y ∈ xs) → acc.length + ys.length < szl → compL [] (stepC Z bs elt (.k (.bl true)) ts own σ) ((ys.map e).map .p) acc st = .ok (acc ++ ys.map f) st := by
    intro ys
    induction ys with
    | nil => intro acc _ _; simp [compL, still_nil]
    | cons y ys ih =>
      intro acc hy hl
      obtain ⟨σ', e1, e2⟩ := hb y (hy y List.mem_cons_self)
      simp only [List.map_cons, List.length_cons] at hl ⊢
      rw [compL, if_pos still_nil, stepC_t e1 rE_k e2]
      simp only
      rw [if_pos (by omega), ih (acc ++ [f y]) (fun z hz => hy z (List.mem_cons_of_mem _ hz)) (by simp; omega)]
      simp
  rw [rL_cq h1 wk_tup, key xs [] (fun _ h => h) (by simpa using hn)]
  simp
theorem forL_c {ts : List Nat} {b : Sl → St → Flow} {x : A} {xs : List A} {σ : Sl} {st : St} : forL [] ts b (x :: xs) σ st = (match bindS ts x σ with
    | some σ => (match b σ st with
      | .next σ st => forL [] ts b xs σ st
      | .cnt σ st => forL [] ts b xs σ st
      | .brk σ st => .next σ st
      | r => r)
    | none => .stuck) := by
  (rw [forL, if_pos still_nil]) <;> (cases bindS ts x σ with
  | none => rfl
  | some σ1 => simp only; cases b σ1 st <;> rfl)
theorem forL_n {ts : List Nat} {b : Sl → St → Flow} {σ : Sl} {st : St} : forL [] ts b [] σ st = .next σ st := by
  rw [forL, if_pos still_nil]
theorem memq_eI (r : List Nat) : ∀ h : List (List Nat), memq (eI r) (h.map eI) = some (decide (r ∈ h))
  | [] => rfl
  | y :: ys => by
    simp only [List.map_cons, memq, eqq_eI, memq_eI r ys]
    by_cases h : y = r
    · subst h; simp
    · have h' : ¬ r = y := fun e => h e.symm
      simp [h, h']
theorem eqv_eI {a b : List Nat} : P.eqv (eI a) (eI b) = decide (a = b) := by
  unfold eI
  rw [P.eqv, eqvs_nat]
theorem findIdx_eI (r : List Nat) : ∀ h : List (List Nat), (h.map eI).findIdx (fun y => y.eqv (eI r)) = h.findIdx fun y => decide (y = r)
  | [] => rfl
  | y :: ys => by
    rw [List.map_cons, List.findIdx_cons, List.findIdx_cons, eqv_eI, findIdx_eI r ys]
theorem m1_index {bs : List Nat} {xs : List P} {y : P} {st : St} : m1fun bs .index (.p (.tup xs)) (.p y) st = (match indexq y xs with
    | some n => .ok (.p (.int n)) st
    | none => .stuck) := by
  have : m1fun bs .index (.p (.tup xs)) (.p y) st = Out.of st ((indexq y xs).map fun n => .p (.int n)) := by
    simp only [m1fun]
    cases indexq y xs <;> rfl
  rw [this]
  cases indexq y xs <;> rfl
@[simp] theorem recv_index {xs : List P} {st : St} : recv .index (.p (.tup xs)) st = true := id rfl
/-! ### lists that grow -/
theorem mayLay_p {bs : List Nat} {j : Nat} {v : P} : mayLay bs j (.p v) = true := by
  unfold mayLay
  simp [A.bel]
theorem recv_app {j : Nat} {st : St} {xs : List A} (h : st[j]? = some (.lst xs)) : recv .append (.ref j) st = true := by
  simp [recv, h]
theorem m1_app {bs : List Nat} {j : Nat} {v : P} {st : St} {xs : List A} (h : st[j]? = some (.lst xs)) (hl : xs.length < szl) : m1fun bs .append (.ref j) (.p v) st = .ok (.p .non) (st.set j (.lst (xs ++ [.p v]))) := by
  simp [m1fun, h, mayLay_p, hl]
@[simp] theorem get_end {st : St} {o : MO} : (st ++ [o])[st.length]? = some o := by simp
@[simp] theorem set_end {st : St} {o o' : MO} : (st ++ [o]).set st.length o' = st ++ [o'] := by simp
theorem b1_tupl {j : Nat} {st : St} {xs : List A} (h : st[j]? = some (.lst xs)) : b1fun .tuple (.ref j) st = .ok (A.mk xs) st := by
  simp [b1fun, h]
theorem b1_lenl {j : Nat} {st : St} {xs : List A} (h : st[j]? = some (.lst xs)) : b1fun .len (.ref j) st = .ok (.p (.int xs.length)) st := by
  simp [b1fun, h]
theorem setix_n {bs : List Nat} {j n : Nat} {v : P} {st : St} {xs : List A} (h : st[j]? = some (.lst xs)) (hn : n < xs.length) : setix bs (.ref j) (.p (.int (n : Int))) (.p v) st = .ok () (st.set j (.lst (xs.set n (.p v)))) := by
  have hi : idx xs.length (n : Int) = some n := by
    unfold idx
    simp [hn]
  simp [setix, mayLay_p, h, hi]
theorem setix_0 {bs : List Nat} {j : Nat} {v : P} {st : St} {xs : List A} (h : st[j]? = some (.lst xs)) (hn : 0 < xs.length) : setix bs (.ref j) (.p (.int 0)) (.p v) st = .ok () (st.set j (.lst (xs.set 0 (.p v)))) := setix_n (n := 0) h hn
theorem setix_3 {bs : List Nat} {j : Nat} {v : P} {st : St} {xs : List A} (h : st[j]? = some (.lst xs)) (hn : 3 < xs.length) : setix bs (.ref j) (.p (.int 3)) (.p v) st = .ok () (st.set j (.lst (xs.set 3 (.p v)))) := setix_n (n := 3) h hn
end Fc

set_option Elab.async false
set_option linter.all false
set_option maxRecDepth 100000
set_option maxHeartbeats 4000000
/-! FcRun3: stores that grow; drawing. -/
namespace Fc
open PySem
theorem set_app {st r : St} {j : Nat} {o : MO} (h : j < st.length) : (st ++ r).set j o = st.set j o ++ r := by
  rw [List.set_append_left _ _ h]
theorem get_app {st r : St} {j : Nat} (h : j < st.length) : (st ++ r)[j]? = st[j]? := List.getElem?_append_left h
theorem get_at {s r : St} {x : MO} {n : Nat} (h : s.length = n) : (s ++ x :: r)[n]? = some x := by
  subst h; simp
theorem set_at {s r : St} {x y : MO} {n : Nat} (h : s.length = n) : (s ++ x :: r).set n y = s ++ y :: r := by
  subst h; simp
theorem set_get {st : St} {j : Nat} {o o' : MO} (h : st[j]? = some o) : (st.set j o')[j]? = some o' := by
  have := (List.getElem?_eq_some_iff.mp h).1
  simp [this]
theorem set_get' {st : St} {j : Nat} {o' : MO} (h : j < st.length) : (st.set j o')[j]? = some o' := by
  simp [h]
@[simp] theorem take_set {st : St} {j : Nat} {o : MO} : (st.set j o).take st.length = st.set j o := by
  rw [List.take_of_length_le (by simp)]
theorem take_app {s r : St} {n : Nat} (h : s.length = n) : (s ++ r).take n = s := by
  subst h; simp
@[simp] theorem take_set_app {st r : St} {j : Nat} {o : MO} : (st.set j o ++ r).take st.length = st.set j o := take_app (by simp)
theorem set_self {st : St} {j : Nat} {o : MO} (h : st[j]? = some o) : st.set j o = st := by
  obtain ⟨hj, e⟩ := List.getElem?_eq_some_iff.mp h
  rw [← e]; exact List.set_getElem_self hj
theorem lt_of_get {st : St} {j : Nat} {o : MO} (h : st[j]? = some o) : j < st.length := (List.getElem?_eq_some_iff.mp h).1
/-- drawing a number below m -/
def Take (cal : List Nat → Nat → List A → St → Out A) (f : Nat) : Prop := ∀ (bs : List Nat) (st : St) (j : Nat) (o : MO) (B m : Nat), st[j]? = some o → Bag B o → B < 1000000000000000000 → 1 ≤ m → m < 1073741824 →
  ∃ (d : Nat) (o' : MO), d < m ∧ Bag (B + 1) o' ∧ cal bs f [.ref j, .p (.int m)] st = .ok (.p (.int d)) (st.set j o')
theorem Take.at {cal : List Nat → Nat → List A → St → Out A} {f : Nat} (T : Take cal f) {bs : List Nat} {st : St} {j : Nat} {o : MO} {B : Nat} (m : Nat) (h : st[j]? = some o) (hb : Bag B o) (hB : B < 1000000000000000000) (m1 : 1 ≤ m) (m2 : m < 1073741824) :
  ∃ (d : Nat) (o' : MO), d < m ∧ Bag (B + 1) o' ∧ cal bs f [.ref j, .p (.int m)] st = .ok (.p (.int d)) (st.set j o') := T bs st j o B m h hb hB m1 m2
/-- .. over numbers, drawing from the bag at j; each item draws at most c times -/
theorem cqD {α : Type} {e : α → P} {Q : α → Prop} {Z : Cfg} {bs : List Nat} {σ : Sl} {st0 st r : St} {elt it : C} {ts own : List Nat} {n j B c : Nat} {o : MO} (h1 : evE Z bs it σ st0 = .ok (.rng 0 (n : Int) 1) (st ++ r)) (hn : n < szl) (ho : st[j]? = some o) (hb : Bag B o)
    (hs : ∀ i B' o1, i < n → B' ≤ B + i * c → Bag B' o1 → ∃ σ', bindS ts (.p (.int (i : Nat))) (wipeS σ own) = some σ' ∧ ∃ a o2, Q a ∧ Bag (B' + c) o2 ∧ evE Z bs elt σ' (st.set j o1 ++ r) = .ok (.p (e a)) (st.set j o2 ++ r)) :
    ∃ (xs : List α) (o2 : MO), xs.length = n ∧ (∀ a ∈ xs, Q a) ∧ Bag (B + n * c) o2 ∧ evL Z bs (.cq elt ts it (.k (.bl true)) own) σ st0 = .ok ((xs.map e).map .p) (st.set j o2 ++ r) := by
  have hn' : n < 16777216 := hn
  rw [rL_cq h1 (wk_rng (by omega))]
  obtain ⟨rs, s2, e2, xs, o2, rfl, rfl, hl, hq, hb2⟩ := compL_st (g := []) (f := stepC Z bs elt (.k (.bl true)) ts own σ) (xs := (List.range n).map fun i : Nat => A.p (.int (i : Int))) (acc := []) (st := st ++ r)
    (fun i acc s => ∃ (xs : List α) (o2 : MO), acc = (xs.map e).map .p ∧ s = st.set j o2 ++ r ∧ xs.length = min i n ∧ (∀ a ∈ xs, Q a) ∧ Bag (B + (min i n) * c) o2)
    ⟨[], o, rfl, by rw [set_self ho], by simp, by simp, by simpa using hb⟩
    (fun i acc s ⟨xs, o2, e1, _, e3, _⟩ => ⟨still_nil, by subst e1; simp [e3]; show _ < 16777216; omega⟩)
    (fun i x acc s hx ⟨xs, o2, e1, e2, e3, hq, hb2⟩ => by
      obtain ⟨a, ha, rfl⟩ : ∃ a, (List.range n)[i]? = some a ∧ A.p (P.int (a : Nat)) = x := by simpa using hx
      obtain ⟨hi, e⟩ := List.getElem?_eq_some_iff.mp ha
      simp at hi e
      subst e
      have hm : min i n = i := by omega
      have hm' : min (i + 1) n = i + 1 := by omega
      rw [hm] at e3 hb2
      obtain ⟨σ', b1, a, o3, qa, b3, ev⟩ := hs i _ o2 hi (Nat.le_refl _) hb2
      subst e1 e2
      refine ⟨_, _, stepC_t b1 rE_k ev, xs ++ [a], o3, by simp, rfl, by simp [e3, hm'], ?_, ?_⟩
      · intro z hz
        rcases List.mem_append.mp hz with hz | hz
        · exact hq z hz
        · rw [List.mem_singleton] at hz; subst hz; exact qa
      · rw [hm', Nat.succ_mul, ← Nat.add_assoc]; exact b3)
  refine ⟨xs, o2, by simpa using hl, hq, by simpa using hb2, e2⟩
end Fc

set_option Elab.async false
set_option linter.all false
set_option maxRecDepth 100000
set_option maxHeartbeats 4000000
/-! FcW: running the evaluator forwards, what follows kept shut. -/
namespace Fc
open PySem

@[irreducible] def WO0 {α : Type} (o : Option α) (N : α → Prop) : Prop := match o with
  | some a => N a
  | none => False
@[irreducible] def WB0 (b : Bool) (p q : Prop) : Prop := if b = true then p else q
@[irreducible] def WE0 {α : Type} (o : Out α) (X : Nat → List P → St → Prop) (N : α → St → Prop) : Prop := match o with
  | .ok a st => N a st
  | .exc c fs st => X c fs st
  | .stuck => False
structure EndW where
  exc : Nat → List P → Sl → St → Prop
  ret : A → St → Prop
  brk : Sl → St → Prop
  cnt : Sl → St → Prop
@[irreducible] def WS0 (f : Flow) (E : EndW) (N : Sl → St → Prop) : Prop := match f with
  | .next σ st => N σ st
  | .brk σ st => E.brk σ st
  | .cnt σ st => E.cnt σ st
  | .ret a st => E.ret a st
  | .exc c fs σ st => E.exc c fs σ st
  | .stuck => False
local macro_rules | `(tactic| rfl) => `(tactic| with_unfolding_all exact rfl)
/-- an end, kept shut -/
def Hold0 (p : Prop) : Prop := p
theorem hold0 {p : Prop} (h : p) : Hold0 p := h
theorem WO_some0 {α : Type} {a : α} {N : α → Prop} : WO0 (some a) N = N a := by rfl
theorem WO_map0 {α β : Type} {o : Option α} {f : α → β} {N : β → Prop} : WO0 (o.map f) N = WO0 o (fun a => N (f a)) := by cases o <;> rfl
theorem WB_t0 {p q : Prop} : WB0 true p q = p := by rfl
theorem WB_f0 {p q : Prop} : WB0 false p q = q := by rfl
theorem WB_not0 {b : Bool} {p q : Prop} : WB0 (!b) p q = WB0 b q p := by cases b <;> rfl
theorem WB_cases0 {b : Bool} {p q : Prop} (h1 : b = true → p) (h2 : b = false → q) : WB0 b p q := by
  cases b
  · rw [WB_f0]; exact h2 rfl
  · rw [WB_t0]; exact h1 rfl
theorem WE_stuck0 {α : Type} {X : Nat → List P → St → Prop} {N : α → St → Prop} : ¬ WE0 (.stuck : Out α) X N := fun h => by
  with_unfolding_all exact h
theorem WS_stuck0 {E : EndW} {N : Sl → St → Prop} : ¬ WS0 .stuck E N := fun h => by
  with_unfolding_all exact h
theorem WO_none0 {α : Type} {N : α → Prop} : ¬ WO0 none N := fun h => by
  with_unfolding_all exact h
theorem WB_dec0 {c : Prop} {i : Decidable c} {p q : Prop} (h1 : c → p) (h2 : ¬ c → q) : WB0 (@decide c i) p q :=
  WB_cases0 (fun h => h1 (of_decide_eq_true h)) fun h => h2 (of_decide_eq_false h)
section
variable {α : Type} {X : Nat → List P → St → Prop} {N : α → St → Prop} {st : St}
theorem WE_ok0 {a : α} : WE0 (.ok a st) X N = N a st := by rfl
theorem WE_exc0 {c : Nat} {fs : List P} : WE0 (.exc c fs st : Out α) X N = X c fs st := by rfl
theorem WE_bind0 {β : Type} {o : Out β} {f : β → St → Out α} : WE0 (o.bind f) X N = WE0 o X (fun a st => WE0 (f a st) X N) := by cases o <;> rfl
theorem WE_of0 {o : Option α} : WE0 (Out.of st o) X N = WO0 o (fun a => N a st) := by cases o <;> rfl
theorem WE_if0 {c : Prop} {i : Decidable c} {o : Out α} (h : c) : WE0 (if c then o else .stuck) X N = WE0 o X N := by rw [if_pos h]
theorem WE_mono0 {o : Out α} {X' : Nat → List P → St → Prop} {N' : α → St → Prop} (h : WE0 o X' N') (hx : ∀ c fs st, X' c fs st → X c fs st) (hn : ∀ a st, N' a st → N a st) : WE0 o X N := by
  cases o with
  | ok a s => rw [WE_ok0] at h ⊢; exact hn _ _ h
  | exc c fs s => rw [WE_exc0] at h ⊢; exact hx _ _ _ h
  | stuck => exact (WE_stuck0 h).elim
/-- no error -/
abbrev NoX : Nat → List P → St → Prop := fun _ _ _ => False
theorem WE_use0 {o : Out α} {N' : α → St → Prop} (h : WE0 o NoX N') (hn : ∀ a st, N' a st → N a st) : WE0 o X N := WE_mono0 h (fun _ _ _ h => h.elim) hn
theorem W_ex0 {o : Out α} {N' : α → St → Prop} (h : WE0 o NoX N') : ∃ a s, o = .ok a s ∧ N' a s := by
  cases o with
  | ok a s' => rw [WE_ok0] at h; exact ⟨_, _, rfl, h⟩
  | exc c fs s => rw [WE_exc0] at h; exact h.elim
  | stuck => exact (WE_stuck0 h).elim
theorem W_exx0 {o : Out α} {X' : Nat → List P → St → Prop} (h : WE0 o X' fun _ _ => False) : ∃ c fs s, o = .exc c fs s ∧ X' c fs s := by
  cases o with
  | ok a s' => rw [WE_ok0] at h; exact h.elim
  | exc c fs s => rw [WE_exc0] at h; exact ⟨_, _, _, rfl, h⟩
  | stuck => exact (WE_stuck0 h).elim
theorem W_eq0 {o : Out α} {v : α} {s : St} (h : WE0 o NoX fun a s' => Hold0 (a = v ∧ s' = s)) : o = .ok v s := by
  obtain ⟨_, _, e, rfl, rfl⟩ := W_ex0 h
  exact e
theorem W_exc0 {o : Out α} {c : Nat} {fs : List P} {s : St} (h : WE0 o (fun c' fs' s' => Hold0 (c' = c ∧ fs' = fs ∧ s' = s)) fun _ _ => False) : o = .exc c fs s := by
  obtain ⟨_, _, _, e, rfl, rfl, rfl⟩ := W_exx0 h
  exact e
end
section
variable {E : EndW} {N : Sl → St → Prop} {σ : Sl} {st : St}
theorem WS_next0 : WS0 (.next σ st) E N = N σ st := by rfl
theorem WS_brk0 : WS0 (.brk σ st) E N = E.brk σ st := by rfl
theorem WS_cnt0 : WS0 (.cnt σ st) E N = E.cnt σ st := by rfl
theorem WS_ret0 {a : A} : WS0 (.ret a st) E N = E.ret a st := by rfl
theorem WS_exc0 {c : Nat} {fs : List P} : WS0 (.exc c fs σ st) E N = E.exc c fs σ st := by rfl
theorem WS_outF0 {o : Out A} {f : A → St → Flow} : WS0 (outF σ o f) E N = WE0 o (fun c fs st => E.exc c fs σ st) (fun a st => WS0 (f a st) E N) := by cases o <;> rfl
end
/-! ### expressions -/
def varA : Option (Option A) → Option A
  | some (some (.exn _ _)) => none
  | some (some a) => some a
  | _ => none
@[simp] theorem varA_p {x : P} : varA (some (some (.p x))) = some (.p x) := by rfl
@[simp] theorem varA_ref {j : Nat} : varA (some (some (.ref j))) = some (.ref j) := by rfl
@[simp] theorem varA_tup {x : List A} : varA (some (some (.tup x))) = some (.tup x) := by rfl
def slA : Option (Option A) → Option A
  | some (some a) => some a
  | _ => none
@[simp] theorem slA_s {a : A} : slA (some (some a)) = some a := by rfl
def negA : A → Option A
  | .p (.int i) => some (.p (.int (-i)))
  | _ => none
@[simp] theorem negA_i {i : Int} : negA (.p (.int i)) = some (.p (.int (-i))) := by rfl
section
variable {Z : Cfg} {bs : List Nat} {σ : Sl} {st : St} {X : Nat → List P → St → Prop} {N : A → St → Prop}
theorem wE_var0 {i : Nat} : WE0 (evE Z bs (.var i) σ st) X N = WO0 (varA σ[i]?) (fun a => N a st) := by
  rw [evE]
  cases σ[i]? with
  | none => rfl
  | some o => cases o with
    | none => rfl
    | some a => cases a <;> rfl
theorem wE_k0 {x : P} : WE0 (evE Z bs (.k x) σ st) X N = N (.p x) st := by (rw [evE]) <;> rfl
theorem wE_glob0 {n : Str} {x : P} : WE0 (evE Z bs (.glob n x) σ st) X N = N (.p x) st := by (rw [evE]) <;> rfl
theorem wE_bin0 {op : BOp} {a b : C} : WE0 (evE Z bs (.bin op a b) σ st) X N = WE0 (evE Z bs a σ st) X (fun x st => WE0 (evE Z bs b σ st) X (fun y st => WE0 (binop op x y st) X N)) := by
  rw [evE, WE_bind0]; simp only [WE_bind0]
theorem wE_neg0 {a : C} : WE0 (evE Z bs (.neg a) σ st) X N = WE0 (evE Z bs a σ st) X (fun x st => WO0 (negA x) (fun a => N a st)) := by
  rw [evE, WE_bind0]
  congr; funext x s; cases x <;> try rfl
  rename_i q; cases q <;> rfl
theorem wE_cmp0 {op : COp} {a b : C} : WE0 (evE Z bs (.cmp op a b) σ st) X N = WE0 (evE Z bs a σ st) X (fun x st => WE0 (evE Z bs b σ st) X (fun y st => WO0 (cmpop op x y st) (fun b => N (.p (.bl b)) st))) := by
  rw [evE, WE_bind0]; simp only [WE_bind0, WE_of0, WO_map0]
theorem wE_chain0 {o1 o2 : COp} {a b c : C} : WE0 (evE Z bs (.chain o1 o2 a b c) σ st) X N = WE0 (evE Z bs a σ st) X (fun x st => WE0 (evE Z bs b σ st) X (fun y st => WO0 (cmpop o1 x y st) (fun q => WB0 q (WE0 (evE Z bs c σ st) X (fun z st => WO0 (cmpop o2 y z st) (fun b => N (.p (.bl b)) st))) (N (.p (.bl false)) st)))) := by
  rw [evE, WE_bind0]
  congr; funext x s
  rw [WE_bind0]
  congr; funext y s
  cases cmpop o1 x y s with
  | none => rfl
  | some q => cases q with
    | false => rfl
    | true => simp only [WO_some0, WB_t0, WE_bind0, WE_of0, WO_map0]
theorem wE_and0 {es : C} : WE0 (evE Z bs (.andl es) σ st) X N = WE0 (evAnd Z bs es σ st) X N := by rw [evE]
theorem wE_or0 {es : C} : WE0 (evE Z bs (.orl es) σ st) X N = WE0 (evOr Z bs es σ st) X N := by rw [evE]
theorem wA_one0 {a : C} : WE0 (evAnd Z bs (.cons a .nil) σ st) X N = WE0 (evE Z bs a σ st) X N := by rw [evAnd]
theorem wA_two0 {a b r : C} : WE0 (evAnd Z bs (.cons a (.cons b r)) σ st) X N = WE0 (evE Z bs a σ st) X (fun x st => WO0 (tru x) (fun q => WB0 q (WE0 (evAnd Z bs (.cons b r) σ st) X N) (N (.p (.bl false)) st))) := by
  rw [evAnd, WE_bind0]
  · congr; funext x s
    cases tru x with
    | none => rfl
    | some q => cases q <;> rfl
  · exact fun h => by cases h
theorem wO_one0 {a : C} : WE0 (evOr Z bs (.cons a .nil) σ st) X N = WE0 (evE Z bs a σ st) X N := by rw [evOr]
theorem wO_two0 {a b r : C} : WE0 (evOr Z bs (.cons a (.cons b r)) σ st) X N = WE0 (evE Z bs a σ st) X (fun x st => WO0 (tru x) (fun q => WB0 q (N (.p (.bl true)) st) (WE0 (evOr Z bs (.cons b r) σ st) X N))) := by
  rw [evOr, WE_bind0]
  · congr; funext x s
    cases tru x with
    | none => rfl
    | some q => cases q <;> rfl
  · exact fun h => by cases h
theorem wE_not0 {a : C} : WE0 (evE Z bs (.not a) σ st) X N = WE0 (evE Z bs a σ st) X (fun x st => WO0 (tru x) (fun b => N (.p (.bl (!b))) st)) := by
  rw [evE, WE_bind0]; simp only [WE_of0, WO_map0]
theorem wE_ife0 {t a b : C} : WE0 (evE Z bs (.ife t a b) σ st) X N = WE0 (evE Z bs t σ st) X (fun x st => WO0 (tru x) (fun q => WB0 q (WE0 (evE Z bs a σ st) X N) (WE0 (evE Z bs b σ st) X N))) := by
  rw [evE, WE_bind0]
  congr; funext x s
  cases tru x with
  | none => rfl
  | some q => cases q <;> rfl
theorem wE_tup0 {es : C} : WE0 (evE Z bs (.tup es) σ st) X N = WE0 (evEs Z bs es σ st) X (fun xs st => N (A.mk xs) st) := by
  (rw [evE, WE_bind0]) <;> rfl
theorem wE_lst0 {es : C} : WE0 (evE Z bs (.lst es) σ st) X N = WE0 (evEs Z bs es σ st) X (fun xs st => N (.ref st.length) (st ++ [.lst xs])) := by
  (rw [evE, WE_bind0]) <;> rfl
theorem wE_dnew0 : WE0 (evE Z bs .dnew σ st) X N = N (.ref st.length) (st ++ [.dct .e []]) := by (rw [evE]) <;> rfl
theorem wE_disp10 {key v : C} : WE0 (evE Z bs (.disp1 key v) σ st) X N = WE0 (evE Z bs key σ (st ++ [.dct .e []])) X (fun x st1 => WE0 (evE Z bs v σ st1) X (fun y st2 => WE0 (dispA st.length x y st2) X N)) := by
  rw [evE, WE_bind0]; simp only [WE_bind0]
theorem wE_ix0 {a i : C} : WE0 (evE Z bs (.ix a i) σ st) X N = WE0 (evE Z bs a σ st) X (fun x st => WE0 (evE Z bs i σ st) X (fun y st => WO0 (getix x y st) (fun v => N v st))) := by
  rw [evE, WE_bind0]; simp only [WE_bind0, WE_of0]
theorem wE_slice0 {a lo hi : C} : WE0 (evE Z bs (.slice a lo hi) σ st) X N = WE0 (evE Z bs a σ st) X (fun x st => WE0 (evE Z bs lo σ st) X (fun l st => WO0 (partI lo l) (fun l => WE0 (evE Z bs hi σ st) X (fun h st => WO0 (partI hi h) (fun h => WE0 (sliceA x l h st) X N))))) := by
  rw [evE, WE_bind0]; simp only [WE_bind0, WE_of0]
def srevA (x : A) (st : St) : Out A := match x with
  | .ref j => (match st[j]? with
      | some (.lst xs) => .ok (.ref st.length) (st ++ [.lst xs.reverse])
      | _ => .stuck)
  | _ => .stuck
theorem wE_srev0 {a : C} : WE0 (evE Z bs (.srev a) σ st) X N = WE0 (evE Z bs a σ st) X (fun x st => WE0 (srevA x st) X N) := by
  rw [evE, WE_bind0]
  skip
def lstiA (x : A) (st : St) : Out A := match x with
  | .ref j => (match st[j]? with
      | some (.dct _ kvs) => .ok (.ref st.length) (st ++ [.lst (kvs.map fun p => A.mk [.p p.1, p.2])])
      | _ => .stuck)
  | _ => .stuck
theorem wE_lsti0 {a : C} : WE0 (evE Z bs (.lsti a) σ st) X N = WE0 (evE Z bs a σ st) X (fun x st => WE0 (lstiA x st) X N) := by
  rw [evE, WE_bind0]
  skip
theorem wE_call0 {f : Nat} {es : C} : WE0 (evE Z bs (.call f es) σ st) X N = WE0 (evEs Z bs es σ st) X (fun xs st => WE0 (Z.cal bs f xs st) X N) := by
  rw [evE, WE_bind0]
theorem wE_b10 {b : B1} {a : C} : WE0 (evE Z bs (.b1 b a) σ st) X N = WE0 (evE Z bs a σ st) X (fun x st => WE0 (b1fun b x st) X N) := by
  rw [evE, WE_bind0]
theorem wE_b20 {b : B2} {a c : C} : WE0 (evE Z bs (.b2 b a c) σ st) X N = WE0 (evE Z bs a σ st) X (fun x st => WE0 (evE Z bs c σ st) X (fun y st => WO0 (b2fun b x y) (fun v => N v st))) := by
  rw [evE, WE_bind0]; simp only [WE_bind0, WE_of0]
theorem wE_bq0 {b : B1} {q : C} : WE0 (evE Z bs (.bq b q) σ st) X N = WE0 (evL Z bs q σ st) X (fun xs st => WE0 (lfun b xs st) X N) := by
  rw [evE, WE_bind0]
theorem wE_comp0 {q : C} : WE0 (evE Z bs (.comp q) σ st) X N = WE0 (evL Z bs q σ st) X (fun xs st => N (.ref st.length) (st ++ [.lst xs])) := by
  (rw [evE, WE_bind0]) <;> rfl
theorem wE_isi0 {a : C} {t : Ty} : WE0 (evE Z bs (.isi a t) σ st) X N = WE0 (evE Z bs a σ st) X (fun x st => WO0 (isi Z.ct x t) (fun b => N (.p (.bl b)) st)) := by
  rw [evE, WE_bind0]; simp only [WE_of0, WO_map0]
theorem wE_m10 {m : M} {o a : C} : WE0 (evE Z bs (.m1 m o a) σ st) X N = WE0 (evE Z bs o σ st) X (fun x st => WB0 (recv m x st) (WE0 (evE Z bs a σ st) X (fun y st => WE0 (m1fun bs m x y st) X N)) False) := by
  rw [evE, WE_bind0]
  congr; funext x s
  cases h : recv m x s with
  | true => simp only [if_true, WE_bind0, WB_t0]
  | false => rfl
theorem wE_m20 {m : M} {o a c : C} : WE0 (evE Z bs (.m2 m o a c) σ st) X N = WE0 (evE Z bs o σ st) X (fun x st => WB0 (recv m x st) (WE0 (evE Z bs a σ st) X (fun y st => WE0 (evE Z bs c σ st) X (fun z st => WE0 (m2fun m x y z st) X N))) False) := by
  rw [evE, WE_bind0]
  congr; funext x s
  cases h : recv m x s with
  | true => simp only [if_true, WE_bind0, WB_t0]
  | false => rfl
theorem wE_m00 {m : M} {o : C} : WE0 (evE Z bs (.m0 m o) σ st) X N = WE0 (evE Z bs o σ st) X (fun x st => WB0 (recv m x st) (WE0 (m0fun m x st) X N) False) := by
  rw [evE, WE_bind0]
  congr; funext x s
  cases h : recv m x s with
  | true => simp only [if_true, WB_t0]
  | false => rfl
theorem wE_exa0 {i : Nat} {x : Str} : WE0 (evE Z bs (.exa i x) σ st) X N = WO0 (slA σ[i]?) (fun v => WO0 (fieldOf Z.ct v x) (fun a => N a st)) := by
  rw [evE]
  cases σ[i]? with
  | none => rfl
  | some o => cases o with
    | none => rfl
    | some a => simp only [WE_of0, slA_s, WO_some0]
theorem wE_exi0 {i : Nat} {t : Ty} : WE0 (evE Z bs (.exi i t) σ st) X N = WO0 (slA σ[i]?) (fun v => WO0 (isx Z.ct v t) (fun b => N (.p (.bl b)) st)) := by
  rw [evE]
  cases σ[i]? with
  | none => rfl
  | some o => cases o with
    | none => rfl
    | some a => simp only [WE_of0, slA_s, WO_some0, WO_map0]
def trngA (x y : A) (st : St) : Out A := match x, y with
  | .p (.int lo), .p (.int hi) => if -1000000000000 < lo ∧ lo < 1000000000000 ∧ -1000000000000 < hi ∧ hi < 1000000000000 ∧ hi - lo ≤ 1000000 then
        .ok (.p (.tup ((List.range (hi - lo).toNat).map fun i : Nat => .int (lo + (i : Int))))) st else .stuck
  | _, _ => .stuck
theorem wE_trng0 {a b : C} : WE0 (evE Z bs (.trng a b) σ st) X N = WE0 (evE Z bs a σ st) X (fun x st => WE0 (evE Z bs b σ st) X (fun y st => WE0 (trngA x y st) X N)) := by
  rw [evE, WE_bind0]
  congr; funext x s
  rw [WE_bind0]
  skip
theorem wE_rng0 {a b c : C} : WE0 (evE Z bs (.rng a b c) σ st) X N = WE0 (evE Z bs a σ st) X (fun x st => WE0 (evE Z bs b σ st) X (fun y st => WE0 (evE Z bs c σ st) X (fun z st => WO0 (rngA x y z) (fun v => N v st)))) := by
  rw [evE, WE_bind0]; simp only [WE_bind0, WE_of0]
theorem wE_zip0 {a b : C} : WE0 (evE Z bs (.zip a b) σ st) X N = WE0 (evE Z bs a σ st) X (fun x st => WE0 (evE Z bs b σ st) X (fun y st => N (.zip x y) st)) := by
  rw [evE, WE_bind0]; simp only [WE_bind0, WE_ok0]
theorem wE_itm0 {a : C} : WE0 (evE Z bs (.itm a) σ st) X N = WE0 (evE Z bs a σ st) X (fun x st => N (.itm x) st) := by
  (rw [evE, WE_bind0]) <;> rfl
theorem wE_rev0 {a : C} : WE0 (evE Z bs (.rev a) σ st) X N = WE0 (evE Z bs a σ st) X (fun x st => N (.rev x) st) := by
  (rw [evE, WE_bind0]) <;> rfl
theorem wE_nil0 : WE0 (evE Z bs .nil σ st) X N = N (.p .non) st := by (rw [evE]) <;> rfl
end
section
variable {Z : Cfg} {bs : List Nat} {σ : Sl} {st : St} {X : Nat → List P → St → Prop} {N : List A → St → Prop}
theorem wEs_nil0 : WE0 (evEs Z bs .nil σ st) X N = N [] st := by (rw [evEs]) <;> rfl
theorem wEs_cons0 {a r : C} : WE0 (evEs Z bs (.cons a r) σ st) X N = WE0 (evE Z bs a σ st) X (fun x st => WE0 (evEs Z bs r σ st) X (fun xs st => N (x :: xs) st)) := by
  rw [evEs, WE_bind0]; simp only [WE_bind0, WE_ok0]
/-- a comprehension, its items -/
theorem wL_cq0 {elt it cond : C} {ts own : List Nat} : WE0 (evL Z bs (.cq elt ts it cond own) σ st) X N = WE0 (evE Z bs it σ st) X (fun v st => WO0 (walkOf v st) (fun q => WE0 (compL q.2 (stepC Z bs elt cond ts own σ) q.1 [] st) X N)) := by
  rw [evL, WE_bind0]
  congr; funext v s
  cases walkOf v s with
  | none => rfl
  | some q => obtain ⟨xs, g⟩ := q; rfl
theorem wStep0 {elt cond : C} {ts own : List Nat} {x : A} {N : Option A → St → Prop} : WE0 (stepC Z bs elt cond ts own σ x st) X N = WO0 (bindS ts x (wipeS σ own)) (fun σ' => WE0 (evE Z bs cond σ' st) X (fun b st => WO0 (tru b) (fun q => WB0 q (WE0 (evE Z bs elt σ' st) X (fun y st => N (some y) st)) (N none st)))) := by
  unfold stepC
  cases bindS ts x (wipeS σ own) with
  | none => rfl
  | some σ' =>
    simp only [WO_some0, WE_bind0]
    congr; funext b s
    cases tru b with
    | none => rfl
    | some q => cases q <;> simp only [WO_some0, WB_t0, WB_f0, WE_bind0, WE_ok0]
end
/-! ### statements -/
section
variable {Z : Cfg} {bs : List Nat} {σ : Sl} {st : St} {E : EndW} {N : Sl → St → Prop}
theorem wS_skip0 : WS0 (evS Z bs .skip σ st) E N = N σ st := by (rw [evS]) <;> rfl
theorem wS_seq0 {a b : S} : WS0 (evS Z bs (.seq a b) σ st) E N = WS0 (evS Z bs a σ st) E (fun σ st => WS0 (evS Z bs b σ st) E N) := by
  rw [evS]; cases evS Z bs a σ st <;> rfl
theorem wS_set0 {i : Nat} {e : C} : WS0 (evS Z bs (.set i e) σ st) E N = WE0 (evE Z bs e σ st) (fun c fs st => E.exc c fs σ st) (fun a st => N (σ.set i (some a)) st) := by
  (rw [evS, WS_outF0]) <;> rfl
theorem wS_sett0 {is : List Nat} {e : C} : WS0 (evS Z bs (.sett is e) σ st) E N = WE0 (evE Z bs e σ st) (fun c fs st => E.exc c fs σ st) (fun a st => WO0 (bindS is a σ) (fun σ => N σ st)) := by
  rw [evS, WS_outF0]
  congr; funext a s
  cases bindS is a σ <;> rfl
theorem wS_par0 {i j : Nat} {a b : C} : WS0 (evS Z bs (.par i j a b) σ st) E N = WE0 (evE Z bs a σ st) (fun c fs st => E.exc c fs σ st) (fun x st => WE0 (evE Z bs b σ st) (fun c fs st => E.exc c fs σ st) (fun y st => N ((σ.set i (some x)).set j (some y)) st)) := by
  rw [evS, WS_outF0]; simp only [WS_outF0, WS_next0]
theorem wS_aug0 {i : Nat} {op : BOp} {e : C} : WS0 (evS Z bs (.aug i op e) σ st) E N = WO0 (slA σ[i]?) (fun x => WE0 (evE Z bs e σ st) (fun c fs st => E.exc c fs σ st) (fun y st => WO0 (augop op x y) (fun z => N (σ.set i (some z)) st))) := by
  rw [evS]
  cases σ[i]? with
  | none => rfl
  | some o => cases o with
    | none => rfl
    | some a => simp only [WS_outF0, WE_of0, slA_s, WO_some0, WS_next0]
theorem wS_setix0 {o i e : C} : WS0 (evS Z bs (.setix o i e) σ st) E N = WE0 (evE Z bs e σ st) (fun c fs st => E.exc c fs σ st) (fun v st => WE0 (evE Z bs o σ st) (fun c fs st => E.exc c fs σ st) (fun x st => WE0 (evE Z bs i σ st) (fun c fs st => E.exc c fs σ st) (fun y st => WE0 (setix bs x y v st) (fun _ _ _ => False) (fun _ st => N σ st)))) := by
  rw [evS, WS_outF0]
  simp only [WS_outF0]
  congr; funext v s; congr; funext x s; congr; funext y s
  cases setix bs x y v s <;> rfl
theorem wS_ex0 {e : C} : WS0 (evS Z bs (.ex e) σ st) E N = WE0 (evE Z bs e σ st) (fun c fs st => E.exc c fs σ st) (fun _ st => N σ st) := by
  (rw [evS, WS_outF0]) <;> rfl
theorem wS_ret0 {e : C} : WS0 (evS Z bs (.ret e) σ st) E N = WE0 (evE Z bs e σ st) (fun c fs st => E.exc c fs σ st) (fun a st => E.ret a st) := by
  (rw [evS, WS_outF0]) <;> rfl
theorem wS_retn0 : WS0 (evS Z bs .retn σ st) E N = E.ret (.p .non) st := by (rw [evS]) <;> rfl
theorem wS_ite0 {t : C} {a b : S} : WS0 (evS Z bs (.ite t a b) σ st) E N = WE0 (evE Z bs t σ st) (fun c fs st => E.exc c fs σ st) (fun x st => WO0 (tru x) (fun q => WB0 q (WS0 (evS Z bs a σ st) E N) (WS0 (evS Z bs b σ st) E N))) := by
  rw [evS, WS_outF0]
  congr; funext x s
  cases tru x with
  | none => rfl
  | some q => cases q <;> rfl
theorem wS_for0 {ts : List Nat} {it : C} {b : S} : WS0 (evS Z bs (.for_ ts it b) σ st) E N = WE0 (evE Z bs it σ st) (fun c fs st => E.exc c fs σ st) (fun v st => WO0 (walkOf v st) (fun q => WS0 (forL q.2 ts (evS Z bs b) q.1 σ st) E N)) := by
  rw [evS, WS_outF0]
  congr; funext v s
  cases walkOf v s with
  | none => rfl
  | some q => obtain ⟨xs, g⟩ := q; rfl
theorem wS_whil0 {t : C} {b : S} : WS0 (evS Z bs (.whil t b) σ st) E N = WS0 (whileL (evE Z bs t) (evS Z bs b) loopMax σ st) E N := by rw [evS]
theorem wS_brk0 : WS0 (evS Z bs .brk σ st) E N = E.brk σ st := by (rw [evS]) <;> rfl
theorem wS_cnt0 : WS0 (evS Z bs .cnt σ st) E N = E.cnt σ st := by (rw [evS]) <;> rfl
def raiO (ct : List CD) (c : Nat) (xs : List A) : Option (List P) := match A.pure? xs, ct[c]? with
  | some ps, some cd => if ps.length + 1 = cd.flds.length then some (.str cd.word :: ps) else none
  | _, _ => none
theorem wS_raise0 {c : Nat} {es : C} : WS0 (evS Z bs (.raise c es) σ st) E N = WE0 (evEs Z bs es σ st) (fun c fs st => E.exc c fs σ st) (fun xs st => WO0 (raiO Z.ct c xs) (fun fs => E.exc c fs σ st)) := by
  rw [evS]
  cases evEs Z bs es σ st with
  | ok xs s =>
    simp only [WE_ok0]
    unfold raiO
    cases A.pure? xs with
    | none => rfl
    | some ps => cases Z.ct[c]? with
      | none => rfl
      | some cd =>
        simp only
        by_cases h : ps.length + 1 = cd.flds.length
        · simp only [h, if_true]; rfl
        · simp only [h, if_false]; rfl
  | exc c fs s => rfl
  | stuck => rfl
theorem wS_tr0 {b h : S} : WS0 (evS Z bs (.tr b h) σ st) E N = WS0 (evS Z bs b σ st) { E with exc := fun c fs σ st => WS0 (evH Z bs c fs h σ st) E N } N := by
  rw [evS]; cases evS Z bs b σ st <;> rfl
theorem wH_nil0 {c : Nat} {fs : List P} : WS0 (evH Z bs c fs .hnil σ st) E N = E.exc c fs σ st := by (rw [evH]) <;> rfl
theorem WS_unslot0 {i : Nat} {f : Flow} : WS0 (unslot i f) E N = WS0 f { exc := fun _ _ _ _ => False, ret := E.ret, brk := fun σ st => E.brk (σ.set i none) st, cnt := fun σ st => E.cnt (σ.set i none) st } (fun σ st => N (σ.set i none) st) := by cases f <;> rfl
theorem wH_some0 {c d i : Nat} {fs : List P} {s r : S} : WS0 (evH Z bs c fs (.hcons d (some i) s r) σ st) E N = WB0 (subc Z.ct 8 c d) (WS0 (evS Z bs s (σ.set i (some (.exn c fs))) st) { exc := fun _ _ _ _ => False, ret := E.ret, brk := fun σ st => E.brk (σ.set i none) st, cnt := fun σ st => E.cnt (σ.set i none) st } (fun σ st => N (σ.set i none) st)) (WS0 (evH Z bs c fs r σ st) E N) := by
  rw [evH]
  cases h : subc Z.ct 8 c d with
  | true => simp only [if_true, WS_unslot0, WB_t0]
  | false => simp [WB_f0]
theorem wH_none0 {c d : Nat} {fs : List P} {s r : S} : WS0 (evH Z bs c fs (.hcons d none s r) σ st) E N = WB0 (subc Z.ct 8 c d) (WS0 (evS Z bs s σ st) { E with exc := fun _ _ _ _ => False } N) (WS0 (evH Z bs c fs r σ st) E N) := by
  rw [evH]
  cases h : subc Z.ct 8 c d with
  | true =>
    simp only [if_true, WB_t0]
    cases evS Z bs s σ st <;> rfl
  | false => simp [WB_f0]
theorem WS_gcF0 {n : Nat} {f : Flow} : WS0 (gcF n f) E N = WS0 f { E with brk := fun σ s => WO0 (some (cleanS n σ)) fun σ => WO0 (some (s.take n)) fun s => E.brk σ s, cnt := fun σ s => WO0 (some (cleanS n σ)) fun σ => WO0 (some (s.take n)) fun s => E.cnt σ s } (fun σ s => WO0 (some (cleanS n σ)) fun σ => WO0 (some (s.take n)) fun s => N σ s) := by
  cases f <;> rfl
theorem wS_gc0 {s : S} : WS0 (evS Z bs (.gc s) σ st) E N = WO0 (some st.length) fun n => WS0 (evS Z (n :: bs) s σ st) { E with brk := fun σ s => WO0 (some (cleanS n σ)) fun σ => WO0 (some (s.take n)) fun s => E.brk σ s, cnt := fun σ s => WO0 (some (cleanS n σ)) fun σ => WO0 (some (s.take n)) fun s => E.cnt σ s } (fun σ s => WO0 (some (cleanS n σ)) fun σ => WO0 (some (s.take n)) fun s => N σ s) := by
  rw [evS, WS_gcF0, WO_some0]
end
/-- a call -/
theorem W_call0 {ft : List FD} {ct : List CD} {k : Nat} {bs : List Nat} {f : Nat} {xs : List A} {st : St} {X : Nat → List P → St → Prop} {N : A → St → Prop} (d : FD) (h : ft[f]? = some d) (hl : xs.length = d.np)
    (hw : WS0 (evS ⟨callF ft ct k, ct⟩ (st.length :: bs) d.body (xs.map some ++ List.replicate (d.ns - d.np) none) st) ⟨fun c fs _ s => WO0 (some (s.take st.length)) fun s => Hold0 (X c fs s), fun a s => WE0 (fin st.length a s) (fun c fs s => Hold0 (X c fs s)) (fun a s => Hold0 (N a s)), fun _ _ => False, fun _ _ => False⟩ (fun _ s => WE0 (fin st.length (.p .non) s) (fun c fs s => Hold0 (X c fs s)) (fun a s => Hold0 (N a s)))) :
    WE0 (callF ft ct (k + 1) bs f xs st) X N := by
  rw [callF_s d h hl]
  cases e : evS ⟨callF ft ct k, ct⟩ (st.length :: bs) d.body (xs.map some ++ List.replicate (d.ns - d.np) none) st <;> rw [e] at hw
  · rw [WS_next0] at hw; exact hw
  · rw [WS_brk0] at hw; exact hw.elim
  · rw [WS_cnt0] at hw; exact hw.elim
  · rw [WS_ret0] at hw; exact hw
  · rw [WS_exc0] at hw; simp only at hw; rw [WO_some0] at hw; rw [endF_exc, WE_exc0]; exact hw
  · exact (WS_stuck0 hw).elim
/-! ### loops -/
section
variable {g : List (Nat × MO)} {ts : List Nat} {b : Sl → St → Flow} {σ : Sl} {st : St} {E : EndW} {N : Sl → St → Prop}
theorem W_forL0 {xs : List A} (I : Nat → Sl → St → Prop) (h0 : I 0 σ st) (hs : ∀ i σ st, I i σ st → still g st)
    (hb : ∀ i x σ s, xs[i]? = some x → I i σ s → WO0 (bindS ts x σ) fun σ1 => WS0 (b σ1 s) { E with brk := N, cnt := fun σ s => Hold0 (I (i + 1) σ s) } (fun σ s => Hold0 (I (i + 1) σ s)))
    (hq : ∀ σ s, I xs.length σ s → N σ s) : WS0 (forL g ts b xs σ st) E N :=
  forL_wp (Q := fun f => WS0 f E N) I h0 hs (fun i x σ s hx hI => by
    have := hb i x σ s hx hI
    cases e : bindS ts x σ with
    | none => rw [e] at this; exact (WO_none0 this).elim
    | some σ1 =>
      rw [e, WO_some0] at this
      refine ⟨σ1, rfl, ?_⟩
      cases e2 : b σ1 s <;> rw [e2] at this
      · rw [WS_next0] at this; exact this
      · rw [WS_brk0] at this; simp only; rw [WS_next0]; exact this
      · rw [WS_cnt0] at this; exact this
      · rw [WS_ret0] at this; simp only; rw [WS_ret0]; exact this
      · rw [WS_exc0] at this; simp only; rw [WS_exc0]; exact this
      · exact (WS_stuck0 this).elim) (fun σ s h => by rw [WS_next0]; exact hq σ s h)
/-- over numbers -/
theorem W_range0 {n : Nat} (I : Nat → Sl → St → Prop) (h0 : I 0 σ st)
    (hb : ∀ i σ s, i < n → I i σ s → WO0 (bindS ts (.p (.int (i : Int))) σ) fun σ1 => WS0 (b σ1 s) { E with brk := N, cnt := fun σ s => Hold0 (I (i + 1) σ s) } (fun σ s => Hold0 (I (i + 1) σ s)))
    (hq : ∀ σ s, I n σ s → N σ s) : WS0 (forL [] ts b ((List.range n).map fun i : Nat => .p (.int (i : Int))) σ st) E N :=
  W_forL0 I h0 (fun _ _ _ _ => still_nil) (fun i x σ s hx hI => by
    obtain ⟨a, ha, rfl⟩ : ∃ a, (List.range n)[i]? = some a ∧ A.p (P.int (a : Nat)) = x := by simpa using hx
    obtain ⟨hi, e⟩ := List.getElem?_eq_some_iff.mp ha
    simp at hi e
    subst e
    exact hb i σ s hi hI) (by simpa using hq)
/-- over items -/
theorem W_items0 {α : Type} {xs : List α} {e : α → A} (I : Nat → Sl → St → Prop) (h0 : I 0 σ st)
    (hb : ∀ i x σ s, xs[i]? = some x → I i σ s → WO0 (bindS ts (e x) σ) fun σ1 => WS0 (b σ1 s) { E with brk := N, cnt := fun σ s => Hold0 (I (i + 1) σ s) } (fun σ s => Hold0 (I (i + 1) σ s)))
    (hq : ∀ σ s, I xs.length σ s → N σ s) : WS0 (forL [] ts b (xs.map e) σ st) E N :=
  W_forL0 I h0 (fun _ _ _ _ => still_nil) (fun i x σ s hx hI => by
    obtain ⟨y, hy, rfl⟩ : ∃ y, xs[i]? = some y ∧ e y = x := by simpa using hx
    exact hb i y σ s hy hI) (by simpa using hq)
/-- a while, by a measure below the greatest number of turns -/
theorem W_while0 {t : Sl → St → Out A} (I : Nat → Sl → St → Prop) (m : Nat) (hm : m < loopMax) (h0 : I m σ st)
    (hb : ∀ m σ s, I m σ s → WE0 (t σ s) (fun c fs st => E.exc c fs σ st) fun x s => WO0 (tru x) fun q => WB0 q
      (WS0 (b σ s) { E with brk := N, cnt := fun σ s => Hold0 (∃ m', m' < m ∧ I m' σ s) } (fun σ s => Hold0 (∃ m', m' < m ∧ I m' σ s))) (N σ s)) : WS0 (whileL t b loopMax σ st) E N := by
  have key : ∀ (n m : Nat) (σ : Sl) (st : St), m < n → I m σ st → WS0 (whileL t b n σ st) E N := by
    intro n
    induction n with
    | zero => intro m σ st h _; omega
    | succ n ih =>
      intro m σ st h hI
      have h1 := hb m σ st hI
      rw [whileL]
      cases e : t σ st with
      | stuck => rw [e] at h1; exact (WE_stuck0 h1).elim
      | exc c fs s => rw [e, WE_exc0] at h1; simp only; rw [WS_exc0]; exact h1
      | ok x s =>
        rw [e, WE_ok0] at h1
        simp only
        cases e2 : tru x with
        | none => rw [e2] at h1; exact (WO_none0 h1).elim
        | some q =>
          rw [e2, WO_some0] at h1
          cases q with
          | false => rw [WB_f0] at h1; simp only; rw [WS_next0]; exact h1
          | true =>
            rw [WB_t0] at h1
            simp only
            cases e3 : b σ s <;> rw [e3] at h1
            · rw [WS_next0] at h1; obtain ⟨m', hm', hI'⟩ := h1; exact ih m' _ _ (by omega) hI'
            · rw [WS_brk0] at h1; simp only; rw [WS_next0]; exact h1
            · rw [WS_cnt0] at h1; obtain ⟨m', hm', hI'⟩ := h1; exact ih m' _ _ (by omega) hI'
            · rw [WS_ret0] at h1; simp only; rw [WS_ret0]; exact h1
            · rw [WS_exc0] at h1; simp only; rw [WS_exc0]; exact h1
            · exact (WS_stuck0 h1).elim
  exact key loopMax m σ st hm h0
end
/-! ### comprehensions -/
section
variable {g : List (Nat × MO)} {Z : Cfg} {bs : List Nat} {elt cond : C} {ts own : List Nat} {σ : Sl} {st : St} {X : Nat → List P → St → Prop} {N : List A → St → Prop}
theorem W_comp0 {f : A → St → Out (Option A)} {xs : List A} (I : Nat → List A → St → Prop) (h0 : I 0 [] st) (hs : ∀ i acc st, I i acc st → still g st ∧ acc.length < szl)
    (hb : ∀ i x acc s, xs[i]? = some x → I i acc s → WE0 (f x s) NoX (fun o s' => Hold0 (I (i + 1) (acc ++ o.toList) s'))) (hq : ∀ r s, I xs.length r s → N r s) : WE0 (compL g f xs [] st) X N := by
  obtain ⟨r, s2, e, h⟩ := compL_st (g := g) (f := f) (xs := xs) (acc := []) (st := st) I h0 hs fun i x acc s hx hI => by
    exact W_ex0 (hb i x acc s hx hI)
  rw [e, WE_ok0]
  exact hq _ _ h
/-- each item by itself -/
theorem W_cmapA0 {f : A → St → Out (Option A)} {α : Type} {xs : List α} {e : α → A} {h : α → Option A} (hs : still g st) (hl : xs.length < szl) (hb : ∀ x ∈ xs, WE0 (f (e x) st) NoX (fun o s => Hold0 (o = h x ∧ s = st))) (hq : N (xs.filterMap h) st) : WE0 (compL g f (xs.map e) [] st) X N := by
  have key : ∀ (ys : List α) (acc : List A), (∀ y ∈ ys, y ∈ xs) → acc.length + ys.length < szl → compL g f (ys.map e) acc st = .ok (acc ++ ys.filterMap h) st := by
    intro ys
    induction ys with
    | nil => intro acc _ _; simp [compL, hs]
    | cons y ys ih =>
      intro acc hy hl
      have hh := hb y (hy y List.mem_cons_self)
      simp only [List.map_cons, List.length_cons] at hl ⊢
      rw [compL, if_pos hs]
      obtain ⟨o, s, e1, rfl, rfl⟩ := W_ex0 hh
      rw [e1]
      cases e2 : h y with
      | none =>
        simp only
        rw [ih acc (fun z hz => hy z (List.mem_cons_of_mem _ hz)) (by omega), List.filterMap_cons, e2]
      | some v =>
        simp only
        rw [if_pos (by omega), ih (acc ++ [v]) (fun z hz => hy z (List.mem_cons_of_mem _ hz)) (by simp; omega), List.filterMap_cons, e2]
        simp
  rw [key xs [] (fun _ h => h) (by simpa using hl), WE_ok0]
  simpa using hq
theorem W_cmap0 {f : A → St → Out (Option A)} {α : Type} {xs : List α} {e : α → A} (h : α → A) (hs : still g st) (hl : xs.length < szl) (hb : ∀ x ∈ xs, WE0 (f (e x) st) NoX (fun o s => Hold0 (o = some (h x) ∧ s = st))) (hq : N (xs.map h) st) : WE0 (compL g f (xs.map e) [] st) X N :=
  W_cmapA0 (h := fun x => some (h x)) hs hl hb (by simpa using hq)
theorem W_cfilter0 {f : A → St → Out (Option A)} {α : Type} {xs : List α} {e : α → A} (h : α → A) (c : α → Bool) (hs : still g st) (hl : xs.length < szl) (hb : ∀ x ∈ xs, WE0 (f (e x) st) NoX (fun o s => Hold0 (o = (if c x = true then some (h x) else none) ∧ s = st))) (hq : N ((xs.filter c).map h) st) : WE0 (compL g f (xs.map e) [] st) X N :=
  W_cmapA0 (h := fun x => if c x = true then some (h x) else none) hs hl hb (by rw [fm_if]; exact hq)
end
end Fc

set_option Elab.async false
set_option linter.all false
set_option maxRecDepth 100000
set_option maxHeartbeats 4000000
/-! FcW: running the evaluator forwards, what follows kept shut. -/
namespace Fc
open PySem
/-- ties what stands in its type: simp leaves it as it is -/
structure Fx {α : Sort u} {β : Sort v} (a : α) (b : β) : Type where
@[irreducible] def WO {α : Type} (o : Option α) (N : α → Prop) (h : Fx N N := .mk) : Prop := WO0 o N
@[irreducible] def WB (b : Bool) (p q : Prop) (h : Fx p q := .mk) : Prop := WB0 b p q
@[irreducible] def WE {α : Type} (o : Out α) (X : Nat → List P → St → Prop) (N : α → St → Prop) (h : Fx X N := .mk) : Prop := WE0 o X N
@[irreducible] def WS (f : Flow) (E : EndW) (N : Sl → St → Prop) (h : Fx E N := .mk) : Prop := WS0 f E N
/-- an end, kept shut -/
def Hold (p : Prop) (h : Fx p p := .mk) : Prop := p
theorem hold {p : Prop} (h : p) : Hold p := h
@[simp] theorem WO_some {α : Type} {a : α} {N : α → Prop} : WO (some a) N = N a := by
  with_unfolding_all exact WO_some0
@[simp] theorem WO_map {α β : Type} {o : Option α} {f : α → β} {N : β → Prop} : WO (o.map f) N = WO o (fun a => N (f a)) := by
  with_unfolding_all exact WO_map0
@[simp] theorem WB_t {p q : Prop} : WB true p q = p := by
  with_unfolding_all exact WB_t0
@[simp] theorem WB_f {p q : Prop} : WB false p q = q := by
  with_unfolding_all exact WB_f0
@[simp] theorem WB_not {b : Bool} {p q : Prop} : WB (!b) p q = WB b q p := by
  with_unfolding_all exact WB_not0
theorem WB_cases {b : Bool} {p q : Prop} (h1 : b = true → p) (h2 : b = false → q) : WB b p q := by
  with_unfolding_all exact WB_cases0 h1 h2
theorem WE_stuck {α : Type} {X : Nat → List P → St → Prop} {N : α → St → Prop} : ¬ WE (.stuck : Out α) X N := by
  with_unfolding_all exact WE_stuck0
theorem WS_stuck {E : EndW} {N : Sl → St → Prop} : ¬ WS .stuck E N := by
  with_unfolding_all exact WS_stuck0
theorem WO_none {α : Type} {N : α → Prop} : ¬ WO none N := by
  with_unfolding_all exact WO_none0
theorem WB_dec {c : Prop} {i : Decidable c} {p q : Prop} (h1 : c → p) (h2 : ¬ c → q) : WB (@decide c i) p q := by
  with_unfolding_all exact WB_dec0 h1 h2
section
variable {α : Type} {X : Nat → List P → St → Prop} {N : α → St → Prop} {st : St}
@[simp] theorem WE_ok {a : α} : WE (.ok a st) X N = N a st := by
  with_unfolding_all exact WE_ok0
@[simp] theorem WE_exc {c : Nat} {fs : List P} : WE (.exc c fs st : Out α) X N = X c fs st := by
  with_unfolding_all exact WE_exc0
theorem WE_bind {β : Type} {o : Out β} {f : β → St → Out α} : WE (o.bind f) X N = WE o X (fun a st => WE (f a st) X N) := by
  with_unfolding_all exact WE_bind0
theorem WE_of {o : Option α} : WE (Out.of st o) X N = WO o (fun a => N a st) := by
  with_unfolding_all exact WE_of0
theorem WE_if {c : Prop} {i : Decidable c} {o : Out α} (h : c) : WE (if c then o else .stuck) X N = WE o X N := by
  with_unfolding_all exact WE_if0 h
theorem WE_mono {o : Out α} {X' : Nat → List P → St → Prop} {N' : α → St → Prop} (h : WE o X' N') (hx : ∀ c fs st, X' c fs st → X c fs st) (hn : ∀ a st, N' a st → N a st) : WE o X N := by
  with_unfolding_all exact WE_mono0 h hx hn
theorem WE_use {o : Out α} {N' : α → St → Prop} (h : WE o NoX N') (hn : ∀ a st, N' a st → N a st) : WE o X N := by
  with_unfolding_all exact WE_use0 h hn
theorem W_ex {o : Out α} {N' : α → St → Prop} (h : WE o NoX N') : ∃ a s, o = .ok a s ∧ N' a s := by
  with_unfolding_all exact W_ex0 h
theorem W_exx {o : Out α} {X' : Nat → List P → St → Prop} (h : WE o X' fun _ _ => False) : ∃ c fs s, o = .exc c fs s ∧ X' c fs s := by
  with_unfolding_all exact W_exx0 h
theorem W_eq {o : Out α} {v : α} {s : St} (h : WE o NoX fun a s' => Hold (a = v ∧ s' = s)) : o = .ok v s := by
  with_unfolding_all exact W_eq0 h
theorem W_exc {o : Out α} {c : Nat} {fs : List P} {s : St} (h : WE o (fun c' fs' s' => Hold (c' = c ∧ fs' = fs ∧ s' = s)) fun _ _ => False) : o = .exc c fs s := by
  with_unfolding_all exact W_exc0 h
end
section
variable {E : EndW} {N : Sl → St → Prop} {σ : Sl} {st : St}
@[simp] theorem WS_next : WS (.next σ st) E N = N σ st := by
  with_unfolding_all exact WS_next0
@[simp] theorem WS_brk : WS (.brk σ st) E N = E.brk σ st := by
  with_unfolding_all exact WS_brk0
@[simp] theorem WS_cnt : WS (.cnt σ st) E N = E.cnt σ st := by
  with_unfolding_all exact WS_cnt0
@[simp] theorem WS_ret {a : A} : WS (.ret a st) E N = E.ret a st := by
  with_unfolding_all exact WS_ret0
@[simp] theorem WS_exc {c : Nat} {fs : List P} : WS (.exc c fs σ st) E N = E.exc c fs σ st := by
  with_unfolding_all exact WS_exc0
theorem WS_outF {o : Out A} {f : A → St → Flow} : WS (outF σ o f) E N = WE o (fun c fs st => E.exc c fs σ st) (fun a st => WS (f a st) E N) := by
  with_unfolding_all exact WS_outF0
end
section
variable {Z : Cfg} {bs : List Nat} {σ : Sl} {st : St} {X : Nat → List P → St → Prop} {N : A → St → Prop}
@[simp ↓] theorem wE_var {i : Nat} : WE (evE Z bs (.var i) σ st) X N = WO (varA σ[i]?) (fun a => N a st) := by
  with_unfolding_all exact wE_var0
@[simp ↓] theorem wE_k {x : P} : WE (evE Z bs (.k x) σ st) X N = N (.p x) st := by
  with_unfolding_all exact wE_k0
@[simp ↓] theorem wE_glob {n : Str} {x : P} : WE (evE Z bs (.glob n x) σ st) X N = N (.p x) st := by
  with_unfolding_all exact wE_glob0
@[simp ↓] theorem wE_bin {op : BOp} {a b : C} : WE (evE Z bs (.bin op a b) σ st) X N = WE (evE Z bs a σ st) X (fun x st => WE (evE Z bs b σ st) X (fun y st => WE (binop op x y st) X N)) := by
  with_unfolding_all exact wE_bin0
@[simp ↓] theorem wE_neg {a : C} : WE (evE Z bs (.neg a) σ st) X N = WE (evE Z bs a σ st) X (fun x st => WO (negA x) (fun a => N a st)) := by
  with_unfolding_all exact wE_neg0
@[simp ↓] theorem wE_cmp {op : COp} {a b : C} : WE (evE Z bs (.cmp op a b) σ st) X N = WE (evE Z bs a σ st) X (fun x st => WE (evE Z bs b σ st) X (fun y st => WO (cmpop op x y st) (fun b => N (.p (.bl b)) st))) := by
  with_unfolding_all exact wE_cmp0
@[simp ↓] theorem wE_chain {o1 o2 : COp} {a b c : C} : WE (evE Z bs (.chain o1 o2 a b c) σ st) X N = WE (evE Z bs a σ st) X (fun x st => WE (evE Z bs b σ st) X (fun y st => WO (cmpop o1 x y st) (fun q => WB q (WE (evE Z bs c σ st) X (fun z st => WO (cmpop o2 y z st) (fun b => N (.p (.bl b)) st))) (N (.p (.bl false)) st)))) := by
  with_unfolding_all exact wE_chain0
@[simp ↓] theorem wE_and {es : C} : WE (evE Z bs (.andl es) σ st) X N = WE (evAnd Z bs es σ st) X N := by
  with_unfolding_all exact wE_and0
@[simp ↓] theorem wE_or {es : C} : WE (evE Z bs (.orl es) σ st) X N = WE (evOr Z bs es σ st) X N := by
  with_unfolding_all exact wE_or0
@[simp ↓] theorem wA_one {a : C} : WE (evAnd Z bs (.cons a .nil) σ st) X N = WE (evE Z bs a σ st) X N := by
  with_unfolding_all exact wA_one0
@[simp ↓] theorem wA_two {a b r : C} : WE (evAnd Z bs (.cons a (.cons b r)) σ st) X N = WE (evE Z bs a σ st) X (fun x st => WO (tru x) (fun q => WB q (WE (evAnd Z bs (.cons b r) σ st) X N) (N (.p (.bl false)) st))) := by
  with_unfolding_all exact wA_two0
@[simp ↓] theorem wO_one {a : C} : WE (evOr Z bs (.cons a .nil) σ st) X N = WE (evE Z bs a σ st) X N := by
  with_unfolding_all exact wO_one0
@[simp ↓] theorem wO_two {a b r : C} : WE (evOr Z bs (.cons a (.cons b r)) σ st) X N = WE (evE Z bs a σ st) X (fun x st => WO (tru x) (fun q => WB q (N (.p (.bl true)) st) (WE (evOr Z bs (.cons b r) σ st) X N))) := by
  with_unfolding_all exact wO_two0
@[simp ↓] theorem wE_not {a : C} : WE (evE Z bs (.not a) σ st) X N = WE (evE Z bs a σ st) X (fun x st => WO (tru x) (fun b => N (.p (.bl (!b))) st)) := by
  with_unfolding_all exact wE_not0
@[simp ↓] theorem wE_ife {t a b : C} : WE (evE Z bs (.ife t a b) σ st) X N = WE (evE Z bs t σ st) X (fun x st => WO (tru x) (fun q => WB q (WE (evE Z bs a σ st) X N) (WE (evE Z bs b σ st) X N))) := by
  with_unfolding_all exact wE_ife0
@[simp ↓] theorem wE_tup {es : C} : WE (evE Z bs (.tup es) σ st) X N = WE (evEs Z bs es σ st) X (fun xs st => N (A.mk xs) st) := by
  with_unfolding_all exact wE_tup0
@[simp ↓] theorem wE_lst {es : C} : WE (evE Z bs (.lst es) σ st) X N = WE (evEs Z bs es σ st) X (fun xs st => N (.ref st.length) (st ++ [.lst xs])) := by
  with_unfolding_all exact wE_lst0
@[simp ↓] theorem wE_dnew : WE (evE Z bs .dnew σ st) X N = N (.ref st.length) (st ++ [.dct .e []]) := by
  with_unfolding_all exact wE_dnew0
@[simp ↓] theorem wE_disp1 {key v : C} : WE (evE Z bs (.disp1 key v) σ st) X N = WE (evE Z bs key σ (st ++ [.dct .e []])) X (fun x st1 => WE (evE Z bs v σ st1) X (fun y st2 => WE (dispA st.length x y st2) X N)) := by
  with_unfolding_all exact wE_disp10
@[simp ↓] theorem wE_ix {a i : C} : WE (evE Z bs (.ix a i) σ st) X N = WE (evE Z bs a σ st) X (fun x st => WE (evE Z bs i σ st) X (fun y st => WO (getix x y st) (fun v => N v st))) := by
  with_unfolding_all exact wE_ix0
@[simp ↓] theorem wE_slice {a lo hi : C} : WE (evE Z bs (.slice a lo hi) σ st) X N = WE (evE Z bs a σ st) X (fun x st => WE (evE Z bs lo σ st) X (fun l st => WO (partI lo l) (fun l => WE (evE Z bs hi σ st) X (fun h st => WO (partI hi h) (fun h => WE (sliceA x l h st) X N))))) := by
  with_unfolding_all exact wE_slice0
@[simp ↓] theorem wE_srev {a : C} : WE (evE Z bs (.srev a) σ st) X N = WE (evE Z bs a σ st) X (fun x st => WE (srevA x st) X N) := by
  with_unfolding_all exact wE_srev0
@[simp ↓] theorem wE_lsti {a : C} : WE (evE Z bs (.lsti a) σ st) X N = WE (evE Z bs a σ st) X (fun x st => WE (lstiA x st) X N) := by
  with_unfolding_all exact wE_lsti0
@[simp ↓] theorem wE_call {f : Nat} {es : C} : WE (evE Z bs (.call f es) σ st) X N = WE (evEs Z bs es σ st) X (fun xs st => WE (Z.cal bs f xs st) X N) := by
  with_unfolding_all exact wE_call0
@[simp ↓] theorem wE_b1 {b : B1} {a : C} : WE (evE Z bs (.b1 b a) σ st) X N = WE (evE Z bs a σ st) X (fun x st => WE (b1fun b x st) X N) := by
  with_unfolding_all exact wE_b10
@[simp ↓] theorem wE_b2 {b : B2} {a c : C} : WE (evE Z bs (.b2 b a c) σ st) X N = WE (evE Z bs a σ st) X (fun x st => WE (evE Z bs c σ st) X (fun y st => WO (b2fun b x y) (fun v => N v st))) := by
  with_unfolding_all exact wE_b20
@[simp ↓] theorem wE_bq {b : B1} {q : C} : WE (evE Z bs (.bq b q) σ st) X N = WE (evL Z bs q σ st) X (fun xs st => WE (lfun b xs st) X N) := by
  with_unfolding_all exact wE_bq0
@[simp ↓] theorem wE_comp {q : C} : WE (evE Z bs (.comp q) σ st) X N = WE (evL Z bs q σ st) X (fun xs st => N (.ref st.length) (st ++ [.lst xs])) := by
  with_unfolding_all exact wE_comp0
@[simp ↓] theorem wE_isi {a : C} {t : Ty} : WE (evE Z bs (.isi a t) σ st) X N = WE (evE Z bs a σ st) X (fun x st => WO (isi Z.ct x t) (fun b => N (.p (.bl b)) st)) := by
  with_unfolding_all exact wE_isi0
@[simp ↓] theorem wE_m1 {m : M} {o a : C} : WE (evE Z bs (.m1 m o a) σ st) X N = WE (evE Z bs o σ st) X (fun x st => WB (recv m x st) (WE (evE Z bs a σ st) X (fun y st => WE (m1fun bs m x y st) X N)) False) := by
  with_unfolding_all exact wE_m10
@[simp ↓] theorem wE_m2 {m : M} {o a c : C} : WE (evE Z bs (.m2 m o a c) σ st) X N = WE (evE Z bs o σ st) X (fun x st => WB (recv m x st) (WE (evE Z bs a σ st) X (fun y st => WE (evE Z bs c σ st) X (fun z st => WE (m2fun m x y z st) X N))) False) := by
  with_unfolding_all exact wE_m20
@[simp ↓] theorem wE_m0 {m : M} {o : C} : WE (evE Z bs (.m0 m o) σ st) X N = WE (evE Z bs o σ st) X (fun x st => WB (recv m x st) (WE (m0fun m x st) X N) False) := by
  with_unfolding_all exact wE_m00
@[simp ↓] theorem wE_exa {i : Nat} {x : Str} : WE (evE Z bs (.exa i x) σ st) X N = WO (slA σ[i]?) (fun v => WO (fieldOf Z.ct v x) (fun a => N a st)) := by
  with_unfolding_all exact wE_exa0
@[simp ↓] theorem wE_exi {i : Nat} {t : Ty} : WE (evE Z bs (.exi i t) σ st) X N = WO (slA σ[i]?) (fun v => WO (isx Z.ct v t) (fun b => N (.p (.bl b)) st)) := by
  with_unfolding_all exact wE_exi0
@[simp ↓] theorem wE_trng {a b : C} : WE (evE Z bs (.trng a b) σ st) X N = WE (evE Z bs a σ st) X (fun x st => WE (evE Z bs b σ st) X (fun y st => WE (trngA x y st) X N)) := by
  with_unfolding_all exact wE_trng0
@[simp ↓] theorem wE_rng {a b c : C} : WE (evE Z bs (.rng a b c) σ st) X N = WE (evE Z bs a σ st) X (fun x st => WE (evE Z bs b σ st) X (fun y st => WE (evE Z bs c σ st) X (fun z st => WO (rngA x y z) (fun v => N v st)))) := by
  with_unfolding_all exact wE_rng0
@[simp ↓] theorem wE_zip {a b : C} : WE (evE Z bs (.zip a b) σ st) X N = WE (evE Z bs a σ st) X (fun x st => WE (evE Z bs b σ st) X (fun y st => N (.zip x y) st)) := by
  with_unfolding_all exact wE_zip0
@[simp ↓] theorem wE_itm {a : C} : WE (evE Z bs (.itm a) σ st) X N = WE (evE Z bs a σ st) X (fun x st => N (.itm x) st) := by
  with_unfolding_all exact wE_itm0
@[simp ↓] theorem wE_rev {a : C} : WE (evE Z bs (.rev a) σ st) X N = WE (evE Z bs a σ st) X (fun x st => N (.rev x) st) := by
  with_unfolding_all exact wE_rev0
@[simp ↓] theorem wE_nil : WE (evE Z bs .nil σ st) X N = N (.p .non) st := by
  with_unfolding_all exact wE_nil0
end
section
variable {Z : Cfg} {bs : List Nat} {σ : Sl} {st : St} {X : Nat → List P → St → Prop} {N : List A → St → Prop}
@[simp ↓] theorem wEs_nil : WE (evEs Z bs .nil σ st) X N = N [] st := by
  with_unfolding_all exact wEs_nil0
@[simp ↓] theorem wEs_cons {a r : C} : WE (evEs Z bs (.cons a r) σ st) X N = WE (evE Z bs a σ st) X (fun x st => WE (evEs Z bs r σ st) X (fun xs st => N (x :: xs) st)) := by
  with_unfolding_all exact wEs_cons0
@[simp ↓] theorem wL_cq {elt it cond : C} {ts own : List Nat} : WE (evL Z bs (.cq elt ts it cond own) σ st) X N = WE (evE Z bs it σ st) X (fun v st => WO (walkOf v st) (fun q => WE (compL q.2 (stepC Z bs elt cond ts own σ) q.1 [] st) X N)) := by
  with_unfolding_all exact wL_cq0
@[simp ↓] theorem wStep {elt cond : C} {ts own : List Nat} {x : A} {N : Option A → St → Prop} : WE (stepC Z bs elt cond ts own σ x st) X N = WO (bindS ts x (wipeS σ own)) (fun σ' => WE (evE Z bs cond σ' st) X (fun b st => WO (tru b) (fun q => WB q (WE (evE Z bs elt σ' st) X (fun y st => N (some y) st)) (N none st)))) := by
  with_unfolding_all exact wStep0
end
section
variable {Z : Cfg} {bs : List Nat} {σ : Sl} {st : St} {E : EndW} {N : Sl → St → Prop}
@[simp ↓] theorem wS_skip : WS (evS Z bs .skip σ st) E N = N σ st := by
  with_unfolding_all exact wS_skip0
@[simp ↓] theorem wS_seq {a b : S} : WS (evS Z bs (.seq a b) σ st) E N = WS (evS Z bs a σ st) E (fun σ st => WS (evS Z bs b σ st) E N) := by
  with_unfolding_all exact wS_seq0
@[simp ↓] theorem wS_set {i : Nat} {e : C} : WS (evS Z bs (.set i e) σ st) E N = WE (evE Z bs e σ st) (fun c fs st => E.exc c fs σ st) (fun a st => N (σ.set i (some a)) st) := by
  with_unfolding_all exact wS_set0
@[simp ↓] theorem wS_sett {is : List Nat} {e : C} : WS (evS Z bs (.sett is e) σ st) E N = WE (evE Z bs e σ st) (fun c fs st => E.exc c fs σ st) (fun a st => WO (bindS is a σ) (fun σ => N σ st)) := by
  with_unfolding_all exact wS_sett0
@[simp ↓] theorem wS_par {i j : Nat} {a b : C} : WS (evS Z bs (.par i j a b) σ st) E N = WE (evE Z bs a σ st) (fun c fs st => E.exc c fs σ st) (fun x st => WE (evE Z bs b σ st) (fun c fs st => E.exc c fs σ st) (fun y st => N ((σ.set i (some x)).set j (some y)) st)) := by
  with_unfolding_all exact wS_par0
@[simp ↓] theorem wS_aug {i : Nat} {op : BOp} {e : C} : WS (evS Z bs (.aug i op e) σ st) E N = WO (slA σ[i]?) (fun x => WE (evE Z bs e σ st) (fun c fs st => E.exc c fs σ st) (fun y st => WO (augop op x y) (fun z => N (σ.set i (some z)) st))) := by
  with_unfolding_all exact wS_aug0
@[simp ↓] theorem wS_setix {o i e : C} : WS (evS Z bs (.setix o i e) σ st) E N = WE (evE Z bs e σ st) (fun c fs st => E.exc c fs σ st) (fun v st => WE (evE Z bs o σ st) (fun c fs st => E.exc c fs σ st) (fun x st => WE (evE Z bs i σ st) (fun c fs st => E.exc c fs σ st) (fun y st => WE (setix bs x y v st) (fun _ _ _ => False) (fun _ st => N σ st)))) := by
  with_unfolding_all exact wS_setix0
@[simp ↓] theorem wS_ex {e : C} : WS (evS Z bs (.ex e) σ st) E N = WE (evE Z bs e σ st) (fun c fs st => E.exc c fs σ st) (fun _ st => N σ st) := by
  with_unfolding_all exact wS_ex0
@[simp ↓] theorem wS_ret {e : C} : WS (evS Z bs (.ret e) σ st) E N = WE (evE Z bs e σ st) (fun c fs st => E.exc c fs σ st) (fun a st => E.ret a st) := by
  with_unfolding_all exact wS_ret0
@[simp ↓] theorem wS_retn : WS (evS Z bs .retn σ st) E N = E.ret (.p .non) st := by
  with_unfolding_all exact wS_retn0
@[simp ↓] theorem wS_ite {t : C} {a b : S} : WS (evS Z bs (.ite t a b) σ st) E N = WE (evE Z bs t σ st) (fun c fs st => E.exc c fs σ st) (fun x st => WO (tru x) (fun q => WB q (WS (evS Z bs a σ st) E N) (WS (evS Z bs b σ st) E N))) := by
  with_unfolding_all exact wS_ite0
@[simp ↓] theorem wS_for {ts : List Nat} {it : C} {b : S} : WS (evS Z bs (.for_ ts it b) σ st) E N = WE (evE Z bs it σ st) (fun c fs st => E.exc c fs σ st) (fun v st => WO (walkOf v st) (fun q => WS (forL q.2 ts (evS Z bs b) q.1 σ st) E N)) := by
  with_unfolding_all exact wS_for0
@[simp ↓] theorem wS_whil {t : C} {b : S} : WS (evS Z bs (.whil t b) σ st) E N = WS (whileL (evE Z bs t) (evS Z bs b) loopMax σ st) E N := by
  with_unfolding_all exact wS_whil0
@[simp ↓] theorem wS_brk : WS (evS Z bs .brk σ st) E N = E.brk σ st := by
  with_unfolding_all exact wS_brk0
@[simp ↓] theorem wS_cnt : WS (evS Z bs .cnt σ st) E N = E.cnt σ st := by
  with_unfolding_all exact wS_cnt0
@[simp ↓] theorem wS_raise {c : Nat} {es : C} : WS (evS Z bs (.raise c es) σ st) E N = WE (evEs Z bs es σ st) (fun c fs st => E.exc c fs σ st) (fun xs st => WO (raiO Z.ct c xs) (fun fs => E.exc c fs σ st)) := by
  with_unfolding_all exact wS_raise0
@[simp ↓] theorem wS_tr {b h : S} : WS (evS Z bs (.tr b h) σ st) E N = WS (evS Z bs b σ st) { E with exc := fun c fs σ st => WS (evH Z bs c fs h σ st) E N } N := by
  with_unfolding_all exact wS_tr0
@[simp ↓] theorem wH_nil {c : Nat} {fs : List P} : WS (evH Z bs c fs .hnil σ st) E N = E.exc c fs σ st := by
  with_unfolding_all exact wH_nil0
theorem WS_unslot {i : Nat} {f : Flow} : WS (unslot i f) E N = WS f { exc := fun _ _ _ _ => False, ret := E.ret, brk := fun σ st => E.brk (σ.set i none) st, cnt := fun σ st => E.cnt (σ.set i none) st } (fun σ st => N (σ.set i none) st) := by
  with_unfolding_all exact WS_unslot0
@[simp ↓] theorem wH_some {c d i : Nat} {fs : List P} {s r : S} : WS (evH Z bs c fs (.hcons d (some i) s r) σ st) E N = WB (subc Z.ct 8 c d) (WS (evS Z bs s (σ.set i (some (.exn c fs))) st) { exc := fun _ _ _ _ => False, ret := E.ret, brk := fun σ st => E.brk (σ.set i none) st, cnt := fun σ st => E.cnt (σ.set i none) st } (fun σ st => N (σ.set i none) st)) (WS (evH Z bs c fs r σ st) E N) := by
  with_unfolding_all exact wH_some0
@[simp ↓] theorem wH_none {c d : Nat} {fs : List P} {s r : S} : WS (evH Z bs c fs (.hcons d none s r) σ st) E N = WB (subc Z.ct 8 c d) (WS (evS Z bs s σ st) { E with exc := fun _ _ _ _ => False } N) (WS (evH Z bs c fs r σ st) E N) := by
  with_unfolding_all exact wH_none0
theorem WS_gcF {n : Nat} {f : Flow} : WS (gcF n f) E N = WS f { E with brk := fun σ s => WO (some (cleanS n σ)) fun σ => WO (some (s.take n)) fun s => E.brk σ s, cnt := fun σ s => WO (some (cleanS n σ)) fun σ => WO (some (s.take n)) fun s => E.cnt σ s } (fun σ s => WO (some (cleanS n σ)) fun σ => WO (some (s.take n)) fun s => N σ s) := by
  with_unfolding_all exact WS_gcF0
@[simp ↓] theorem wS_gc {s : S} : WS (evS Z bs (.gc s) σ st) E N = WO (some st.length) fun n => WS (evS Z (n :: bs) s σ st) { E with brk := fun σ s => WO (some (cleanS n σ)) fun σ => WO (some (s.take n)) fun s => E.brk σ s, cnt := fun σ s => WO (some (cleanS n σ)) fun σ => WO (some (s.take n)) fun s => E.cnt σ s } (fun σ s => WO (some (cleanS n σ)) fun σ => WO (some (s.take n)) fun s => N σ s) := by
  with_unfolding_all exact wS_gc0
end
theorem W_call {ft : List FD} {ct : List CD} {k : Nat} {bs : List Nat} {f : Nat} {xs : List A} {st : St} {X : Nat → List P → St → Prop} {N : A → St → Prop} (d : FD) (h : ft[f]? = some d) (hl : xs.length = d.np)
    (hw : WS (evS ⟨callF ft ct k, ct⟩ (st.length :: bs) d.body (xs.map some ++ List.replicate (d.ns - d.np) none) st) ⟨fun c fs _ s => WO (some (s.take st.length)) fun s => Hold (X c fs s), fun a s => WE (fin st.length a s) (fun c fs s => Hold (X c fs s)) (fun a s => Hold (N a s)), fun _ _ => False, fun _ _ => False⟩ (fun _ s => WE (fin st.length (.p .non) s) (fun c fs s => Hold (X c fs s)) (fun a s => Hold (N a s)))) :
    WE (callF ft ct (k + 1) bs f xs st) X N := by
  with_unfolding_all exact W_call0 d h hl hw
section
variable {g : List (Nat × MO)} {ts : List Nat} {b : Sl → St → Flow} {σ : Sl} {st : St} {E : EndW} {N : Sl → St → Prop}
theorem W_forL {xs : List A} (I : Nat → Sl → St → Prop) (h0 : I 0 σ st) (hs : ∀ i σ st, I i σ st → still g st)
    (hb : ∀ i x σ s, xs[i]? = some x → I i σ s → WO (bindS ts x σ) fun σ1 => WS (b σ1 s) { E with brk := N, cnt := fun σ s => Hold (I (i + 1) σ s) } (fun σ s => Hold (I (i + 1) σ s)))
    (hq : ∀ σ s, I xs.length σ s → N σ s) : WS (forL g ts b xs σ st) E N := by
  with_unfolding_all exact W_forL0 I h0 hs hb hq
theorem W_range {n : Nat} (I : Nat → Sl → St → Prop) (h0 : I 0 σ st)
    (hb : ∀ i σ s, i < n → I i σ s → WO (bindS ts (.p (.int (i : Int))) σ) fun σ1 => WS (b σ1 s) { E with brk := N, cnt := fun σ s => Hold (I (i + 1) σ s) } (fun σ s => Hold (I (i + 1) σ s)))
    (hq : ∀ σ s, I n σ s → N σ s) : WS (forL [] ts b ((List.range n).map fun i : Nat => .p (.int (i : Int))) σ st) E N := by
  with_unfolding_all exact W_range0 I h0 hb hq
theorem W_items {α : Type} {xs : List α} {e : α → A} (I : Nat → Sl → St → Prop) (h0 : I 0 σ st)
    (hb : ∀ i x σ s, xs[i]? = some x → I i σ s → WO (bindS ts (e x) σ) fun σ1 => WS (b σ1 s) { E with brk := N, cnt := fun σ s => Hold (I (i + 1) σ s) } (fun σ s => Hold (I (i + 1) σ s)))
    (hq : ∀ σ s, I xs.length σ s → N σ s) : WS (forL [] ts b (xs.map e) σ st) E N := by
  with_unfolding_all exact W_items0 I h0 hb hq
theorem W_while {t : Sl → St → Out A} (I : Nat → Sl → St → Prop) (m : Nat) (hm : m < loopMax) (h0 : I m σ st)
    (hb : ∀ m σ s, I m σ s → WE (t σ s) (fun c fs st => E.exc c fs σ st) fun x s => WO (tru x) fun q => WB q
      (WS (b σ s) { E with brk := N, cnt := fun σ s => Hold (∃ m', m' < m ∧ I m' σ s) } (fun σ s => Hold (∃ m', m' < m ∧ I m' σ s))) (N σ s)) : WS (whileL t b loopMax σ st) E N := by
  with_unfolding_all exact W_while0 I m hm h0 hb
end
section
variable {g : List (Nat × MO)} {Z : Cfg} {bs : List Nat} {elt cond : C} {ts own : List Nat} {σ : Sl} {st : St} {X : Nat → List P → St → Prop} {N : List A → St → Prop}
theorem W_comp {f : A → St → Out (Option A)} {xs : List A} (I : Nat → List A → St → Prop) (h0 : I 0 [] st) (hs : ∀ i acc st, I i acc st → still g st ∧ acc.length < szl)
    (hb : ∀ i x acc s, xs[i]? = some x → I i acc s → WE (f x s) NoX (fun o s' => Hold (I (i + 1) (acc ++ o.toList) s'))) (hq : ∀ r s, I xs.length r s → N r s) : WE (compL g f xs [] st) X N := by
  with_unfolding_all exact W_comp0 I h0 hs hb hq
theorem W_cmapA {f : A → St → Out (Option A)} {α : Type} {xs : List α} {e : α → A} {h : α → Option A} (hs : still g st) (hl : xs.length < szl) (hb : ∀ x ∈ xs, WE (f (e x) st) NoX (fun o s => Hold (o = h x ∧ s = st))) (hq : N (xs.filterMap h) st) : WE (compL g f (xs.map e) [] st) X N := by
  with_unfolding_all exact W_cmapA0 hs hl hb hq
theorem W_cmap {f : A → St → Out (Option A)} {α : Type} {xs : List α} {e : α → A} (h : α → A) (hs : still g st) (hl : xs.length < szl) (hb : ∀ x ∈ xs, WE (f (e x) st) NoX (fun o s => Hold (o = some (h x) ∧ s = st))) (hq : N (xs.map h) st) : WE (compL g f (xs.map e) [] st) X N := by
  with_unfolding_all exact W_cmap0 h hs hl hb hq
theorem W_cfilter {f : A → St → Out (Option A)} {α : Type} {xs : List α} {e : α → A} (h : α → A) (c : α → Bool) (hs : still g st) (hl : xs.length < szl) (hb : ∀ x ∈ xs, WE (f (e x) st) NoX (fun o s => Hold (o = (if c x = true then some (h x) else none) ∧ s = st))) (hq : N ((xs.filter c).map h) st) : WE (compL g f (xs.map e) [] st) X N := by
  with_unfolding_all exact W_cfilter0 h c hs hl hb hq
end
end Fc

set_option Elab.async false
set_option linter.all false
set_option maxRecDepth 100000
set_option maxHeartbeats 4000000
/-! FcE: Lean data as the evaluator's, and the words over it. -/
namespace Fc
open PySem
class Enc (α : Type) where
  e : α → P
  d : Nat
  dep : ∀ a, (e a).kd ≤ d
  inj : ∀ a b, e a = e b → a = b
/-- data as a value -/
def E {α : Type} [Enc α] (a : α) : P := Enc.e a
instance : Enc Nat := ⟨fun n => .int n, 0, fun _ => Nat.le_refl _, fun a b h => by cases h; rfl⟩
instance : Enc Int := ⟨fun n => .int n, 0, fun _ => Nat.le_refl _, fun a b h => by cases h; rfl⟩
theorem kds_le {α : Type} [Enc α] : ∀ xs : List α, P.kds (xs.map E) ≤ Enc.d α
  | [] => Nat.zero_le _
  | x :: xs => by
    rw [List.map_cons, P.kds]
    have := Enc.dep x
    have := kds_le xs
    unfold E
    unfold E at this
    omega
theorem map_inj {α : Type} [Enc α] : ∀ xs ys : List α, xs.map E = ys.map E → xs = ys
  | [], [], _ => rfl
  | [], _ :: _, h => by cases h
  | _ :: _, [], h => by cases h
  | x :: xs, y :: ys, h => by
    rw [List.map_cons, List.map_cons] at h
    injection h with h1 h2
    rw [Enc.inj x y h1, map_inj xs ys h2]
instance {α : Type} [Enc α] : Enc (List α) := ⟨fun xs => .tup (xs.map E), Enc.d α + 1, fun xs => by
  rw [P.kd]; have := kds_le xs; omega, fun a b h => by
  injection h with h; exact map_inj a b h⟩
instance {α β : Type} [Enc α] [Enc β] : Enc (α × β) := ⟨fun c => .tup [E c.1, E c.2], max (Enc.d α) (Enc.d β) + 1, fun c => by
  simp only [P.kd, P.kds]; have := Enc.dep c.1; have := Enc.dep c.2; unfold E; omega, fun a b h => by
  injection h with h; injection h with h1 h; injection h with h2 h
  exact Prod.ext (Enc.inj _ _ h1) (Enc.inj _ _ h2)⟩
@[simp] theorem E_nat {n : Nat} : E n = .int n := id rfl
@[simp] theorem E_int {n : Int} : E n = .int n := id rfl
@[simp] theorem E_pair {α β : Type} [Enc α] [Enc β] {c : α × β} : E c = .tup [E c.1, E c.2] := id rfl
@[simp] theorem d_nat : Enc.d Nat = 0 := id rfl
@[simp] theorem d_int : Enc.d Int = 0 := id rfl
@[simp] theorem d_list {α : Type} [Enc α] : Enc.d (List α) = Enc.d α + 1 := id rfl
@[simp] theorem d_pair {α β : Type} [Enc α] [Enc β] : Enc.d (α × β) = max (Enc.d α) (Enc.d β) + 1 := id rfl
theorem E_list {α : Type} [Enc α] {xs : List α} : E xs = .tup (xs.map E) := id rfl
theorem E_inj {α : Type} [Enc α] {a b : α} : E a = E b ↔ a = b := ⟨Enc.inj a b, fun h => by rw [h]⟩
theorem kd_E {α : Type} [Enc α] (a : α) : (E a).kd ≤ Enc.d α := Enc.dep a
/-- a list of plain data, in the store; its items -/
def LL {α : Type} [Enc α] (xs : List α) : MO := .lst (xs.map fun x => .p (E x))
def IT {α : Type} [Enc α] (xs : List α) : List A := xs.map fun x => .p (E x)
theorem IT_map {α : Type} [Enc α] {xs : List α} : IT xs = (xs.map E).map .p := by simp [IT, Function.comp_def]
/-- numbers below n -/
def RG (n : Nat) : List A := (List.range n).map fun i : Nat => .p (.int (i : Int))
@[simp] theorem IT_len {α : Type} [Enc α] {xs : List α} : (IT xs).length = xs.length := by simp [IT]
@[simp] theorem IT_nil {α : Type} [Enc α] : IT ([] : List α) = [] := id rfl
@[simp] theorem RG_len {n : Nat} : (RG n).length = n := by simp [RG]
@[simp] theorem gc0 {α : Type} {a : α} {l : List α} : (a :: l)[0]? = some a := id rfl
@[simp] theorem gcS {α : Type} {a : α} {l : List α} {n : Nat} : (a :: l)[n + 1]? = l[n]? := id rfl
@[simp] theorem gcN {α : Type} {n : Nat} : ([] : List α)[n]? = none := id rfl
/-! ### == -/
@[simp] theorem eqq_E {α : Type} [Enc α] [DecidableEq α] {a b : α} (h : Enc.d α ≤ 40) : eqq (E a) (E b) = some (decide (a = b)) := by
  have h1 := kd_E a
  have h2 := kd_E b
  unfold eqq
  rw [P.depth_kd _ (by omega), P.depth_kd _ (by omega), if_pos (by omega), P.eqv_kd _ _ (by omega) (by omega)]
  simp [E_inj]
theorem eqv_E {α : Type} [Enc α] [DecidableEq α] {a b : α} (h : Enc.d α ≤ 40) : P.eqv (E a) (E b) = decide (a = b) := by
  have h1 := kd_E a
  have h2 := kd_E b
  rw [P.eqv_kd _ _ (by omega) (by omega)]
  simp [E_inj]
theorem memq_E {α : Type} [Enc α] [DecidableEq α] (h : Enc.d α ≤ 40) (x : α) : ∀ ys : List α, memq (E x) (ys.map E) = some (decide (x ∈ ys))
  | [] => rfl
  | y :: ys => by
    rw [List.map_cons, memq, eqq_E h, memq_E h x ys]
    by_cases e : y = x
    · subst e; simp
    · have : ¬ x = y := fun z => e z.symm
      simp [e, this]
theorem findIdx_E {α : Type} [Enc α] [DecidableEq α] (h : Enc.d α ≤ 40) (x : α) : ∀ ys : List α, (ys.map E).findIdx (fun y => y.eqv (E x)) = ys.findIdx fun y => decide (y = x)
  | [] => rfl
  | y :: ys => by rw [List.map_cons, List.findIdx_cons, List.findIdx_cons, eqv_E h, findIdx_E h x ys]
theorem index_E {α : Type} [Enc α] [DecidableEq α] (h : Enc.d α ≤ 40) {x : α} {ys : List α} (hx : x ∈ ys) : indexq (E x) (ys.map E) = some (ys.findIdx fun y => decide (y = x)) := by
  unfold indexq
  rw [memq_E h, findIdx_E h]
  simp [hx]

/-! ### words over data -/
section
variable {α : Type} [Enc α] {st : St}
@[simp] theorem len_E {xs : List α} : b1fun .len (.p (E xs)) st = .ok (.p (.int xs.length)) st := by
  rw [E_list, b1_len]; simp
@[simp] theorem tuple_E {xs : List α} : b1fun .tuple (.p (E xs)) st = .ok (.p (E xs)) st := id rfl
@[simp] theorem getix_E {xs : List α} {n : Nat} : getix (.p (E xs)) (.p (.int (n : Int))) st = (xs[n]?).map fun x => .p (E x) := by
  rw [E_list, getix_n]; simp; rfl
@[simp] theorem getix_E0 {xs : List α} : getix (.p (E xs)) (.p (.int 0)) st = (xs[0]?).map fun x => .p (E x) := getix_E (n := 0)
@[simp] theorem getix_E1 {xs : List α} : getix (.p (E xs)) (.p (.int 1)) st = (xs[1]?).map fun x => .p (E x) := getix_E (n := 1)
@[simp] theorem getix_E2 {xs : List α} : getix (.p (E xs)) (.p (.int 2)) st = (xs[2]?).map fun x => .p (E x) := getix_E (n := 2)
@[simp] theorem getix_Em {xs : List α} : getix (.p (E xs)) (.p (.int (-1))) st = (xs.getLast?).map fun x => .p (E x) := by
  unfold getix idx
  rw [E_list]
  simp only [List.length_map]
  rw [if_neg (by omega)]
  cases h : xs with
  | nil => rfl
  | cons x r =>
    rw [if_pos (by simp; omega)]
    have : ((-1 : Int) + ((x :: r).length : Nat)).toNat = (x :: r).length - 1 := by omega
    rw [this, List.getLast?_eq_getElem?]
    simp only [List.getElem?_map, Option.map_map]; rfl
@[simp] theorem isi_E_tuple {ct : List CD} {xs : List α} : isi ct (.p (E xs)) .tuple = some true := id rfl
@[simp] theorem isi_E_int {ct : List CD} {xs : List α} : isi ct (.p (E xs)) .int = some false := id rfl
@[simp] theorem isi_E_bool {ct : List CD} {xs : List α} : isi ct (.p (E xs)) .bool = some false := id rfl
@[simp] theorem isi_E_str {ct : List CD} {xs : List α} : isi ct (.p (E xs)) .str = some false := id rfl
@[simp] theorem isi_E_list {ct : List CD} {xs : List α} : isi ct (.p (E xs)) .list = some false := id rfl
@[simp] theorem isi_E_dict {ct : List CD} {xs : List α} : isi ct (.p (E xs)) .dict = some false := id rfl
@[simp] theorem isN_E {xs : List α} : A.isN (.p (E xs)) = false := id rfl
@[simp] theorem walk_E {xs : List α} : walkOf (.p (E xs)) st = some (IT xs, []) := by
  rw [IT_map]; rfl
@[simp] theorem walkRng {n : Nat} (h : n < 1000000000000) : walkOf (.rng 0 (n : Int) 1) st = some (RG n, []) := wk_rng h
theorem walkRng' {n : Nat} {i : Int} (e : i = n) (h : n < 1000000000000) : walkOf (.rng 0 i 1) st = some (RG n, []) := by rw [e]; exact wk_rng h
@[simp] theorem mk_IT {xs : List α} : A.mk (IT xs) = .p (E xs) := by
  rw [IT_map, A.mk_map]; rfl
@[simp] theorem eqq_nonE {xs : List α} (h : Enc.d α ≤ 39) : eqq .non (E xs) = some false := by
  have h1 := kd_E xs
  have h2 : Enc.d (List α) = Enc.d α + 1 := rfl
  unfold eqq
  rw [P.depth_kd (E xs) (by omega), if_pos (by constructor; decide; omega)]
  rfl
theorem add_E {a b : List α} (h : a.length + b.length ≤ szl) : binop .add (.p (E a)) (.p (E b)) st = .ok (.p (E (a ++ b))) st := by
  rw [E_list, E_list, bin_addt, if_pos (by simpa using h), ← List.map_append]; rfl
theorem add_E1n {a : List Nat} {n : Nat} (h : a.length + 1 ≤ szl) : binop .add (.p (E a)) (.p (.tup [.int (n : Int)])) st = .ok (.p (E (a ++ [n]))) st := add_E (b := [n]) h
theorem add_E1L {a : List (List α)} {x : List α} (h : a.length + 1 ≤ szl) : binop .add (.p (E a)) (.p (.tup [E x])) st = .ok (.p (E (a ++ [x]))) st := add_E (b := [x]) h
theorem add_E1 {a : List Nat} {z : Int} (x : Nat) (hz : z = x) (h : a.length + 1 ≤ szl) : binop .add (.p (E a)) (.p (.tup [.int z])) st = .ok (.p (E (a ++ [x]))) st := by
  subst hz; exact add_E (b := [x]) h
theorem cut_map {α β : Type} {f : α → β} {xs : List α} {lo hi : Option Int} : cut (xs.map f) lo hi = (cut xs lo hi).map f := by
  unfold cut
  simp
@[simp] theorem slice_E {xs : List α} {lo hi : Option Int} : sliceA (.p (E xs)) lo hi st = .ok (.p (E (cut xs lo hi))) st := by
  rw [E_list]
  simp only [sliceA, cut_map]
  rfl
@[simp] theorem cut_take {xs : List α} {n : Nat} : cut xs none (some (n : Int)) = xs.take n := by
  have : cl xs.length xs.length (some (n : Int)) = min n xs.length := by
    unfold cl
    simp only
    rw [if_neg (by omega)]; rfl
  unfold cut
  rw [this]
  simp [cl, ← List.take_eq_take_min]
@[simp] theorem cut_drop {xs : List α} {n : Nat} : cut xs (some (n : Int)) none = xs.drop n := by
  have : cl xs.length 0 (some (n : Int)) = min n xs.length := by
    unfold cl
    simp only
    rw [if_neg (by omega)]; rfl
  unfold cut
  rw [this]
  simp only [cl]
  rw [List.take_of_length_le (by simp)]
  by_cases h : n ≤ xs.length
  · rw [Nat.min_eq_left h]
  · rw [Nat.min_eq_right (by omega), List.drop_length, List.drop_of_length_le (by omega)]
@[simp] theorem cut_drop1 {xs : List α} {n : Nat} : cut xs (some ((n : Int) + 1)) none = xs.drop (n + 1) := cut_drop (n := n + 1)
@[simp] theorem cut_one {xs : List α} : cut xs (some 1) none = xs.drop 1 := cut_drop (n := 1)
@[simp] theorem cut_last {xs : List α} : cut xs none (some (-1)) = xs.dropLast := by
  have : cl xs.length xs.length (some (-1)) = xs.length - 1 := by
    unfold cl
    simp only
    rw [if_pos (by omega)]; omega
  unfold cut
  rw [this, List.dropLast_eq_take]
  simp [cl]
theorem cut_cut {xs : List α} {a b : Nat} (hb : b ≤ xs.length) (ha : a ≤ b) : cut xs (some (a : Int)) (some (b : Int)) = (xs.drop a).take (b - a) := by
  have h1 : cl xs.length 0 (some (a : Int)) = a := by
    unfold cl
    simp only
    rw [if_neg (by omega)]; omega
  have h2 : cl xs.length xs.length (some (b : Int)) = b := by
    unfold cl
    simp only
    rw [if_neg (by omega)]; omega
  unfold cut
  rw [h1, h2]
@[simp] theorem partI_neg {c : C} {i : Int} : partI (.neg c) (.p (.int i)) = some (some i) := id rfl
@[simp] theorem partI_k {x : P} {i : Int} : partI (.k x) (.p (.int i)) = some (some i) := id rfl
@[simp] theorem partI_var {n : Nat} {i : Int} : partI (.var n) (.p (.int i)) = some (some i) := id rfl
@[simp] theorem partI_bin {o : BOp} {a b : C} {i : Int} : partI (.bin o a b) (.p (.int i)) = some (some i) := id rfl
@[simp] theorem partI_b1 {o : B1} {a : C} {i : Int} : partI (.b1 o a) (.p (.int i)) = some (some i) := id rfl
@[simp] theorem partI_call {f : Nat} {a : C} {i : Int} : partI (.call f a) (.p (.int i)) = some (some i) := id rfl
@[simp] theorem partI_ix {a b : C} {i : Int} : partI (.ix a b) (.p (.int i)) = some (some i) := id rfl
theorem E_nil : (.tup [] : P) = E ([] : List α) := rfl
/-- membership -/
@[simp] theorem mem_EL [DecidableEq α] {x : List α} {ys : List (List α)} (h : Enc.d α ≤ 39) : cmpop .mem (.p (E x)) (.p (E ys)) st = some (decide (x ∈ ys)) := by
  show memq (E x) (ys.map E) = _
  rw [memq_E (by show Enc.d α + 1 ≤ 40; omega)]; congr
@[simp] theorem nmem_EL [DecidableEq α] {x : List α} {ys : List (List α)} (h : Enc.d α ≤ 39) : cmpop .nmem (.p (E x)) (.p (E ys)) st = some (!decide (x ∈ ys)) := by
  show (memq (E x) (ys.map E)).map _ = _
  rw [memq_E (by show Enc.d α + 1 ≤ 40; omega)]; simp
@[simp] theorem mem_En {x : Nat} {ys : List Nat} : cmpop .mem (.p (.int x)) (.p (E ys)) st = some (decide (x ∈ ys)) := memq_E (α := Nat) (by decide) x ys
@[simp] theorem nmem_En {x : Nat} {ys : List Nat} : cmpop .nmem (.p (.int x)) (.p (E ys)) st = some (!decide (x ∈ ys)) := by
  show (memq (E x) (ys.map E)).map _ = _
  rw [memq_E (by decide)]; rfl
@[simp] theorem index_EL [DecidableEq α] {bs : List Nat} {x : List α} {ys : List (List α)} (hx : x ∈ ys) (h : Enc.d α ≤ 39) : m1fun bs .index (.p (E ys)) (.p (E x)) st = .ok (.p (.int (ys.findIdx fun y => decide (y = x) : Nat))) st := by
  rw [E_list, m1_index, index_E (by show Enc.d α + 1 ≤ 40; omega) hx]
@[simp] theorem recv_indexE {ys : List α} : recv .index (.p (E ys)) st = true := id rfl
@[simp] theorem trng_n {n : Nat} (h : n ≤ 1000000) : trngA (.p (.int 0)) (.p (.int (n : Int))) st = .ok (.p (E (List.range n))) st := by
  unfold trngA
  simp only
  rw [if_pos (by omega)]
  simp [E_list]
end
/-! ### the store -/
/-- the object j stands in the store -/
def isL : Option MO → Bool
  | some (.lst _) => true
  | _ => false
@[simp] theorem isL_LL {α : Type} [Enc α] {xs : List α} : isL (some (LL xs)) = true := id rfl
@[simp] theorem isL_lst {xs : List A} : isL (some (.lst xs)) = true := id rfl
section
variable {st : St} {j : Nat} {bs : List Nat}
@[simp] theorem recv_appJ : recv .append (.ref j) st = isL st[j]? := by
  cases h : st[j]? with
  | none => simp [recv, isL, h]
  | some o => cases o <;> simp [recv, isL, h]
def appO (bs : List Nat) (j : Nat) (v : A) (st : St) : Option MO → Out A
  | some (.lst xs) => if mayLay bs j v && decide (xs.length < szl) then .ok (.p .non) (st.set j (.lst (xs ++ [v]))) else .stuck
  | _ => .stuck
@[simp] theorem m1_appJ {v : A} : m1fun bs .append (.ref j) v st = appO bs j v st st[j]? := by
  cases h : st[j]? with
  | none => simp [m1fun, appO, h]
  | some o => cases o <;> simp [m1fun, appO, h]
theorem appO_p {v : P} {xs : List A} (h : xs.length < szl) : appO bs j (.p v) st (some (.lst xs)) = .ok (.p .non) (st.set j (.lst (xs ++ [.p v]))) := by
  unfold appO
  simp [mayLay_p, h]
theorem appO_E {α : Type} [Enc α] {xs : List α} (x : α) {v : P} (hv : v = E x) (h : xs.length < szl) : appO bs j (.p v) st (some (LL xs)) = .ok (.p .non) (st.set j (LL (xs ++ [x]))) := by
  subst hv
  unfold LL
  rw [appO_p (by simpa using h)]
  simp
@[simp] theorem app_n {xs : List Nat} {x : Nat} (h : xs.length < szl) : appO bs j (.p (.int (x : Int))) st (some (LL xs)) = .ok (.p .non) (st.set j (LL (xs ++ [x]))) := appO_E x rfl h
theorem app_i {xs : List Nat} {z : Int} (x : Nat) (hz : z = x) (h : xs.length < szl) : appO bs j (.p (.int z)) st (some (LL xs)) = .ok (.p .non) (st.set j (LL (xs ++ [x]))) := by
  subst hz; exact appO_E x rfl h
@[simp] theorem app_0 {xs : List Nat} (h : xs.length < szl) : appO bs j (.p (.int 0)) st (some (LL xs)) = .ok (.p .non) (st.set j (LL (xs ++ [0]))) := appO_E 0 rfl h
@[simp] theorem app_1 {xs : List Nat} (h : xs.length < szl) : appO bs j (.p (.int 1)) st (some (LL xs)) = .ok (.p .non) (st.set j (LL (xs ++ [1]))) := appO_E 1 rfl h
@[simp] theorem app_L {α : Type} [Enc α] {xs : List (List α)} {x : List α} (h : xs.length < szl) : appO bs j (.p (E x)) st (some (LL xs)) = .ok (.p .non) (st.set j (LL (xs ++ [x]))) := appO_E x rfl h
@[simp] theorem app_nn {xs : List (Nat × Nat)} {x y : Nat} (h : xs.length < szl) : appO bs j (.p (.tup [.int (x : Int), .int (y : Int)])) st (some (LL xs)) = .ok (.p .non) (st.set j (LL (xs ++ [(x, y)]))) := appO_E (x, y) rfl h
@[simp] theorem app_LL {α β : Type} [Enc α] [Enc β] {xs : List (List α × List β)} {x : List α} {y : List β} (h : xs.length < szl) : appO bs j (.p (.tup [E x, E y])) st (some (LL xs)) = .ok (.p .non) (st.set j (LL (xs ++ [(x, y)]))) := appO_E (x, y) rfl h
/-- a built-in function of an object -/
def b1O (b : B1) (st : St) : Option MO → Out A
  | some (.lst xs) => lfun b xs st
  | _ => .stuck
@[simp] theorem b1_J {b : B1} : b1fun b (.ref j) st = b1O b st st[j]? := by
  cases h : st[j]? with
  | none => cases b <;> simp [b1fun, b1O, h]
  | some o => cases o <;> cases b <;> simp [b1fun, b1O, h]
@[simp] theorem b1O_tup {α : Type} [Enc α] {xs : List α} : b1O .tuple st (some (LL xs)) = .ok (.p (E xs)) st := by
  show Out.ok (A.mk (IT xs)) st = _
  rw [mk_IT]
@[simp] theorem b1O_len {α : Type} [Enc α] {xs : List α} : b1O .len st (some (LL xs)) = .ok (.p (.int xs.length)) st := by
  show Out.ok (A.p (.int (IT xs).length)) st = _
  rw [IT_len]
@[simp] theorem lfun_IT {α : Type} [Enc α] {xs : List α} : lfun .tuple (IT xs) st = .ok (.p (E xs)) st := by
  rw [lfun_tuple, mk_IT]
def getO (key : P) : Option MO → Option A
  | some (.lst xs) => (match key with
      | .int i => (idx xs.length i).bind fun j => xs[j]?
      | _ => none)
  | some (.dct k kvs) => if askable k key then look kvs key else none
  | _ => none
@[simp] theorem getix_J {key : P} : getix (.ref j) (.p key) st = getO key st[j]? := by
  cases h : st[j]? with
  | none => simp [getix, getO, h]
  | some o => cases o <;> simp [getix, getO, h] <;> rfl
theorem getO_lst {xs : List A} {n : Nat} : getO (.int (n : Int)) (some (.lst xs)) = xs[n]? := by
  unfold getO idx
  by_cases h : n < xs.length
  · simp [h]
  · simp [h]
@[simp] theorem getO_LL {α : Type} [Enc α] {xs : List α} {n : Nat} : getO (.int (n : Int)) (some (LL xs)) = (xs[n]?).map fun x => .p (E x) := by
  unfold LL
  rw [getO_lst]; simp
@[simp] theorem getO_LL0 {α : Type} [Enc α] {xs : List α} : getO (.int 0) (some (LL xs)) = (xs[0]?).map fun x => .p (E x) := getO_LL (n := 0)
@[simp] theorem getO_LL1 {α : Type} [Enc α] {xs : List α} : getO (.int 1) (some (LL xs)) = (xs[1]?).map fun x => .p (E x) := getO_LL (n := 1)
end
section
variable {st r : St} {j n : Nat} {o o' : MO}
@[simp] theorem ga0 : (st ++ r)[st.length]? = r[0]? := by
  rw [List.getElem?_append_right (by omega), Nat.sub_self]
@[simp] theorem gan : (st ++ r)[st.length + n]? = r[n]? := by
  rw [List.getElem?_append_right (by omega), Nat.add_sub_cancel_left]
@[simp] theorem gs0 : (st.set j o ++ r)[st.length]? = r[0]? := by
  rw [List.getElem?_append_right (by simp)]; simp
@[simp] theorem gsn : (st.set j o ++ r)[st.length + n]? = r[n]? := by
  rw [List.getElem?_append_right (by simp)]; simp
@[simp] theorem gaj (h : j < st.length) : (st ++ r)[j]? = st[j]? := get_app h
@[simp] theorem gsj (h : j < st.length) : (st.set j o ++ r)[j]? = some o := by
  rw [get_app (by simpa using h), set_get' h]
@[simp] theorem gj (h : j < st.length) : (st.set j o)[j]? = some o := set_get' h
@[simp] theorem sa0 : (st ++ r).set st.length o = st ++ r.set 0 o := by
  rw [List.set_append_right _ _ (by omega)]; simp
@[simp] theorem san : (st ++ r).set (st.length + n) o = st ++ r.set n o := by
  rw [List.set_append_right _ _ (by omega)]; simp
@[simp] theorem ss0 : (st.set j o ++ r).set st.length o' = st.set j o ++ r.set 0 o' := by
  rw [List.set_append_right _ _ (by simp)]; simp
@[simp] theorem ssn : (st.set j o ++ r).set (st.length + n) o' = st.set j o ++ r.set n o' := by
  rw [List.set_append_right _ _ (by simp)]; simp
@[simp] theorem saj (h : j < st.length) : (st ++ r).set j o = st.set j o ++ r := set_app h
@[simp] theorem ssj (h : j < st.length) : (st.set j o ++ r).set j o' = st.set j o' ++ r := by
  rw [set_app (by simpa using h), List.set_set]
@[simp] theorem ta : (st ++ r).take st.length = st := take_app rfl
@[simp] theorem fin_nonref {x : P} : fin n (.p x) st = .ok (.p x) (st.take n) := rfl
theorem fin_new (h : o.bel st.length = true) : fin st.length (.ref st.length) (st ++ o :: r) = .ok (.ref st.length) (st ++ [o]) := by
  unfold fin
  simp [h]
theorem fin_news (h : o.bel st.length = true) : fin st.length (.ref st.length) (st.set j o' ++ o :: r) = .ok (.ref st.length) (st.set j o' ++ [o]) := by
  unfold fin
  simp [h]
end
def clean1 (n : Nat) : Option A → Option A
  | some a => if a.bel n then some a else none
  | none => none
@[simp] theorem clean_nil {n : Nat} : cleanS n [] = [] := id rfl
@[simp] theorem clean_cons {n : Nat} {o : Option A} {σ : Sl} : cleanS n (o :: σ) = clean1 n o :: cleanS n σ := by
  unfold cleanS
  rw [List.map_cons]
  congr
@[simp] theorem clean1_p {n : Nat} {x : P} : clean1 n (some (.p x)) = some (.p x) := id rfl
@[simp] theorem clean1_n {n : Nat} : clean1 n none = none := id rfl
@[simp] theorem clean1_ref {n j : Nat} (h : j < n) : clean1 n (some (.ref j)) = some (.ref j) := by
  simp [clean1, A.bel, h]
section
variable {st r : St} {j n : Nat} {o : MO}
@[simp] theorem tan : (st ++ r).take (st.length + n) = st ++ r.take n := by
  rw [List.take_append, List.take_of_length_le (by omega)]; simp
@[simp] theorem tsn : (st.set j o ++ r).take (st.length + n) = st.set j o ++ r.take n := by
  rw [List.take_append, List.take_of_length_le (by simp)]; simp
end
theorem bels_IT {α : Type} [Enc α] {n : Nat} : ∀ xs : List α, A.bels n (xs.map fun x => .p (E x)) = true
  | [] => rfl
  | x :: xs => by simp [A.bels, A.bel, bels_IT xs]
@[simp] theorem bel_LL {α : Type} [Enc α] {n : Nat} {xs : List α} : (LL xs).bel n = true := bels_IT xs
theorem all_snoc {α : Type} {p : α → Prop} {xs : List α} {y : α} (h : ∀ x ∈ xs, p x) (hy : p y) : ∀ x ∈ xs ++ [y], p x := fun x hx => by
  rcases List.mem_append.mp hx with hx | hx
  · exact h x hx
  · rw [List.mem_singleton] at hx; subst hx; exact hy
/-- drawing, forwards -/
theorem Take.w {cal : List Nat → Nat → List A → St → Out A} {f : Nat} (T : Take cal f) {bs : List Nat} {st : St} {j : Nat} {o : MO} {B : Nat} {i : Int} (m : Nat) {X : Nat → List P → St → Prop} {N : A → St → Prop} (h : st[j]? = some o) (hb : Bag B o) (hB : B < 1000000000000000000)
    (hn : ∀ (d : Nat) (o' : MO), d < m → Bag (B + 1) o' → N (.p (.int d)) (st.set j o')) (hi : i = (m : Int) := by first | rfl | (simp; done) | omega) (m1 : 1 ≤ m := by omega) (m2 : m < 1073741824 := by omega) : WE (cal bs f [.ref j, .p (.int i)] st) X N := by
  subst hi
  obtain ⟨d, o', h1, h2, e⟩ := T bs st j o B m h hb hB m1 m2
  rw [e, WE_ok]
  exact hn d o' h1 h2
section
variable {f : A → St → Out (Option A)} {st : St} {X : Nat → List P → St → Prop} {N : List A → St → Prop}
/-- a comprehension over numbers, with a state -/
theorem W_compR {α : Type} [Enc α] {n : Nat} (I : Nat → List α → St → Prop) (h0 : I 0 [] st) (hl : n < szl)
    (hb : ∀ i xs s, i < n → xs.length ≤ i → I i xs s → WE (f (.p (.int (i : Int))) s) NoX fun o s' => Hold ((∃ x, o = some (.p (E x)) ∧ I (i + 1) (xs ++ [x]) s') ∨ (o = none ∧ I (i + 1) xs s')))
    (hq : ∀ xs s, xs.length ≤ n → I n xs s → N (IT xs) s) : WE (compL [] f (RG n) [] st) X N := by
  refine W_comp (fun i acc s => ∃ xs : List α, acc = IT xs ∧ xs.length ≤ min i n ∧ I i xs s) ⟨[], rfl, Nat.zero_le _, h0⟩ ?_ ?_ ?_
  · rintro i acc s ⟨xs, rfl, h1, _⟩
    exact ⟨still_nil, by rw [IT_len]; omega⟩
  · rintro i x acc s hx ⟨xs, rfl, h1, h2⟩
    unfold RG at hx
    obtain ⟨a, ha, rfl⟩ : ∃ a, (List.range n)[i]? = some a ∧ A.p (P.int (a : Nat)) = x := by simpa using hx
    obtain ⟨hi, e⟩ := List.getElem?_eq_some_iff.mp ha
    simp at hi e
    subst e
    refine WE_use (hb i xs s hi (by omega) h2) fun o s' hh => ?_
    rcases hh with ⟨x, rfl, h3⟩ | ⟨rfl, h3⟩
    · exact ⟨xs ++ [x], by simp [IT], by simp; omega, h3⟩
    · exact ⟨xs, by simp, by omega, h3⟩
  · rintro r s ⟨xs, rfl, h1, h2⟩
    rw [RG_len] at h1 h2
    exact hq xs s (by omega) h2
/-- .. over items -/
theorem W_compI {α β : Type} [Enc α] {ys : List β} {e : β → A} (I : Nat → List α → St → Prop) (h0 : I 0 [] st) (hl : ys.length < szl)
    (hb : ∀ i y xs s, ys[i]? = some y → xs.length ≤ i → I i xs s → WE (f (e y) s) NoX fun o s' => Hold ((∃ x, o = some (.p (E x)) ∧ I (i + 1) (xs ++ [x]) s') ∨ (o = none ∧ I (i + 1) xs s')))
    (hq : ∀ xs s, xs.length ≤ ys.length → I ys.length xs s → N (IT xs) s) : WE (compL [] f (ys.map e) [] st) X N := by
  refine W_comp (fun i acc s => ∃ xs : List α, acc = IT xs ∧ xs.length ≤ min i ys.length ∧ I i xs s) ⟨[], rfl, Nat.zero_le _, h0⟩ ?_ ?_ ?_
  · rintro i acc s ⟨xs, rfl, h1, _⟩
    exact ⟨still_nil, by rw [IT_len]; omega⟩
  · rintro i x acc s hx ⟨xs, rfl, h1, h2⟩
    obtain ⟨y, hy, rfl⟩ : ∃ y, ys[i]? = some y ∧ e y = x := by simpa using hx
    have hi := (List.getElem?_eq_some_iff.mp hy).1
    refine WE_use (hb i y xs s hy (by omega) h2) fun o s' hh => ?_
    rcases hh with ⟨x, rfl, h3⟩ | ⟨rfl, h3⟩
    · exact ⟨xs ++ [x], by simp [IT], by simp; omega, h3⟩
    · exact ⟨xs, by simp, by omega, h3⟩
  · rintro r s ⟨xs, rfl, h1, h2⟩
    rw [List.length_map] at h1 h2
    exact hq xs s (by omega) h2
/-- each item by itself -/
theorem W_cmapR {α : Type} [Enc α] {n : Nat} (h : Nat → α) (hl : n < szl) (hb : ∀ i, i < n → WE (f (.p (.int (i : Int))) st) NoX fun o s => Hold (o = some (.p (E (h i))) ∧ s = st)) (hq : N (IT ((List.range n).map h)) st) : WE (compL [] f (RG n) [] st) X N := by
  unfold RG
  refine W_cmap (fun i => .p (E (h i))) still_nil (by simpa using hl) (fun i hi => hb i (by simpa using hi)) ?_
  have : IT ((List.range n).map h) = (List.range n).map fun i => .p (E (h i)) := by simp [IT, Function.comp_def]
  rw [this] at hq
  exact hq
theorem W_cfilR {α : Type} [Enc α] {n : Nat} (h : Nat → α) (c : Nat → Bool) (hl : n < szl) (hb : ∀ i, i < n → WE (f (.p (.int (i : Int))) st) NoX fun o s => Hold (o = (if c i = true then some (.p (E (h i))) else none) ∧ s = st)) (hq : N (IT (((List.range n).filter c).map h)) st) : WE (compL [] f (RG n) [] st) X N := by
  unfold RG
  refine W_cfilter (fun i => .p (E (h i))) c still_nil (by simpa using hl) (fun i hi => hb i (by simpa using hi)) ?_
  have : IT (((List.range n).filter c).map h) = ((List.range n).filter c).map fun i => .p (E (h i)) := by simp [IT, Function.comp_def]
  rw [this] at hq
  exact hq
theorem W_cmapI {α β : Type} [Enc α] [Enc β] {ys : List β} (h : β → α) (hl : ys.length < szl) (hb : ∀ y ∈ ys, WE (f (.p (E y)) st) NoX fun o s => Hold (o = some (.p (E (h y))) ∧ s = st)) (hq : N (IT (ys.map h)) st) : WE (compL [] f (IT ys) [] st) X N := by
  unfold IT
  refine W_cmap (fun y => .p (E (h y))) still_nil hl hb ?_
  have : IT (ys.map h) = ys.map fun y => .p (E (h y)) := by simp [IT, Function.comp_def]
  rw [this] at hq
  exact hq
theorem W_cfilI {α β : Type} [Enc α] [Enc β] {ys : List β} (h : β → α) (c : β → Bool) (hl : ys.length < szl) (hb : ∀ y ∈ ys, WE (f (.p (E y)) st) NoX fun o s => Hold (o = (if c y = true then some (.p (E (h y))) else none) ∧ s = st)) (hq : N (IT ((ys.filter c).map h)) st) : WE (compL [] f (IT ys) [] st) X N := by
  unfold IT
  refine W_cfilter (fun y => .p (E (h y))) c still_nil hl hb ?_
  have : IT ((ys.filter c).map h) = (ys.filter c).map fun y => .p (E (h y)) := by simp [IT, Function.comp_def]
  rw [this] at hq
  exact hq
/-- a comprehension of truths -/
def BL {α : Type} (f : α → Bool) (xs : List α) : List A := xs.map fun x => .p (.bl (f x))
theorem W_cboolI {β : Type} [Enc β] {ys : List β} (h : β → Bool) (hl : ys.length < szl) (hb : ∀ y ∈ ys, WE (f (.p (E y)) st) NoX fun o s => Hold (o = some (.p (.bl (h y))) ∧ s = st)) (hq : N (BL h ys) st) : WE (compL [] f (IT ys) [] st) X N := by
  unfold IT
  exact W_cmap (fun y => .p (.bl (h y))) still_nil hl hb hq
theorem W_cboolR {n : Nat} (h : Nat → Bool) (hl : n < szl) (hb : ∀ i, i < n → WE (f (.p (.int (i : Int))) st) NoX fun o s => Hold (o = some (.p (.bl (h i))) ∧ s = st)) (hq : N (BL h (List.range n)) st) : WE (compL [] f (RG n) [] st) X N := by
  unfold RG
  exact W_cmap (fun i => .p (.bl (h i))) still_nil (by simpa using hl) (fun i hi => hb i (by simpa using hi)) hq
@[simp] theorem lfun_all {α : Type} {h : α → Bool} {xs : List α} : lfun .all (BL h xs) st = .ok (.p (.bl (xs.all h))) st := lall
@[simp] theorem lfun_any {α : Type} {h : α → Bool} {xs : List α} : lfun .any (BL h xs) st = .ok (.p (.bl (xs.any h))) st := lany
end
/-- walking a list in the store -/
def walkO (j : Nat) : Option MO → Option (List A × List (Nat × MO))
  | some (.lst xs) => some (xs, [(j, .lst xs)])
  | _ => none
@[simp] theorem walk_J {j : Nat} {st : St} : walkOf (.ref j) st = walkO j st[j]? := by
  cases h : st[j]? with
  | none => simp [walkOf, seqOf, walkO, h]
  | some o => cases o <;> simp [walkOf, seqOf, walkO, h]
@[simp] theorem walkO_LL {α : Type} [Enc α] {j : Nat} {xs : List α} : walkO j (some (LL xs)) = some (IT xs, [(j, LL xs)]) := id rfl
theorem W_itemsJ {α : Type} [Enc α] {xs : List α} {j : Nat} {ts : List Nat} {b : Sl → St → Flow} {σ : Sl} {st : St} {E' : EndW} {N : Sl → St → Prop} (I : Nat → Sl → St → Prop) (h0 : I 0 σ st) (hs : ∀ i σ s, I i σ s → s[j]? = some (LL xs))
    (hb : ∀ i x σ s, xs[i]? = some x → I i σ s → WO (bindS ts (.p (E x)) σ) fun σ1 => WS (b σ1 s) { E' with brk := N, cnt := fun σ s => Hold (I (i + 1) σ s) } (fun σ s => Hold (I (i + 1) σ s)))
    (hq : ∀ σ s, I xs.length σ s → N σ s) : WS (forL [(j, LL xs)] ts b (IT xs) σ st) E' N :=
  W_forL I h0 (fun i σ s hI e he => by
    rw [List.mem_singleton] at he
    subst he
    exact hs i σ s hI) (fun i x σ s hx hI => by
    unfold IT at hx
    obtain ⟨y, hy, rfl⟩ : ∃ y, xs[i]? = some y ∧ A.p (E y) = x := by simpa using hx
    exact hb i y σ s hy hI) (by simpa using hq)
end Fc

set_option Elab.async false
set_option linter.all false
set_option maxRecDepth 100000
set_option maxHeartbeats 4000000
/-! FcE2: words over lists and dicts of the store. -/
namespace Fc
open PySem
theorem WB_if {b : Bool} {p q : Prop} (h1 : b = true → p) (h2 : b = false → q) : WB b p q := by
  cases b
  · rw [WB_f]; exact h2 rfl
  · rw [WB_t]; exact h1 rfl
@[simp] theorem bindS_3 {i j l : Nat} {a b c : P} {σ : Sl} : bindS [i, j, l] (.p (.tup [a, b, c])) σ = some (((σ.set i (some (.p a))).set j (some (.p b))).set l (some (.p c))) := id rfl
@[simp] theorem bindS_4 {i j l m : Nat} {a b c d : P} {σ : Sl} : bindS [i, j, l, m] (.p (.tup [a, b, c, d])) σ = some ((((σ.set i (some (.p a))).set j (some (.p b))).set l (some (.p c))).set m (some (.p d))) := id rfl
/-! ### lists -/
section
variable {st : St} {i j : Nat} {bs : List Nat}
@[simp] theorem recv_extJ : recv .extend (.ref j) st = isL st[j]? := by
  cases h : st[j]? with
  | none => simp [recv, isL, h]
  | some o => cases o <;> simp [recv, isL, h]
@[simp] theorem recv_popJ : recv .pop (.ref j) st = isL st[j]? := by
  cases h : st[j]? with
  | none => simp [recv, isL, h]
  | some o => cases o <;> simp [recv, isL, h]
@[simp] theorem recv_lixJ : recv .lindex (.ref j) st = isL st[j]? := by
  cases h : st[j]? with
  | none => simp [recv, isL, h]
  | some o => cases o <;> simp [recv, isL, h]
def extO (bs : List Nat) (j : Nat) (st : St) : Option MO → Option MO → Out A
  | some (.lst xs), some (.lst ys) => if ys.all (mayLay bs j) && decide (xs.length + ys.length ≤ szl) then .ok (.p .non) (st.set j (.lst (xs ++ ys))) else .stuck
  | _, _ => .stuck
@[simp] theorem m1_extJ : m1fun bs .extend (.ref j) (.ref i) st = extO bs j st st[j]? st[i]? := by
  cases h : st[j]? with
  | none => simp [m1fun, extO, h]
  | some o => cases o <;> cases h2 : st[i]? with
    | none => simp [m1fun, extO, h, h2]
    | some u => cases u <;> simp [m1fun, extO, h, h2]
theorem lay_IT {α : Type} [Enc α] (xs : List α) : (IT xs).all (mayLay bs j) = true := by
  rw [List.all_eq_true]
  intro x hx
  obtain ⟨y, _, rfl⟩ := List.mem_map.mp hx
  exact mayLay_p
@[simp] theorem extO_LL {α : Type} [Enc α] {xs ys : List α} (h : xs.length + ys.length ≤ szl) : extO bs j st (some (LL xs)) (some (LL ys)) = .ok (.p .non) (st.set j (LL (xs ++ ys))) := by
  show (if (IT ys).all (mayLay bs j) && decide ((IT xs).length + (IT ys).length ≤ szl) then _ else _) = _
  rw [lay_IT, IT_len, IT_len, Bool.true_and, if_pos (by simpa using h)]
  show Out.ok _ (st.set j (.lst (IT xs ++ IT ys))) = _
  unfold IT LL
  rw [List.map_append]
def popO (j : Nat) (st : St) : Option MO → Out A
  | some (.lst xs) => (match xs.getLast? with
      | some v => .ok v (st.set j (.lst xs.dropLast))
      | none => .stuck)
  | _ => .stuck
@[simp] theorem m0_popJ : m0fun .pop (.ref j) st = popO j st st[j]? := by
  cases h : st[j]? with
  | none => simp [m0fun, popO, h]
  | some o => cases o <;> (simp [m0fun, popO, h]; try rfl)
@[simp] theorem popO_rev {α : Type} [Enc α] {x : α} {xs : List α} : popO j st (some (LL (x :: xs).reverse)) = .ok (.p (E x)) (st.set j (LL xs.reverse)) := by
  unfold LL popO
  simp
@[simp] theorem popO_snoc {α : Type} [Enc α] {x : α} {xs : List α} : popO j st (some (LL (xs ++ [x]))) = .ok (.p (E x)) (st.set j (LL xs)) := by
  unfold LL popO
  simp
def pop0O (j : Nat) (st : St) : Option MO → Out A
  | some (.lst xs) => (match xs with
      | v :: r => .ok v (st.set j (.lst r))
      | [] => .stuck)
  | _ => .stuck
@[simp] theorem m1_pop0 : m1fun bs .pop (.ref j) (.p (.int 0)) st = pop0O j st st[j]? := by
  cases h : st[j]? with
  | none => simp [m1fun, pop0O, h]
  | some o => cases o with
    | lst xs =>
      cases xs with
      | nil => simp [m1fun, pop0O, h, idx]
      | cons x xs =>
        have e : idx (x :: xs).length 0 = some 0 := by
          unfold idx
          rw [if_pos (by omega), if_pos (by simp; try omega)]
          try rfl
        simp only [m1fun, h, pop0O, e]
        rw [if_pos (by omega)]
        try rfl
    | _ => simp [m1fun, pop0O, h]
@[simp] theorem pop0_LL {α : Type} [Enc α] {x : α} {xs : List α} : pop0O j st (some (LL (x :: xs))) = .ok (.p (E x)) (st.set j (LL xs)) := id rfl
def addO (st : St) : Option MO → Option MO → Out A
  | some (.lst xs), some (.lst ys) => if xs.length + ys.length ≤ szl then .ok (.ref st.length) (st ++ [.lst (xs ++ ys)]) else .stuck
  | _, _ => .stuck
@[simp] theorem bin_addJ : binop .add (.ref i) (.ref j) st = addO st st[i]? st[j]? := by
  cases h : st[i]? with
  | none => simp [binop, addO, h]
  | some o => cases o <;> cases h2 : st[j]? with
    | none => simp [binop, addO, h, h2]
    | some u => cases u <;> simp [binop, addO, h, h2]
@[simp] theorem addO_LL {α : Type} [Enc α] {xs ys : List α} (h : xs.length + ys.length ≤ szl) : addO st (some (LL xs)) (some (LL ys)) = .ok (.ref st.length) (st ++ [LL (xs ++ ys)]) := by
  show (if (IT xs).length + (IT ys).length ≤ szl then _ else _) = _
  rw [IT_len, IT_len, if_pos h]
  show Out.ok _ (st ++ [.lst (IT xs ++ IT ys)]) = _
  unfold IT LL
  rw [List.map_append]
def revO (st : St) : Option MO → Out A
  | some (.lst xs) => .ok (.ref st.length) (st ++ [.lst xs.reverse])
  | _ => .stuck
@[simp] theorem srev_J : srevA (.ref j) st = revO st st[j]? := by
  cases h : st[j]? with
  | none => simp [srevA, revO, h]
  | some o => cases o <;> simp [srevA, revO, h]
@[simp] theorem revO_LL {α : Type} [Enc α] {xs : List α} : revO st (some (LL xs)) = .ok (.ref st.length) (st ++ [LL xs.reverse]) := by
  show Out.ok _ (st ++ [.lst (IT xs).reverse]) = _
  unfold IT LL
  rw [List.map_reverse]
/-! ### tuples of pairs -/
@[simp] theorem add_Enn {a : List (Nat × Nat)} {x y : Nat} (h : a.length + 1 ≤ szl) : binop .add (.p (E a)) (.p (.tup [.tup [.int (x : Int), .int (y : Int)]])) st = .ok (.p (E (a ++ [(x, y)]))) st := add_E (b := [(x, y)]) h
@[simp] theorem eqq_ii {a b c d : Int} : eqq (.tup [.int a, .int b]) (.tup [.int c, .int d]) = some (decide (a = c ∧ b = d)) := by
  have z := eqq_E (a := (a, b)) (b := (c, d)) (by decide)
  rw [E_pair, E_pair, E_int, E_int, E_int, E_int] at z
  rw [z]
  simp
@[simp] theorem eq_ii {a b c d : Int} : cmpop .eq (.p (.tup [.int a, .int b])) (.p (.tup [.int c, .int d])) st = some (decide (a = c ∧ b = d)) := eqq_ii
@[simp] theorem ne_ii {a b c d : Int} : cmpop .ne (.p (.tup [.int a, .int b])) (.p (.tup [.int c, .int d])) st = some (!decide (a = c ∧ b = d)) := by
  show (eqq (.tup [.int a, .int b]) (.tup [.int c, .int d])).map (fun q => !q) = _
  rw [eqq_ii, Option.map_some]
/-- a new object is told -/
theorem fin_at {r : List MO} {o : MO} {n : Nat} (e : r[n]? = some o) (h : o.bel st.length = true) : fin st.length (.ref (st.length + n)) (st ++ r) = .ok (.ref st.length) (st ++ [o]) := by
  unfold fin
  simp only
  rw [if_neg (by omega), List.getElem?_append_right (by omega), Nat.add_sub_cancel_left, e]
  simp only
  rw [if_pos h, List.take_append_of_le_length (Nat.le_refl _), List.take_length]
/-! ### being in -/
def memO (x : P) : Option MO → Option Bool
  | some (.lst ys) => (match A.pure? ys with
      | some ps => memq x ps
      | none => none)
  | some (.dct k kvs) => if askable k x then some (look kvs x).isSome else none
  | _ => none
@[simp] theorem mem_J {x : P} : cmpop .mem (.p x) (.ref j) st = memO x st[j]? := by
  cases h : st[j]? with
  | none => simp [cmpop, memO, h]
  | some o => cases o <;> simp [cmpop, memO, h] <;> split <;> simp_all
@[simp] theorem nmem_J {x : P} : cmpop .nmem (.p x) (.ref j) st = (memO x st[j]?).map (!·) := by
  cases h : st[j]? with
  | none => simp [cmpop, memO, h]
  | some o =>
    cases o <;> simp [cmpop, memO, h] <;> split <;> simp_all
theorem pure_IT {α : Type} [Enc α] : ∀ xs : List α, A.pure? (IT xs) = some (xs.map E)
  | [] => rfl
  | x :: xs => by
    show A.pure? (.p (E x) :: IT xs) = _
    rw [A.pure?, pure_IT xs]; rfl
theorem memO_LL {α : Type} [Enc α] [DecidableEq α] {x : α} {ys : List α} (h : Enc.d α ≤ 40) : memO (E x) (some (LL ys)) = some (decide (x ∈ ys)) := by
  show (match A.pure? (IT ys) with | some ps => memq (E x) ps | none => none) = _
  rw [pure_IT]
  exact memq_E h x ys
/-- a pair of numbers among pairs -/
@[simp] theorem memO_nn {a b : Nat} {ys : List (Nat × Nat)} : memO (.tup [.int (a : Int), .int (b : Int)]) (some (LL ys)) = some (decide ((a, b) ∈ ys)) := by
  show memO (E (a, b)) _ = _
  rw [memO_LL (by decide)]; congr
@[simp] theorem mem_nn {a b : Nat} {ys : List (Nat × Nat)} : cmpop .mem (.p (.tup [.int (a : Int), .int (b : Int)])) (.p (E ys)) st = some (decide ((a, b) ∈ ys)) := by
  show memq (E (a, b)) (ys.map E) = _
  rw [memq_E (by decide)]; congr
@[simp] theorem nmem_nn {a b : Nat} {ys : List (Nat × Nat)} : cmpop .nmem (.p (.tup [.int (a : Int), .int (b : Int)])) (.p (E ys)) st = some (!decide ((a, b) ∈ ys)) := by
  show (memq (E (a, b)) (ys.map E)).map _ = _
  rw [memq_E (by decide), Option.map_some]; congr
/-! ### dicts with tuples of data as keys -/
/-- the dict of these -/
def DD {α β : Type} [Enc α] [Enc β] : List (α × β) → MO
  | [] => .dct .e []
  | x :: xs => .dct .t ((x :: xs).map fun p => (E p.1, .p (E p.2)))
/-- what a key stands for -/
def lkp {α β : Type} [DecidableEq α] (x : α) : List (α × β) → Option β
  | [] => none
  | p :: r => if p.1 = x then some p.2 else lkp x r
/-- may be a key of the kind t -/
class EnT (α : Type) [Enc α] : Prop where
  tk : ∀ a : α, dkOf (E a) = some .t
instance : EnT (Nat × Nat) := ⟨fun a => by
  show (if (P.tup [.int a.1, .int a.2]).kd ≤ 8 then some DK.t else none) = _
  rw [if_pos (by show max 0 (max 0 0) + 1 ≤ 8; decide)]⟩
instance : EnT (List Nat) := ⟨fun a => by
  have h := kd_E a
  rw [E_list] at h ⊢
  show (if (P.tup (a.map E)).kd ≤ 8 then some DK.t else none) = _
  rw [if_pos (by have : Enc.d (List Nat) = 1 := rfl; omega)]⟩
variable {α β : Type} [Enc α] [Enc β] [EnT α]
@[simp] theorem bel_DD {α β : Type} [Enc α] [Enc β] {n : Nat} {xs : List (α × β)} : (DD xs).bel n = true := by
  cases xs <;> simp [DD, MO.bel, A.bel]
theorem ask_DD {x : α} {k : DK} (hk : k = .e ∨ k = .t) : askable k (E x) = true := by
  unfold askable
  rw [EnT.tk]
  rcases hk with rfl | rfl <;> rfl
theorem look_map {x : α} [DecidableEq α] : ∀ kvs : List (α × β), look (kvs.map fun p => (E p.1, A.p (E p.2))) (E x) = (lkp x kvs).map fun y => .p (E y)
  | [] => rfl
  | (a, b) :: r => by
    rw [List.map_cons, look, lkp, look_map r]
    by_cases h : a = x
    · subst h; simp
    · have : ¬ E a = E x := fun z => h (E_inj.mp z)
      simp [this, h]
theorem memO_DD [DecidableEq α] {x : α} {kvs : List (α × β)} : memO (E x) (some (DD kvs)) = some (lkp x kvs).isSome := by
  cases kvs with
  | nil =>
    show (if askable .e (E x) then _ else _) = _
    rw [ask_DD (.inl rfl)]
    rfl
  | cons p kvs =>
    show (if askable .t (E x) then some (look ((p :: kvs).map fun p => (E p.1, A.p (E p.2))) (E x)).isSome else _) = _
    rw [ask_DD (.inr rfl), look_map]
    simp
@[simp] theorem memO_Dnn {β : Type} [Enc β] {a b : Nat} {kvs : List ((Nat × Nat) × β)} : memO (.tup [.int (a : Int), .int (b : Int)]) (some (DD kvs)) = some (lkp (a, b) kvs).isSome := memO_DD (x := (a, b))
def setO (bs : List Nat) (j : Nat) (key : P) (v : A) (st : St) : Option MO → Out Unit
  | some (.lst xs) => if mayLay bs j v = true then (match key with
      | .int i => (match idx xs.length i with
        | some n => .ok () (st.set j (.lst (xs.set n v)))
        | none => .stuck)
      | _ => .stuck) else .stuck
  | some (.dct k kvs) => if mayLay bs j v = true then (if askable k key && decide (kvs.length < szl) then (match dkOf key with
        | some k' => .ok () (st.set j (.dct k' (putKV kvs key v)))
        | none => .stuck) else .stuck) else .stuck
  | _ => .stuck
@[simp] theorem setix_J {key : P} {v : A} : setix bs (.ref j) (.p key) v st = setO bs j key v st st[j]? := by
  cases h : st[j]? with
  | none => simp [setix, setO, h]
  | some o => cases o <;> simp [setix, setO, h] <;> rfl
theorem put_new [DecidableEq α] {x : α} {y : β} : ∀ kvs : List (α × β), lkp x kvs = none → putKV (kvs.map fun p => (E p.1, A.p (E p.2))) (E x) (.p (E y)) = (kvs ++ [(x, y)]).map fun p => (E p.1, A.p (E p.2))
  | [], _ => rfl
  | (a, b) :: r, h => by
    rw [lkp] at h
    by_cases e : a = x
    · rw [if_pos e] at h; cases h
    · have n : ¬ E a = E x := fun z => e (E_inj.mp z)
      rw [if_neg e] at h
      rw [List.map_cons, putKV, if_neg n, put_new r h]
      rfl
theorem setO_new [DecidableEq α] {x : α} {y : β} {kvs : List (α × β)} (h : lkp x kvs = none) (hl : kvs.length < szl) : setO bs j (E x) (.p (E y)) st (some (DD kvs)) = .ok () (st.set j (DD (kvs ++ [(x, y)]))) := by
  cases kvs with
  | nil =>
    show (if mayLay bs j (.p (E y)) = true then (if askable .e (E x) && decide (0 < szl) then (match dkOf (E x) with
        | some k' => Out.ok () (st.set j (.dct k' (putKV [] (E x) (.p (E y)))))
        | none => .stuck) else .stuck) else .stuck) = _
    rw [mayLay_p, ask_DD (.inl rfl), EnT.tk]
    rfl
  | cons p kvs =>
    show (if mayLay bs j (.p (E y)) = true then (if askable .t (E x) && decide (((p :: kvs).map fun p : α × β => (E p.1, A.p (E p.2))).length < szl) then (match dkOf (E x) with
        | some k' => Out.ok () (st.set j (.dct k' (putKV ((p :: kvs).map fun p : α × β => (E p.1, A.p (E p.2))) (E x) (.p (E y)))))
        | none => .stuck) else .stuck) else .stuck) = _
    rw [mayLay_p, ask_DD (.inr rfl), EnT.tk, List.length_map, put_new _ h]
    simp only [if_true, Bool.true_and]
    rw [if_pos (by simpa using hl)]
    rfl
@[simp] theorem setO_nn {a b c : Nat} {kvs : List ((Nat × Nat) × Nat)} (h : lkp (a, b) kvs = none) (hl : kvs.length < szl) : setO bs j (.tup [.int (a : Int), .int (b : Int)]) (.p (.int (c : Int))) st (some (DD kvs)) = .ok () (st.set j (DD (kvs ++ [((a, b), c)]))) := setO_new (x := (a, b)) (y := c) h hl
def lstiO (st : St) : Option MO → Out A
  | some (.dct _ kvs) => .ok (.ref st.length) (st ++ [.lst (kvs.map fun p => A.mk [.p p.1, p.2])])
  | _ => .stuck
@[simp] theorem lsti_J : lstiA (.ref j) st = lstiO st st[j]? := by
  cases h : st[j]? with
  | none => simp [lstiA, lstiO, h]
  | some o => cases o <;> simp [lstiA, lstiO, h]
omit [EnT α] in
@[simp] theorem lstiO_DD {kvs : List (α × β)} : lstiO st (some (DD kvs)) = .ok (.ref st.length) (st ++ [LL kvs]) := by
  have e : (kvs.map fun p => (E p.1, A.p (E p.2))).map (fun p => A.mk [.p p.1, p.2]) = kvs.map fun p => A.p (E p) := by
    rw [List.map_map]
    apply List.map_congr_left
    intro p _
    rfl
  cases kvs with
  | nil => rfl
  | cons p kvs =>
    show Out.ok _ (st ++ [.lst (((p :: kvs).map fun p => (E p.1, A.p (E p.2))).map (fun p => A.mk [.p p.1, p.2]))]) = _
    rw [e]; rfl
end
end Fc

set_option Elab.async false
set_option linter.all false
set_option maxRecDepth 100000
set_option maxHeartbeats 4000000
namespace K92
open PySem Fc
/-- is_number -/
def b0 : S := .seq (.ret (.andl (.cons (.isi (.var 0) .int) (.cons (.not (.isi (.var 0) .bool)) .nil)))) .skip
def N0 : List Str := ["value"]
def f0 : FD := ⟨1, 1, b0⟩
/-- is_between -/
def b1 : S := .seq (.ret (.andl (.cons (.call 0 (.cons (.var 0) .nil)) (.cons (.chain .le .le (.var 1) (.var 0) (.var 2)) .nil)))) .skip
def N1 : List Str := ["value", "least", "most"]
def f1 : FD := ⟨3, 3, b1⟩
/-- check_number -/
def b2 : S := .seq (.ite (.not (.call 1 (.cons (.var 0) (.cons (.var 1) (.cons (.var 2) .nil))))) (.seq (.raise 1 (.cons (.var 0) .nil))
  .skip) .skip) .skip
def N2 : List Str := ["value", "least", "most"]
def f2 : FD := ⟨3, 3, b2⟩
def l3_1 : S := (.seq (.ite (.not (.call 1 (.cons (.var 2) (.cons (.k (.int 0)) (.cons (.bin .sub (.var 1) (.k (.int 1))) .nil))))) (.seq (.ret (.k (.bl false)))
  .skip) .skip)
  .skip)
def b3_2 : S := .seq (.ret (.k (.bl true))) .skip
def b3_1 : S := .seq (.for_ [2] (.var 0) l3_1) b3_2
/-- are_letters -/
def b3 : S := .seq (.ite (.not (.isi (.var 0) .tuple)) (.seq (.ret (.k (.bl false)))
  .skip) .skip) b3_1
def N3 : List Str := ["value", "letters", "one"]
def f3 : FD := ⟨2, 3, b3⟩
/-- is_row -/
def b4 : S := .seq (.ret (.andl (.cons (.call 3 (.cons (.var 0) (.cons (.var 1) .nil))) (.cons (.cmp .le (.b1 .len (.var 0)) (.glob "ROW_LENGTH" (.int 300))) .nil)))) .skip
def N4 : List Str := ["value", "letters"]
def f4 : FD := ⟨2, 2, b4⟩
/-- is_pair -/
def b5 : S := .seq (.ret (.andl (.cons (.isi (.var 0) .tuple) (.cons (.cmp .eq (.b1 .len (.var 0)) (.k (.int 2))) .nil)))) .skip
def N5 : List Str := ["value"]
def f5 : FD := ⟨1, 1, b5⟩
def l6_1 : S := (.seq (.ite (.not (.call 7 (.cons (.ix (.var 2) (.var 3)) (.cons (.b1 .len (.var 0)) .nil)))) (.seq (.raise 2 (.cons (.k (.str "cell")) (.cons (.tup (.cons (.var 1) (.cons (.var 3) .nil))) .nil)))
  .skip) .skip)
  .skip)
def l6_2 : S := (.seq (.set 2 (.ix (.var 0) (.var 1)))
  (.seq (.ite (.orl (.cons (.not (.isi (.var 2) .tuple)) (.cons (.not (.chain .le .le (.k (.int 1)) (.b1 .len (.var 2)) (.glob "LETTERS" (.int 6)))) .nil))) (.seq (.raise 2 (.cons (.k (.str "standing")) (.cons (.tup (.cons (.var 1) .nil)) .nil)))
  .skip) .skip)
  (.seq (.ite (.cmp .ne (.b1 .len (.var 2)) (.b1 .len (.ix (.var 0) (.k (.int 0))))) (.seq (.raise 2 (.cons (.k (.str "standing")) (.cons (.tup (.cons (.var 1) .nil)) .nil)))
  .skip) .skip)
  (.seq (.for_ [3] (.rng (.k (.int 0)) (.b1 .len (.var 2)) (.k (.int 1))) l6_1)
  .skip))))
def b6_1 : S := .seq (.for_ [1] (.rng (.k (.int 0)) (.b1 .len (.var 0)) (.k (.int 1))) l6_2) .skip
/-- check_machine -/
def b6 : S := .seq (.ite (.orl (.cons (.not (.isi (.var 0) .tuple)) (.cons (.not (.chain .le .le (.k (.int 1)) (.b1 .len (.var 0)) (.glob "STANDINGS" (.int 64)))) .nil))) (.seq (.raise 2 (.cons (.k (.str "machine")) (.cons (.tup .nil) .nil)))
  .skip) .skip) b6_1
def N6 : List Str := ["machine", "s", "standing", "x"]
def f6 : FD := ⟨1, 4, b6⟩
/-- is_cell -/
def b7 : S := .seq (.ret (.andl (.cons (.call 5 (.cons (.var 0) .nil)) (.cons (.call 1 (.cons (.ix (.var 0) (.k (.int 0))) (.cons (.k (.int 0)) (.cons (.glob "ANSWERS" (.int 99)) .nil)))) (.cons (.call 1 (.cons (.ix (.var 0) (.k (.int 1))) (.cons (.k (.int 0)) (.cons (.bin .sub (.var 1) (.k (.int 1))) .nil)))) .nil))))) .skip
def N7 : List Str := ["cell", "standings"]
def f7 : FD := ⟨2, 2, b7⟩
def b8_1 : S := .seq (.ret (.bin .add (.bin .add (.slice (.var 0) .nil (.var 1)) (.tup (.cons (.var 4) .nil))) (.slice (.var 0) (.bin .add (.var 1) (.k (.int 1))) .nil))) .skip
/-- with_cell -/
def b8 : S := .seq (.set 4 (.bin .add (.bin .add (.slice (.ix (.var 0) (.var 1)) .nil (.var 2)) (.tup (.cons (.var 3) .nil))) (.slice (.ix (.var 0) (.var 1)) (.bin .add (.var 2) (.k (.int 1))) .nil))) b8_1
def N8 : List Str := ["machine", "s", "x", "cell", "standing"]
def f8 : FD := ⟨4, 5, b8⟩
def l9_1 : S := (.seq (.ite (.not (.call 1 (.cons (.var 2) (.cons (.k (.int 0)) (.cons (.glob "ANSWERS" (.int 99)) .nil))))) (.seq (.ret (.k (.bl false)))
  .skip) .skip)
  .skip)
def b9_3 : S := .seq (.ret (.k (.bl true))) .skip
def b9_2 : S := .seq (.for_ [2] (.ix (.var 0) (.k (.int 1))) l9_1) b9_3
def b9_1 : S := .seq (.ite (.orl (.cons (.not (.isi (.ix (.var 0) (.k (.int 1))) .tuple)) (.cons (.cmp .ne (.b1 .len (.ix (.var 0) (.k (.int 1)))) (.b1 .len (.ix (.var 0) (.k (.int 0))))) .nil))) (.seq (.ret (.k (.bl false)))
  .skip) .skip) b9_2
/-- is_record -/
def b9 : S := .seq (.ite (.orl (.cons (.not (.call 5 (.cons (.var 0) .nil))) (.cons (.not (.call 4 (.cons (.ix (.var 0) (.k (.int 0))) (.cons (.var 1) .nil)))) .nil))) (.seq (.ret (.k (.bl false)))
  .skip) .skip) b9_1
def N9 : List Str := ["value", "letters", "answer"]
def f9 : FD := ⟨2, 3, b9⟩
def l10_1 : S := (.seq (.ite (.not (.call 9 (.cons (.ix (.var 0) (.var 2)) (.cons (.var 1) .nil)))) (.seq (.raise 3 (.cons (.var 2) .nil))
  .skip) .skip)
  .skip)
def b10_2 : S := .seq (.for_ [2] (.rng (.k (.int 0)) (.b1 .len (.var 0)) (.k (.int 1))) l10_1) .skip
def b10_1 : S := .seq (.ite (.orl (.cons (.not (.isi (.var 0) .tuple)) (.cons (.cmp .gt (.b1 .len (.var 0)) (.glob "LOT_SIZE" (.int 128))) .nil))) (.seq (.raise 3 (.cons (.neg (.k (.int 1))) .nil))
  .skip) .skip) b10_2
/-- check_log -/
def b10 : S := .seq (.ex (.call 2 (.cons (.var 1) (.cons (.k (.int 1)) (.cons (.glob "LETTERS" (.int 6)) .nil))))) b10_1
def N10 : List Str := ["log", "letters", "place"]
def f10 : FD := ⟨2, 3, b10⟩
def b11_4 : S := .seq (.ret (.cmp .ne (.ix (.ix (.var 0) (.var 2)) (.var 3)) (.tup (.cons (.var 4) (.cons (.var 5) .nil))))) .skip
def b11_3 : S := .seq (.ite (.orl (.cons (.not (.call 1 (.cons (.var 4) (.cons (.k (.int 0)) (.cons (.glob "ANSWERS" (.int 99)) .nil))))) (.cons (.not (.call 1 (.cons (.var 5) (.cons (.k (.int 0)) (.cons (.bin .sub (.b1 .len (.var 0)) (.k (.int 1))) .nil))))) .nil))) (.seq (.ret (.k (.bl false)))
  .skip) .skip) b11_4
def b11_2 : S := .seq (.ite (.orl (.cons (.not (.call 1 (.cons (.var 2) (.cons (.k (.int 0)) (.cons (.bin .sub (.b1 .len (.var 0)) (.k (.int 1))) .nil))))) (.cons (.not (.call 1 (.cons (.var 3) (.cons (.k (.int 0)) (.cons (.bin .sub (.b1 .len (.ix (.var 0) (.k (.int 0)))) (.k (.int 1))) .nil))))) .nil))) (.seq (.ret (.k (.bl false)))
  .skip) .skip) b11_3
def b11_1 : S := .seq (.sett [2, 3, 4, 5] (.var 1)) b11_2
/-- is_slip -/
def b11 : S := .seq (.ite (.orl (.cons (.not (.isi (.var 1) .tuple)) (.cons (.cmp .ne (.b1 .len (.var 1)) (.k (.int 4))) .nil))) (.seq (.ret (.k (.bl false)))
  .skip) .skip) b11_1
def N11 : List Str := ["design", "value", "s", "x", "answer", "goal"]
def f11 : FD := ⟨2, 6, b11⟩
def l12_1 : S := (.seq (.ite (.not (.cmp .lt (.slice (.ix (.var 0) (.var 1)) .nil (.k (.int 2))) (.slice (.ix (.var 0) (.bin .add (.var 1) (.k (.int 1)))) .nil (.k (.int 2))))) (.seq (.ret (.k (.bl false)))
  .skip) .skip)
  .skip)
def b12_1 : S := .seq (.ret (.k (.bl true))) .skip
/-- has_order -/
def b12 : S := .seq (.for_ [1] (.rng (.k (.int 0)) (.bin .sub (.b1 .len (.var 0)) (.k (.int 1))) (.k (.int 1))) l12_1) b12_1
def N12 : List Str := ["slips", "k"]
def f12 : FD := ⟨1, 2, b12⟩
def q13_1 : C := .cq (.call 11 (.cons (.var 0) (.cons (.var 2) .nil))) [2] (.var 1) (.k (.bl true)) [2]
def b13_1 : S := .seq (.ret (.andl (.cons (.bq .all q13_1) (.cons (.call 12 (.cons (.var 1) .nil)) .nil)))) .skip
/-- is_fault -/
def b13 : S := .seq (.ite (.orl (.cons (.not (.isi (.var 1) .tuple)) (.cons (.cmp .gt (.b1 .len (.var 1)) (.glob "SLIPS" (.int 8))) .nil))) (.seq (.ret (.k (.bl false)))
  .skip) .skip) b13_1
def N13 : List Str := ["design", "value", "one"]
def f13 : FD := ⟨2, 3, b13⟩
def l14_1 : S := (.seq (.set 2 (.call 8 (.cons (.var 2) (.cons (.var 3) (.cons (.var 4) (.cons (.tup (.cons (.var 5) (.cons (.var 6) .nil))) .nil))))))
  .skip)
def b14_2 : S := .seq (.ret (.var 2)) .skip
def b14_1 : S := .seq (.for_ [3, 4, 5, 6] (.var 1) l14_1) b14_2
/-- slip_all -/
def b14 : S := .seq (.set 2 (.var 0)) b14_1
def N14 : List Str := ["design", "fault", "machine", "s", "x", "answer", "goal"]
def f14 : FD := ⟨2, 7, b14⟩
def l15_1 : S := (.seq (.sett [6, 7] (.ix (.ix (.var 0) (.var 2)) (.ix (.var 4) (.var 3))))
  (.seq (.ite (.cmp .ne (.var 6) (.ix (.var 5) (.var 3))) (.seq (.ret (.var 3))
  .skip) .skip)
  (.seq (.set 2 (.var 7))
  .skip)))
def b15_3 : S := .seq (.ret (.k .non)) .skip
def b15_2 : S := .seq (.for_ [3] (.rng (.k (.int 0)) (.b1 .len (.var 4)) (.k (.int 1))) l15_1) b15_3
def b15_1 : S := .seq (.set 2 (.k (.int 0))) b15_2
/-- step_of_error -/
def b15 : S := .seq (.sett [4, 5] (.var 1)) b15_1
def N15 : List Str := ["machine", "record", "now", "step", "row", "given", "answer", "goal"]
def f15 : FD := ⟨2, 8, b15⟩
def l16_1 : S := (.seq (.set 3 (.call 15 (.cons (.var 0) (.cons (.ix (.var 1) (.var 2)) .nil))))
  (.seq (.ite (.cmp .isnot (.var 3) (.k .non)) (.seq (.ret (.tup (.cons (.var 2) (.cons (.var 3) .nil))))
  .skip) .skip)
  .skip))
def b16_1 : S := .seq (.ret (.k .non)) .skip
/-- first_error -/
def b16 : S := .seq (.for_ [2] (.rng (.k (.int 0)) (.b1 .len (.var 1)) (.k (.int 1))) l16_1) b16_1
def N16 : List Str := ["machine", "log", "place", "step"]
def f16 : FD := ⟨2, 4, b16⟩
def l17_1 : S := (.seq (.set 8 (.tup (.cons (.var 3) (.cons (.ix (.var 6) (.var 5)) .nil))))
  (.seq (.ite (.cmp .nmem (.var 8) (.var 4)) (.seq (.setix (.var 4) (.var 8) (.ix (.var 7) (.var 5)))
  .skip) .skip)
  (.seq (.set 3 (.ix (.ix (.ix (.var 0) (.var 3)) (.ix (.var 6) (.var 5))) (.k (.int 1))))
  .skip)))
def b17_4 : S := .seq (.ret (.lsti (.var 4))) .skip
def b17_3 : S := .seq (.for_ [5] (.rng (.k (.int 0)) (.bin .add (.var 2) (.k (.int 1))) (.k (.int 1))) l17_1) b17_4
def b17_2 : S := .seq (.set 4 .dnew) b17_3
def b17_1 : S := .seq (.set 3 (.k (.int 0))) b17_2
/-- used_cells -/
def b17 : S := .seq (.sett [6, 7] (.var 1)) b17_1
def N17 : List Str := ["machine", "record", "step", "now", "found", "place", "row", "given", "cell"]
def f17 : FD := ⟨3, 9, b17⟩
def l18_1 : S := (.seq (.ite (.cmp .ne (.ix (.ix (.var 0) (.var 11)) (.var 12)) (.tup (.cons (.var 9) (.cons (.var 10) .nil)))) (.seq (.ex (.m1 .append (.var 6) (.tup (.cons (.call 8 (.cons (.var 1) (.cons (.var 11) (.cons (.var 12) (.cons (.tup (.cons (.var 9) (.cons (.var 10) .nil))) .nil))))) (.cons (.bin .add (.var 2) (.tup (.cons (.var 8) .nil))) (.cons (.var 7) .nil))))))
  .skip) .skip)
  .skip)
def l18_2 : S := (.seq (.ite (.orl (.cons (.cmp .mem (.var 8) (.var 2)) (.cons (.cmp .mem (.var 8) (.var 3)) .nil))) (.seq .cnt
  .skip) .skip)
  (.seq (.sett [11, 12] (.var 8))
  (.seq (.for_ [10] (.rng (.k (.int 0)) (.b1 .len (.var 0)) (.k (.int 1))) l18_1)
  (.seq (.set 7 (.bin .add (.var 7) (.tup (.cons (.var 8) .nil))))
  .skip))))
def b18_3 : S := .seq (.ret (.srev (.var 6))) .skip
def b18_2 : S := .seq (.for_ [8, 9] (.call 17 (.cons (.var 1) (.cons (.var 4) (.cons (.var 5) .nil)))) l18_2) b18_3
def b18_1 : S := .seq (.set 7 (.var 3)) b18_2
/-- stages_of -/
def b18 : S := .seq (.set 6 (.lst .nil)) b18_1
def N18 : List Str := ["design", "machine", "changed", "barred", "record", "step", "stages", "closed", "cell", "answer", "goal", "s", "x"]
def f18 : FD := ⟨6, 13, b18⟩
def l19_1 : S := (.seq (.sett [6, 7, 8] (.m0 .pop (.var 4)))
  (.seq (.ite (.andl (.cons (.cmp .ne (.var 2) (.glob "ALL" (.int (-1)))) (.cons (.cmp .ge (.b1 .len (.var 7)) (.var 2)) .nil))) (.seq .cnt
  .skip) .skip)
  (.seq (.ite (.orl (.cons (.cmp .eq (.var 5) (.b1 .len (.var 3))) (.cons (.not (.call 5 (.cons (.ix (.var 3) (.var 5)) .nil))) (.cons (.not (.call 1 (.cons (.ix (.ix (.var 3) (.var 5)) (.k (.int 0))) (.cons (.k (.int 0)) (.cons (.bin .sub (.b1 .len (.var 1)) (.k (.int 1))) .nil))))) .nil)))) (.seq (.ret (.k (.bl false)))
  .skip) .skip)
  (.seq (.sett [9, 10] (.ix (.var 3) (.var 5)))
  (.seq (.ite (.orl (.cons (.not (.call 1 (.cons (.var 10) (.cons (.k (.int 0)) (.cons (.bin .sub (.b1 .len (.ix (.ix (.var 1) (.var 9)) (.k (.int 0)))) (.k (.int 1))) .nil))))) (.cons (.cmp .ne (.call 15 (.cons (.var 6) (.cons (.ix (.var 1) (.var 9)) .nil))) (.var 10)) .nil))) (.seq (.ret (.k (.bl false)))
  .skip) .skip)
  (.seq (.aug 5 .add (.k (.int 1)))
  (.seq (.ex (.m1 .extend (.var 4) (.call 18 (.cons (.var 0) (.cons (.var 6) (.cons (.var 7) (.cons (.var 8) (.cons (.ix (.var 1) (.var 9)) (.cons (.var 10) .nil)))))))))
  .skip)))))))
def b19_4 : S := .seq (.ret (.cmp .eq (.var 5) (.b1 .len (.var 3)))) .skip
def b19_3 : S := .seq (.whil (.cmp .gt (.b1 .len (.var 4)) (.k (.int 0))) l19_1) b19_4
def b19_2 : S := .seq (.set 5 (.k (.int 0))) b19_3
def b19_1 : S := .seq (.set 4 (.lst (.cons (.tup (.cons (.var 0) (.cons (.tup .nil) (.cons (.tup .nil) .nil)))) .nil))) b19_2
/-- is_refused -/
def b19 : S := .seq (.ite (.not (.isi (.var 3) .tuple)) (.seq (.ret (.k (.bl false)))
  .skip) .skip) b19_1
def N19 : List Str := ["design", "log", "many", "paper", "waiting", "met", "machine", "changed", "barred", "place", "step"]
def f19 : FD := ⟨4, 11, b19⟩
def b20_3 : S := .seq (.ret (.call 19 (.cons (.var 0) (.cons (.var 1) (.cons (.var 2) (.cons (.var 3) .nil)))))) .skip
def b20_2 : S := .seq (.ex (.call 2 (.cons (.var 2) (.cons (.glob "ALL" (.int (-1))) (.cons (.glob "SLIPS" (.int 8)) .nil))))) b20_3
def b20_1 : S := .seq (.ex (.call 10 (.cons (.var 1) (.cons (.b1 .len (.ix (.var 0) (.k (.int 0)))) .nil)))) b20_2
/-- judge_unexplained -/
def b20 : S := .seq (.ex (.call 6 (.cons (.var 0) .nil))) b20_1
def N20 : List Str := ["design", "log", "many", "paper"]
def f20 : FD := ⟨4, 4, b20⟩
def b21_6 : S := .seq (.ret (.call 19 (.cons (.var 0) (.cons (.var 1) (.cons (.b1 .len (.ix (.var 2) (.k (.int 1)))) (.cons (.ix (.var 2) (.k (.int 2))) .nil)))))) .skip
def b21_5 : S := .seq (.ite (.cmp .isnot (.call 16 (.cons (.call 14 (.cons (.var 0) (.cons (.ix (.var 2) (.k (.int 1))) .nil))) (.cons (.var 1) .nil))) (.k .non)) (.seq (.ret (.k (.bl false)))
  .skip) .skip) b21_6
def b21_4 : S := .seq (.ite (.orl (.cons (.cmp .ne (.ix (.var 2) (.k (.int 0))) (.k (.str "slips"))) (.cons (.cmp .ne (.b1 .len (.var 2)) (.k (.int 3))) (.cons (.not (.call 13 (.cons (.var 0) (.cons (.ix (.var 2) (.k (.int 1))) .nil)))) .nil)))) (.seq (.ret (.k (.bl false)))
  .skip) .skip) b21_5
def b21_3 : S := .seq (.ite (.andl (.cons (.cmp .eq (.ix (.var 2) (.k (.int 0))) (.k (.str "none"))) (.cons (.cmp .eq (.b1 .len (.var 2)) (.k (.int 2))) .nil))) (.seq (.ret (.call 19 (.cons (.var 0) (.cons (.var 1) (.cons (.glob "ALL" (.int (-1))) (.cons (.ix (.var 2) (.k (.int 1))) .nil))))))
  .skip) .skip) b21_4
def b21_2 : S := .seq (.ite (.orl (.cons (.not (.isi (.var 2) .tuple)) (.cons (.cmp .lt (.b1 .len (.var 2)) (.k (.int 2))) .nil))) (.seq (.ret (.k (.bl false)))
  .skip) .skip) b21_3
def b21_1 : S := .seq (.ex (.call 10 (.cons (.var 1) (.cons (.b1 .len (.ix (.var 0) (.k (.int 0)))) .nil)))) b21_2
/-- judge_explained -/
def b21 : S := .seq (.ex (.call 6 (.cons (.var 0) .nil))) b21_1
def N21 : List Str := ["design", "log", "told"]
def f21 : FD := ⟨3, 3, b21⟩
/-- _law_is_int -/
def b22 : S := .seq (.ret (.andl (.cons (.isi (.var 0) .int) (.cons (.not (.isi (.var 0) .bool)) .nil)))) .skip
def N22 : List Str := ["value"]
def f22 : FD := ⟨1, 1, b22⟩
def b23_1 : S := .seq (.ret (.cmp .is (.var 0) (.k (.bl false)))) .skip
/-- _law_tells -/
def b23 : S := .seq (.ite (.var 1) (.seq (.ret (.cmp .is (.var 0) (.k (.bl true))))
  .skip) .skip) b23_1
def N23 : List Str := ["value", "wanted"]
def f23 : FD := ⟨2, 2, b23⟩
def q24_1 : C := .cq (.b1 .int (.var 6)) [6] (.slice (.var 0) .nil (.k (.int 63))) (.k (.bl true)) [6]
def b24_7 : S := .seq (.ret (.lst (.cons (.var 2) (.cons (.var 4) (.cons (.var 5) (.cons (.k (.int 0)) .nil)))))) .skip
def b24_6 : S := .seq (.set 5 (.bin .add (.bin .mod (.b1 .int (.bin .add (.bin .mul (.var 2) (.k (.int 2))) (.var 3))) (.k (.int 2147483629))) (.bin .mul (.k (.int 31)) (.var 1)))) b24_7
def b24_5 : S := .seq (.ite (.cmp .ge (.var 2) (.bin .pow (.k (.int 10)) (.k (.int 18)))) (.seq (.set 4 (.k (.int 1)))
  .skip) .skip) b24_6
def b24_4 : S := .seq (.set 4 (.k (.int 0))) b24_5
def b24_3 : S := .seq (.ite (.cmp .lt (.var 2) (.k (.int 0))) (.seq (.set 2 (.neg (.var 2)))
  (.seq (.set 3 (.k (.int 1)))
  .skip)) .skip) b24_4
def b24_2 : S := .seq (.set 3 (.k (.int 0))) b24_3
def b24_1 : S := .seq (.ite (.andl (.cons (.cmp .lt (.var 1) (.b1 .len (.var 0))) (.cons (.cmp .lt (.var 1) (.k (.int 63))) .nil))) (.seq (.set 2 (.b1 .int (.ix (.var 0) (.var 1))))
  .skip) .skip) b24_2
/-- _law_bag -/
def b24 : S := .seq (.set 2 (.bin .add (.bin .add (.bin .mod (.b1 .int (.bq .sum q24_1)) (.k (.int 1000003))) (.bin .mul (.k (.int 7919)) (.var 1))) (.k (.int 1)))) b24_1
def N24 : List Str := ["script", "k", "number", "sign", "great", "seed", "cell"]
def f24 : FD := ⟨2, 7, b24⟩
def b25_4 : S := .seq (.ret (.bin .mod (.b1 .int (.bin .fdiv (.var 3) (.k (.int 7)))) (.var 1))) .skip
def b25_3 : S := .seq (.set 3 (.bin .mod (.b1 .int (.bin .add (.bin .add (.bin .mul (.var 2) (.k (.int 40692))) (.bin .mul (.bin .fdiv (.var 2) (.k (.int 65536))) (.k (.int 13)))) (.bin .mul (.ix (.var 0) (.k (.int 3))) (.k (.int 8191))))) (.k (.int 2147483399)))) b25_4
def b25_2 : S := .seq (.set 2 (.bin .mod (.b1 .int (.bin .add (.bin .add (.bin .mul (.bin .add (.ix (.var 0) (.k (.int 2))) (.bin .mul (.k (.int 7919)) (.ix (.var 0) (.k (.int 3))))) (.k (.int 48271))) (.bin .mul (.bin .mul (.ix (.var 0) (.k (.int 3))) (.ix (.var 0) (.k (.int 3)))) (.k (.int 69621)))) (.k (.int 11)))) (.k (.int 2147483647)))) b25_3
def b25_1 : S := .seq (.setix (.var 0) (.k (.int 3)) (.bin .add (.ix (.var 0) (.k (.int 3))) (.k (.int 1)))) b25_2
/-- _law_take -/
def b25 : S := .seq (.ite (.andl (.cons (.cmp .eq (.ix (.var 0) (.k (.int 1))) (.k (.int 1))) (.cons (.cmp .gt (.ix (.var 0) (.k (.int 0))) (.k (.int 0))) .nil))) (.seq (.set 4 (.bin .mod (.b1 .int (.ix (.var 0) (.k (.int 0)))) (.var 1)))
  (.seq (.setix (.var 0) (.k (.int 0)) (.bin .fdiv (.b1 .int (.ix (.var 0) (.k (.int 0)))) (.var 1)))
  (.seq (.ret (.var 4))
  .skip))) .skip) b25_1
def N25 : List Str := ["bag", "many", "one", "two", "digit"]
def f25 : FD := ⟨2, 5, b25⟩
def l26_1 : S := (.seq (.ex (.m1 .append (.var 6) (.tup (.cons (.call 25 (.cons (.var 0) (.cons (.var 3) .nil))) (.cons (.call 25 (.cons (.var 0) (.cons (.var 1) .nil))) .nil)))))
  .skip)
def l26_2 : S := .gc (.seq (.set 6 (.lst .nil))
  (.seq (.for_ [7] (.rng (.k (.int 0)) (.var 2) (.k (.int 1))) l26_1)
  (.seq (.ex (.m1 .append (.var 4) (.b1 .tuple (.var 6))))
  .skip)))
def b26_2 : S := .seq (.ret (.b1 .tuple (.var 4))) .skip
def b26_1 : S := .seq (.for_ [5] (.rng (.k (.int 0)) (.var 1) (.k (.int 1))) l26_2) b26_2
/-- _law_machine -/
def b26 : S := .seq (.set 4 (.lst .nil)) b26_1
def N26 : List Str := ["bag", "standings", "letters", "given", "found", "s", "cells", "x"]
def f26 : FD := ⟨4, 8, b26⟩
def l27_1 : S := (.seq (.set 8 (.bin .mod (.b1 .int (.bin .add (.var 5) (.k (.int 1)))) (.var 1)))
  (.seq (.ite (.cmp .gt (.var 7) (.k (.int 0))) (.seq (.set 8 (.call 25 (.cons (.var 0) (.cons (.var 1) .nil))))
  .skip) .skip)
  (.seq (.set 9 (.call 25 (.cons (.var 0) (.cons (.var 3) .nil))))
  (.seq (.ite (.andl (.cons (.cmp .eq (.var 5) (.bin .sub (.var 1) (.k (.int 1)))) (.cons (.cmp .eq (.var 7) (.k (.int 0))) .nil))) (.seq (.set 9 (.var 3))
  .skip) .skip)
  (.seq (.ex (.m1 .append (.var 6) (.tup (.cons (.var 9) (.cons (.var 8) .nil)))))
  .skip)))))
def l27_2 : S := .gc (.seq (.set 6 (.lst .nil))
  (.seq (.for_ [7] (.rng (.k (.int 0)) (.var 2) (.k (.int 1))) l27_1)
  (.seq (.ex (.m1 .append (.var 4) (.b1 .tuple (.var 6))))
  .skip)))
def b27_2 : S := .seq (.ret (.b1 .tuple (.var 4))) .skip
def b27_1 : S := .seq (.for_ [5] (.rng (.k (.int 0)) (.var 1) (.k (.int 1))) l27_2) b27_2
/-- _law_ring -/
def b27 : S := .seq (.set 4 (.lst .nil)) b27_1
def N27 : List Str := ["bag", "standings", "letters", "given", "found", "s", "cells", "x", "goal", "told"]
def f27 : FD := ⟨4, 10, b27⟩
def b28_1 : S := .seq (.ret (.call 26 (.cons (.var 0) (.cons (.var 1) (.cons (.var 2) (.cons (.var 3) .nil)))))) .skip
/-- _law_design -/
def b28 : S := .seq (.ite (.cmp .eq (.call 25 (.cons (.var 0) (.cons (.k (.int 2)) .nil))) (.k (.int 0))) (.seq (.ret (.call 27 (.cons (.var 0) (.cons (.var 1) (.cons (.var 2) (.cons (.var 3) .nil))))))
  .skip) .skip) b28_1
def N28 : List Str := ["bag", "standings", "letters", "given"]
def f28 : FD := ⟨4, 4, b28⟩
def q29_1 : C := .cq (.call 25 (.cons (.var 0) (.cons (.var 1) .nil))) [3] (.rng (.k (.int 0)) (.call 25 (.cons (.var 0) (.cons (.bin .add (.var 2) (.k (.int 1))) .nil))) (.k (.int 1))) (.k (.bl true)) [3]
/-- _law_row -/
def b29 : S := .seq (.ret (.bq .tuple q29_1)) .skip
def N29 : List Str := ["bag", "letters", "longest", "step"]
def f29 : FD := ⟨3, 4, b29⟩
def q30_1 : C := .cq (.call 29 (.cons (.var 0) (.cons (.var 1) (.cons (.var 3) .nil)))) [4] (.rng (.k (.int 0)) (.var 2) (.k (.int 1))) (.k (.bl true)) [4]
/-- _law_lot -/
def b30 : S := .seq (.ret (.bq .tuple q30_1)) .skip
def N30 : List Str := ["bag", "letters", "many", "longest", "step"]
def f30 : FD := ⟨4, 5, b30⟩
def l31_1 : S := (.seq (.ex (.m1 .append (.var 4) (.ix (.ix (.ix (.var 0) (.var 3)) (.var 5)) (.k (.int 0)))))
  (.seq (.set 3 (.ix (.ix (.ix (.var 0) (.var 3)) (.var 5)) (.k (.int 1))))
  .skip))
def b31_3 : S := .seq (.ret (.tup (.cons (.b1 .tuple (.var 4)) (.cons (.var 3) .nil)))) .skip
def b31_2 : S := .seq (.for_ [5] (.var 2) l31_1) b31_3
def b31_1 : S := .seq (.set 4 (.lst .nil)) b31_2
/-- _law_run -/
def b31 : S := .seq (.set 3 (.var 1)) b31_1
def N31 : List Str := ["machine", "start", "row", "now", "told", "x"]
def f31 : FD := ⟨3, 6, b31⟩
/-- _law_answers -/
def b32 : S := .seq (.ret (.ix (.call 31 (.cons (.var 0) (.cons (.k (.int 0)) (.cons (.var 1) .nil)))) (.k (.int 0)))) .skip
def N32 : List Str := ["machine", "row"]
def f32 : FD := ⟨2, 2, b32⟩
def l33_1 : S := (.seq (.ite (.cmp .ne (.ix (.var 2) (.var 3)) (.ix (.ix (.var 1) (.k (.int 1))) (.var 3))) (.seq (.ret (.var 3))
  .skip) .skip)
  .skip)
def b33_2 : S := .seq (.ret (.k .non)) .skip
def b33_1 : S := .seq (.for_ [3] (.rng (.k (.int 0)) (.b1 .len (.var 2)) (.k (.int 1))) l33_1) b33_2
/-- _law_error -/
def b33 : S := .seq (.set 2 (.call 32 (.cons (.var 0) (.cons (.ix (.var 1) (.k (.int 0))) .nil)))) b33_1
def N33 : List Str := ["machine", "record", "told", "k"]
def f33 : FD := ⟨2, 4, b33⟩
def q34_1 : C := .cq (.ix (.var 16) (.k (.int 0))) [16] (.var 7) (.k (.bl true)) [16]
def l34_1 : S := (.seq (.set 11 (.tup (.cons (.var 8) (.cons (.ix (.ix (.var 4) (.k (.int 0))) (.var 9)) .nil))))
  (.seq (.ite (.andl (.cons (.cmp .nmem (.var 11) (.var 2)) (.cons (.cmp .nmem (.var 11) (.var 3)) (.cons (.cmp .nmem (.var 11) (.comp q34_1)) .nil)))) (.seq (.ex (.m1 .append (.var 7) (.tup (.cons (.var 11) (.cons (.ix (.ix (.var 4) (.k (.int 1))) (.var 9)) .nil)))))
  .skip) .skip)
  (.seq (.set 8 (.ix (.ix (.ix (.var 1) (.var 8)) (.ix (.ix (.var 4) (.k (.int 0))) (.var 9))) (.k (.int 1))))
  .skip)))
def l34_2 : S := (.seq (.ite (.cmp .ne (.ix (.ix (.var 0) (.var 14)) (.var 15)) (.tup (.cons (.var 12) (.cons (.var 13) .nil)))) (.seq (.set 16 (.bin .add (.bin .add (.slice (.ix (.var 1) (.var 14)) .nil (.var 15)) (.tup (.cons (.tup (.cons (.var 12) (.cons (.var 13) .nil))) .nil))) (.slice (.ix (.var 1) (.var 14)) (.bin .add (.var 15) (.k (.int 1))) .nil)))
  (.seq (.ex (.m1 .append (.var 6) (.tup (.cons (.bin .add (.bin .add (.slice (.var 1) .nil (.var 14)) (.tup (.cons (.var 16) .nil))) (.slice (.var 1) (.bin .add (.var 14) (.k (.int 1))) .nil)) (.cons (.bin .add (.var 2) (.tup (.cons (.var 11) .nil))) (.cons (.var 10) .nil))))))
  .skip)) .skip)
  .skip)
def l34_3 : S := (.seq (.sett [14, 15] (.var 11))
  (.seq (.for_ [13] (.rng (.k (.int 0)) (.b1 .len (.var 0)) (.k (.int 1))) l34_2)
  (.seq (.set 10 (.bin .add (.var 10) (.tup (.cons (.var 11) .nil))))
  .skip)))
def b34_6 : S := .seq (.ret (.var 6)) .skip
def b34_5 : S := .seq (.for_ [11, 12] (.var 7) l34_3) b34_6
def b34_4 : S := .seq (.set 10 (.var 3)) b34_5
def b34_3 : S := .seq (.for_ [9] (.rng (.k (.int 0)) (.bin .add (.var 5) (.k (.int 1))) (.k (.int 1))) l34_1) b34_4
def b34_2 : S := .seq (.set 8 (.k (.int 0))) b34_3
def b34_1 : S := .seq (.set 7 (.lst .nil)) b34_2
/-- _law_below -/
def b34 : S := .seq (.set 6 (.lst .nil)) b34_1
def N34 : List Str := ["design", "machine", "changed", "barred", "record", "step", "stages", "free", "now", "k", "closed", "cell", "answer", "goal", "s", "x", "one"]
def f34 : FD := ⟨6, 17, b34⟩
def q35_1 : C := .cq (.var 10) [10] (.rng (.k (.int 0)) (.b1 .len (.var 2)) (.k (.int 1))) (.cmp .isnot (.call 33 (.cons (.var 6) (.cons (.ix (.var 2) (.var 10)) .nil))) (.k .non)) [10]
def l35_1 : S := (.seq (.sett [6, 7, 8] (.m1 .pop (.var 5) (.k (.int 0))))
  (.seq (.ite (.orl (.cons (.cmp .lt (.var 3) (.k (.int 0))) (.cons (.cmp .lt (.b1 .len (.var 7)) (.var 3)) .nil))) (.seq (.set 9 (.comp q35_1))
  (.seq (.ite (.orl (.cons (.cmp .eq (.b1 .len (.var 9)) (.k (.int 0))) (.cons (.cmp .eq (.b1 .len (.var 4)) (.k (.int 400))) .nil))) (.seq (.ret (.tup (.cons (.b1 .tuple (.var 4)) (.cons (.k (.bl false)) .nil))))
  .skip) .skip)
  (.seq (.set 10 (.ix (.var 9) (.call 25 (.cons (.var 0) (.cons (.b1 .len (.var 9)) .nil)))))
  (.seq (.set 11 (.call 33 (.cons (.var 6) (.cons (.ix (.var 2) (.var 10)) .nil))))
  (.seq (.ex (.m1 .append (.var 4) (.tup (.cons (.var 10) (.cons (.var 11) .nil)))))
  (.seq (.set 5 (.bin .add (.call 34 (.cons (.var 1) (.cons (.var 6) (.cons (.var 7) (.cons (.var 8) (.cons (.ix (.var 2) (.var 10)) (.cons (.var 11) .nil))))))) (.var 5)))
  .skip)))))) .skip)
  .skip))
def b35_3 : S := .seq (.ret (.tup (.cons (.b1 .tuple (.var 4)) (.cons (.k (.bl true)) .nil)))) .skip
def b35_2 : S := .seq (.whil (.cmp .gt (.b1 .len (.var 5)) (.k (.int 0))) l35_1) b35_3
def b35_1 : S := .seq (.set 5 (.lst (.cons (.tup (.cons (.var 1) (.cons (.tup .nil) (.cons (.tup .nil) .nil)))) .nil))) b35_2
/-- _law_refusal -/
def b35 : S := .seq (.set 4 (.lst .nil)) b35_1
def N35 : List Str := ["bag", "design", "log", "many", "paper", "todo", "machine", "changed", "barred", "wrong", "k", "step"]
def f35 : FD := ⟨4, 12, b35⟩
def l36_1 : S := (.seq (.sett [6, 7, 8] (.m1 .pop (.var 5) (.k (.int 0))))
  (.seq (.ite (.orl (.cons (.cmp .lt (.var 2) (.k (.int 0))) (.cons (.cmp .lt (.b1 .len (.var 7)) (.var 2)) .nil))) (.seq (.ite (.orl (.cons (.cmp .eq (.var 4) (.b1 .len (.var 3))) (.cons (.not (.isi (.ix (.var 3) (.var 4)) .tuple)) (.cons (.cmp .ne (.b1 .len (.ix (.var 3) (.var 4))) (.k (.int 2))) .nil)))) (.seq (.ret (.k (.bl false)))
  .skip) .skip)
  (.seq (.sett [9, 10] (.ix (.var 3) (.var 4)))
  (.seq (.ite (.orl (.cons (.not (.call 22 (.cons (.var 9) .nil))) (.cons (.not (.chain .le .lt (.k (.int 0)) (.var 9) (.b1 .len (.var 1)))) (.cons (.not (.call 22 (.cons (.var 10) .nil))) .nil)))) (.seq (.ret (.k (.bl false)))
  .skip) .skip)
  (.seq (.ite (.cmp .ne (.call 33 (.cons (.var 6) (.cons (.ix (.var 1) (.var 9)) .nil))) (.var 10)) (.seq (.ret (.k (.bl false)))
  .skip) .skip)
  (.seq (.set 4 (.bin .add (.var 4) (.k (.int 1))))
  (.seq (.set 5 (.bin .add (.call 34 (.cons (.var 0) (.cons (.var 6) (.cons (.var 7) (.cons (.var 8) (.cons (.ix (.var 1) (.var 9)) (.cons (.var 10) .nil))))))) (.var 5)))
  .skip)))))) .skip)
  .skip))
def b36_4 : S := .seq (.ret (.cmp .eq (.var 4) (.b1 .len (.var 3)))) .skip
def b36_3 : S := .seq (.whil (.cmp .gt (.b1 .len (.var 5)) (.k (.int 0))) l36_1) b36_4
def b36_2 : S := .seq (.set 5 (.lst (.cons (.tup (.cons (.var 0) (.cons (.tup .nil) (.cons (.tup .nil) .nil)))) .nil))) b36_3
def b36_1 : S := .seq (.set 4 (.k (.int 0))) b36_2
/-- _law_is_refusal -/
def b36 : S := .seq (.ite (.not (.isi (.var 3) .tuple)) (.seq (.ret (.k (.bl false)))
  .skip) .skip) b36_1
def N36 : List Str := ["design", "log", "many", "paper", "met", "todo", "machine", "changed", "barred", "k", "step"]
def f36 : FD := ⟨4, 11, b36⟩
def b37_8 : S := .seq (.ret (.bin .add (.bin .add (.slice (.var 1) .nil (.var 2)) (.tup (.cons (.tup (.cons (.var 5) (.cons (.var 4) .nil))) .nil))) (.slice (.var 1) (.bin .add (.var 2) (.k (.int 1))) .nil))) .skip
def b37_7 : S := .seq (.ite (.cmp .eq (.var 3) (.k (.int 3))) (.seq (.ret (.bin .add (.bin .add (.slice (.var 1) .nil (.var 2)) (.tup (.cons (.ix (.var 1) (.var 2)) .nil))) (.slice (.var 1) (.var 2) .nil)))
  .skip) .skip) b37_8
def b37_6 : S := .seq (.ite (.cmp .eq (.var 3) (.k (.int 2))) (.seq (.ret (.bin .add (.bin .add (.slice (.var 1) .nil (.var 2)) (.tup (.cons (.tup (.cons (.call 25 (.cons (.var 0) (.cons (.k (.int 4)) .nil))) (.cons (.var 5) .nil))) .nil))) (.slice (.var 1) (.bin .add (.var 2) (.k (.int 1))) .nil)))
  .skip) .skip) b37_7
def b37_5 : S := .seq (.ite (.cmp .eq (.var 3) (.k (.int 1))) (.seq (.ret (.bin .add (.bin .add (.slice (.var 1) .nil (.var 2)) (.tup (.cons (.tup (.cons (.var 4) (.cons (.bin .add (.var 5) (.k (.int 1))) .nil))) .nil))) (.slice (.var 1) (.bin .add (.var 2) (.k (.int 1))) .nil)))
  .skip) .skip) b37_6
def b37_4 : S := .seq (.ite (.cmp .eq (.var 3) (.k (.int 0))) (.seq (.ret (.bin .add (.slice (.var 1) .nil (.var 2)) (.slice (.var 1) (.bin .add (.var 2) (.k (.int 1))) .nil)))
  .skip) .skip) b37_5
def b37_3 : S := .seq (.sett [4, 5] (.ix (.var 1) (.var 2))) b37_4
def b37_2 : S := .seq (.set 3 (.call 25 (.cons (.var 0) (.cons (.k (.int 5)) .nil)))) b37_3
def b37_1 : S := .seq (.set 2 (.call 25 (.cons (.var 0) (.cons (.b1 .len (.var 1)) .nil)))) b37_2
/-- _law_spoilt -/
def b37 : S := .seq (.ite (.cmp .eq (.b1 .len (.var 1)) (.k (.int 0))) (.seq (.ret (.tup (.cons (.tup (.cons (.k (.int 0)) (.cons (.k (.int 0)) .nil))) .nil)))
  .skip) .skip) b37_1
def N37 : List Str := ["bag", "paper", "at", "kind", "k", "step"]
def f37 : FD := ⟨2, 6, b37⟩
def l38_1 : S := (.seq (.set 6 (.call 25 (.cons (.var 0) (.cons (.b1 .len (.var 3)) .nil))))
  (.seq (.set 7 (.call 25 (.cons (.var 0) (.cons (.var 2) .nil))))
  (.seq (.set 8 (.tup (.cons (.call 25 (.cons (.var 0) (.cons (.k (.int 2)) .nil))) (.cons (.call 25 (.cons (.var 0) (.cons (.b1 .len (.var 3)) .nil))) .nil))))
  (.seq (.set 3 (.bin .add (.bin .add (.slice (.var 3) .nil (.var 6)) (.tup (.cons (.bin .add (.bin .add (.slice (.ix (.var 3) (.var 6)) .nil (.var 7)) (.tup (.cons (.var 8) .nil))) (.slice (.ix (.var 3) (.var 6)) (.bin .add (.var 7) (.k (.int 1))) .nil)) .nil))) (.slice (.var 3) (.bin .add (.var 6) (.k (.int 1))) .nil)))
  .skip))))
def q38_1 : C := .cq (.tup (.cons (.var 9) (.cons (.call 32 (.cons (.var 3) (.cons (.var 9) .nil))) .nil))) [9] (.var 4) (.k (.bl true)) [9]
def b38_4 : S := .seq (.ret (.tup (.cons (.bq .tuple q38_1) (.cons (.var 3) .nil)))) .skip
def b38_3 : S := .seq (.set 4 (.call 30 (.cons (.var 0) (.cons (.var 2) (.cons (.bin .add (.k (.int 1)) (.call 25 (.cons (.var 0) (.cons (.k (.int 3)) .nil)))) (.cons (.k (.int 4)) .nil)))))) b38_4
def b38_2 : S := .seq (.ite (.cmp .eq (.call 25 (.cons (.var 0) (.cons (.k (.int 2)) .nil))) (.k (.int 0))) (.seq (.set 3 (.var 1))
  (.seq (.for_ [5] (.rng (.k (.int 0)) (.bin .add (.k (.int 1)) (.call 25 (.cons (.var 0) (.cons (.k (.int 2)) .nil)))) (.k (.int 1))) l38_1)
  .skip)) .skip) b38_3
def b38_1 : S := .seq (.set 3 (.call 26 (.cons (.var 0) (.cons (.bin .add (.k (.int 1)) (.call 25 (.cons (.var 0) (.cons (.k (.int 3)) .nil)))) (.cons (.var 2) (.cons (.k (.int 2)) .nil)))))) b38_2
/-- _law_log -/
def b38 : S := .seq (.set 2 (.b1 .len (.ix (.var 1) (.k (.int 0))))) b38_1
def N38 : List Str := ["bag", "design", "letters", "machine", "rows", "step", "s", "x", "cell", "row"]
def f38 : FD := ⟨2, 10, b38⟩
def l39_1 : S := (.seq (.ite (.cmp .ne (.ix (.ix (.var 1) (.var 3)) (.var 4)) (.ix (.ix (.var 0) (.var 3)) (.var 4))) (.seq (.ex (.m1 .append (.var 2) (.bin .add (.tup (.cons (.var 3) (.cons (.var 4) .nil))) (.ix (.ix (.var 1) (.var 3)) (.var 4)))))
  .skip) .skip)
  .skip)
def l39_2 : S := (.seq (.for_ [4] (.rng (.k (.int 0)) (.b1 .len (.ix (.var 0) (.k (.int 0)))) (.k (.int 1))) l39_1)
  .skip)
def b39_3 : S := .seq (.ret (.b1 .tuple (.var 2))) .skip
def b39_2 : S := .seq (.for_ [3] (.rng (.k (.int 0)) (.b1 .len (.var 0)) (.k (.int 1))) l39_2) b39_3
def b39_1 : S := .seq (.ite (.cmp .ne (.b1 .len (.var 1)) (.b1 .len (.var 0))) (.seq (.ret (.tup .nil))
  .skip) .skip) b39_2
/-- _law_fault -/
def b39 : S := .seq (.set 2 (.lst .nil)) b39_1
def N39 : List Str := ["design", "machine", "found", "s", "x"]
def f39 : FD := ⟨2, 5, b39⟩
def l40_1 : S := (.seq (.set 4 (.bin .add (.bin .add (.slice (.var 4) .nil (.var 6)) (.tup (.cons (.bin .add (.bin .add (.slice (.ix (.var 4) (.var 6)) .nil (.var 7)) (.tup (.cons (.tup (.cons (.var 8) (.cons (.var 9) .nil))) .nil))) (.slice (.ix (.var 4) (.var 6)) (.bin .add (.var 7) (.k (.int 1))) .nil)) .nil))) (.slice (.var 4) (.bin .add (.var 6) (.k (.int 1))) .nil)))
  .skip)
def l40_2 : S := (.seq (.ite (.cmp .isnot (.call 33 (.cons (.var 4) (.cons (.var 5) .nil))) (.k .non)) (.seq (.ret (.k (.bl false)))
  .skip) .skip)
  .skip)
def b40_3 : S := .seq (.ret (.call 36 (.cons (.var 0) (.cons (.var 1) (.cons (.b1 .len (.var 2)) (.cons (.var 3) .nil)))))) .skip
def b40_2 : S := .seq (.for_ [5] (.var 1) l40_2) b40_3
def b40_1 : S := .seq (.for_ [6, 7, 8, 9] (.var 2) l40_1) b40_2
/-- _law_explained -/
def b40 : S := .seq (.set 4 (.var 0)) b40_1
def N40 : List Str := ["design", "log", "fault", "paper", "machine", "record", "s", "x", "answer", "goal"]
def f40 : FD := ⟨4, 10, b40⟩
def l41_1 : S := (.seq (.set 13 (.call 36 (.cons (.var 3) (.cons (.var 7) (.cons (.var 9) (.cons (.var 11) .nil))))))
  (.seq (.ite (.not (.call 23 (.cons (.call 20 (.cons (.var 3) (.cons (.var 7) (.cons (.var 9) (.cons (.var 11) .nil))))) (.cons (.var 13) .nil)))) (.seq (.ret (.k (.bl false)))
  .skip) .skip)
  (.seq (.set 11 (.call 37 (.cons (.var 1) (.cons (.var 11) .nil))))
  .skip)))
def l41_2 : S := (.seq (.set 9 (.bin .sub (.call 25 (.cons (.var 1) (.cons (.k (.int 5)) .nil))) (.k (.int 1))))
  (.seq (.sett [11, 12] (.call 35 (.cons (.var 1) (.cons (.var 3) (.cons (.var 7) (.cons (.var 9) .nil))))))
  (.seq (.ite (.cmp .ne (.call 36 (.cons (.var 3) (.cons (.var 7) (.cons (.var 9) (.cons (.var 11) .nil))))) (.var 12)) (.seq (.ret (.k (.bl false)))
  .skip) .skip)
  (.seq (.for_ [10] (.rng (.k (.int 0)) (.k (.int 3)) (.k (.int 1))) l41_1)
  .skip))))
def b41_13 : S := .seq (.ret (.andl (.cons (.cmp .is (.call 20 (.cons (.var 3) (.cons (.var 7) (.cons (.k (.int 0)) (.cons (.tup .nil) .nil))))) (.k (.bl true))) (.cons (.cmp .is (.call 21 (.cons (.var 3) (.cons (.var 7) (.cons (.tup (.cons (.k (.str "none")) (.cons (.var 7) .nil))) .nil)))) (.k (.bl false))) .nil)))) .skip
def b41_12 : S := .seq (.ite (.not (.call 23 (.cons (.call 21 (.cons (.var 3) (.cons (.var 7) (.cons (.tup (.cons (.k (.str "none")) (.cons (.var 11) .nil))) .nil)))) (.cons (.var 12) .nil)))) (.seq (.ret (.k (.bl false)))
  .skip) .skip) b41_13
def b41_11 : S := .seq (.sett [11, 12] (.call 35 (.cons (.var 1) (.cons (.var 3) (.cons (.var 7) (.cons (.neg (.k (.int 1))) .nil)))))) b41_12
def b41_10 : S := .seq (.ite (.not (.call 23 (.cons (.call 21 (.cons (.var 3) (.cons (.var 7) (.cons (.tup (.cons (.k (.str "slips")) (.cons (.var 5) (.cons (.var 11) .nil)))) .nil)))) (.cons (.var 6) .nil)))) (.seq (.ret (.k (.bl false)))
  .skip) .skip) b41_11
def b41_9 : S := .seq (.set 6 (.call 40 (.cons (.var 3) (.cons (.var 7) (.cons (.var 5) (.cons (.var 11) .nil)))))) b41_10
def b41_8 : S := .seq (.sett [11, 12] (.call 35 (.cons (.var 1) (.cons (.var 3) (.cons (.var 7) (.cons (.b1 .len (.var 5)) .nil)))))) b41_9
def b41_7 : S := .seq (.set 5 (.call 39 (.cons (.var 3) (.cons (.var 8) .nil)))) b41_8
def b41_6 : S := .seq (.for_ [4] (.rng (.k (.int 0)) (.k (.int 2)) (.k (.int 1))) l41_2) b41_7
def b41_5 : S := .seq (.set 1 (.call 24 (.cons (.var 0) (.cons (.k (.int 2)) .nil)))) b41_6
def b41_4 : S := .seq (.sett [7, 8] (.call 38 (.cons (.var 1) (.cons (.var 3) .nil)))) b41_5
def b41_3 : S := .seq (.set 1 (.call 24 (.cons (.var 0) (.cons (.k (.int 1)) .nil)))) b41_4
def b41_2 : S := .seq (.set 3 (.call 28 (.cons (.var 1) (.cons (.bin .add (.k (.int 1)) (.call 25 (.cons (.var 1) (.cons (.bin .sub (.k (.int 4)) (.var 2)) .nil)))) (.cons (.var 2) (.cons (.k (.int 2)) .nil)))))) b41_3
def b41_1 : S := .seq (.set 2 (.bin .add (.k (.int 1)) (.call 25 (.cons (.var 1) (.cons (.k (.int 2)) .nil))))) b41_2
/-- law -/
def b41 : S := .seq (.set 1 (.call 24 (.cons (.var 0) (.cons (.k (.int 0)) .nil)))) b41_1
def N41 : List Str := ["script", "bag", "letters", "design", "step", "fault", "wanted", "log", "machine", "many", "turn", "paper", "whole", "right"]
def f41 : FD := ⟨1, 14, b41⟩
def ft : List FD := [f0, f1, f2, f3, f4, f5, f6, f7, f8, f9, f10, f11, f12, f13, f14, f15, f16, f17, f18, f19, f20, f21, f22, f23, f24, f25, f26, f27, f28, f29, f30, f31, f32, f33, f34, f35, f36, f37, f38, f39, f40, f41]
def fnm0 : List Str := ["is_number", "is_between", "check_number", "are_letters", "is_row", "is_pair", "check_machine", "is_cell", "with_cell", "is_record", "check_log", "is_slip", "has_order", "is_fault", "slip_all", "step_of_error", "first_error", "used_cells", "stages_of", "is_refused"]
def fnm1 : List Str := ["judge_unexplained", "judge_explained", "_law_is_int", "_law_tells", "_law_bag", "_law_take", "_law_machine", "_law_ring", "_law_design", "_law_row", "_law_lot", "_law_run", "_law_answers", "_law_error", "_law_below", "_law_refusal", "_law_is_refusal", "_law_spoilt", "_law_log", "_law_fault"]
def fnm2 : List Str := ["_law_explained", "law"]
def fnm : List Str := fnm0 ++ fnm1 ++ fnm2
def Ns : List (List Str) := [N0, N1, N2, N3, N4, N5, N6, N7, N8, N9, N10, N11, N12, N13, N14, N15, N16, N17, N18, N19, N20, N21, N22, N23, N24, N25, N26, N27, N28, N29, N30, N31, N32, N33, N34, N35, N36, N37, N38, N39, N40, N41]
def ct : List CD := [⟨"FoldsError", none, "", []⟩,
  ⟨"BadNumber", some 0, "badnumber", ["word", "value"]⟩,
  ⟨"BadMachine", some 0, "badmachine", ["word", "reason", "place"]⟩,
  ⟨"BadLog", some 0, "badlog", ["word", "place"]⟩]
@[simp] theorem ct_0 : ct[0]? = some ⟨"FoldsError", none, "", []⟩ := rfl
@[simp] theorem ct_1 : ct[1]? = some ⟨"BadNumber", some 0, "badnumber", ["word", "value"]⟩ := rfl
@[simp] theorem ct_2 : ct[2]? = some ⟨"BadMachine", some 0, "badmachine", ["word", "reason", "place"]⟩ := rfl
@[simp] theorem ct_3 : ct[3]? = some ⟨"BadLog", some 0, "badlog", ["word", "place"]⟩ := rfl
def gl : List (Str × P) := [("STANDINGS", (.int 64)), ("LETTERS", (.int 6)), ("ANSWERS", (.int 99)), ("ROW_LENGTH", (.int 300)), ("LOT_SIZE", (.int 128)), ("SLIPS", (.int 8)), ("ALL", (.int (-1)))]
end K92


set_option Elab.async false
set_option linter.all false
set_option maxRecDepth 100000
set_option maxHeartbeats 4000000
namespace K92
open PySem Fc
variable {k : Nat} {bs : List Nat} {st : St}
theorem is_number {v : Int} : callF ft ct (k + 1) bs 0 [.p (.int v)] st = .ok (.p (.bl true)) st := by
  rw [callF_s f0 rfl rfl]
  simp [rE_k, rE_glob, rE_bin, rE_neg, rE_cmp, rE_not, rE_chain, rE_and, rE_or, rE_ife, rE_tup, rE_lst, rE_ix, rE_slice, rE_call, rE_b1, rE_b2, rE_bq, rE_comp, rE_isi, rE_m1, rE_m2, rE_m0, rE_trng, rE_rng, rE_nil, rA_one, rA_two, rO_one, rO_two, rEs_nil, rEs_cons, rS_skip, rS_seq, rS_set, rS_sett, rS_aug, rS_setix, rS_ex, rS_ret, rS_retn, rS_ite, rS_whil, rS_for, rS_brk, rS_cnt, rS_raise, rS_tr, rH_nil, rH_cons, rS_gc, rE_exa, rE_exi, rE_var, f0, b0]
theorem is_between {v a b : Int} : callF ft ct (k + 2) bs 1 [.p (.int v), .p (.int a), .p (.int b)] st = .ok (.p (.bl (decide (a ≤ v) && decide (v ≤ b)))) st := by
  rw [callF_s f1 rfl rfl]
  by_cases h : a ≤ v <;> simp [rE_k, rE_glob, rE_bin, rE_neg, rE_cmp, rE_not, rE_chain, rE_and, rE_or, rE_ife, rE_tup, rE_lst, rE_ix, rE_slice, rE_call, rE_b1, rE_b2, rE_bq, rE_comp, rE_isi, rE_m1, rE_m2, rE_m0, rE_trng, rE_rng, rE_nil, rA_one, rA_two, rO_one, rO_two, rEs_nil, rEs_cons, rS_skip, rS_seq, rS_set, rS_sett, rS_aug, rS_setix, rS_ex, rS_ret, rS_retn, rS_ite, rS_whil, rS_for, rS_brk, rS_cnt, rS_raise, rS_tr, rH_nil, rH_cons, rS_gc, rE_exa, rE_exi, rE_var, f1, b1, is_number, h]
theorem is_between_t {v a b : Int} (h1 : a ≤ v) (h2 : v ≤ b) : callF ft ct (k + 2) bs 1 [.p (.int v), .p (.int a), .p (.int b)] st = .ok (.p (.bl true)) st := by
  rw [is_between]
  simp [rE_k, rE_glob, rE_bin, rE_neg, rE_cmp, rE_not, rE_chain, rE_and, rE_or, rE_ife, rE_tup, rE_lst, rE_ix, rE_slice, rE_call, rE_b1, rE_b2, rE_bq, rE_comp, rE_isi, rE_m1, rE_m2, rE_m0, rE_trng, rE_rng, rE_nil, rA_one, rA_two, rO_one, rO_two, rEs_nil, rEs_cons, rS_skip, rS_seq, rS_set, rS_sett, rS_aug, rS_setix, rS_ex, rS_ret, rS_retn, rS_ite, rS_whil, rS_for, rS_brk, rS_cnt, rS_raise, rS_tr, rH_nil, rH_cons, rS_gc, rE_exa, rE_exi, rE_var, h1, h2]
theorem check_number {v a b : Int} (h1 : a ≤ v) (h2 : v ≤ b) : callF ft ct (k + 3) bs 2 [.p (.int v), .p (.int a), .p (.int b)] st = .ok (.p .non) st := by
  rw [callF_s f2 rfl rfl]
  simp [rE_k, rE_glob, rE_bin, rE_neg, rE_cmp, rE_not, rE_chain, rE_and, rE_or, rE_ife, rE_tup, rE_lst, rE_ix, rE_slice, rE_call, rE_b1, rE_b2, rE_bq, rE_comp, rE_isi, rE_m1, rE_m2, rE_m0, rE_trng, rE_rng, rE_nil, rA_one, rA_two, rO_one, rO_two, rEs_nil, rEs_cons, rS_skip, rS_seq, rS_set, rS_sett, rS_aug, rS_setix, rS_ex, rS_ret, rS_retn, rS_ite, rS_whil, rS_for, rS_brk, rS_cnt, rS_raise, rS_tr, rH_nil, rH_cons, rS_gc, rE_exa, rE_exi, rE_var, f2, b2, is_between, h1, h2]
theorem check_number_x {v a b : Int} (h : ¬ (a ≤ v ∧ v ≤ b)) : callF ft ct (k + 3) bs 2 [.p (.int v), .p (.int a), .p (.int b)] st = .exc 1 [.str "badnumber", .int v] st := by
  rw [callF_s f2 rfl rfl]
  by_cases h1 : a ≤ v <;> by_cases h2 : v ≤ b
  · exact absurd ⟨h1, h2⟩ h
  all_goals simp [rE_k, rE_glob, rE_bin, rE_neg, rE_cmp, rE_not, rE_chain, rE_and, rE_or, rE_ife, rE_tup, rE_lst, rE_ix, rE_slice, rE_call, rE_b1, rE_b2, rE_bq, rE_comp, rE_isi, rE_m1, rE_m2, rE_m0, rE_trng, rE_rng, rE_nil, rA_one, rA_two, rO_one, rO_two, rEs_nil, rEs_cons, rS_skip, rS_seq, rS_set, rS_sett, rS_aug, rS_setix, rS_ex, rS_ret, rS_retn, rS_ite, rS_whil, rS_for, rS_brk, rS_cnt, rS_raise, rS_tr, rH_nil, rH_cons, rS_gc, rE_exa, rE_exi, rE_var, f2, b2, is_between, h1, h2]
theorem are_letters {xs : List Nat} {n : Int} (h : ∀ x ∈ xs, (x : Int) < n) : callF ft ct (k + 3) bs 3 [.p (eI xs), .p (.int n)] st = .ok (.p (.bl true)) st := by
  rw [callF_s f3 rfl rfl]
  obtain ⟨σ', st', e, hI⟩ := forT (xs := xs) (e := fun n : Nat => P.int (n : Int)) (ts := [2]) (b := evS ⟨callF ft ct (k + 2), ct⟩ (st.length :: bs) l3_1) (σ := [some (.p (eI xs)), some (.p (.int n)), none]) (st := st)
    (fun i σ s => st = s ∧ ∃ o, σ = [some (.p (eI xs)), some (.p (.int n)), o]) ⟨rfl, _, rfl⟩ (fun i y σ s hy ⟨hs, o, ho⟩ => by
      subst hs ho
      have h1 : (y : Int) ≤ n - 1 := by have := h y (List.mem_of_getElem? hy); omega
      refine ⟨_, rfl, ?_⟩
      simp [rE_k, rE_glob, rE_bin, rE_neg, rE_cmp, rE_not, rE_chain, rE_and, rE_or, rE_ife, rE_tup, rE_lst, rE_ix, rE_slice, rE_call, rE_b1, rE_b2, rE_bq, rE_comp, rE_isi, rE_m1, rE_m2, rE_m0, rE_trng, rE_rng, rE_nil, rA_one, rA_two, rO_one, rO_two, rEs_nil, rEs_cons, rS_skip, rS_seq, rS_set, rS_sett, rS_aug, rS_setix, rS_ex, rS_ret, rS_retn, rS_ite, rS_whil, rS_for, rS_brk, rS_cnt, rS_raise, rS_tr, rH_nil, rH_cons, rS_gc, rE_exa, rE_exi, rE_var, l3_1, is_between, h1])
  obtain ⟨rfl, o, rfl⟩ := hI
  simp [rE_k, rE_glob, rE_bin, rE_neg, rE_cmp, rE_not, rE_chain, rE_and, rE_or, rE_ife, rE_tup, rE_lst, rE_ix, rE_slice, rE_call, rE_b1, rE_b2, rE_bq, rE_comp, rE_isi, rE_m1, rE_m2, rE_m0, rE_trng, rE_rng, rE_nil, rA_one, rA_two, rO_one, rO_two, rEs_nil, rEs_cons, rS_skip, rS_seq, rS_set, rS_sett, rS_aug, rS_setix, rS_ex, rS_ret, rS_retn, rS_ite, rS_whil, rS_for, rS_brk, rS_cnt, rS_raise, rS_tr, rH_nil, rH_cons, rS_gc, rE_exa, rE_exi, rE_var, f3, b3, b3_1, b3_2, eI] at e ⊢
  simp [rE_k, rE_glob, rE_bin, rE_neg, rE_cmp, rE_not, rE_chain, rE_and, rE_or, rE_ife, rE_tup, rE_lst, rE_ix, rE_slice, rE_call, rE_b1, rE_b2, rE_bq, rE_comp, rE_isi, rE_m1, rE_m2, rE_m0, rE_trng, rE_rng, rE_nil, rA_one, rA_two, rO_one, rO_two, rEs_nil, rEs_cons, rS_skip, rS_seq, rS_set, rS_sett, rS_aug, rS_setix, rS_ex, rS_ret, rS_retn, rS_ite, rS_whil, rS_for, rS_brk, rS_cnt, rS_raise, rS_tr, rH_nil, rH_cons, rS_gc, rE_exa, rE_exi, rE_var, e]
theorem is_row {xs : List Nat} {n : Int} (h : ∀ x ∈ xs, (x : Int) < n) (hl : xs.length ≤ 300) : callF ft ct (k + 4) bs 4 [.p (eI xs), .p (.int n)] st = .ok (.p (.bl true)) st := by
  rw [callF_s f4 rfl rfl]
  have : decide ((xs.length : Int) ≤ 300) = true := by simp; omega
  simp [rE_k, rE_glob, rE_bin, rE_neg, rE_cmp, rE_not, rE_chain, rE_and, rE_or, rE_ife, rE_tup, rE_lst, rE_ix, rE_slice, rE_call, rE_b1, rE_b2, rE_bq, rE_comp, rE_isi, rE_m1, rE_m2, rE_m0, rE_trng, rE_rng, rE_nil, rA_one, rA_two, rO_one, rO_two, rEs_nil, rEs_cons, rS_skip, rS_seq, rS_set, rS_sett, rS_aug, rS_setix, rS_ex, rS_ret, rS_retn, rS_ite, rS_whil, rS_for, rS_brk, rS_cnt, rS_raise, rS_tr, rH_nil, rH_cons, rS_gc, rE_exa, rE_exi, rE_var, f4, b4, are_letters h]
  simp [rE_k, rE_glob, rE_bin, rE_neg, rE_cmp, rE_not, rE_chain, rE_and, rE_or, rE_ife, rE_tup, rE_lst, rE_ix, rE_slice, rE_call, rE_b1, rE_b2, rE_bq, rE_comp, rE_isi, rE_m1, rE_m2, rE_m0, rE_trng, rE_rng, rE_nil, rA_one, rA_two, rO_one, rO_two, rEs_nil, rEs_cons, rS_skip, rS_seq, rS_set, rS_sett, rS_aug, rS_setix, rS_ex, rS_ret, rS_retn, rS_ite, rS_whil, rS_for, rS_brk, rS_cnt, rS_raise, rS_tr, rH_nil, rH_cons, rS_gc, rE_exa, rE_exi, rE_var, eI, fin_p, this]
theorem is_pair2 {a b : P} : callF ft ct (k + 1) bs 5 [.p (.tup [a, b])] st = .ok (.p (.bl true)) st := by
  rw [callF_s f5 rfl rfl]
  simp [rE_k, rE_glob, rE_bin, rE_neg, rE_cmp, rE_not, rE_chain, rE_and, rE_or, rE_ife, rE_tup, rE_lst, rE_ix, rE_slice, rE_call, rE_b1, rE_b2, rE_bq, rE_comp, rE_isi, rE_m1, rE_m2, rE_m0, rE_trng, rE_rng, rE_nil, rA_one, rA_two, rO_one, rO_two, rEs_nil, rEs_cons, rS_skip, rS_seq, rS_set, rS_sett, rS_aug, rS_setix, rS_ex, rS_ret, rS_retn, rS_ite, rS_whil, rS_for, rS_brk, rS_cnt, rS_raise, rS_tr, rH_nil, rH_cons, rS_gc, rE_exa, rE_exi, rE_var, f5, b5]
theorem is_pair1 {a : P} : callF ft ct (k + 1) bs 5 [.p (.tup [a])] st = .ok (.p (.bl false)) st := by
  rw [callF_s f5 rfl rfl]
  simp [rE_k, rE_glob, rE_bin, rE_neg, rE_cmp, rE_not, rE_chain, rE_and, rE_or, rE_ife, rE_tup, rE_lst, rE_ix, rE_slice, rE_call, rE_b1, rE_b2, rE_bq, rE_comp, rE_isi, rE_m1, rE_m2, rE_m0, rE_trng, rE_rng, rE_nil, rA_one, rA_two, rO_one, rO_two, rEs_nil, rEs_cons, rS_skip, rS_seq, rS_set, rS_sett, rS_aug, rS_setix, rS_ex, rS_ret, rS_retn, rS_ite, rS_whil, rS_for, rS_brk, rS_cnt, rS_raise, rS_tr, rH_nil, rH_cons, rS_gc, rE_exa, rE_exi, rE_var, f5, b5]
theorem is_cell {c : Nat × Nat} {n : Nat} (h1 : c.1 ≤ 99) (h2 : c.2 < n) : callF ft ct (k + 3) bs 7 [.p (eC c), .p (.int n)] st = .ok (.p (.bl true)) st := by
  rw [callF_s f7 rfl rfl]
  have e1 : decide ((c.1 : Int) ≤ 99) = true := by simp; omega
  have e2 : decide ((c.2 : Int) ≤ n - 1) = true := by simp; omega
  simp [rE_k, rE_glob, rE_bin, rE_neg, rE_cmp, rE_not, rE_chain, rE_and, rE_or, rE_ife, rE_tup, rE_lst, rE_ix, rE_slice, rE_call, rE_b1, rE_b2, rE_bq, rE_comp, rE_isi, rE_m1, rE_m2, rE_m0, rE_trng, rE_rng, rE_nil, rA_one, rA_two, rO_one, rO_two, rEs_nil, rEs_cons, rS_skip, rS_seq, rS_set, rS_sett, rS_aug, rS_setix, rS_ex, rS_ret, rS_retn, rS_ite, rS_whil, rS_for, rS_brk, rS_cnt, rS_raise, rS_tr, rH_nil, rH_cons, rS_gc, rE_exa, rE_exi, rE_var, f7, b7, eC, is_pair2, is_between, e1, e2]
/-- a machine of n letters -/
structure MachOk (m : List (List (Nat × Nat))) (n : Nat) : Prop where
  l1 : 1 ≤ m.length
  l2 : m.length ≤ 64
  n1 : 1 ≤ n
  n2 : n ≤ 6
  row : ∀ s ∈ m, s.length = n
  cell : ∀ s ∈ m, ∀ c ∈ s, c.1 ≤ 99 ∧ c.2 < m.length
theorem check_machine {m : List (List (Nat × Nat))} {n : Nat} (h : MachOk m n) : callF ft ct (k + 4) bs 6 [.p (eM m)] st = .ok (.p .non) st := by
  rw [callF_s f6 rfl rfl]
  obtain ⟨s0, m', rfl⟩ : ∃ s0 m', m = s0 :: m' := by
    cases m with
    | nil => have := h.l1; simp at this
    | cons a b => exact ⟨a, b, rfl⟩
  generalize hm : s0 :: m' = m at h
  have e0 : m[0]? = some s0 := by rw [← hm]; rfl
  have hs0 : s0.length = n := h.row s0 (by rw [← hm]; simp)
  have inner : ∀ (i : Nat) (s : List (Nat × Nat)) (o : Option A), s ∈ m → ∃ o2, forL [] [3] (evS ⟨callF ft ct (k + 3), ct⟩ (st.length :: bs) l6_1) ((List.range s.length).map fun i : Nat => .p (.int (i : Int))) [some (.p (eM m)), some (.p (.int (i : Int))), some (.p (eS s)), o] st = .next [some (.p (eM m)), some (.p (.int (i : Int))), some (.p (eS s)), o2] st := fun i s o hs => by
    obtain ⟨σ', st', e, rfl, o2, rfl⟩ := forR (ts := [3]) (n := s.length) (b := evS ⟨callF ft ct (k + 3), ct⟩ (st.length :: bs) l6_1) (σ := [some (.p (eM m)), some (.p (.int (i : Int))), some (.p (eS s)), o]) (st := st)
      (fun _ σ s2 => st = s2 ∧ ∃ o, σ = [some (.p (eM m)), some (.p (.int (i : Int))), some (.p (eS s)), o]) ⟨rfl, _, rfl⟩ (fun j σ s2 hj ⟨hs2, o, ho⟩ => by
        subst hs2 ho
        have hc : s[j]? = some s[j] := List.getElem?_eq_getElem hj
        obtain ⟨c1, c2⟩ := h.cell s hs s[j] (List.getElem_mem hj)
        refine ⟨_, rfl, ?_⟩
        simp [rE_k, rE_glob, rE_bin, rE_neg, rE_cmp, rE_not, rE_chain, rE_and, rE_or, rE_ife, rE_tup, rE_lst, rE_ix, rE_slice, rE_call, rE_b1, rE_b2, rE_bq, rE_comp, rE_isi, rE_m1, rE_m2, rE_m0, rE_trng, rE_rng, rE_nil, rA_one, rA_two, rO_one, rO_two, rEs_nil, rEs_cons, rS_skip, rS_seq, rS_set, rS_sett, rS_aug, rS_setix, rS_ex, rS_ret, rS_retn, rS_ite, rS_whil, rS_for, rS_brk, rS_cnt, rS_raise, rS_tr, rH_nil, rH_cons, rS_gc, rE_exa, rE_exi, rE_var, l6_1, eS, eM, hc, is_cell c1 c2])
    exact ⟨o2, e⟩
  obtain ⟨σ', st', e, hI⟩ := forR (ts := [1]) (n := m.length) (b := evS ⟨callF ft ct (k + 3), ct⟩ (st.length :: bs) l6_2) (σ := [some (.p (eM m)), none, none, none]) (st := st)
    (fun _ σ s2 => st = s2 ∧ ∃ o1 o2 o3, σ = [some (.p (eM m)), o1, o2, o3]) ⟨rfl, _, _, _, rfl⟩ (fun j σ s2 hj ⟨hs2, o1, o2, o3, ho⟩ => by
      subst hs2 ho
      have hc : m[j]? = some m[j] := List.getElem?_eq_getElem hj
      have hmem := List.getElem_mem hj
      have hlen := h.row _ hmem
      have w := wk_rng (n := n) (st := st) (by have := h.n2; omega)
      have q1 : (1 : Int) ≤ n := by have := h.n1; omega
      have q2 : (n : Int) ≤ 6 := by have := h.n2; omega
      obtain ⟨o4, e4⟩ := inner j m[j] o3 hmem
      rw [hlen] at e4
      have t1 : evS ⟨callF ft ct (k + 3), ct⟩ (st.length :: bs) l6_2 [some (A.p (eM m)), some (.p (.int (j : Int))), o2, o3] st = .next [some (.p (eM m)), some (.p (.int (j : Int))), some (.p (eS m[j])), o4] st := by
        simp [rE_k, rE_glob, rE_bin, rE_neg, rE_cmp, rE_not, rE_chain, rE_and, rE_or, rE_ife, rE_tup, rE_lst, rE_ix, rE_slice, rE_call, rE_b1, rE_b2, rE_bq, rE_comp, rE_isi, rE_m1, rE_m2, rE_m0, rE_trng, rE_rng, rE_nil, rA_one, rA_two, rO_one, rO_two, rEs_nil, rEs_cons, rS_skip, rS_seq, rS_set, rS_sett, rS_aug, rS_setix, rS_ex, rS_ret, rS_retn, rS_ite, rS_whil, rS_for, rS_brk, rS_cnt, rS_raise, rS_tr, rH_nil, rH_cons, rS_gc, rE_exa, rE_exi, rE_var, eM, eS] at e4
        simp [rE_k, rE_glob, rE_bin, rE_neg, rE_cmp, rE_not, rE_chain, rE_and, rE_or, rE_ife, rE_tup, rE_lst, rE_ix, rE_slice, rE_call, rE_b1, rE_b2, rE_bq, rE_comp, rE_isi, rE_m1, rE_m2, rE_m0, rE_trng, rE_rng, rE_nil, rA_one, rA_two, rO_one, rO_two, rEs_nil, rEs_cons, rS_skip, rS_seq, rS_set, rS_sett, rS_aug, rS_setix, rS_ex, rS_ret, rS_retn, rS_ite, rS_whil, rS_for, rS_brk, rS_cnt, rS_raise, rS_tr, rH_nil, rH_cons, rS_gc, rE_exa, rE_exi, rE_var, l6_2, eM, hc, e0, eS, hlen, hs0, q1, q2, w, e4]
      refine ⟨_, rfl, ?_⟩
      show NX _ (evS _ _ _ [some (A.p (eM m)), some (.p (.int (j : Int))), o2, o3] st)
      rw [t1]
      exact ⟨rfl, _, _, _, rfl⟩)
  obtain ⟨rfl, o1, o2, o3, rfl⟩ := hI
  have q1 : (1 : Int) ≤ m.length := by have := h.l1; omega
  have q2 : (m.length : Int) ≤ 64 := by have := h.l2; omega
  have w := wk_rng (n := m.length) (st := st) (by have := h.l2; omega)
  simp [rE_k, rE_glob, rE_bin, rE_neg, rE_cmp, rE_not, rE_chain, rE_and, rE_or, rE_ife, rE_tup, rE_lst, rE_ix, rE_slice, rE_call, rE_b1, rE_b2, rE_bq, rE_comp, rE_isi, rE_m1, rE_m2, rE_m0, rE_trng, rE_rng, rE_nil, rA_one, rA_two, rO_one, rO_two, rEs_nil, rEs_cons, rS_skip, rS_seq, rS_set, rS_sett, rS_aug, rS_setix, rS_ex, rS_ret, rS_retn, rS_ite, rS_whil, rS_for, rS_brk, rS_cnt, rS_raise, rS_tr, rH_nil, rH_cons, rS_gc, rE_exa, rE_exi, rE_var, f6, b6, b6_1, eM, q1, q2, w] at e ⊢
  simp [rE_k, rE_glob, rE_bin, rE_neg, rE_cmp, rE_not, rE_chain, rE_and, rE_or, rE_ife, rE_tup, rE_lst, rE_ix, rE_slice, rE_call, rE_b1, rE_b2, rE_bq, rE_comp, rE_isi, rE_m1, rE_m2, rE_m0, rE_trng, rE_rng, rE_nil, rA_one, rA_two, rO_one, rO_two, rEs_nil, rEs_cons, rS_skip, rS_seq, rS_set, rS_sett, rS_aug, rS_setix, rS_ex, rS_ret, rS_retn, rS_ite, rS_whil, rS_for, rS_brk, rS_cnt, rS_raise, rS_tr, rH_nil, rH_cons, rS_gc, rE_exa, rE_exi, rE_var, e]
end K92

set_option Elab.async false
set_option linter.all false
set_option maxRecDepth 100000
set_option maxHeartbeats 4000000
namespace K92
open PySem Fc
variable {k : Nat} {bs : List Nat} {st : St}
/-! ### the bag -/
theorem law_take {n g s c : Int} {j m : Nat} (h : st[j]? = some (bagO n g s c)) (h0 : 0 ≤ c) (h1 : c < 1000000000000000000) (m1 : 1 ≤ m) (m2 : m < 1073741824) :
    ∃ (d : Nat) (n' c' : Int), d < m ∧ callF ft ct (k + 1) bs 25 [.ref j, .p (.int m)] st = .ok (.p (.int d)) (st.set j (bagO n' g s c')) ∧ 0 ≤ c' ∧ c' ≤ c + 1 := by
  rw [callF_s f25 rfl rfl]
  have mp : (0 : Int) < m := by omega
  have tk : ∀ o, (st.set j o).take st.length = st.set j o := fun o => by rw [List.take_of_length_le (by simp)]
  have p0 := getix_l0 h
  have p1 := getix_l1 h
  have p2 := getix_l2 h
  have p3 := getix_l3 h
  simp at p0 p1 p2 p3
  by_cases hc : g = 1 ∧ 0 < n
  · obtain ⟨rfl, hn⟩ := hc
    obtain ⟨d, hd⟩ : ∃ d : Nat, n % m = d := ⟨(n % m).toNat, by have := Int.emod_nonneg n (show (m : Int) ≠ 0 by omega); omega⟩
    have hdm : d < m := by have := Int.emod_lt_of_pos n mp; omega
    refine ⟨d, n / m, c, hdm, ?_, h0, by omega⟩
    have w := setix_0 (bs := st.length :: bs) (v := .int (n / m)) h (by simp)
    simp at w
    have m2' : (m : Int) < 1073741824 := by omega
    have m3 : 0 < m := m1
    simp [rE_k, rE_glob, rE_bin, rE_neg, rE_cmp, rE_not, rE_chain, rE_and, rE_or, rE_ife, rE_tup, rE_lst, rE_ix, rE_slice, rE_call, rE_b1, rE_b2, rE_bq, rE_comp, rE_isi, rE_m1, rE_m2, rE_m0, rE_trng, rE_rng, rE_nil, rA_one, rA_two, rO_one, rO_two, rEs_nil, rEs_cons, rS_skip, rS_seq, rS_set, rS_sett, rS_aug, rS_setix, rS_ex, rS_ret, rS_retn, rS_ite, rS_whil, rS_for, rS_brk, rS_cnt, rS_raise, rS_tr, rH_nil, rH_cons, rS_gc, rE_exa, rE_exi, rE_var, f25, b25, b25_1, b25_2, b25_3, b25_4, p0, p1, hn, mp, m3, m2', w, hd, tk, bagO]
  · obtain ⟨c2, hc2⟩ : ∃ c2, c2 = c + 1 := ⟨_, rfl⟩
    have q2 : -18446744073709551616 < c2 ∧ c2 < 18446744073709551616 := by omega
    obtain ⟨one, ho⟩ : ∃ one, one = ((s + 7919 * c2) * 48271 + c2 * c2 * 69621 + 11) % 2147483647 := ⟨_, rfl⟩
    obtain ⟨two, ht⟩ : ∃ two, two = (one * 40692 + one / 65536 * 13 + c2 * 8191) % 2147483399 := ⟨_, rfl⟩
    obtain ⟨d, hd⟩ : ∃ d : Nat, two / 7 % m = d := ⟨(two / 7 % m).toNat, by have := Int.emod_nonneg (two / 7) (show (m : Int) ≠ 0 by omega); omega⟩
    have hdm : d < m := by have := Int.emod_lt_of_pos (two / 7) mp; omega
    refine ⟨d, n, c2, hdm, ?_, by omega, by omega⟩
    have m3 : 0 < m := m1
    have w := setix_3 (bs := st.length :: bs) (v := .int c2) h (by simp)
    simp at w
    have h' := set_get (o' := bagO n g s c2) h
    have p2' := getix_l2 h'
    have p3' := getix_l3 h'
    simp [rE_k, rE_glob, rE_bin, rE_neg, rE_cmp, rE_not, rE_chain, rE_and, rE_or, rE_ife, rE_tup, rE_lst, rE_ix, rE_slice, rE_call, rE_b1, rE_b2, rE_bq, rE_comp, rE_isi, rE_m1, rE_m2, rE_m0, rE_trng, rE_rng, rE_nil, rA_one, rA_two, rO_one, rO_two, rEs_nil, rEs_cons, rS_skip, rS_seq, rS_set, rS_sett, rS_aug, rS_setix, rS_ex, rS_ret, rS_retn, rS_ite, rS_whil, rS_for, rS_brk, rS_cnt, rS_raise, rS_tr, rH_nil, rH_cons, rS_gc, rE_exa, rE_exi, rE_var, bagO] at p2' p3'
    by_cases hg : g = 1
    · have hn : ¬ 0 < n := fun z => hc ⟨hg, z⟩
      subst hg
      simp [rE_k, rE_glob, rE_bin, rE_neg, rE_cmp, rE_not, rE_chain, rE_and, rE_or, rE_ife, rE_tup, rE_lst, rE_ix, rE_slice, rE_call, rE_b1, rE_b2, rE_bq, rE_comp, rE_isi, rE_m1, rE_m2, rE_m0, rE_trng, rE_rng, rE_nil, rA_one, rA_two, rO_one, rO_two, rEs_nil, rEs_cons, rS_skip, rS_seq, rS_set, rS_sett, rS_aug, rS_setix, rS_ex, rS_ret, rS_retn, rS_ite, rS_whil, rS_for, rS_brk, rS_cnt, rS_raise, rS_tr, rH_nil, rH_cons, rS_gc, rE_exa, rE_exi, rE_var, f25, b25, b25_1, b25_2, b25_3, b25_4, p0, p1, p3, hn, ← hc2, w, p2', p3', q2, ← ho, ← ht, m3, hd, tk, bagO]
    · simp [rE_k, rE_glob, rE_bin, rE_neg, rE_cmp, rE_not, rE_chain, rE_and, rE_or, rE_ife, rE_tup, rE_lst, rE_ix, rE_slice, rE_call, rE_b1, rE_b2, rE_bq, rE_comp, rE_isi, rE_m1, rE_m2, rE_m0, rE_trng, rE_rng, rE_nil, rA_one, rA_two, rO_one, rO_two, rEs_nil, rEs_cons, rS_skip, rS_seq, rS_set, rS_sett, rS_aug, rS_setix, rS_ex, rS_ret, rS_retn, rS_ite, rS_whil, rS_for, rS_brk, rS_cnt, rS_raise, rS_tr, rH_nil, rH_cons, rS_gc, rE_exa, rE_exi, rE_var, f25, b25, b25_1, b25_2, b25_3, b25_4, p0, p1, p3, hg, ← hc2, w, p2', p3', q2, ← ho, ← ht, m3, hd, tk, bagO]
end K92

set_option Elab.async false
set_option linter.all false
set_option maxRecDepth 100000
set_option maxHeartbeats 4000000
namespace K92
open PySem Fc
variable {k : Nat} {bs : List Nat} {st : St}
/-- a script -/
def scr (ns : List Int) : P := .frz (ns.map P.int)
theorem getix_scr {ns : List Int} {n : Nat} {st : St} : getix (.p (scr ns)) (.p (.int (n : Int))) st = (ns[n]?).map fun i => .p (.int i) := by
  unfold getix idx scr
  by_cases h : n < ns.length
  · simp [rE_k, rE_glob, rE_bin, rE_neg, rE_cmp, rE_not, rE_chain, rE_and, rE_or, rE_ife, rE_tup, rE_lst, rE_ix, rE_slice, rE_call, rE_b1, rE_b2, rE_bq, rE_comp, rE_isi, rE_m1, rE_m2, rE_m0, rE_trng, rE_rng, rE_nil, rA_one, rA_two, rO_one, rO_two, rEs_nil, rEs_cons, rS_skip, rS_seq, rS_set, rS_sett, rS_aug, rS_setix, rS_ex, rS_ret, rS_retn, rS_ite, rS_whil, rS_for, rS_brk, rS_cnt, rS_raise, rS_tr, rH_nil, rH_cons, rS_gc, rE_exa, rE_exi, rE_var, h]
  · simp [rE_k, rE_glob, rE_bin, rE_neg, rE_cmp, rE_not, rE_chain, rE_and, rE_or, rE_ife, rE_tup, rE_lst, rE_ix, rE_slice, rE_call, rE_b1, rE_b2, rE_bq, rE_comp, rE_isi, rE_m1, rE_m2, rE_m0, rE_trng, rE_rng, rE_nil, rA_one, rA_two, rO_one, rO_two, rEs_nil, rEs_cons, rS_skip, rS_seq, rS_set, rS_sett, rS_aug, rS_setix, rS_ex, rS_ret, rS_retn, rS_ite, rS_whil, rS_for, rS_brk, rS_cnt, rS_raise, rS_tr, rH_nil, rH_cons, rS_gc, rE_exa, rE_exi, rE_var, h]
theorem law_bag {ns : List Int} {q : Nat} (hl : ns.length ≤ 63) (hq : q ≤ 1000) : ∃ n g s : Int, callF ft ct (k + 1) bs 24 [.p (scr ns), .p (.int q)] st = .ok (.ref st.length) (st ++ [bagO n g s 0]) := by
  rw [callF_s f24 rfl rfl]
  have hcut : cut (ns.map P.int) none (some 63) = ns.map P.int := by
    unfold cut cl
    rw [List.length_map]
    simp only [Nat.sub_zero, List.drop_zero]
    rw [if_neg (by omega), List.take_of_length_le]
    rw [List.length_map]
    show ns.length ≤ min 63 ns.length
    omega
  have hsl : sliceA (.p (scr ns)) none (some 63) st = .ok (.ref st.length) (st ++ [.lst ((ns.map P.int).map .p)]) := by
    simp only [sliceA, scr, hcut]
  obtain ⟨st1, hst1⟩ : ∃ st1, st1 = st ++ [MO.lst ((ns.map P.int).map A.p)] := ⟨_, rfl⟩
  have e1 : evL ⟨callF ft ct k, ct⟩ (st.length :: bs) q24_1 [some (.p (scr ns)), some (.p (.int q)), none, none, none, none, none] st = .ok (ns.map fun i => .p (.int i)) st1 := by
    unfold q24_1
    rw [cq_map (v := .ref st.length) (st1 := st1) (xs := (ns.map P.int).map A.p) (g := [(st.length, .lst ((ns.map P.int).map A.p))]) (h := fun x => x) (by simp [rE_k, rE_glob, rE_bin, rE_neg, rE_cmp, rE_not, rE_chain, rE_and, rE_or, rE_ife, rE_tup, rE_lst, rE_ix, rE_slice, rE_call, rE_b1, rE_b2, rE_bq, rE_comp, rE_isi, rE_m1, rE_m2, rE_m0, rE_trng, rE_rng, rE_nil, rA_one, rA_two, rO_one, rO_two, rEs_nil, rEs_cons, rS_skip, rS_seq, rS_set, rS_sett, rS_aug, rS_setix, rS_ex, rS_ret, rS_retn, rS_ite, rS_whil, rS_for, rS_brk, rS_cnt, rS_raise, rS_tr, rH_nil, rH_cons, rS_gc, rE_exa, rE_exi, rE_var, partI, C.isNil, hsl, hst1]) (by simp [rE_k, rE_glob, rE_bin, rE_neg, rE_cmp, rE_not, rE_chain, rE_and, rE_or, rE_ife, rE_tup, rE_lst, rE_ix, rE_slice, rE_call, rE_b1, rE_b2, rE_bq, rE_comp, rE_isi, rE_m1, rE_m2, rE_m0, rE_trng, rE_rng, rE_nil, rA_one, rA_two, rO_one, rO_two, rEs_nil, rEs_cons, rS_skip, rS_seq, rS_set, rS_sett, rS_aug, rS_setix, rS_ex, rS_ret, rS_retn, rS_ite, rS_whil, rS_for, rS_brk, rS_cnt, rS_raise, rS_tr, rH_nil, rH_cons, rS_gc, rE_exa, rE_exi, rE_var, walkOf, seqOf, hst1]) (fun e he => by
      rw [List.mem_singleton] at he
      subst he
      simp [rE_k, rE_glob, rE_bin, rE_neg, rE_cmp, rE_not, rE_chain, rE_and, rE_or, rE_ife, rE_tup, rE_lst, rE_ix, rE_slice, rE_call, rE_b1, rE_b2, rE_bq, rE_comp, rE_isi, rE_m1, rE_m2, rE_m0, rE_trng, rE_rng, rE_nil, rA_one, rA_two, rO_one, rO_two, rEs_nil, rEs_cons, rS_skip, rS_seq, rS_set, rS_sett, rS_aug, rS_setix, rS_ex, rS_ret, rS_retn, rS_ite, rS_whil, rS_for, rS_brk, rS_cnt, rS_raise, rS_tr, rH_nil, rH_cons, rS_gc, rE_exa, rE_exi, rE_var, hst1]) (by simp; show _ < 16777216; omega) (fun x hx => by
      obtain ⟨i, _, rfl⟩ : ∃ i, i ∈ ns ∧ A.p (.int i) = x := by simpa using hx
      exact ⟨_, bindS_1, by simp [rE_k, rE_glob, rE_bin, rE_neg, rE_cmp, rE_not, rE_chain, rE_and, rE_or, rE_ife, rE_tup, rE_lst, rE_ix, rE_slice, rE_call, rE_b1, rE_b2, rE_bq, rE_comp, rE_isi, rE_m1, rE_m2, rE_m0, rE_trng, rE_rng, rE_nil, rA_one, rA_two, rO_one, rO_two, rEs_nil, rEs_cons, rS_skip, rS_seq, rS_set, rS_sett, rS_aug, rS_setix, rS_ex, rS_ret, rS_retn, rS_ite, rS_whil, rS_for, rS_brk, rS_cnt, rS_raise, rS_tr, rH_nil, rH_cons, rS_gc, rE_exa, rE_exi, rE_var, wipeS]⟩)]
    simp
  have e2 : lfun .sum (ns.map fun i => .p (.int i)) st1 = .ok (.p (.int (ns.map id).sum)) st1 := lsum (f := id)
  obtain ⟨t, ht⟩ : ∃ t, t = (ns.map id).sum % 1000003 + 7919 * (q : Int) + 1 := ⟨_, rfl⟩
  have q1 : -18446744073709551616 < (q : Int) ∧ (q : Int) < 18446744073709551616 := by omega
  have p18 : (10 : Int) ^ 18 = 1000000000000000000 := by decide
  have fin1 : ∀ x y z : Int, fin st.length (.ref st1.length) (st1 ++ [bagO x y z 0]) = .ok (.ref st.length) (st ++ [bagO x y z 0]) := fun x y z => by
    have hl1 : st1.length = st.length + 1 := by simp [rE_k, rE_glob, rE_bin, rE_neg, rE_cmp, rE_not, rE_chain, rE_and, rE_or, rE_ife, rE_tup, rE_lst, rE_ix, rE_slice, rE_call, rE_b1, rE_b2, rE_bq, rE_comp, rE_isi, rE_m1, rE_m2, rE_m0, rE_trng, rE_rng, rE_nil, rA_one, rA_two, rO_one, rO_two, rEs_nil, rEs_cons, rS_skip, rS_seq, rS_set, rS_sett, rS_aug, rS_setix, rS_ex, rS_ret, rS_retn, rS_ite, rS_whil, rS_for, rS_brk, rS_cnt, rS_raise, rS_tr, rH_nil, rH_cons, rS_gc, rE_exa, rE_exi, rE_var, hst1]
    have hb : MO.bel st.length (bagO x y z 0) = true := rfl
    have ht : (st1 ++ [bagO x y z 0]).take st.length = st := by simp [rE_k, rE_glob, rE_bin, rE_neg, rE_cmp, rE_not, rE_chain, rE_and, rE_or, rE_ife, rE_tup, rE_lst, rE_ix, rE_slice, rE_call, rE_b1, rE_b2, rE_bq, rE_comp, rE_isi, rE_m1, rE_m2, rE_m0, rE_trng, rE_rng, rE_nil, rA_one, rA_two, rO_one, rO_two, rEs_nil, rEs_cons, rS_skip, rS_seq, rS_set, rS_sett, rS_aug, rS_setix, rS_ex, rS_ret, rS_retn, rS_ite, rS_whil, rS_for, rS_brk, rS_cnt, rS_raise, rS_tr, rH_nil, rH_cons, rS_gc, rE_exa, rE_exi, rE_var, hst1]
    unfold fin
    simp only
    rw [if_neg (by omega), get_end]
    simp only [hb, if_true]
    rw [ht]
  have tail : ∀ (n : Int) (o : Option A), ∃ n' g s : Int, endF st.length (evS ⟨callF ft ct k, ct⟩ (st.length :: bs) (b24_2) [some (.p (scr ns)), some (.p (.int q)), some (.p (.int n)), none, none, none, o] st1) = .ok (.ref st.length) (st ++ [bagO n' g s 0]) := fun n o => by
    by_cases h1 : n < 0
    · by_cases h2 : 1000000000000000000 ≤ -n
      · refine ⟨-n, 1, (-n * 2 + 1) % 2147483629 + 31 * q, ?_⟩
        have := fin1 (-n) 1 ((-n * 2 + 1) % 2147483629 + 31 * q)
        simp [rE_k, rE_glob, rE_bin, rE_neg, rE_cmp, rE_not, rE_chain, rE_and, rE_or, rE_ife, rE_tup, rE_lst, rE_ix, rE_slice, rE_call, rE_b1, rE_b2, rE_bq, rE_comp, rE_isi, rE_m1, rE_m2, rE_m0, rE_trng, rE_rng, rE_nil, rA_one, rA_two, rO_one, rO_two, rEs_nil, rEs_cons, rS_skip, rS_seq, rS_set, rS_sett, rS_aug, rS_setix, rS_ex, rS_ret, rS_retn, rS_ite, rS_whil, rS_for, rS_brk, rS_cnt, rS_raise, rS_tr, rH_nil, rH_cons, rS_gc, rE_exa, rE_exi, rE_var, b24_2, b24_3, b24_4, b24_5, b24_6, b24_7, h1, h2, p18, q1, bagO] at this ⊢
        exact this
      · refine ⟨-n, 0, (-n * 2 + 1) % 2147483629 + 31 * q, ?_⟩
        have := fin1 (-n) 0 ((-n * 2 + 1) % 2147483629 + 31 * q)
        simp [rE_k, rE_glob, rE_bin, rE_neg, rE_cmp, rE_not, rE_chain, rE_and, rE_or, rE_ife, rE_tup, rE_lst, rE_ix, rE_slice, rE_call, rE_b1, rE_b2, rE_bq, rE_comp, rE_isi, rE_m1, rE_m2, rE_m0, rE_trng, rE_rng, rE_nil, rA_one, rA_two, rO_one, rO_two, rEs_nil, rEs_cons, rS_skip, rS_seq, rS_set, rS_sett, rS_aug, rS_setix, rS_ex, rS_ret, rS_retn, rS_ite, rS_whil, rS_for, rS_brk, rS_cnt, rS_raise, rS_tr, rH_nil, rH_cons, rS_gc, rE_exa, rE_exi, rE_var, b24_2, b24_3, b24_4, b24_5, b24_6, b24_7, h1, h2, p18, q1, bagO] at this ⊢
        exact this
    · by_cases h2 : 1000000000000000000 ≤ n
      · refine ⟨n, 1, (n * 2 + 0) % 2147483629 + 31 * q, ?_⟩
        have := fin1 n 1 ((n * 2 + 0) % 2147483629 + 31 * q)
        simp [rE_k, rE_glob, rE_bin, rE_neg, rE_cmp, rE_not, rE_chain, rE_and, rE_or, rE_ife, rE_tup, rE_lst, rE_ix, rE_slice, rE_call, rE_b1, rE_b2, rE_bq, rE_comp, rE_isi, rE_m1, rE_m2, rE_m0, rE_trng, rE_rng, rE_nil, rA_one, rA_two, rO_one, rO_two, rEs_nil, rEs_cons, rS_skip, rS_seq, rS_set, rS_sett, rS_aug, rS_setix, rS_ex, rS_ret, rS_retn, rS_ite, rS_whil, rS_for, rS_brk, rS_cnt, rS_raise, rS_tr, rH_nil, rH_cons, rS_gc, rE_exa, rE_exi, rE_var, b24_2, b24_3, b24_4, b24_5, b24_6, b24_7, h1, h2, p18, q1, bagO] at this ⊢
        exact this
      · refine ⟨n, 0, (n * 2 + 0) % 2147483629 + 31 * q, ?_⟩
        have := fin1 n 0 ((n * 2 + 0) % 2147483629 + 31 * q)
        simp [rE_k, rE_glob, rE_bin, rE_neg, rE_cmp, rE_not, rE_chain, rE_and, rE_or, rE_ife, rE_tup, rE_lst, rE_ix, rE_slice, rE_call, rE_b1, rE_b2, rE_bq, rE_comp, rE_isi, rE_m1, rE_m2, rE_m0, rE_trng, rE_rng, rE_nil, rA_one, rA_two, rO_one, rO_two, rEs_nil, rEs_cons, rS_skip, rS_seq, rS_set, rS_sett, rS_aug, rS_setix, rS_ex, rS_ret, rS_retn, rS_ite, rS_whil, rS_for, rS_brk, rS_cnt, rS_raise, rS_tr, rH_nil, rH_cons, rS_gc, rE_exa, rE_exi, rE_var, b24_2, b24_3, b24_4, b24_5, b24_6, b24_7, h1, h2, p18, q1, bagO] at this ⊢
        exact this
  by_cases h1 : q < ns.length ∧ q < 63
  · have h2 : (q : Int) < 63 := by omega
    have h3 : ns[q]? = some ns[q] := List.getElem?_eq_getElem h1.1
    obtain ⟨n', g, s, e⟩ := tail ns[q] none
    refine ⟨n', g, s, ?_⟩
    rw [← e]
    have b1s : b1fun .len (.p (scr ns)) st1 = .ok (.p (.int ns.length)) st1 := by simp [rE_k, rE_glob, rE_bin, rE_neg, rE_cmp, rE_not, rE_chain, rE_and, rE_or, rE_ife, rE_tup, rE_lst, rE_ix, rE_slice, rE_call, rE_b1, rE_b2, rE_bq, rE_comp, rE_isi, rE_m1, rE_m2, rE_m0, rE_trng, rE_rng, rE_nil, rA_one, rA_two, rO_one, rO_two, rEs_nil, rEs_cons, rS_skip, rS_seq, rS_set, rS_sett, rS_aug, rS_setix, rS_ex, rS_ret, rS_retn, rS_ite, rS_whil, rS_for, rS_brk, rS_cnt, rS_raise, rS_tr, rH_nil, rH_cons, rS_gc, rE_exa, rE_exi, rE_var, scr]
    simp [rE_k, rE_glob, rE_bin, rE_neg, rE_cmp, rE_not, rE_chain, rE_and, rE_or, rE_ife, rE_tup, rE_lst, rE_ix, rE_slice, rE_call, rE_b1, rE_b2, rE_bq, rE_comp, rE_isi, rE_m1, rE_m2, rE_m0, rE_trng, rE_rng, rE_nil, rA_one, rA_two, rO_one, rO_two, rEs_nil, rEs_cons, rS_skip, rS_seq, rS_set, rS_sett, rS_aug, rS_setix, rS_ex, rS_ret, rS_retn, rS_ite, rS_whil, rS_for, rS_brk, rS_cnt, rS_raise, rS_tr, rH_nil, rH_cons, rS_gc, rE_exa, rE_exi, rE_var, f24, b24, b24_1, e1, e2, h1, h2, h3, getix_scr, q1, b1s]
  · obtain ⟨n', g, s, e⟩ := tail t none
    refine ⟨n', g, s, ?_⟩
    rw [← e]
    have b1s : b1fun .len (.p (scr ns)) st1 = .ok (.p (.int ns.length)) st1 := by simp [rE_k, rE_glob, rE_bin, rE_neg, rE_cmp, rE_not, rE_chain, rE_and, rE_or, rE_ife, rE_tup, rE_lst, rE_ix, rE_slice, rE_call, rE_b1, rE_b2, rE_bq, rE_comp, rE_isi, rE_m1, rE_m2, rE_m0, rE_trng, rE_rng, rE_nil, rA_one, rA_two, rO_one, rO_two, rEs_nil, rEs_cons, rS_skip, rS_seq, rS_set, rS_sett, rS_aug, rS_setix, rS_ex, rS_ret, rS_retn, rS_ite, rS_whil, rS_for, rS_brk, rS_cnt, rS_raise, rS_tr, rH_nil, rH_cons, rS_gc, rE_exa, rE_exi, rE_var, scr]
    have h2 : ¬ q < ns.length := by omega
    simp [rE_k, rE_glob, rE_bin, rE_neg, rE_cmp, rE_not, rE_chain, rE_and, rE_or, rE_ife, rE_tup, rE_lst, rE_ix, rE_slice, rE_call, rE_b1, rE_b2, rE_bq, rE_comp, rE_isi, rE_m1, rE_m2, rE_m0, rE_trng, rE_rng, rE_nil, rA_one, rA_two, rO_one, rO_two, rEs_nil, rEs_cons, rS_skip, rS_seq, rS_set, rS_sett, rS_aug, rS_setix, rS_ex, rS_ret, rS_retn, rS_ite, rS_whil, rS_for, rS_brk, rS_cnt, rS_raise, rS_tr, rH_nil, rH_cons, rS_gc, rE_exa, rE_exi, rE_var, f24, b24, b24_1, e1, e2, h2, q1, b1s, ht]
end K92

set_option Elab.async false
set_option linter.all false
set_option maxRecDepth 100000
set_option maxHeartbeats 4000000
namespace K92
open PySem Fc
variable {k : Nat} {bs : List Nat} {st : St}
theorem take_ok : Take (callF ft ct (k + 1)) 25 := fun bs st j o B m h hb hB m1 m2 => by
  obtain ⟨n, g, s, c, rfl, c0, c1⟩ := hb
  obtain ⟨d, n', c', hd, e, h0, h1⟩ := law_take (k := k) (bs := bs) h c0 (by omega) m1 m2
  exact ⟨d, _, hd, ⟨n', g, s, c', rfl, h0, by omega⟩, e⟩
/-- a machine as drawn -/
structure Drawn (m : List (List (Nat × Nat))) (s n a : Nat) : Prop where
  l : m.length = s
  row : ∀ r ∈ m, r.length = n
  cell : ∀ r ∈ m, ∀ c ∈ r, c.1 < a ∧ c.2 < s
theorem law_machine {j s n a B : Nat} {o : MO} (h : st[j]? = some o) (hb : Bag B o) (hB : B ≤ 1000000) (s1 : 1 ≤ s) (s2 : s ≤ 64) (n2 : n ≤ 6) (a1 : 1 ≤ a) (a2 : a ≤ 100) :
    WE (callF ft ct (k + 2) bs 26 [.ref j, .p (.int s), .p (.int n), .p (.int a)] st) NoX fun v s' => ∃ m o', Drawn m s n a ∧ Bag (B + s * (n * 2)) o' ∧ v = .p (E m) ∧ s' = st.set j o' := by
  refine W_call f26 rfl rfl ?_
  have hj := lt_of_get h
  have hsn : s * (n * 2) ≤ 64 * (6 * 2) := Nat.mul_le_mul s2 (Nat.mul_le_mul n2 (Nat.le_refl _))
  ((try simp -dsimp (disch := first | assumption | omega | (simp; done) | fail) [-getElem?_pos, f26, b26, b26_1, b26_2]) <;> (repeat (with_reducible refine hold ?_)))
  refine W_range (fun i σ s' => ∃ (m : List (List (Nat × Nat))) (o' : MO), m.length = i ∧ (∀ r ∈ m, r.length = n) ∧ (∀ r ∈ m, ∀ c ∈ r, c.1 < a ∧ c.2 < s) ∧ Bag (B + i * (n * 2)) o' ∧ s' = st.set j o' ++ [LL m] ∧ (∃ u5 u6 u7 : Option A, σ = [some (.ref j), some (.p (.int s)), some (.p (.int n)), some (.p (.int a)), some (.ref st.length), u5, u6, u7])) ?_ ?_ ?_
  · exact ⟨[], o, rfl, by simp, by simp, by simpa using hb, by rw [set_self h]; rfl, ⟨_, _, _, rfl⟩⟩
  · rintro i σ s' hi ⟨m, o', h1, h2, h3, h4, rfl, ⟨u5, u6, u7, rfl⟩⟩
    have hin : i * (n * 2) ≤ 64 * (6 * 2) := Nat.mul_le_mul (by omega) (Nat.mul_le_mul n2 (Nat.le_refl _))
    ((try simp -dsimp (disch := first | assumption | omega | (simp; done) | fail) [-getElem?_pos, l26_2]) <;> (repeat (with_reducible refine hold ?_)))
    refine W_range (fun i' σ s' => ∃ (r : List (Nat × Nat)) (o' : MO), r.length = i' ∧ (∀ c ∈ r, c.1 < a ∧ c.2 < s) ∧ Bag (B + i * (n * 2) + i' * 2) o' ∧ s' = st.set j o' ++ [LL m, LL r] ∧ (∃ u7 : Option A, σ = [some (.ref j), some (.p (.int s)), some (.p (.int n)), some (.p (.int a)), some (.ref st.length), some (.p (.int i)), some (.ref (st.length + 1)), u7])) ?_ ?_ ?_
    · exact ⟨[], o', rfl, by simp, by simpa using h4, rfl, ⟨_, rfl⟩⟩
    · rintro i' σ s' hi' ⟨r, o', h1', h3', h4', rfl, ⟨u7, rfl⟩⟩
      ((try simp -dsimp (disch := first | assumption | omega | (simp; done) | fail) [-getElem?_pos, l26_1]) <;> (repeat (with_reducible refine hold ?_)))
      refine take_ok.w a (gsj hj) h4' (by omega) fun d1 o1 hd1 hb1 => ?_
      ((try simp -dsimp (disch := first | assumption | omega | (simp; done) | fail) [-getElem?_pos]) <;> (repeat (with_reducible refine hold ?_)))
      refine take_ok.w s (gsj hj) hb1 (by omega) fun d2 o2 hd2 hb2 => ?_
      have hlr : r.length < szl := by show _ < 16777216; omega
      ((try simp -dsimp (disch := first | assumption | omega | (simp; done) | fail) [-getElem?_pos]) <;> (repeat (with_reducible refine hold ?_)))
      exact ⟨r ++ [(d1, d2)], o2, by simp [h1'], all_snoc h3' ⟨hd1, hd2⟩, by rw [Nat.succ_mul]; exact hb2.mono (by omega), rfl, ⟨_, rfl⟩⟩
    · rintro σ s' ⟨r, o', h1', h3', h4', rfl, ⟨u7, rfl⟩⟩
      have hlm : m.length < szl := by show _ < 16777216; omega
      ((try simp -dsimp (disch := first | assumption | omega | (simp; done) | fail) [-getElem?_pos]) <;> (repeat (with_reducible refine hold ?_)))
      exact ⟨m ++ [r], o', by simp [h1], all_snoc h2 h1', all_snoc h3 h3', by rw [Nat.succ_mul]; exact h4'.mono (by omega), rfl, ⟨_, _, _, rfl⟩⟩
  · rintro σ s' ⟨m, o', h1, h2, h3, h4, rfl, ⟨u5, u6, u7, rfl⟩⟩
    ((try simp -dsimp (disch := first | assumption | omega | (simp; done) | fail) [-getElem?_pos]) <;> (repeat (with_reducible refine hold ?_)))
    exact ⟨m, o', ⟨h1, h2, h3⟩, h4, rfl, rfl⟩
theorem law_row {j n L B : Nat} {o : MO} (h : st[j]? = some o) (hb : Bag B o) (hB : B ≤ 1000000) (n1 : 1 ≤ n) (n2 : n ≤ 6) (hL : L ≤ 100) :
    WE (callF ft ct (k + 2) bs 29 [.ref j, .p (.int n), .p (.int L)] st) NoX fun v s' => ∃ (xs : List Nat) (o' : MO), xs.length ≤ L ∧ (∀ x ∈ xs, x < n) ∧ Bag (B + (L + 1)) o' ∧ v = .p (E xs) ∧ s' = st.set j o' := by
  refine W_call f29 rfl rfl ?_
  have hj := lt_of_get h
  ((try simp -dsimp (disch := first | assumption | omega | (simp; done) | fail) [-getElem?_pos, f29, b29, q29_1]) <;> (repeat (with_reducible refine hold ?_)))
  refine take_ok.w (L + 1) h hb (by omega) fun d o1 hd hb1 => ?_
  ((try simp -dsimp (disch := first | assumption | omega | (simp; done) | fail) [-getElem?_pos]) <;> (repeat (with_reducible refine hold ?_)))
  refine W_compR (fun i xs s => ∃ o', (∀ x ∈ xs, x < n) ∧ Bag (B + 1 + i) o' ∧ s = st.set j o') ⟨o1, by simp, hb1, rfl⟩ (by show _ < 16777216; omega) ?_ ?_
  · rintro i xs s hi hxi ⟨o', h1, h2, rfl⟩
    ((try simp -dsimp (disch := first | assumption | omega | (simp; done) | fail) [-getElem?_pos, wipeS]) <;> (repeat (with_reducible refine hold ?_)))
    refine take_ok.w n (gj hj) h2 (by omega) fun d1 o2 hd1 hb2 => ?_
    ((try simp -dsimp (disch := first | assumption | omega | (simp; done) | fail) [-getElem?_pos]) <;> (repeat (with_reducible refine hold ?_)))
    exact .inl ⟨d1, rfl, o2, all_snoc h1 hd1, hb2, by simp⟩
  · rintro xs s hxl ⟨o', h1, h2, rfl⟩
    ((try simp -dsimp (disch := first | assumption | omega | (simp; done) | fail) [-getElem?_pos]) <;> (repeat (with_reducible refine hold ?_)))
    exact ⟨xs, o', by omega, h1, h2.mono (by omega), rfl, rfl⟩
end K92

set_option Elab.async false
set_option linter.all false
set_option maxRecDepth 100000
set_option maxHeartbeats 4000000
namespace K92
open PySem Fc
variable {k : Nat} {bs : List Nat} {st : St}
abbrev Mc := List (List (Nat × Nat))
abbrev Rec := List Nat × List Nat
def cel (m : Mc) (s x : Nat) : Nat × Nat := (m.getD s []).getD x (0, 0)
/-- where a machine stands after i letters of a row -/
def nw (m : Mc) (row : List Nat) (i : Nat) : Nat := (row.take i).foldl (fun s x => (cel m s x).2) 0
def an (m : Mc) (row : List Nat) (i : Nat) : Nat := (cel m (nw m row i) (row.getD i 0)).1
def ans (m : Mc) (row : List Nat) : List Nat := (List.range row.length).map (an m row)
def bad (m : Mc) (r : Rec) (i : Nat) : Bool := !decide (an m r.1 i = r.2.getD i 0)
/-- the first wrong step, or the length -/
def soe (m : Mc) (r : Rec) : Nat := (List.range r.1.length).findIdx (bad m r)
def oP (i n : Nat) : P := if i < n then .int i else .non
structure Mk (m : Mc) (s n : Nat) : Prop where
  l : m.length = s
  s1 : 1 ≤ s
  row : ∀ r ∈ m, r.length = n
  cell : ∀ r ∈ m, ∀ c ∈ r, c.1 ≤ 99 ∧ c.2 < s
structure Rk (r : Rec) (n : Nat) : Prop where
  row : ∀ x ∈ r.1, x < n
  len : r.2.length = r.1.length
  l : r.1.length ≤ 300
  giv : ∀ a ∈ r.2, a ≤ 99
theorem Mk.at {m : Mc} {s n a x : Nat} (F : Mk m s n) (h1 : a < s) (h2 : x < n) : ∃ r c, m[a]? = some r ∧ r[x]? = some c ∧ cel m a x = c ∧ c.1 ≤ 99 ∧ c.2 < s := by
  have h1' : a < m.length := by rw [F.l]; exact h1
  have hr := List.getElem_mem h1'
  have h2' : x < m[a].length := by rw [F.row _ hr]; exact h2
  refine ⟨m[a], m[a][x], List.getElem?_eq_getElem h1', List.getElem?_eq_getElem h2', ?_, F.cell _ hr _ (List.getElem_mem h2')⟩
  unfold cel
  simp [h1', h2']
theorem nw_zero {m : Mc} {row : List Nat} : nw m row 0 = 0 := by simp [nw]
theorem nw_succ {m : Mc} {row : List Nat} {i x : Nat} (h : row[i]? = some x) : nw m row (i + 1) = (cel m (nw m row i) x).2 := by
  obtain ⟨hi, rfl⟩ := List.getElem?_eq_some_iff.mp h
  unfold nw
  rw [List.take_succ_eq_append_getElem hi, List.foldl_append]
  rfl
theorem nw_lt {m : Mc} {s n : Nat} {row : List Nat} (F : Mk m s n) (h : ∀ x ∈ row, x < n) : ∀ i, i ≤ row.length → nw m row i < s
  | 0, _ => by rw [nw_zero]; exact F.s1
  | i + 1, hi => by
    have hl : i < row.length := hi
    have hx : row[i]? = some row[i] := List.getElem?_eq_getElem hl
    rw [nw_succ hx]
    obtain ⟨r, c, _, _, g3, _, g5⟩ := F.at (nw_lt F h i (by omega)) (h _ (List.getElem_mem hl))
    rw [g3]; exact g5
/-- a step of a run -/
theorem Mk.step {m : Mc} {s n i : Nat} {row : List Nat} (F : Mk m s n) (h : ∀ x ∈ row, x < n) (hi : i < row.length) :
    ∃ x r c, row[i]? = some x ∧ x < n ∧ nw m row i < s ∧ m[nw m row i]? = some r ∧ r[x]? = some c ∧ an m row i = c.1 ∧ nw m row (i + 1) = c.2 ∧ c.1 ≤ 99 ∧ c.2 < s := by
  have hx : row[i]? = some row[i] := List.getElem?_eq_getElem hi
  have hn := nw_lt F h i (by omega)
  have hxn := h _ (List.getElem_mem hi)
  obtain ⟨r, c, g1, g2, g3, g4, g5⟩ := F.at hn hxn
  refine ⟨_, r, c, hx, hxn, hn, g1, g2, ?_, ?_, g4, g5⟩
  · unfold an
    rw [show row.getD i 0 = row[i] by simp [hi], g3]
  · rw [nw_succ hx, g3]
theorem soe_at {m : Mc} {r : Rec} {j : Nat} (hj : j < r.1.length) (h : ∀ i < j, bad m r i = false) (hb : bad m r j = true) : soe m r = j := by
  unfold soe
  rw [List.findIdx_eq (by simpa using hj)]
  exact ⟨by simpa using hb, fun i hi => by simpa using h i hi⟩
theorem soe_non {m : Mc} {r : Rec} (h : ∀ i < r.1.length, bad m r i = false) : soe m r = r.1.length := by
  have z := List.findIdx_eq_length (p := bad m r) (xs := List.range r.1.length)
  rw [List.length_range] at z
  exact z.mpr fun x hx => by simpa using h x (by simpa using hx)
theorem bad_c {m : Mc} {r : Rec} {c : Nat × Nat} {i g : Nat} (h1 : an m r.1 i = c.1) (h2 : r.2[i]? = some g) : bad m r i = !decide (c.1 = g) := by
  unfold bad
  rw [h1, show r.2.getD i 0 = g by rw [List.getD_eq_getElem?_getD, h2]; rfl]
theorem Rk.giv_at {r : Rec} {n i : Nat} (R : Rk r n) (hi : i < r.1.length) : ∃ g, r.2[i]? = some g ∧ g ≤ 99 := by
  have h : i < r.2.length := by rw [R.len]; exact hi
  exact ⟨_, List.getElem?_eq_getElem h, R.giv _ (List.getElem_mem h)⟩
theorem step_of_error {m : Mc} {s n : Nat} {r : Rec} (F : Mk m s n) (R : Rk r n) : callF ft ct (k + 1) bs 15 [.p (E m), .p (.tup [E r.1, E r.2])] st = .ok (.p (oP (soe m r) r.1.length)) st := by
  refine W_eq (W_call f15 rfl rfl ?_)
  have hl := R.l
  ((try simp -dsimp (disch := first | assumption | omega | (simp; done) | fail) [-getElem?_pos, f15, b15, b15_1, b15_2, b15_3]) <;> (repeat (with_reducible refine hold ?_)))
  refine W_range (fun j σ s => s = st ∧ (∀ i < j, bad m r i = false) ∧ (∃ u3 u6 u7 : Option A, σ = [some (.p (E m)), some (.p (.tup [E r.1, E r.2])), some (.p (.int (nw m r.1 j))), u3, some (.p (E r.1)), some (.p (E r.2)), u6, u7])) ?_ ?_ ?_
  · exact ⟨rfl, fun i hi => absurd hi (Nat.not_lt_zero i), ⟨_, _, _, rfl⟩⟩
  · rintro j σ s' hj ⟨rfl, hb, ⟨u3, u6, u7, rfl⟩⟩
    obtain ⟨x, rr, c, g1, g2, g3, g4, g5, g6, g7, g8, g9⟩ := F.step R.row hj
    obtain ⟨g, e1, e2⟩ := R.giv_at hj
    have hbc := bad_c g6 e1
    ((try simp -dsimp (disch := first | assumption | omega | (simp; done) | fail) [-getElem?_pos, l15_1, g1, g4, g5, e1]) <;> (repeat (with_reducible refine hold ?_)))
    refine WB_dec (fun hq => ?_) (fun hq => ?_)
    · ((try simp -dsimp (disch := first | assumption | omega | (simp; done) | fail) [-getElem?_pos]) <;> (repeat (with_reducible refine hold ?_)))
      refine ⟨rfl, fun i hi => ?_, by rw [g7]; exact ⟨_, _, _, rfl⟩⟩
      rcases Nat.lt_or_ge i j with z | z
      · exact hb i z
      · have : i = j := by omega
        subst this
        rw [hbc]; simp; omega
    · ((try simp -dsimp (disch := first | assumption | omega | (simp; done) | fail) [-getElem?_pos]) <;> (repeat (with_reducible refine hold ?_)))
      have : soe m r = j := soe_at hj hb (by rw [hbc]; simp; omega)
      exact ⟨by rw [this]; simp [oP, hj], rfl⟩
  · rintro σ s' ⟨rfl, hb, ⟨u3, u6, u7, rfl⟩⟩
    ((try simp -dsimp (disch := first | assumption | omega | (simp; done) | fail) [-getElem?_pos]) <;> (repeat (with_reducible refine hold ?_)))
    exact ⟨by rw [soe_non hb]; simp [oP], rfl⟩
end K92

set_option Elab.async false
set_option linter.all false
set_option maxRecDepth 100000
set_option maxHeartbeats 4000000
namespace K92
open PySem Fc
variable {k : Nat} {bs : List Nat} {st : St}
@[simp] theorem isN_oP {i n : Nat} : A.isN (.p (oP i n)) = !decide (i < n) := by
  unfold oP
  split <;> simp [*, A.isN]
/-- a machine answers all records -/
def good (m : Mc) (log : List Rec) : Bool := log.all fun r => decide (¬ soe m r < r.1.length)
theorem soe_le {m : Mc} {r : Rec} : soe m r ≤ r.1.length := by
  unfold soe
  have := List.findIdx_le_length (p := bad m r) (xs := List.range r.1.length)
  simpa using this
theorem first_error {m : Mc} {s n : Nat} {log : List Rec} (F : Mk m s n) (R : ∀ r ∈ log, Rk r n) (hl : log.length ≤ 128) : ∃ x, callF ft ct (k + 2) bs 16 [.p (E m), .p (E log)] st = .ok (.p x) st ∧ A.isN (.p x) = good m log := by
  have z : WE (callF ft ct (k + 2) bs 16 [.p (E m), .p (E log)] st) NoX fun v s' => Hold (∃ x, v = .p x ∧ s' = st ∧ A.isN (.p x) = good m log) := by
    refine W_call f16 rfl rfl ?_
    ((try simp -dsimp (disch := first | assumption | omega | (simp; done) | fail) [-getElem?_pos, f16, b16, b16_1]) <;> (repeat (with_reducible refine hold ?_)))
    refine W_range (fun j σ s => s = st ∧ (∀ r ∈ log.take j, ¬ soe m r < r.1.length) ∧ (∃ u2 u3 : Option A, σ = [some (.p (E m)), some (.p (E log)), u2, u3])) ?_ ?_ ?_
    · exact ⟨rfl, fun r hr => by simp at hr, ⟨_, _, rfl⟩⟩
    · rintro j σ s' hj ⟨rfl, hb, ⟨u2, u3, rfl⟩⟩
      have hx : log[j]? = some log[j] := List.getElem?_eq_getElem hj
      have hm := List.getElem_mem hj
      generalize log[j] = r at hx hm
      have e := step_of_error (k := k) (bs := s'.length :: bs) (st := s') F (R _ hm)
      ((try simp -dsimp (disch := first | assumption | omega | (simp; done) | fail) [-getElem?_pos, l16_1, hx, e]) <;> (repeat (with_reducible refine hold ?_)))
      refine WB_dec (fun hq => ?_) (fun hq => ?_)
      · ((try simp -dsimp (disch := first | assumption | omega | (simp; done) | fail) [-getElem?_pos]) <;> (repeat (with_reducible refine hold ?_)))
        refine ⟨_, rfl, rfl, ?_⟩
        have : good m log = false := by
          rw [Bool.eq_false_iff]
          intro h
          have := List.all_eq_true.mp h r hm
          simp at this
          omega
        rw [this]; rfl
      · ((try simp -dsimp (disch := first | assumption | omega | (simp; done) | fail) [-getElem?_pos]) <;> (repeat (with_reducible refine hold ?_)))
        refine ⟨rfl, fun r' hr' => ?_, ⟨_, _, rfl⟩⟩
        rw [List.take_succ, hx] at hr'
        rcases List.mem_append.mp hr' with z | z
        · exact hb _ z
        · simp at z; subst z; exact hq
    · rintro σ s' ⟨rfl, hb, ⟨u2, u3, rfl⟩⟩
      ((try simp -dsimp (disch := first | assumption | omega | (simp; done) | fail) [-getElem?_pos]) <;> (repeat (with_reducible refine hold ?_)))
      refine ⟨_, rfl, rfl, ?_⟩
      have : good m log = true := List.all_eq_true.mpr fun r hr => by
        have := hb r (by rw [List.take_length]; exact hr)
        simpa using this
      rw [this]; rfl
  obtain ⟨v, s', e, x, rfl, rfl, h⟩ := W_ex z
  exact ⟨x, e, h⟩
theorem law_run {m : Mc} {s n : Nat} {row : List Nat} (F : Mk m s n) (h : ∀ x ∈ row, x < n) (hl : row.length ≤ 300) : callF ft ct (k + 1) bs 31 [.p (E m), .p (.int 0), .p (E row)] st = .ok (.p (.tup [E (ans m row), .int (nw m row row.length)])) st := by
  refine W_eq (W_call f31 rfl rfl ?_)
  ((try simp -dsimp (disch := first | assumption | omega | (simp; done) | fail) [-getElem?_pos, f31, b31, b31_1, b31_2, b31_3]) <;> (repeat (with_reducible refine hold ?_)))
  unfold IT
  refine W_items (fun j σ s => s = st ++ [LL ((List.range j).map (an m row))] ∧ (∃ u5 : Option A, σ = [some (.p (E m)), some (.p (.int 0)), some (.p (E row)), some (.p (.int (nw m row j))), some (.ref st.length), u5])) ?_ ?_ ?_
  · exact ⟨rfl, ⟨_, rfl⟩⟩
  · rintro j x' σ s' hx' ⟨rfl, ⟨u5, rfl⟩⟩
    obtain ⟨hj, _⟩ := List.getElem?_eq_some_iff.mp hx'
    obtain ⟨x, rr, c, g1, g2, g3, g4, g5, g6, g7, g8, g9⟩ := F.step h hj
    rw [g1] at hx'
    cases hx'
    have hz : ((List.range j).map (an m row)).length < szl := by rw [List.length_map, List.length_range]; show _ < 16777216; omega
    ((try simp -dsimp (disch := first | assumption | omega | (simp; done) | fail) [-getElem?_pos, l31_1, g4, g5]) <;> (repeat (with_reducible refine hold ?_)))
    exact ⟨by rw [List.range_succ, List.map_append, ← g6]; rfl, by rw [g7]; exact ⟨_, rfl⟩⟩
  · rintro σ s' ⟨rfl, ⟨u5, rfl⟩⟩
    ((try simp -dsimp (disch := first | assumption | omega | (simp; done) | fail) [-getElem?_pos]) <;> (repeat (with_reducible refine hold ?_)))
    exact ⟨rfl, rfl⟩
theorem law_answers {m : Mc} {s n : Nat} {row : List Nat} (F : Mk m s n) (h : ∀ x ∈ row, x < n) (hl : row.length ≤ 300) : callF ft ct (k + 2) bs 32 [.p (E m), .p (E row)] st = .ok (.p (E (ans m row))) st := by
  refine W_eq (W_call f32 rfl rfl ?_)
  ((try simp -dsimp (disch := first | assumption | omega | (simp; done) | fail) [-getElem?_pos, f32, b32, law_run F h hl]) <;> (repeat (with_reducible refine hold ?_)))
  exact ⟨rfl, rfl⟩
theorem law_error {m : Mc} {s n : Nat} {r : Rec} (F : Mk m s n) (R : Rk r n) : callF ft ct (k + 3) bs 33 [.p (E m), .p (.tup [E r.1, E r.2])] st = .ok (.p (oP (soe m r) r.1.length)) st := by
  refine W_eq (W_call f33 rfl rfl ?_)
  have hl := R.l
  have ha : (ans m r.1).length = r.1.length := by simp [ans]
  ((try simp -dsimp (disch := first | assumption | omega | (simp; done) | fail) [-getElem?_pos, f33, b33, b33_1, b33_2, law_answers F R.row R.l, ha]) <;> (repeat (with_reducible refine hold ?_)))
  refine W_range (fun j σ s => s = st ∧ (∀ i < j, bad m r i = false) ∧ (∃ u3 : Option A, σ = [some (.p (E m)), some (.p (.tup [E r.1, E r.2])), some (.p (E (ans m r.1))), u3])) ?_ ?_ ?_
  · exact ⟨rfl, fun i hi => absurd hi (Nat.not_lt_zero i), ⟨_, rfl⟩⟩
  · rintro j σ s' hj ⟨rfl, hb, ⟨u3, rfl⟩⟩
    obtain ⟨x, rr, c, g1, g2, g3, g4, g5, g6, g7, g8, g9⟩ := F.step R.row hj
    obtain ⟨g, e1, e2⟩ := R.giv_at hj
    have hbc := bad_c g6 e1
    have ea : (ans m r.1)[j]? = some c.1 := by simp [ans, hj, g6]
    ((try simp -dsimp (disch := first | assumption | omega | (simp; done) | fail) [-getElem?_pos, l33_1, ea, e1]) <;> (repeat (with_reducible refine hold ?_)))
    refine WB_dec (fun hq => ?_) (fun hq => ?_)
    · ((try simp -dsimp (disch := first | assumption | omega | (simp; done) | fail) [-getElem?_pos]) <;> (repeat (with_reducible refine hold ?_)))
      refine ⟨rfl, fun i hi => ?_, ⟨_, rfl⟩⟩
      rcases Nat.lt_or_ge i j with z | z
      · exact hb i z
      · have : i = j := by omega
        subst this
        rw [hbc]; simp; omega
    · ((try simp -dsimp (disch := first | assumption | omega | (simp; done) | fail) [-getElem?_pos]) <;> (repeat (with_reducible refine hold ?_)))
      have : soe m r = j := soe_at hj hb (by rw [hbc]; simp; omega)
      exact ⟨by rw [this]; simp [oP, hj], rfl⟩
  · rintro σ s' ⟨rfl, hb, ⟨u3, rfl⟩⟩
    ((try simp -dsimp (disch := first | assumption | omega | (simp; done) | fail) [-getElem?_pos]) <;> (repeat (with_reducible refine hold ?_)))
    exact ⟨by rw [soe_non hb]; simp [oP], rfl⟩
end K92

set_option Elab.async false
set_option linter.all false
set_option maxRecDepth 100000
set_option maxHeartbeats 4000000
namespace K92
open PySem Fc
variable {k : Nat} {bs : List Nat} {st : St}
/-- a cell changed -/
def setr (r : List (Nat × Nat)) (x : Nat) (c : Nat × Nat) : List (Nat × Nat) := r.take x ++ [c] ++ r.drop (x + 1)
def setc (m : Mc) (s x : Nat) (c : Nat × Nat) : Mc := m.take s ++ [setr (m.getD s []) x c] ++ m.drop (s + 1)
theorem ins_eq {α : Type} {r : List α} {x : Nat} (c : α) (h : x < r.length) : r.take x ++ [c] ++ r.drop (x + 1) = r.set x c := by
  rw [List.set_eq_take_append_cons_drop, if_pos h]
  simp
theorem Mk.set {m : Mc} {s n a x : Nat} {c : Nat × Nat} (F : Mk m s n) (h1 : a < s) (h2 : x < n) (c1 : c.1 ≤ 99) (c2 : c.2 < s) : Mk (setc m a x c) s n := by
  obtain ⟨r, _, g1, _⟩ := F.at h1 h2
  have ha : a < m.length := by rw [F.l]; exact h1
  have hr : m.getD a [] = r := by rw [List.getD_eq_getElem?_getD, g1]; rfl
  have hm := List.mem_of_getElem? g1
  have hx : x < r.length := by rw [F.row r hm]; exact h2
  have e : setc m a x c = m.set a (r.set x c) := by
    unfold setc setr
    rw [hr, ins_eq c hx, ins_eq _ ha]
  rw [e]
  refine ⟨by rw [List.length_set]; exact F.l, F.s1, fun q hq => ?_, fun q hq d hd => ?_⟩
  · rcases List.mem_or_eq_of_mem_set hq with z | rfl
    · exact F.row q z
    · rw [List.length_set]; exact F.row r hm
  · rcases List.mem_or_eq_of_mem_set hq with z | rfl
    · exact F.cell q z d hd
    · rcases List.mem_or_eq_of_mem_set hd with z | rfl
      · exact F.cell r hm d z
      · exact ⟨c1, c2⟩
theorem with_cell {m : Mc} {s n a x : Nat} {u v : Nat} (F : Mk m s n) (hs : s ≤ 64) (hn : n ≤ 6) (h1 : a < s) (h2 : x < n) :
    callF ft ct (k + 1) bs 8 [.p (E m), .p (.int a), .p (.int x), .p (.tup [.int u, .int v])] st = .ok (.p (E (setc m a x (u, v)))) st := by
  refine W_eq (W_call f8 rfl rfl ?_)
  obtain ⟨r, _, g1, _⟩ := F.at h1 h2
  have hr : m.getD a [] = r := by rw [List.getD_eq_getElem?_getD, g1]; rfl
  have lr := F.row r (List.mem_of_getElem? g1)
  have lm := F.l
  have b1 : (r.take x).length + 1 ≤ szl := by rw [List.length_take]; show _ ≤ 16777216; omega
  have a2 := fun st => add_E (st := st) (a := r.take x ++ [(u, v)]) (b := r.drop (x + 1)) (by simp only [List.length_append, List.length_take, List.length_drop, List.length_singleton]; show _ ≤ 16777216; omega)
  have a3 := fun st => add_E1L (st := st) (a := m.take a) (x := r.take x ++ (u, v) :: r.drop (x + 1)) (by rw [List.length_take]; show _ ≤ 16777216; omega)
  have a4 := fun st => add_E (st := st) (a := m.take a ++ [r.take x ++ (u, v) :: r.drop (x + 1)]) (b := m.drop (a + 1)) (by simp only [List.length_append, List.length_take, List.length_drop, List.length_singleton]; show _ ≤ 16777216; omega)
  ((try simp -dsimp (disch := first | assumption | omega | (simp; done) | fail) [-getElem?_pos, f8, b8, b8_1, g1, a2, a3, a4]) <;> (repeat (with_reducible refine hold ?_)))
  refine ⟨?_, rfl⟩
  unfold setc setr
  rw [hr]
  simp
/-- the cells that a run uses, with the answers told at their first use -/
def usd (m : Mc) (r : Rec) : Nat → List ((Nat × Nat) × Nat)
  | 0 => []
  | i + 1 => if (lkp (nw m r.1 i, r.1.getD i 0) (usd m r i)).isSome then usd m r i else usd m r i ++ [((nw m r.1 i, r.1.getD i 0), r.2.getD i 0)]
theorem usd_len {m : Mc} {r : Rec} : ∀ i, (usd m r i).length ≤ i
  | 0 => Nat.le_refl _
  | i + 1 => by
    have := usd_len (m := m) (r := r) i
    rw [usd]
    split
    · omega
    · rw [List.length_append, List.length_singleton]; omega
theorem used_cells {m : Mc} {s n : Nat} {r : Rec} {t : Nat} (F : Mk m s n) (R : Rk r n) (ht : t < r.1.length) :
    callF ft ct (k + 1) bs 17 [.p (E m), .p (.tup [E r.1, E r.2]), .p (.int t)] st = .ok (.ref st.length) (st ++ [LL (usd m r (t + 1))]) := by
  refine W_eq (W_call f17 rfl rfl ?_)
  have hl := R.l
  have hw : walkOf (.rng 0 ((t : Int) + 1) 1) (st ++ [DD ([] : List ((Nat × Nat) × Nat))]) = some (RG (t + 1), []) := walkRng' (by omega) (by omega)
  ((try simp -dsimp (disch := first | assumption | omega | (simp; done) | fail) [-getElem?_pos, f17, b17, b17_1, b17_2, b17_3, b17_4]) <;> (repeat (with_reducible refine hold ?_)))
  show WO (walkOf (.rng 0 ((t : Int) + 1) 1) (st ++ [DD ([] : List ((Nat × Nat) × Nat))])) _
  rw [hw]
  ((try simp -dsimp (disch := first | assumption | omega | (simp; done) | fail) [-getElem?_pos]) <;> (repeat (with_reducible refine hold ?_)))
  refine W_range (fun j σ s' => s' = st ++ [DD (usd m r j)] ∧ (∃ u5 u8 : Option A, σ = [some (.p (E m)), some (.p (.tup [E r.1, E r.2])), some (.p (.int t)), some (.p (.int (nw m r.1 j))), some (.ref st.length), u5, some (.p (E r.1)), some (.p (E r.2)), u8])) ?_ ?_ ?_
  · exact ⟨rfl, ⟨_, _, rfl⟩⟩
  · rintro j σ s' hj ⟨rfl, ⟨u5, u8, rfl⟩⟩
    obtain ⟨x, rr, c, g1, g2, g3, g4, g5, g6, g7, g8, g9⟩ := F.step R.row (show j < r.1.length by omega)
    obtain ⟨g, e1, e2⟩ := R.giv_at (show j < r.1.length by omega)
    have gx : r.1.getD j 0 = x := by rw [List.getD_eq_getElem?_getD, g1]; rfl
    have gg : r.2.getD j 0 = g := by rw [List.getD_eq_getElem?_getD, e1]; rfl
    have hul := usd_len (m := m) (r := r) j
    have hsz : (usd m r j).length < szl := by show _ < 16777216; omega
    have eu : usd m r (j + 1) = if (lkp (nw m r.1 j, x) (usd m r j)).isSome then usd m r j else usd m r j ++ [((nw m r.1 j, x), g)] := by rw [usd, gx, gg]
    ((try simp -dsimp (disch := first | assumption | omega | (simp; done) | fail) [-getElem?_pos, l17_1, g1, g4, g5, e1]) <;> (repeat (with_reducible refine hold ?_)))
    cases hk : lkp (nw m r.1 j, x) (usd m r j) with
    | some y =>
      ((try simp -dsimp (disch := first | assumption | omega | (simp; done) | fail) [-getElem?_pos, g1, g4, g5, e1]) <;> (repeat (with_reducible refine hold ?_)))
      exact ⟨by rw [eu, hk]; rfl, by rw [g7]; exact ⟨_, _, rfl⟩⟩
    | none =>
      ((try simp -dsimp (disch := first | assumption | omega | (simp; done) | fail) [-getElem?_pos, g1, g4, g5, e1]) <;> (repeat (with_reducible refine hold ?_)))
      exact ⟨by rw [eu, hk]; rfl, by rw [g7]; exact ⟨_, _, rfl⟩⟩
  · rintro σ s' ⟨rfl, ⟨u5, u8, rfl⟩⟩
    ((try simp -dsimp (disch := first | assumption | omega | (simp; done) | fail) [-getElem?_pos]) <;> (repeat (with_reducible refine hold ?_)))
    rw [fin_at (n := 1) rfl bel_LL]
    ((try simp -dsimp (disch := first | assumption | omega | (simp; done) | fail) [-getElem?_pos]) <;> (repeat (with_reducible refine hold ?_)))
    exact ⟨rfl, rfl⟩
end K92

set_option Elab.async false
set_option linter.all false
set_option maxRecDepth 100000
set_option maxHeartbeats 4000000
namespace K92
open PySem Fc
variable {k : Nat} {bs : List Nat} {st : St}
/-! ### stages -/
structure Stg where
  m : Mc
  ch : List (Nat × Nat)
  ba : List (Nat × Nat)
instance : Enc Stg := ⟨fun g => .tup [E g.m, E g.ch, E g.ba], 4, fun g => by
  have h1 := kd_E g.m
  have h2 := kd_E g.ch
  have h3 := kd_E g.ba
  simp only [d_list, d_pair, d_nat] at h1 h2 h3
  simp only [P.kd, P.kds]; omega, fun a b h => by
  injection h with h; injection h with h1 h; injection h with h2 h; injection h with h3 h
  cases a; cases b
  rw [Stg.mk.injEq]
  exact ⟨Enc.inj _ _ h1, Enc.inj _ _ h2, Enc.inj _ _ h3⟩⟩
@[simp] theorem E_stg {g : Stg} : E g = .tup [E g.m, E g.ch, E g.ba] := id rfl
@[simp] theorem app_stg {j : Nat} {m : Mc} {ch ba : List (Nat × Nat)} {xs : List Stg} (h : xs.length < szl) : appO bs j (.p (.tup [E m, E ch, E ba])) st (some (LL xs)) = .ok (.p .non) (st.set j (LL (xs ++ [⟨m, ch, ba⟩]))) := appO_E (⟨m, ch, ba⟩ : Stg) rfl h
def wanted (d : Mc) (p : (Nat × Nat) × Nat) (v : Nat) : Bool := !decide (cel d p.1.1 p.1.2 = (p.2, v))
/-- the stages that a cell gives -/
def news (d m : Mc) (ch cl : List (Nat × Nat)) (p : (Nat × Nat) × Nat) (v : Nat) : List Stg := ((List.range v).filter (wanted d p)).map fun v => ⟨setc m p.1.1 p.1.2 (p.2, v), ch ++ [p.1], cl⟩
def blw (d m : Mc) (ch : List (Nat × Nat)) : List ((Nat × Nat) × Nat) → List (Nat × Nat) → List Stg
  | [], _ => []
  | p :: l, cl => news d m ch cl p d.length ++ blw d m ch l (cl ++ [p.1])
theorem blw_snoc {d m : Mc} {ch : List (Nat × Nat)} {p : (Nat × Nat) × Nat} : ∀ (l : List ((Nat × Nat) × Nat)) (cl : List (Nat × Nat)), blw d m ch (l ++ [p]) cl = blw d m ch l cl ++ news d m ch (cl ++ l.map (·.1)) p d.length
  | [], cl => by simp [blw]
  | q :: l, cl => by
    rw [List.cons_append, blw, blw_snoc l, blw, List.map_cons]
    simp
theorem news_len {d m : Mc} {ch cl : List (Nat × Nat)} {p : (Nat × Nat) × Nat} {v : Nat} : (news d m ch cl p v).length ≤ v := by
  unfold news
  rw [List.length_map]
  have := List.length_filter_le (wanted d p) (List.range v)
  simpa using this
theorem blw_len {d m : Mc} {ch : List (Nat × Nat)} : ∀ (l : List ((Nat × Nat) × Nat)) (cl : List (Nat × Nat)), (blw d m ch l cl).length ≤ l.length * d.length
  | [], cl => by simp [blw]
  | q :: l, cl => by
    have h1 := news_len (d := d) (m := m) (ch := ch) (cl := cl) (p := q) (v := d.length)
    have h2 := blw_len (d := d) (m := m) (ch := ch) l (cl ++ [q.1])
    rw [blw, List.length_append, List.length_cons, Nat.succ_mul]
    omega
def isF (ch ba : List (Nat × Nat)) (p : (Nat × Nat) × Nat) : Bool := !decide (p.1 ∈ ch) && !decide (p.1 ∈ ba)
def fre (ch ba : List (Nat × Nat)) (l : List ((Nat × Nat) × Nat)) : List ((Nat × Nat) × Nat) := l.filter (isF ch ba)
theorem fre_take {ch ba : List (Nat × Nat)} {l : List ((Nat × Nat) × Nat)} {j : Nat} {p : (Nat × Nat) × Nat} (h : l[j]? = some p) : fre ch ba (l.take (j + 1)) = fre ch ba (l.take j) ++ (if isF ch ba p then [p] else []) := by
  unfold fre
  rw [List.take_succ, h, List.filter_append]
  simp [List.filter_cons]
def below (d : Mc) (g : Stg) (r : Rec) (t : Nat) : List Stg := blw d g.m g.ch (fre g.ch g.ba (usd g.m r (t + 1))) g.ba
structure StgOk (g : Stg) (s n : Nat) : Prop where
  m : Mk g.m s n
  nd : (g.ch ++ g.ba).Nodup
  rng : ∀ c ∈ g.ch ++ g.ba, c.1 < s ∧ c.2 < n
theorem ndl : ∀ (N : Nat) (l : List Nat), l.Nodup → (∀ x ∈ l, x < N) → l.length ≤ N
  | 0, l, _, h => by
    cases l with
    | nil => exact Nat.le_refl _
    | cons x l => exact absurd (h x (.head _)) (Nat.not_lt_zero x)
  | N + 1, l, nd, h => by
    by_cases hN : N ∈ l
    · have := ndl N (l.erase N) (nd.erase N) (fun x hx => by
        have h1 := (nd.mem_erase_iff).mp hx
        have := h x h1.2
        have := h1.1
        omega)
      rw [List.length_erase_of_mem hN] at this
      omega
    · exact Nat.le_succ_of_le (ndl N l nd fun x hx => by
        have := h x hx
        have : x ≠ N := fun z => hN (z ▸ hx)
        omega)
theorem cells_le {l : List (Nat × Nat)} {s n : Nat} (nd : l.Nodup) (h : ∀ c ∈ l, c.1 < s ∧ c.2 < n) : l.length ≤ s * n := by
  have z := ndl (s * n) (l.map fun c => c.1 * n + c.2) (by
    unfold List.Nodup at nd ⊢
    rw [List.pairwise_map]
    refine List.Pairwise.imp_of_mem (fun {a b} ha hb hne e => hne ?_) nd
    have h1 := h a ha
    have h2 := h b hb
    have q1 : (a.1 * n + a.2) / n = a.1 := by rw [Nat.mul_comm, Nat.mul_add_div (by omega), Nat.div_eq_of_lt h1.2]; rfl
    have q2 : (b.1 * n + b.2) / n = b.1 := by rw [Nat.mul_comm, Nat.mul_add_div (by omega), Nat.div_eq_of_lt h2.2]; rfl
    have q3 : a.1 = b.1 := by rw [← q1, ← q2, e]
    rw [q3] at e
    exact Prod.ext q3 (by omega)) (fun x hx => by
    obtain ⟨c, hc, rfl⟩ := List.mem_map.mp hx
    have := h c hc
    calc c.1 * n + c.2 < c.1 * n + n := by omega
      _ = (c.1 + 1) * n := by rw [Nat.succ_mul]
      _ ≤ s * n := Nat.mul_le_mul_right n this.1)
  rwa [List.length_map] at z
theorem StgOk.len {g : Stg} {s n : Nat} (G : StgOk g s n) : g.ch.length + g.ba.length ≤ s * n := by
  rw [← List.length_append]
  exact cells_le G.nd G.rng
theorem usd_in {m : Mc} {r : Rec} {s n : Nat} (F : Mk m s n) (R : Rk r n) : ∀ i, i ≤ r.1.length → ∀ p ∈ usd m r i, p.1.1 < s ∧ p.1.2 < n ∧ p.2 ≤ 99
  | 0, _, p, h => by cases h
  | i + 1, hi, p, h => by
    rw [usd] at h
    split at h
    · exact usd_in F R i (by omega) p h
    · rcases List.mem_append.mp h with z | z
      · exact usd_in F R i (by omega) p z
      · rw [List.mem_singleton] at z
        subst z
        obtain ⟨x, rr, c, g1, g2, g3, _⟩ := F.step R.row (show i < r.1.length by omega)
        obtain ⟨g, e1, e2⟩ := R.giv_at (show i < r.1.length by omega)
        refine ⟨g3, ?_, ?_⟩
        · show r.1.getD i 0 < n
          rw [List.getD_eq_getElem?_getD, g1]; exact g2
        · show r.2.getD i 0 ≤ 99
          rw [List.getD_eq_getElem?_getD, e1]; exact e2
theorem lkp_mem {α β : Type} [DecidableEq α] {x : α} : ∀ {l : List (α × β)}, (lkp x l).isSome = true ↔ x ∈ l.map (·.1)
  | [] => by simp [lkp]
  | p :: l => by
    rw [lkp]
    by_cases h : p.1 = x
    · simp [h]
    · rw [if_neg h, lkp_mem]
      have : ¬ x = p.1 := fun z => h z.symm
      simp [this]
theorem usd_nd {m : Mc} {r : Rec} : ∀ i, ((usd m r i).map (·.1)).Nodup
  | 0 => List.nodup_nil
  | i + 1 => by
    rw [usd]
    split
    · exact usd_nd i
    · rename_i h
      rw [lkp_mem] at h
      rw [List.map_append, List.nodup_append]
      refine ⟨usd_nd i, by simp, fun a ha b hb => ?_⟩
      simp at hb
      subst hb
      intro z
      exact h (z ▸ ha)
end K92

set_option Elab.async false
set_option linter.all false
set_option maxRecDepth 100000
set_option maxHeartbeats 4000000
namespace K92
open PySem Fc
variable {k : Nat} {bs : List Nat} {st : St}
theorem nwi {d m : Mc} {ch cl : List (Nat × Nat)} {p : (Nat × Nat) × Nat} {v : Nat} : news d m ch cl p (v + 1) = news d m ch cl p v ++ (if wanted d p v then [⟨setc m p.1.1 p.1.2 (p.2, v), ch ++ [p.1], cl⟩] else []) := by
  unfold news
  rw [List.range_succ, List.filter_append, List.map_append]
  congr 1
  by_cases h : wanted d p v = true <;> simp [h]
theorem stages_of {d : Mc} {s n : Nat} {g : Stg} {r : Rec} {t : Nat} (D : Mk d s n) (hs : s ≤ 64) (hn : n ≤ 6) (G : StgOk g s n) (R : Rk r n) (ht : t < r.1.length) :
    callF ft ct (k + 2) bs 18 [.p (E d), .p (E g.m), .p (E g.ch), .p (E g.ba), .p (.tup [E r.1, E r.2]), .p (.int t)] st = .ok (.ref st.length) (st ++ [LL (below d g r t).reverse]) := by
  refine W_eq (W_call f18 rfl rfl ?_)
  have hl := R.l
  have e := used_cells (k := k) (bs := st.length :: bs) (st := st ++ [LL ([] : List Stg)]) G.m R ht
  have hu := usd_len (m := g.m) (r := r) (t + 1)
  have gl := G.len
  have hsn : s * n ≤ 64 * 6 := Nat.mul_le_mul hs hn
  have ld := D.l
  ((try simp -dsimp (disch := first | assumption | omega | (simp; done) | fail) [-getElem?_pos, f18, b18, b18_1, b18_2, b18_3]) <;> (repeat (with_reducible refine hold ?_)))
  simp only [List.length_append, List.length_singleton] at e
  show WE (callF ft ct (k + 1) (st.length :: bs) _ [.p (E g.m), .p (.tup [E r.1, E r.2]), .p (.int t)] (st ++ [LL ([] : List Stg)])) _ _
  rw [e]
  have hin := usd_in G.m R (t + 1) (by omega)
  unfold below
  generalize hU : usd g.m r (t + 1) = U at hu hin ⊢
  ((try simp -dsimp (disch := first | assumption | omega | (simp; done) | fail) [-getElem?_pos]) <;> (repeat (with_reducible refine hold ?_)))
  refine W_itemsJ (fun j σ s' => s' = st ++ [LL (blw d g.m g.ch (fre g.ch g.ba (U.take j)) g.ba), LL U] ∧ (∃ u8 u9 u10 u11 u12 : Option A, σ = [some (.p (E d)), some (.p (E g.m)), some (.p (E g.ch)), some (.p (E g.ba)), some (.p (.tup [E r.1, E r.2])), some (.p (.int t)), some (.ref st.length), some (.p (E (g.ba ++ (fre g.ch g.ba (U.take j)).map (·.1)))), u8, u9, u10, u11, u12])) ?_ ?_ ?_ ?_
  · exact ⟨by simp [fre, blw], by simpa [fre] using ⟨_, _, _, _, _, rfl⟩⟩
  · rintro j σ s' ⟨rfl, _⟩
    ((try simp -dsimp (disch := first | assumption | omega | (simp; done) | fail) [-getElem?_pos]) <;> (repeat (with_reducible refine hold ?_)))
  · rintro j ⟨⟨a, b⟩, q⟩ σ s' hp ⟨rfl, ⟨u8, u9, u10, u11, u12, rfl⟩⟩
    obtain ⟨h1, h2, h3⟩ := hin _ (List.mem_of_getElem? hp)
    obtain ⟨hj, _⟩ := List.getElem?_eq_some_iff.mp hp
    simp only at h1 h2 h3
    have ef := fre_take (ch := g.ch) (ba := g.ba) hp
    have hfl : (fre g.ch g.ba (U.take j)).length ≤ j := by
      unfold fre
      have := List.length_filter_le (isF g.ch g.ba) (U.take j)
      rw [List.length_take] at this
      omega
    ((try simp -dsimp (disch := first | assumption | omega | (simp; done) | fail) [-getElem?_pos, l18_2]) <;> (repeat (with_reducible refine hold ?_)))
    refine WB_dec (fun hq1 => ?_) (fun hq1 => ?_)
    · ((try simp -dsimp (disch := first | assumption | omega | (simp; done) | fail) [-getElem?_pos]) <;> (repeat (with_reducible refine hold ?_)))
      have : isF g.ch g.ba ((a, b), q) = false := by simp [isF, hq1]
      rw [ef, this]
      exact ⟨by simp, by simpa using ⟨_, _, _, _, _, rfl⟩⟩
    · ((try simp -dsimp (disch := first | assumption | omega | (simp; done) | fail) [-getElem?_pos]) <;> (repeat (with_reducible refine hold ?_)))
      refine WB_dec (fun hq2 => ?_) (fun hq2 => ?_)
      · ((try simp -dsimp (disch := first | assumption | omega | (simp; done) | fail) [-getElem?_pos]) <;> (repeat (with_reducible refine hold ?_)))
        have : isF g.ch g.ba ((a, b), q) = false := by simp [isF, hq2]
        rw [ef, this]
        exact ⟨by simp, by simpa using ⟨_, _, _, _, _, rfl⟩⟩
      · ((try simp -dsimp (disch := first | assumption | omega | (simp; done) | fail) [-getElem?_pos]) <;> (repeat (with_reducible refine hold ?_)))
        have hF : isF g.ch g.ba ((a, b), q) = true := by simp [isF, hq1, hq2]
        rw [hF] at ef
        simp only [if_true] at ef
        generalize hcl : g.ba ++ (fre g.ch g.ba (U.take j)).map (·.1) = cl
        generalize hbl : blw d g.m g.ch (fre g.ch g.ba (U.take j)) g.ba = bl
        have lcl : cl.length + 1 ≤ szl := by
          rw [← hcl, List.length_append, List.length_map]; show _ ≤ 16777216; omega
        have lch : g.ch.length + 1 ≤ szl := by show _ ≤ 16777216; omega
        have lbl : bl.length ≤ 300 * 64 := by
          have := blw_len (d := d) (m := g.m) (ch := g.ch) (fre g.ch g.ba (U.take j)) g.ba
          rw [hbl] at this
          exact Nat.le_trans this (Nat.mul_le_mul (by omega) (by omega))
        obtain ⟨dr, dc, d1, d2, d3, _⟩ := D.at h1 h2
        refine W_range (fun v σ s' => s' = st ++ [LL (bl ++ news d g.m g.ch cl ((a, b), q) v), LL U] ∧ (∃ u10 : Option A, σ = [some (.p (E d)), some (.p (E g.m)), some (.p (E g.ch)), some (.p (E g.ba)), some (.p (.tup [E r.1, E r.2])), some (.p (.int t)), some (.ref st.length), some (.p (E cl)), some (.p (.tup [.int (a : Nat), .int (b : Nat)])), some (.p (.int (q : Nat))), u10, some (.p (.int (a : Nat))), some (.p (.int (b : Nat)))])) ?_ ?_ ?_
        · exact ⟨by simp [news], ⟨_, rfl⟩⟩
        · rintro v σ s' hv ⟨rfl, ⟨u10, rfl⟩⟩
          have ew := fun s0 => with_cell (k := k) (bs := st.length :: bs) (st := s0) (u := q) (v := v) G.m hs hn h1 h2
          have lnw := news_len (d := d) (m := g.m) (ch := g.ch) (cl := cl) (p := ((a, b), q)) (v := v)
          have lz : (bl ++ news d g.m g.ch cl ((a, b), q) v).length < szl := by rw [List.length_append]; show _ < 16777216; omega
          have hwv : wanted d ((a, b), q) v = !decide (dc = (q, v)) := by unfold wanted; rw [d3]
          ((try simp -dsimp (disch := first | assumption | omega | (simp; done) | fail) [-getElem?_pos, l18_1, d1, d2]) <;> (repeat (with_reducible refine hold ?_)))
          refine WB_if (fun hq => ?_) (fun hq => ?_)
          · ((try simp -dsimp (disch := first | assumption | omega | (simp; done) | fail) [-getElem?_pos, ew]) <;> (repeat (with_reducible refine hold ?_)))
            have hw : wanted d ((a, b), q) v = true := by
              rw [hwv]; simp at hq; simp [Prod.ext_iff]; omega
            rw [nwi, hw]
            exact ⟨by simp, ⟨_, rfl⟩⟩
          · ((try simp -dsimp (disch := first | assumption | omega | (simp; done) | fail) [-getElem?_pos]) <;> (repeat (with_reducible refine hold ?_)))
            have hw : wanted d ((a, b), q) v = false := by
              rw [hwv]; simp at hq; simp [Prod.ext_iff]; omega
            rw [nwi, hw]
            exact ⟨by simp, ⟨_, rfl⟩⟩
        · rintro σ s' ⟨rfl, ⟨u10, rfl⟩⟩
          ((try simp -dsimp (disch := first | assumption | omega | (simp; done) | fail) [-getElem?_pos]) <;> (repeat (with_reducible refine hold ?_)))
          rw [ef, blw_snoc, hbl, hcl, List.map_append, ← List.append_assoc, hcl]
          exact ⟨rfl, ⟨_, _, _, _, _, rfl⟩⟩
  · rintro σ s' ⟨rfl, ⟨u8, u9, u10, u11, u12, rfl⟩⟩
    ((try simp -dsimp (disch := first | assumption | omega | (simp; done) | fail) [-getElem?_pos]) <;> (repeat (with_reducible refine hold ?_)))
    rw [fin_at (n := 2) rfl bel_LL]
    ((try simp -dsimp (disch := first | assumption | omega | (simp; done) | fail) [-getElem?_pos]) <;> (repeat (with_reducible refine hold ?_)))
    exact ⟨rfl, rfl⟩
end K92

set_option Elab.async false
set_option linter.all false
set_option maxRecDepth 100000
set_option maxHeartbeats 4000000
namespace K92
open PySem Fc
variable {k : Nat} {bs : List Nat} {st : St}
theorem fre_usd {m : Mc} {r : Rec} {ch ba : List (Nat × Nat)} {j x v : Nat} (gx : r.1.getD j 0 = x) (gg : r.2.getD j 0 = v) :
    fre ch ba (usd m r (j + 1)) = if (nw m r.1 j, x) ∉ ch ∧ (nw m r.1 j, x) ∉ ba ∧ (nw m r.1 j, x) ∉ (fre ch ba (usd m r j)).map (·.1) then fre ch ba (usd m r j) ++ [((nw m r.1 j, x), v)] else fre ch ba (usd m r j) := by
  rw [usd, gx, gg]
  by_cases h1 : (nw m r.1 j, x) ∈ ch
  · have hf : isF ch ba ((nw m r.1 j, x), v) = false := by simp [isF, h1]
    by_cases hm : (lkp (nw m r.1 j, x) (usd m r j)).isSome = true
    · rw [if_pos hm, if_neg (fun z => z.1 h1)]
    · rw [if_neg hm, if_neg (fun z => z.1 h1)]
      unfold fre; rw [List.filter_append]; simp [hf]
  by_cases h2 : (nw m r.1 j, x) ∈ ba
  · have hf : isF ch ba ((nw m r.1 j, x), v) = false := by simp [isF, h2]
    by_cases hm : (lkp (nw m r.1 j, x) (usd m r j)).isSome = true
    · rw [if_pos hm, if_neg (fun z => z.2.1 h2)]
    · rw [if_neg hm, if_neg (fun z => z.2.1 h2)]
      unfold fre; rw [List.filter_append]; simp [hf]
  have hf : ∀ y, isF ch ba ((nw m r.1 j, x), y) = true := fun y => by simp [isF, h1, h2]
  have hk : (nw m r.1 j, x) ∈ (fre ch ba (usd m r j)).map (·.1) ↔ (nw m r.1 j, x) ∈ (usd m r j).map (·.1) := by
    constructor
    · intro z
      obtain ⟨p, hp, e⟩ := List.mem_map.mp z
      exact List.mem_map.mpr ⟨p, (List.mem_filter.mp hp).1, e⟩
    · intro z
      obtain ⟨p, hp, e⟩ := List.mem_map.mp z
      refine List.mem_map.mpr ⟨p, List.mem_filter.mpr ⟨hp, ?_⟩, e⟩
      obtain ⟨a, b⟩ := p
      simp only at e
      subst e
      exact hf b
  by_cases h3 : (nw m r.1 j, x) ∈ (usd m r j).map (·.1)
  · rw [if_pos (lkp_mem.mpr h3), if_neg fun z => z.2.2 (hk.mpr h3)]
  · rw [if_neg fun z => h3 (lkp_mem.mp z), if_pos ⟨h1, h2, fun z => h3 (hk.mp z)⟩]
    unfold fre
    rw [List.filter_append]
    simp [hf]
@[simp] theorem app_cell {j a b c : Nat} {xs : List ((Nat × Nat) × Nat)} (h : xs.length < szl) : appO bs j (.p (.tup [.tup [.int (a : Int), .int (b : Int)], .int (c : Int)])) st (some (LL xs)) = .ok (.p .non) (st.set j (LL (xs ++ [((a, b), c)]))) := appO_E (((a, b), c) : (Nat × Nat) × Nat) rfl h
theorem memO_keys {a b : Nat} {F : List ((Nat × Nat) × Nat)} : memO (.tup [.int (a : Int), .int (b : Int)]) (some (.lst (F.map fun p => .p (E p.1)))) = some (decide ((a, b) ∈ F.map (·.1))) := by
  have z := memO_nn (a := a) (b := b) (ys := F.map (·.1))
  unfold LL at z
  rw [List.map_map] at z
  exact z
theorem law_below {d : Mc} {s n : Nat} {g : Stg} {r : Rec} {t : Nat} (D : Mk d s n) (hs : s ≤ 64) (hn : n ≤ 6) (G : StgOk g s n) (R : Rk r n) (ht : t < r.1.length) :
    callF ft ct (k + 2) bs 34 [.p (E d), .p (E g.m), .p (E g.ch), .p (E g.ba), .p (.tup [E r.1, E r.2]), .p (.int t)] st = .ok (.ref st.length) (st ++ [LL (below d g r t)]) := by
  refine W_eq (W_call f34 rfl rfl ?_)
  have hl := R.l
  have gl := G.len
  have hsn : s * n ≤ 64 * 6 := Nat.mul_le_mul hs hn
  have ld := D.l
  have lu : ∀ j, (fre g.ch g.ba (usd g.m r j)).length ≤ j := fun j => Nat.le_trans (List.length_filter_le _ _) (usd_len j)
  have hw : ∀ s', walkOf (.rng 0 ((t : Int) + 1) 1) s' = some (RG (t + 1), []) := fun s' => walkRng' (by omega) (by omega)
  ((try simp -dsimp (disch := first | assumption | omega | (simp; done) | fail) [-getElem?_pos, f34, b34, b34_1, b34_2, b34_3, b34_4, b34_5, b34_6, hw]) <;> (repeat (with_reducible refine hold ?_)))
  refine W_range (fun j σ s' => ∃ gb : St, s' = st ++ (LL ([] : List Stg) :: LL (fre g.ch g.ba (usd g.m r j)) :: gb) ∧ (∃ u9 u10 u11 u12 u13 u14 u15 u16 : Option A, σ = [some (.p (E d)), some (.p (E g.m)), some (.p (E g.ch)), some (.p (E g.ba)), some (.p (.tup [E r.1, E r.2])), some (.p (.int t)), some (.ref st.length), some (.ref (st.length + 1)), some (.p (.int (nw g.m r.1 j))), u9, u10, u11, u12, u13, u14, u15, u16])) ?_ ?_ ?_
  · exact ⟨[], rfl, ⟨_, _, _, _, _, _, _, _, rfl⟩⟩
  · rintro j σ s' hj ⟨gb, rfl, ⟨u9, u10, u11, u12, u13, u14, u15, u16, rfl⟩⟩
    obtain ⟨x, rr, c, g1, g2, g3, g4, g5, g6, g7, g8, g9⟩ := G.m.step R.row (show j < r.1.length by omega)
    obtain ⟨v, e1, e2⟩ := R.giv_at (show j < r.1.length by omega)
    have gx : r.1.getD j 0 = x := by rw [List.getD_eq_getElem?_getD, g1]; rfl
    have gg : r.2.getD j 0 = v := by rw [List.getD_eq_getElem?_getD, e1]; rfl
    have ef := fre_usd (m := g.m) (r := r) (ch := g.ch) (ba := g.ba) gx gg
    have luj := lu j
    have hsz : (fre g.ch g.ba (usd g.m r j)).length < szl := by show _ < 16777216; omega
    ((try simp -dsimp (disch := first | assumption | omega | (simp; done) | fail) [-getElem?_pos, l34_1, g1]) <;> (repeat (with_reducible refine hold ?_)))
    refine WB_cases (fun hq1 => ?_) (fun hq1 => ?_)
    · ((try simp -dsimp (disch := first | assumption | omega | (simp; done) | fail) [-getElem?_pos, g1, g4, g5]) <;> (repeat (with_reducible refine hold ?_)))
      have q1 := of_decide_eq_true hq1
      rw [ef, if_neg (fun z => z.1 q1)]
      exact ⟨gb, rfl, by rw [g7]; exact ⟨_, _, _, _, _, _, _, _, rfl⟩⟩
    · ((try simp -dsimp (disch := first | assumption | omega | (simp; done) | fail) [-getElem?_pos, g1, g4, g5]) <;> (repeat (with_reducible refine hold ?_)))
      have q1 := of_decide_eq_false hq1
      refine WB_cases (fun hq2 => ?_) (fun hq2 => ?_)
      · ((try simp -dsimp (disch := first | assumption | omega | (simp; done) | fail) [-getElem?_pos, g1, g4, g5]) <;> (repeat (with_reducible refine hold ?_)))
        have q2 := of_decide_eq_true hq2
        rw [ef, if_neg (fun z => z.2.1 q2)]
        exact ⟨gb, rfl, by rw [g7]; exact ⟨_, _, _, _, _, _, _, _, rfl⟩⟩
      · have q2 := of_decide_eq_false hq2
        ((try simp -dsimp (disch := first | assumption | omega | (simp; done) | fail) [-getElem?_pos, q34_1]) <;> (repeat (with_reducible refine hold ?_)))
        refine W_cmap (fun p : (Nat × Nat) × Nat => .p (E p.1)) ?_ hsz (fun p hp => ?_) ?_
        · intro e he
          rw [List.mem_singleton] at he
          subst he
          ((try simp -dsimp (disch := first | assumption | omega | (simp; done) | fail) [-getElem?_pos]) <;> (repeat (with_reducible refine hold ?_)))
        · ((try simp -dsimp (disch := first | assumption | omega | (simp; done) | fail) [-getElem?_pos, wipeS]) <;> (repeat (with_reducible refine hold ?_)))
          exact ⟨rfl, rfl⟩
        · rw [nmem_J, ga0]
          show WO ((memO _ (some (MO.lst ((fre g.ch g.ba (usd g.m r j)).map fun p => .p (E p.1))))).map _) _
          rw [memO_keys]
          ((try simp -dsimp (disch := first | assumption | omega | (simp; done) | fail) [-getElem?_pos]) <;> (repeat (with_reducible refine hold ?_)))
          refine WB_cases (fun hq3 => ?_) (fun hq3 => ?_)
          · ((try simp -dsimp (disch := first | assumption | omega | (simp; done) | fail) [-getElem?_pos, g1, g4, g5]) <;> (repeat (with_reducible refine hold ?_)))
            have q3 := of_decide_eq_true hq3
            rw [ef, if_neg (fun z => z.2.2 q3)]
            exact ⟨gb ++ [_], by simp; rfl, by rw [g7]; exact ⟨_, _, _, _, _, _, _, _, rfl⟩⟩
          · ((try simp -dsimp (disch := first | assumption | omega | (simp; done) | fail) [-getElem?_pos, g1, g4, g5, e1]) <;> (repeat (with_reducible refine hold ?_)))
            have q3 := of_decide_eq_false hq3
            rw [ef, if_pos ⟨q1, q2, q3⟩]
            exact ⟨_, rfl, by rw [g7]; exact ⟨_, _, _, _, _, _, _, _, rfl⟩⟩
  · rintro σ s' ⟨gb, rfl, ⟨u9, u10, u11, u12, u13, u14, u15, u16, rfl⟩⟩
    have hin := usd_in G.m R (t + 1) (by omega)
    have luj := lu (t + 1)
    unfold below
    have hfin : ∀ p ∈ fre g.ch g.ba (usd g.m r (t + 1)), p.1.1 < s ∧ p.1.2 < n ∧ p.2 ≤ 99 := fun p hp => hin p (List.mem_filter.mp hp).1
    generalize hU : fre g.ch g.ba (usd g.m r (t + 1)) = U at luj hfin ⊢
    ((try simp -dsimp (disch := first | assumption | omega | (simp; done) | fail) [-getElem?_pos]) <;> (repeat (with_reducible refine hold ?_)))
    refine W_itemsJ (fun j σ s' => s' = st ++ (LL (blw d g.m g.ch (U.take j) g.ba) :: LL U :: gb) ∧ (∃ u8 u9 u11 u12 u13 u14 u15 u16 : Option A, σ = [some (.p (E d)), some (.p (E g.m)), some (.p (E g.ch)), some (.p (E g.ba)), some (.p (.tup [E r.1, E r.2])), some (.p (.int t)), some (.ref st.length), some (.ref (st.length + 1)), u8, u9, some (.p (E (g.ba ++ (U.take j).map (·.1)))), u11, u12, u13, u14, u15, u16])) ?_ ?_ ?_ ?_
    · exact ⟨by simp [blw], by simpa using ⟨_, _, _, _, _, _, _, _, rfl⟩⟩
    · rintro j σ s' ⟨rfl, _⟩
      ((try simp -dsimp (disch := first | assumption | omega | (simp; done) | fail) [-getElem?_pos]) <;> (repeat (with_reducible refine hold ?_)))
    · rintro j ⟨⟨a, b⟩, q⟩ σ s' hp ⟨rfl, ⟨u8, u9, u11, u12, u13, u14, u15, u16, rfl⟩⟩
      obtain ⟨h1, h2, h3⟩ := hfin _ (List.mem_of_getElem? hp)
      obtain ⟨hj, _⟩ := List.getElem?_eq_some_iff.mp hp
      simp only at h1 h2 h3
      have ef : U.take (j + 1) = U.take j ++ [((a, b), q)] := by rw [List.take_succ, hp]; rfl
      have hfl : (U.take j).length ≤ j := by rw [List.length_take]; omega
      ((try simp -dsimp (disch := first | assumption | omega | (simp; done) | fail) [-getElem?_pos, l34_3]) <;> (repeat (with_reducible refine hold ?_)))
      generalize hcl0 : g.ba ++ (U.map (·.1)).take j = cl
      have hcl : g.ba ++ (U.take j).map (·.1) = cl := by rw [List.map_take]; exact hcl0
      generalize hbl : blw d g.m g.ch (U.take j) g.ba = bl
      have lcl : cl.length + 1 ≤ szl := by
        rw [← hcl, List.length_append, List.length_map]; show _ ≤ 16777216; omega
      have lch : g.ch.length + 1 ≤ szl := by show _ ≤ 16777216; omega
      have lbl : bl.length ≤ 300 * 64 := by
        have := blw_len (d := d) (m := g.m) (ch := g.ch) (U.take j) g.ba
        rw [hbl] at this
        exact Nat.le_trans this (Nat.mul_le_mul (by omega) (by omega))
      obtain ⟨dr, dc, d1, d2, d3, _⟩ := D.at h1 h2
      obtain ⟨r0, _, f1, _⟩ := G.m.at h1 h2
      have hr0 : g.m.getD a [] = r0 := by rw [List.getD_eq_getElem?_getD, f1]; rfl
      have lr := G.m.row r0 (List.mem_of_getElem? f1)
      have lm := G.m.l
      refine W_range (fun v σ s' => s' = st ++ (LL (bl ++ news d g.m g.ch cl ((a, b), q) v) :: LL U :: gb) ∧ (∃ u8 u9 u13 u16 : Option A, σ = [some (.p (E d)), some (.p (E g.m)), some (.p (E g.ch)), some (.p (E g.ba)), some (.p (.tup [E r.1, E r.2])), some (.p (.int t)), some (.ref st.length), some (.ref (st.length + 1)), u8, u9, some (.p (E cl)), some (.p (.tup [.int (a : Nat), .int (b : Nat)])), some (.p (.int (q : Nat))), u13, some (.p (.int (a : Nat))), some (.p (.int (b : Nat))), u16])) ?_ ?_ ?_
      · exact ⟨by simp [news], ⟨_, _, _, _, rfl⟩⟩
      · rintro v σ s' hv ⟨rfl, ⟨u8, u9, u13, u16, rfl⟩⟩
        have lnw := news_len (d := d) (m := g.m) (ch := g.ch) (cl := cl) (p := ((a, b), q)) (v := v)
        have lz : (bl ++ news d g.m g.ch cl ((a, b), q) v).length < szl := by rw [List.length_append]; show _ < 16777216; omega
        have hwv : wanted d ((a, b), q) v = !decide (dc = (q, v)) := by unfold wanted; rw [d3]
        have b1 : (r0.take b).length + 1 ≤ szl := by rw [List.length_take]; show _ ≤ 16777216; omega
        have a2 := fun st => add_E (st := st) (a := r0.take b ++ [(q, v)]) (b := r0.drop (b + 1)) (by simp only [List.length_append, List.length_take, List.length_drop, List.length_singleton]; show _ ≤ 16777216; omega)
        have a3 := fun st => add_E1L (st := st) (a := g.m.take a) (x := r0.take b ++ (q, v) :: r0.drop (b + 1)) (by rw [List.length_take]; show _ ≤ 16777216; omega)
        have a4 := fun st => add_E (st := st) (a := g.m.take a ++ [r0.take b ++ (q, v) :: r0.drop (b + 1)]) (b := g.m.drop (a + 1)) (by simp only [List.length_append, List.length_take, List.length_drop, List.length_singleton]; show _ ≤ 16777216; omega)
        have es : setc g.m a b (q, v) = g.m.take a ++ (r0.take b ++ (q, v) :: r0.drop (b + 1)) :: g.m.drop (a + 1) := by
          unfold setc setr
          rw [hr0]; simp
        ((try simp -dsimp (disch := first | assumption | omega | (simp; done) | fail) [-getElem?_pos, l34_2, d1, d2]) <;> (repeat (with_reducible refine hold ?_)))
        refine WB_cases (fun hq => ?_) (fun hq => ?_)
        · ((try simp -dsimp (disch := first | assumption | omega | (simp; done) | fail) [-getElem?_pos, f1, a2, a3, a4]) <;> (repeat (with_reducible refine hold ?_)))
          have hw : wanted d ((a, b), q) v = true := by
            rw [hwv]; simp at hq; simp [Prod.ext_iff]; omega
          rw [nwi, hw, es]
          exact ⟨by simp, ⟨_, _, _, _, rfl⟩⟩
        · ((try simp -dsimp (disch := first | assumption | omega | (simp; done) | fail) [-getElem?_pos]) <;> (repeat (with_reducible refine hold ?_)))
          have hw : wanted d ((a, b), q) v = false := by
            rw [hwv]; simp at hq; simp [Prod.ext_iff]; omega
          rw [nwi, hw]
          exact ⟨by simp, ⟨_, _, _, _, rfl⟩⟩
      · rintro σ s' ⟨rfl, ⟨u8, u9, u13, u16, rfl⟩⟩
        ((try simp -dsimp (disch := first | assumption | omega | (simp; done) | fail) [-getElem?_pos]) <;> (repeat (with_reducible refine hold ?_)))
        rw [ef, blw_snoc, hbl, hcl, List.map_append, ← List.append_assoc, hcl]
        exact ⟨rfl, ⟨_, _, _, _, _, _, _, _, rfl⟩⟩
    · rintro σ s' ⟨rfl, ⟨u8, u9, u11, u12, u13, u14, u15, u16, rfl⟩⟩
      ((try simp -dsimp (disch := first | assumption | omega | (simp; done) | fail) [-getElem?_pos]) <;> (repeat (with_reducible refine hold ?_)))
      rw [fin_new bel_LL]
      ((try simp -dsimp (disch := first | assumption | omega | (simp; done) | fail) [-getElem?_pos]) <;> (repeat (with_reducible refine hold ?_)))
      exact ⟨rfl, rfl⟩
end K92

set_option Elab.async false
set_option linter.all false
set_option maxRecDepth 100000
set_option maxHeartbeats 4000000
namespace K92
open PySem Fc
variable {k : Nat} {bs : List Nat} {st : St}
/-! ### how much is left -/
def wt (N s : Nat) : List Stg → Nat
  | [] => 0
  | g :: r => (1 + s) ^ (N - (g.ch.length + g.ba.length)) + wt N s r
theorem wt_app {N s : Nat} : ∀ a b : List Stg, wt N s (a ++ b) = wt N s a + wt N s b
  | [], b => by simp [wt]
  | g :: a, b => by rw [List.cons_append, wt, wt, wt_app a b]; omega
theorem wt_const {N s e : Nat} : ∀ a : List Stg, (∀ g ∈ a, N - (g.ch.length + g.ba.length) = e) → wt N s a = a.length * (1 + s) ^ e
  | [], _ => by simp [wt]
  | g :: a, h => by
    rw [wt, h g (.head _), wt_const a fun x hx => h x (.tail _ hx), List.length_cons, Nat.succ_mul]; omega
theorem wt_len {N s : Nat} : ∀ a : List Stg, a.length ≤ wt N s a
  | [] => Nat.le_refl _
  | g :: a => by
    have := wt_len (N := N) (s := s) a
    have : 0 < (1 + s) ^ (N - (g.ch.length + g.ba.length)) := Nat.pow_pos (by omega)
    rw [wt, List.length_cons]; omega
theorem news_in {d m : Mc} {ch cl : List (Nat × Nat)} {p : (Nat × Nat) × Nat} {v : Nat} {g : Stg} (h : g ∈ news d m ch cl p v) : ∃ u, u < v ∧ g = ⟨setc m p.1.1 p.1.2 (p.2, u), ch ++ [p.1], cl⟩ := by
  unfold news at h
  obtain ⟨u, hu, rfl⟩ := List.mem_map.mp h
  exact ⟨u, by simpa using (List.mem_filter.mp hu).1, rfl⟩
theorem blw_wt {d m : Mc} {ch : List (Nat × Nat)} {s n : Nat} (hd : d.length = s) : ∀ (l : List ((Nat × Nat) × Nat)) (cl : List (Nat × Nat)), (ch ++ (cl ++ l.map (·.1))).Nodup → (∀ c ∈ ch ++ (cl ++ l.map (·.1)), c.1 < s ∧ c.2 < n) →
    wt (s * n) s (blw d m ch l cl) + 1 ≤ (1 + s) ^ (s * n - (ch.length + cl.length))
  | [], cl, _, _ => by
    rw [blw, wt]
    have : 0 < (1 + s) ^ (s * n - (ch.length + cl.length)) := Nat.pow_pos (by omega)
    omega
  | p :: l, cl, nd, rg => by
    have hl := cells_le nd rg
    simp only [List.length_append, List.length_map, List.length_cons] at hl
    have e : cl ++ [p.1] ++ l.map (·.1) = cl ++ (p :: l).map (·.1) := by simp
    have ih := blw_wt (m := m) hd l (cl ++ [p.1]) (by rw [e]; exact nd) (by rw [e]; exact rg)
    rw [blw, wt_app, wt_const (e := s * n - (ch.length + (cl.length + 1))) _ (fun g hg => by
      obtain ⟨u, _, rfl⟩ := news_in hg
      simp only [List.length_append, List.length_singleton]; omega)]
    rw [List.length_append, List.length_singleton] at ih
    have hn := news_len (d := d) (m := m) (ch := ch) (cl := cl) (p := p) (v := d.length)
    have h1 : (news d m ch cl p d.length).length * (1 + s) ^ (s * n - (ch.length + (cl.length + 1))) ≤ s * (1 + s) ^ (s * n - (ch.length + (cl.length + 1))) := Nat.mul_le_mul_right _ (by omega)
    have h2 : (1 + s) ^ (s * n - (ch.length + cl.length)) = (1 + s) * (1 + s) ^ (s * n - (ch.length + (cl.length + 1))) := by
      rw [show s * n - (ch.length + cl.length) = s * n - (ch.length + (cl.length + 1)) + 1 by omega, Nat.pow_succ, Nat.mul_comm]
    rw [h2, Nat.add_mul]
    omega
theorem blw_ok {d m : Mc} {ch : List (Nat × Nat)} {s n : Nat} (hd : d.length = s) (M : Mk m s n) : ∀ (l : List ((Nat × Nat) × Nat)) (cl : List (Nat × Nat)), (ch ++ (cl ++ l.map (·.1))).Nodup → (∀ c ∈ ch ++ (cl ++ l.map (·.1)), c.1 < s ∧ c.2 < n) → (∀ p ∈ l, p.2 ≤ 99) →
    ∀ g ∈ blw d m ch l cl, StgOk g s n
  | [], cl, _, _, _, g, h => by cases h
  | p :: l, cl, nd, rg, ha, g, h => by
    have e : cl ++ [p.1] ++ l.map (·.1) = cl ++ (p :: l).map (·.1) := by simp
    rw [blw] at h
    rcases List.mem_append.mp h with h | h
    · obtain ⟨u, hu, rfl⟩ := news_in h
      have hp := rg p.1 (by simp)
      have sub : (ch ++ (cl ++ [p.1])).Sublist (ch ++ (cl ++ (p :: l).map (·.1))) := (List.Sublist.refl ch).append ((List.Sublist.refl cl).append (by simp))
      have pm : (ch ++ [p.1] ++ cl).Perm (ch ++ (cl ++ [p.1])) := by
        rw [List.append_assoc]
        exact (List.Perm.refl ch).append List.perm_append_comm
      refine ⟨M.set hp.1 hp.2 (ha p (.head _)) (by show u < s; omega), ?_, fun c hc => rg c (sub.subset (pm.subset hc))⟩
      exact pm.nodup_iff.mpr (nd.sublist sub)
    · exact blw_ok hd M l (cl ++ [p.1]) (by rw [e]; exact nd) (by rw [e]; exact rg) (fun q hq => ha q (.tail _ hq)) g h
theorem fre_nd {g : Stg} {s n : Nat} {r : Rec} {i : Nat} (G : StgOk g s n) (R : Rk r n) (hi : i ≤ r.1.length) : (g.ch ++ (g.ba ++ (fre g.ch g.ba (usd g.m r i)).map (·.1))).Nodup ∧ (∀ c ∈ g.ch ++ (g.ba ++ (fre g.ch g.ba (usd g.m r i)).map (·.1)), c.1 < s ∧ c.2 < n) ∧ ∀ p ∈ fre g.ch g.ba (usd g.m r i), p.2 ≤ 99 := by
  have hin := usd_in G.m R i hi
  refine ⟨?_, fun c hc => ?_, fun p hp => (hin p (List.mem_filter.mp hp).1).2.2⟩
  · rw [← List.append_assoc, List.nodup_append]
    refine ⟨G.nd, (usd_nd i).sublist ((List.filter_sublist).map _), fun a ha b hb => ?_⟩
    obtain ⟨p, hp, rfl⟩ := List.mem_map.mp hb
    have h2 := (List.mem_filter.mp hp).2
    intro z
    subst z
    simp [isF] at h2
    rcases List.mem_append.mp ha with h | h
    · exact h2.1 h
    · exact h2.2 h
  · rw [← List.append_assoc] at hc
    rcases List.mem_append.mp hc with h | h
    · exact G.rng c h
    · obtain ⟨p, hp, rfl⟩ := List.mem_map.mp h
      have := hin p (List.mem_filter.mp hp).1
      exact ⟨this.1, this.2.1⟩
theorem below_wt {d : Mc} {g : Stg} {s n t : Nat} {r : Rec} (D : Mk d s n) (G : StgOk g s n) (R : Rk r n) (ht : t < r.1.length) (rest : List Stg) : wt (s * n) s (below d g r t ++ rest) < wt (s * n) s (g :: rest) := by
  obtain ⟨h1, h2, _⟩ := fre_nd G R (show t + 1 ≤ r.1.length by omega)
  have := blw_wt (m := g.m) D.l _ g.ba h1 h2
  rw [wt_app, wt]
  unfold below
  omega
theorem below_ok {d : Mc} {g : Stg} {s n t : Nat} {r : Rec} (D : Mk d s n) (G : StgOk g s n) (R : Rk r n) (ht : t < r.1.length) : ∀ g' ∈ below d g r t, StgOk g' s n := by
  obtain ⟨h1, h2, h3⟩ := fre_nd G R (show t + 1 ≤ r.1.length by omega)
  exact blw_ok D.l G.m _ g.ba h1 h2 h3
/-! ### refusals -/
/-- a stage that is not gone into -/
def cutS (many : Int) (g : Stg) : Bool := decide (many ≠ -1) && decide (many ≤ g.ch.length)
def isRef (d : Mc) (log : List Rec) (many : Int) : Nat → List Stg → List (Nat × Nat) → Bool
  | _, [], p => p.isEmpty
  | 0, _ :: _, _ => false
  | f + 1, g :: r, p => if cutS many g then isRef d log many f r p else match p with
    | [] => false
    | a :: p => match log[a.1]? with
      | none => false
      | some rc => if a.2 < rc.1.length ∧ soe g.m rc = a.2 then isRef d log many f (below d g rc a.2 ++ r) p else false
@[simp] theorem eqq_oP {i n s : Nat} : eqq (oP i n) (.int (s : Int)) = some (decide (i < n ∧ i = s)) := by
  unfold oP
  by_cases h : i < n
  · rw [if_pos h]
    have z := eqq_E (a := i) (b := s) (by decide)
    rw [E_nat, E_nat] at z
    rw [z]
    simp [h]
  · rw [if_neg h]
    simp [h]
    rfl
end K92

set_option Elab.async false
set_option linter.all false
set_option maxRecDepth 100000
set_option maxHeartbeats 4000000
namespace K92
open PySem Fc
variable {k : Nat} {bs : List Nat} {st : St}
theorem start_ok {d : Mc} {s n : Nat} (D : Mk d s n) : StgOk ⟨d, [], []⟩ s n := ⟨D, List.nodup_nil, fun c hc => by cases hc⟩
theorem ref_nil {d : Mc} {log : List Rec} {many : Int} {f : Nat} {p : List (Nat × Nat)} : isRef d log many f [] p = p.isEmpty := by cases f <;> rfl
theorem ref_cut {d : Mc} {log : List Rec} {many : Int} {f : Nat} {g : Stg} {r : List Stg} {p : List (Nat × Nat)} (h : cutS many g = true) : isRef d log many (f + 1) (g :: r) p = isRef d log many f r p := by
  rw [isRef.eq_def]; simp [h]
theorem ref_out {d : Mc} {log : List Rec} {many : Int} {f : Nat} {g : Stg} {r : List Stg} (h : cutS many g = false) : isRef d log many (f + 1) (g :: r) [] = false := by
  rw [isRef.eq_def]; simp [h]
theorem ref_off {d : Mc} {log : List Rec} {many : Int} {f : Nat} {g : Stg} {r : List Stg} {a : Nat × Nat} {p : List (Nat × Nat)} (h : cutS many g = false) (hl : log.length ≤ a.1) : isRef d log many (f + 1) (g :: r) (a :: p) = false := by
  rw [isRef.eq_def]; simp [h, hl]
theorem ref_on {d : Mc} {log : List Rec} {many : Int} {f : Nat} {g : Stg} {r : List Stg} {a : Nat × Nat} {p : List (Nat × Nat)} {rc : Rec} (h : cutS many g = false) (hl : log[a.1]? = some rc) :
    isRef d log many (f + 1) (g :: r) (a :: p) = if a.2 < rc.1.length ∧ soe g.m rc = a.2 then isRef d log many f (below d g rc a.2 ++ r) p else false := by
  rw [isRef.eq_def]; simp [h, hl]
theorem drop_end {α : Type} {p : List α} {j : Nat} (hj : j ≤ p.length) : (p.drop j).isEmpty = decide ((j : Int) = p.length) := by
  rw [Bool.eq_iff_iff]; simp; omega
theorem is_refused {d : Mc} {log : List Rec} {many : Int} {paper : List (Nat × Nat)} {B : Bool} {M s n : Nat} (D : Mk d s n) (hs : s ≤ 64) (hn : n ≤ 6) (L : ∀ r ∈ log, Rk r n) (hw : (1 + s) ^ (s * n) ≤ M) (hM : M ≤ 1000)
    (hB : isRef d log many M [⟨d, [], []⟩] paper = B) : callF ft ct (k + 3) bs 19 [.p (E d), .p (E log), .p (.int many), .p (E paper)] st = .ok (.p (.bl B)) st := by
  refine W_eq (W_call f19 rfl rfl ?_)
  ((try simp -dsimp (disch := first | assumption | omega | (simp; done) | fail) [-getElem?_pos, f19, b19, b19_1, b19_2, b19_3, b19_4]) <;> (repeat (with_reducible refine hold ?_)))
  refine W_while (fun m σ s' => ∃ (todo : List Stg) (j : Nat) (gb : St), isRef d log many m todo (paper.drop j) = B ∧ wt (s * n) s todo ≤ m ∧ m ≤ M ∧ (∀ g ∈ todo, StgOk g s n) ∧ j ≤ paper.length ∧ s' = st ++ (LL todo.reverse :: gb) ∧ (∃ u6 u7 u8 u9 u10 : Option A, σ = [some (.p (E d)), some (.p (E log)), some (.p (.int many)), some (.p (E paper)), some (.ref st.length), some (.p (.int (j : Nat))), u6, u7, u8, u9, u10])) M (by show M < 1000000; omega) ?_ ?_
  · refine ⟨[⟨d, [], []⟩], 0, [], hB, by simpa [wt] using hw, Nat.le_refl _, fun g hg => ?_, Nat.zero_le _, rfl, ⟨_, _, _, _, _, rfl⟩⟩
    rw [List.mem_singleton] at hg; subst hg; exact start_ok D
  · rintro m σ s' ⟨todo, j, gb, hI, hwt, hmM, hok, hj, rfl, ⟨u6, u7, u8, u9, u10, rfl⟩⟩
    cases todo with
    | nil =>
      ((try simp -dsimp (disch := first | assumption | omega | (simp; done) | fail) [-getElem?_pos]) <;> (repeat (with_reducible refine hold ?_)))
      rw [ref_nil, drop_end hj] at hI
      exact ⟨by rw [← hI], rfl⟩
    | cons g rest =>
      have hlen := wt_len (N := s * n) (s := s) (g :: rest)
      obtain ⟨m, rfl⟩ : ∃ m', m = m' + 1 := ⟨m - 1, by simp at hlen; omega⟩
      have G := hok g (.head _)
      have hwr : wt (s * n) s rest ≤ m := by
        have : 0 < (1 + s) ^ (s * n - (g.ch.length + g.ba.length)) := Nat.pow_pos (by omega)
        rw [wt] at hwt; omega
      ((try simp -dsimp (disch := first | assumption | omega | (simp; done) | fail) [-getElem?_pos]) <;> (repeat (with_reducible refine hold ?_)))
      cases hcut : cutS many g with
      | true =>
        rw [ref_cut hcut] at hI
        have hcc := hcut
        unfold cutS at hcc
        simp only [Bool.and_eq_true, decide_eq_true_eq] at hcc
        ((try simp -dsimp (disch := first | assumption | omega | (simp; done) | fail) [-getElem?_pos, l19_1, hcc.1, hcc.2]) <;> (repeat (with_reducible refine hold ?_)))
        exact ⟨m, Nat.lt_succ_self m, rest, j, gb, hI, hwr, by omega, fun x hx => hok x (.tail _ hx), hj, rfl, ⟨_, _, _, _, _, rfl⟩⟩
      | false =>
        have hcc : many = -1 ∨ ¬ many ≤ g.ch.length := by
          unfold cutS at hcut
          simp only [Bool.and_eq_false_iff, decide_eq_false_iff_not] at hcut
          rcases hcut with h | h
          · exact .inl (Decidable.not_not.mp h)
          · exact .inr h
        by_cases hm : many = -1
        · subst hm
          ((try simp -dsimp (disch := first | assumption | omega | (simp; done) | fail) [-getElem?_pos, l19_1]) <;> (repeat (with_reducible refine hold ?_)))
          refine WB_cases (fun hq => ?_) (fun hq => ?_)
          · have hq := of_decide_eq_true hq
            have hdr : paper.drop j = [] := by rw [List.drop_eq_nil_iff]; omega
            rw [hdr, ref_out hcut] at hI
            ((try simp -dsimp (disch := first | assumption | omega | (simp; done) | fail) [-getElem?_pos]) <;> (repeat (with_reducible refine hold ?_)))
            exact ⟨by rw [← hI], rfl⟩
          · have hq := of_decide_eq_false hq
            have hjl : j < paper.length := by omega
            have hpj := List.getElem?_eq_getElem hjl
            have hdr : paper.drop j = paper[j] :: paper.drop (j + 1) := List.drop_eq_getElem_cons hjl
            generalize paper[j] = at0 at hpj hdr
            obtain ⟨a, t⟩ := at0
            rw [hdr] at hI
            by_cases ha : a < log.length
            · have hrc := List.getElem?_eq_getElem ha
              have R := L _ (List.getElem_mem ha)
              generalize log[a] = rc at hrc R
              rw [ref_on hcut hrc] at hI
              simp only at hI
              have e1 : (a : Int) ≤ log.length - 1 := by omega
              by_cases ht : t < rc.1.length
              · have e2 : (t : Int) ≤ rc.1.length - 1 := by omega
                ((try simp -dsimp (disch := first | assumption | omega | (simp; done) | fail) [-getElem?_pos, hpj, is_pair2, is_between, e1, hrc, e2, step_of_error (k := k + 1) G.m R]) <;> (repeat (with_reducible refine hold ?_)))
                refine WB_cases (fun hq2 => ?_) (fun hq2 => ?_)
                · simp at hq2
                  rw [if_neg fun z => by omega] at hI
                  ((try simp -dsimp (disch := first | assumption | omega | (simp; done) | fail) [-getElem?_pos]) <;> (repeat (with_reducible refine hold ?_)))
                  exact ⟨by rw [← hI], rfl⟩
                · simp at hq2
                  rw [if_pos ⟨ht, hq2.2⟩] at hI
                  have hbw := below_wt D G R ht rest
                  have hbl := wt_len (N := s * n) (s := s) (below d g rc t ++ rest)
                  have hsz : rest.reverse.length + (below d g rc t).reverse.length ≤ szl := by
                    rw [List.length_append] at hbl
                    rw [List.length_reverse, List.length_reverse]; show _ ≤ 16777216; omega
                  ((try simp -dsimp (disch := first | assumption | omega | (simp; done) | fail) [-getElem?_pos, stages_of D hs hn G R ht, hrc]) <;> (repeat (with_reducible refine hold ?_)))
                  refine ⟨m, Nat.lt_succ_self m, below d g rc t ++ rest, j + 1, gb ++ [_], hI, by omega, by omega, fun x hx => ?_, hjl, by simp [List.reverse_append]; rfl, ⟨_, _, _, _, _, rfl⟩⟩
                  rcases List.mem_append.mp hx with h | h
                  · exact below_ok D G R ht x h
                  · exact hok x (.tail _ h)
              · have e2 : ¬ (t : Int) ≤ rc.1.length - 1 := by omega
                rw [if_neg fun z => ht z.1] at hI
                ((try simp -dsimp (disch := first | assumption | omega | (simp; done) | fail) [-getElem?_pos, hpj, is_pair2, is_between, e1, hrc, e2]) <;> (repeat (with_reducible refine hold ?_)))
                exact ⟨by rw [← hI], rfl⟩
            · have e1 : ¬ (a : Int) ≤ log.length - 1 := by omega
              rw [ref_off hcut (by simpa using ha)] at hI
              ((try simp -dsimp (disch := first | assumption | omega | (simp; done) | fail) [-getElem?_pos, hpj, is_pair2, is_between, e1]) <;> (repeat (with_reducible refine hold ?_)))
              exact ⟨by rw [← hI], rfl⟩
        · have hle := hcc.resolve_left hm
          ((try simp -dsimp (disch := first | assumption | omega | (simp; done) | fail) [-getElem?_pos, l19_1, hm, hle]) <;> (repeat (with_reducible refine hold ?_)))
          refine WB_cases (fun hq => ?_) (fun hq => ?_)
          · have hq := of_decide_eq_true hq
            have hdr : paper.drop j = [] := by rw [List.drop_eq_nil_iff]; omega
            rw [hdr, ref_out hcut] at hI
            ((try simp -dsimp (disch := first | assumption | omega | (simp; done) | fail) [-getElem?_pos]) <;> (repeat (with_reducible refine hold ?_)))
            exact ⟨by rw [← hI], rfl⟩
          · have hq := of_decide_eq_false hq
            have hjl : j < paper.length := by omega
            have hpj := List.getElem?_eq_getElem hjl
            have hdr : paper.drop j = paper[j] :: paper.drop (j + 1) := List.drop_eq_getElem_cons hjl
            generalize paper[j] = at0 at hpj hdr
            obtain ⟨a, t⟩ := at0
            rw [hdr] at hI
            by_cases ha : a < log.length
            · have hrc := List.getElem?_eq_getElem ha
              have R := L _ (List.getElem_mem ha)
              generalize log[a] = rc at hrc R
              rw [ref_on hcut hrc] at hI
              simp only at hI
              have e1 : (a : Int) ≤ log.length - 1 := by omega
              by_cases ht : t < rc.1.length
              · have e2 : (t : Int) ≤ rc.1.length - 1 := by omega
                ((try simp -dsimp (disch := first | assumption | omega | (simp; done) | fail) [-getElem?_pos, hpj, is_pair2, is_between, e1, hrc, e2, step_of_error (k := k + 1) G.m R]) <;> (repeat (with_reducible refine hold ?_)))
                refine WB_cases (fun hq2 => ?_) (fun hq2 => ?_)
                · simp at hq2
                  rw [if_neg fun z => by omega] at hI
                  ((try simp -dsimp (disch := first | assumption | omega | (simp; done) | fail) [-getElem?_pos]) <;> (repeat (with_reducible refine hold ?_)))
                  exact ⟨by rw [← hI], rfl⟩
                · simp at hq2
                  rw [if_pos ⟨ht, hq2.2⟩] at hI
                  have hbw := below_wt D G R ht rest
                  have hbl := wt_len (N := s * n) (s := s) (below d g rc t ++ rest)
                  have hsz : rest.reverse.length + (below d g rc t).reverse.length ≤ szl := by
                    rw [List.length_append] at hbl
                    rw [List.length_reverse, List.length_reverse]; show _ ≤ 16777216; omega
                  ((try simp -dsimp (disch := first | assumption | omega | (simp; done) | fail) [-getElem?_pos, stages_of D hs hn G R ht, hrc]) <;> (repeat (with_reducible refine hold ?_)))
                  refine ⟨m, Nat.lt_succ_self m, below d g rc t ++ rest, j + 1, gb ++ [_], hI, by omega, by omega, fun x hx => ?_, hjl, by simp [List.reverse_append]; rfl, ⟨_, _, _, _, _, rfl⟩⟩
                  rcases List.mem_append.mp hx with h | h
                  · exact below_ok D G R ht x h
                  · exact hok x (.tail _ h)
              · have e2 : ¬ (t : Int) ≤ rc.1.length - 1 := by omega
                rw [if_neg fun z => ht z.1] at hI
                ((try simp -dsimp (disch := first | assumption | omega | (simp; done) | fail) [-getElem?_pos, hpj, is_pair2, is_between, e1, hrc, e2]) <;> (repeat (with_reducible refine hold ?_)))
                exact ⟨by rw [← hI], rfl⟩
            · have e1 : ¬ (a : Int) ≤ log.length - 1 := by omega
              rw [ref_off hcut (by simpa using ha)] at hI
              ((try simp -dsimp (disch := first | assumption | omega | (simp; done) | fail) [-getElem?_pos, hpj, is_pair2, is_between, e1]) <;> (repeat (with_reducible refine hold ?_)))
              exact ⟨by rw [← hI], rfl⟩
end K92

set_option Elab.async false
set_option linter.all false
set_option maxRecDepth 100000
set_option maxHeartbeats 4000000
namespace K92
open PySem Fc
variable {k : Nat} {bs : List Nat} {st : St}
theorem law_is_int {v : Int} : callF ft ct (k + 1) bs 22 [.p (.int v)] st = .ok (.p (.bl true)) st := by
  refine W_eq (W_call f22 rfl rfl ?_)
  ((try simp -dsimp (disch := first | assumption | omega | (simp; done) | fail) [-getElem?_pos, f22, b22]) <;> (repeat (with_reducible refine hold ?_)))
  exact ⟨rfl, rfl⟩
theorem law_is_refusal {d : Mc} {log : List Rec} {many : Int} {paper : List (Nat × Nat)} {B : Bool} {M s n : Nat} (D : Mk d s n) (hs : s ≤ 64) (hn : n ≤ 6) (L : ∀ r ∈ log, Rk r n) (hw : (1 + s) ^ (s * n) ≤ M) (hM : M ≤ 1000) (hmn : -1 ≤ many)
    (hB : isRef d log many M [⟨d, [], []⟩] paper = B) : callF ft ct (k + 4) bs 36 [.p (E d), .p (E log), .p (.int many), .p (E paper)] st = .ok (.p (.bl B)) st := by
  refine W_eq (W_call f36 rfl rfl ?_)
  ((try simp -dsimp (disch := first | assumption | omega | (simp; done) | fail) [-getElem?_pos, f36, b36, b36_1, b36_2, b36_3, b36_4]) <;> (repeat (with_reducible refine hold ?_)))
  refine W_while (fun m σ s' => ∃ (todo : List Stg) (j i : Nat) (gb : St), isRef d log many m todo (paper.drop j) = B ∧ wt (s * n) s todo ≤ m ∧ m ≤ M ∧ (∀ g ∈ todo, StgOk g s n) ∧ j ≤ paper.length ∧ gb[i]? = some (LL todo) ∧ s' = st ++ gb ∧ (∃ u6 u7 u8 u9 u10 : Option A, σ = [some (.p (E d)), some (.p (E log)), some (.p (.int many)), some (.p (E paper)), some (.p (.int (j : Nat))), some (.ref (st.length + i)), u6, u7, u8, u9, u10])) M (by show M < 1000000; omega) ?_ ?_
  · refine ⟨[⟨d, [], []⟩], 0, 0, [LL [(⟨d, [], []⟩ : Stg)]], hB, by simpa [wt] using hw, Nat.le_refl _, fun g hg => ?_, Nat.zero_le _, rfl, rfl, ⟨_, _, _, _, _, rfl⟩⟩
    rw [List.mem_singleton] at hg; subst hg; exact start_ok D
  · rintro m σ s' ⟨todo, j, i, gb, hI, hwt, hmM, hok, hj, hgi, rfl, ⟨u6, u7, u8, u9, u10, rfl⟩⟩
    cases todo with
    | nil =>
      ((try simp -dsimp (disch := first | assumption | omega | (simp; done) | fail) [-getElem?_pos, hgi]) <;> (repeat (with_reducible refine hold ?_)))
      rw [ref_nil, drop_end hj] at hI
      exact ⟨by rw [← hI], rfl⟩
    | cons g rest =>
      have hlen := wt_len (N := s * n) (s := s) (g :: rest)
      obtain ⟨m, rfl⟩ : ∃ m', m = m' + 1 := ⟨m - 1, by simp at hlen; omega⟩
      have G := hok g (.head _)
      have hwr : wt (s * n) s rest ≤ m := by
        have : 0 < (1 + s) ^ (s * n - (g.ch.length + g.ba.length)) := Nat.pow_pos (by omega)
        rw [wt] at hwt; omega
      have hil := (List.getElem?_eq_some_iff.mp hgi).1
      ((try simp -dsimp (disch := first | assumption | omega | (simp; done) | fail) [-getElem?_pos, hgi, l36_1]) <;> (repeat (with_reducible refine hold ?_)))
      obtain ⟨gb1, hgb1⟩ : ∃ gb1, gb.set i (LL rest) = gb1 := ⟨_, rfl⟩
      have hg1 : gb1[i]? = some (LL rest) := by rw [← hgb1, List.getElem?_set_self hil]
      have hi1 := (List.getElem?_eq_some_iff.mp hg1).1
      rw [hgb1]
      cases hcut : cutS many g with
      | true =>
        rw [ref_cut hcut] at hI
        have hcc := hcut
        unfold cutS at hcc
        simp only [Bool.and_eq_true, decide_eq_true_eq] at hcc
        have h1 : ¬ many < 0 := by omega
        have h2 : ¬ (g.ch.length : Int) < many := by omega
        ((try simp -dsimp (disch := first | assumption | omega | (simp; done) | fail) [-getElem?_pos, h1, h2]) <;> (repeat (with_reducible refine hold ?_)))
        exact ⟨m, Nat.lt_succ_self m, rest, j, i, gb1, hI, hwr, by omega, fun x hx => hok x (.tail _ hx), hj, hg1, rfl, ⟨_, _, _, _, _, rfl⟩⟩
      | false =>
        have hcc : many = -1 ∨ ¬ many ≤ g.ch.length := by
          unfold cutS at hcut
          simp only [Bool.and_eq_false_iff, decide_eq_false_iff_not] at hcut
          rcases hcut with h | h
          · exact .inl (Decidable.not_not.mp h)
          · exact .inr h
        by_cases hm : many = -1
        · subst hm
          ((try simp -dsimp (disch := first | assumption | omega | (simp; done) | fail) [-getElem?_pos]) <;> (repeat (with_reducible refine hold ?_)))
          refine WB_cases (fun hq => ?_) (fun hq => ?_)
          · have hq := of_decide_eq_true hq
            have hdr : paper.drop j = [] := by rw [List.drop_eq_nil_iff]; omega
            rw [hdr, ref_out hcut] at hI
            ((try simp -dsimp (disch := first | assumption | omega | (simp; done) | fail) [-getElem?_pos]) <;> (repeat (with_reducible refine hold ?_)))
            exact ⟨by rw [← hI], rfl⟩
          · have hq := of_decide_eq_false hq
            have hjl : j < paper.length := by omega
            have hpj := List.getElem?_eq_getElem hjl
            have hdr : paper.drop j = paper[j] :: paper.drop (j + 1) := List.drop_eq_getElem_cons hjl
            generalize paper[j] = at0 at hpj hdr
            obtain ⟨a, t⟩ := at0
            rw [hdr] at hI
            by_cases ha : a < log.length
            · have hrc := List.getElem?_eq_getElem ha
              have R := L _ (List.getElem_mem ha)
              generalize log[a] = rc at hrc R
              rw [ref_on hcut hrc] at hI
              simp only at hI
              have e1 : (a : Int) < log.length := by omega
              ((try simp -dsimp (disch := first | assumption | omega | (simp; done) | fail) [-getElem?_pos, hpj, law_is_int, e1, hrc, law_error G.m R]) <;> (repeat (with_reducible refine hold ?_)))
              refine WB_cases (fun hq2 => ?_) (fun hq2 => ?_)
              · simp at hq2
                rw [if_neg fun z => by omega] at hI
                ((try simp -dsimp (disch := first | assumption | omega | (simp; done) | fail) [-getElem?_pos]) <;> (repeat (with_reducible refine hold ?_)))
                exact ⟨by rw [← hI], rfl⟩
              · simp at hq2
                have ht : t < rc.1.length := by omega
                rw [if_pos ⟨ht, hq2.2⟩] at hI
                have hbw := below_wt D G R ht rest
                have hbl := wt_len (N := s * n) (s := s) (below d g rc t ++ rest)
                have hsz : (below d g rc t).length + rest.length ≤ szl := by
                  rw [List.length_append] at hbl
                  show _ ≤ 16777216; omega
                ((try simp -dsimp (disch := first | assumption | omega | (simp; done) | fail) [-getElem?_pos, law_below (k := k + 1) D hs hn G R ht, hrc, hg1]) <;> (repeat (with_reducible refine hold ?_)))
                refine ⟨m, Nat.lt_succ_self m, below d g rc t ++ rest, j + 1, gb1.length + 1, gb1 ++ [LL (below d g rc t), LL (below d g rc t ++ rest)], hI, by omega, by omega, fun x hx => ?_, hjl, by simp, rfl, ⟨_, _, _, _, _, rfl⟩⟩
                rcases List.mem_append.mp hx with h | h
                · exact below_ok D G R ht x h
                · exact hok x (.tail _ h)
            · have e1 : ¬ (a : Int) < log.length := by omega
              rw [ref_off hcut (by simpa using ha)] at hI
              ((try simp -dsimp (disch := first | assumption | omega | (simp; done) | fail) [-getElem?_pos, hpj, law_is_int, e1]) <;> (repeat (with_reducible refine hold ?_)))
              exact ⟨by rw [← hI], rfl⟩
        · have hle : (g.ch.length : Int) < many := by have := hcc.resolve_left hm; omega
          have h1 : ¬ many < 0 := by omega
          ((try simp -dsimp (disch := first | assumption | omega | (simp; done) | fail) [-getElem?_pos, h1, hle]) <;> (repeat (with_reducible refine hold ?_)))
          refine WB_cases (fun hq => ?_) (fun hq => ?_)
          · have hq := of_decide_eq_true hq
            have hdr : paper.drop j = [] := by rw [List.drop_eq_nil_iff]; omega
            rw [hdr, ref_out hcut] at hI
            ((try simp -dsimp (disch := first | assumption | omega | (simp; done) | fail) [-getElem?_pos]) <;> (repeat (with_reducible refine hold ?_)))
            exact ⟨by rw [← hI], rfl⟩
          · have hq := of_decide_eq_false hq
            have hjl : j < paper.length := by omega
            have hpj := List.getElem?_eq_getElem hjl
            have hdr : paper.drop j = paper[j] :: paper.drop (j + 1) := List.drop_eq_getElem_cons hjl
            generalize paper[j] = at0 at hpj hdr
            obtain ⟨a, t⟩ := at0
            rw [hdr] at hI
            by_cases ha : a < log.length
            · have hrc := List.getElem?_eq_getElem ha
              have R := L _ (List.getElem_mem ha)
              generalize log[a] = rc at hrc R
              rw [ref_on hcut hrc] at hI
              simp only at hI
              have e1 : (a : Int) < log.length := by omega
              ((try simp -dsimp (disch := first | assumption | omega | (simp; done) | fail) [-getElem?_pos, hpj, law_is_int, e1, hrc, law_error G.m R]) <;> (repeat (with_reducible refine hold ?_)))
              refine WB_cases (fun hq2 => ?_) (fun hq2 => ?_)
              · simp at hq2
                rw [if_neg fun z => by omega] at hI
                ((try simp -dsimp (disch := first | assumption | omega | (simp; done) | fail) [-getElem?_pos]) <;> (repeat (with_reducible refine hold ?_)))
                exact ⟨by rw [← hI], rfl⟩
              · simp at hq2
                have ht : t < rc.1.length := by omega
                rw [if_pos ⟨ht, hq2.2⟩] at hI
                have hbw := below_wt D G R ht rest
                have hbl := wt_len (N := s * n) (s := s) (below d g rc t ++ rest)
                have hsz : (below d g rc t).length + rest.length ≤ szl := by
                  rw [List.length_append] at hbl
                  show _ ≤ 16777216; omega
                ((try simp -dsimp (disch := first | assumption | omega | (simp; done) | fail) [-getElem?_pos, law_below (k := k + 1) D hs hn G R ht, hrc, hg1]) <;> (repeat (with_reducible refine hold ?_)))
                refine ⟨m, Nat.lt_succ_self m, below d g rc t ++ rest, j + 1, gb1.length + 1, gb1 ++ [LL (below d g rc t), LL (below d g rc t ++ rest)], hI, by omega, by omega, fun x hx => ?_, hjl, by simp, rfl, ⟨_, _, _, _, _, rfl⟩⟩
                rcases List.mem_append.mp hx with h | h
                · exact below_ok D G R ht x h
                · exact hok x (.tail _ h)
            · have e1 : ¬ (a : Int) < log.length := by omega
              rw [ref_off hcut (by simpa using ha)] at hI
              ((try simp -dsimp (disch := first | assumption | omega | (simp; done) | fail) [-getElem?_pos, hpj, law_is_int, e1]) <;> (repeat (with_reducible refine hold ?_)))
              exact ⟨by rw [← hI], rfl⟩
end K92

set_option Elab.async false
set_option linter.all false
set_option maxRecDepth 100000
set_option maxHeartbeats 4000000
namespace K92
open PySem Fc
variable {k : Nat} {bs : List Nat} {st : St}
/-- the machine answers this record of the log wrong -/
def wrg (m : Mc) (log : List Rec) (i : Nat) : Bool := match log[i]? with
  | some rc => decide (soe m rc < rc.1.length)
  | none => false
theorem law_refusal {jb C : Nat} {o : MO} {d : Mc} {log : List Rec} {many : Int} {M s n : Nat} (ho : st[jb]? = some o) (hb : Bag C o) (hC : C + M ≤ 1000000) (D : Mk d s n) (hs : s ≤ 64) (hn : n ≤ 6) (L : ∀ r ∈ log, Rk r n) (hl : log.length ≤ 128) (hw : (1 + s) ^ (s * n) ≤ M) (hM : M ≤ 300) (hmn : -1 ≤ many) :
    WE (callF ft ct (k + 4) bs 35 [.ref jb, .p (E d), .p (E log), .p (.int many)] st) NoX fun v s' => ∃ paper b o', isRef d log many M [⟨d, [], []⟩] paper = b ∧ Bag (C + M) o' ∧ v = .p (.tup [E paper, .bl b]) ∧ s' = st.set jb o' ∧ paper.length ≤ M := by
  refine W_call f35 rfl rfl ?_
  have hj := lt_of_get ho
  ((try simp -dsimp (disch := first | assumption | omega | (simp; done) | fail) [-getElem?_pos, f35, b35, b35_1, b35_2, b35_3]) <;> (repeat (with_reducible refine hold ?_)))
  refine W_while (fun m σ s' => ∃ (todo : List Stg) (p : List (Nat × Nat)) (i : Nat) (gb : St) (o' : MO), (∀ q, isRef d log many M [⟨d, [], []⟩] (p ++ q) = isRef d log many m todo q) ∧ wt (s * n) s todo ≤ m ∧ m ≤ M ∧ (∀ g ∈ todo, StgOk g s n) ∧ p.length + m ≤ M ∧ gb[i]? = some (LL todo) ∧ Bag (C + (M - m)) o' ∧ s' = st.set jb o' ++ (LL p :: gb) ∧ (∃ u6 u7 u8 u9 u10 u11 : Option A, σ = [some (.ref jb), some (.p (E d)), some (.p (E log)), some (.p (.int many)), some (.ref st.length), some (.ref (st.length + (i + 1))), u6, u7, u8, u9, u10, u11])) M (by show M < 1000000; omega) ?_ ?_
  · refine ⟨[⟨d, [], []⟩], [], 0, [LL [(⟨d, [], []⟩ : Stg)]], o, fun q => rfl, by simpa [wt] using hw, Nat.le_refl _, fun g hg => ?_, by simp, rfl, by simpa using hb, by rw [set_self ho]; rfl, ⟨_, _, _, _, _, _, rfl⟩⟩
    rw [List.mem_singleton] at hg; subst hg; exact start_ok D
  · rintro m σ s' ⟨todo, p, i, gb, o', hI, hwt, hmM, hok, hpm, hgi, hb', rfl, ⟨u6, u7, u8, u9, u10, u11, rfl⟩⟩
    cases todo with
    | nil =>
      ((try simp -dsimp (disch := first | assumption | omega | (simp; done) | fail) [-getElem?_pos, hgi]) <;> (repeat (with_reducible refine hold ?_)))
      refine ⟨p, true, o', ?_, hb'.mono (by omega), rfl, rfl, by omega⟩
      have := hI []
      rw [List.append_nil, ref_nil] at this
      exact this
    | cons g rest =>
      have hlen := wt_len (N := s * n) (s := s) (g :: rest)
      obtain ⟨m, rfl⟩ : ∃ m', m = m' + 1 := ⟨m - 1, by simp at hlen; omega⟩
      have G := hok g (.head _)
      have hwr : wt (s * n) s rest ≤ m := by
        have : 0 < (1 + s) ^ (s * n - (g.ch.length + g.ba.length)) := Nat.pow_pos (by omega)
        rw [wt] at hwt; omega
      have hil := (List.getElem?_eq_some_iff.mp hgi).1
      ((try simp -dsimp (disch := first | assumption | omega | (simp; done) | fail) [-getElem?_pos, hgi, l35_1, q35_1]) <;> (repeat (with_reducible refine hold ?_)))
      obtain ⟨gb1, hgb1⟩ : ∃ gb1, gb.set i (LL rest) = gb1 := ⟨_, rfl⟩
      have hg1 : gb1[i]? = some (LL rest) := by rw [← hgb1, List.getElem?_set_self hil]
      have hi1 := (List.getElem?_eq_some_iff.mp hg1).1
      rw [hgb1]
      cases hcut : cutS many g with
      | true =>
        have hcc := hcut
        unfold cutS at hcc
        simp only [Bool.and_eq_true, decide_eq_true_eq] at hcc
        have h1 : ¬ many < 0 := by omega
        have h2 : ¬ (g.ch.length : Int) < many := by omega
        ((try simp -dsimp (disch := first | assumption | omega | (simp; done) | fail) [-getElem?_pos, h1, h2]) <;> (repeat (with_reducible refine hold ?_)))
        exact ⟨m, Nat.lt_succ_self m, rest, p, i, gb1, o', fun q => by rw [hI, ref_cut hcut], hwr, by omega, fun x hx => hok x (.tail _ hx), by omega, hg1, hb'.mono (by omega), rfl, ⟨_, _, _, _, _, _, rfl⟩⟩
      | false =>
        have hcc : many = -1 ∨ ¬ many ≤ g.ch.length := by
          unfold cutS at hcut
          simp only [Bool.and_eq_false_iff, decide_eq_false_iff_not] at hcut
          rcases hcut with h | h
          · exact .inl (Decidable.not_not.mp h)
          · exact .inr h
        by_cases hm : many = -1
        · subst hm
          ((try simp -dsimp (disch := first | assumption | omega | (simp; done) | fail) [-getElem?_pos]) <;> (repeat (with_reducible refine hold ?_)))
          refine W_cfilR (fun i => i) (wrg g.m log) (by show _ < 16777216; omega) (fun i hi => ?_) ?_
          · have hx := List.getElem?_eq_getElem hi
            have R := L _ (List.getElem_mem hi)
            have hc : wrg g.m log i = decide (soe g.m log[i] < log[i].1.length) := by unfold wrg; rw [hx]
            generalize log[i] = rc at hx R hc
            ((try simp -dsimp (disch := first | assumption | omega | (simp; done) | fail) [-getElem?_pos, wipeS, hx, law_error G.m R, hc]) <;> (repeat (with_reducible refine hold ?_)))
            refine WB_dec (fun h1 => ?_) (fun h1 => ?_)
            · ((try simp -dsimp (disch := first | assumption | omega | (simp; done) | fail) [-getElem?_pos, h1]) <;> (repeat (with_reducible refine hold ?_)))
              exact ⟨by simp [hc, h1], rfl⟩
            · ((try simp -dsimp (disch := first | assumption | omega | (simp; done) | fail) [-getElem?_pos, h1]) <;> (repeat (with_reducible refine hold ?_)))
              exact ⟨by simp [hc, h1], rfl⟩
          · generalize hwd : ((List.range log.length).filter (wrg g.m log)).map (fun i => i) = wr
            have hwl : wr.length ≤ log.length := by
              rw [← hwd, List.length_map]
              have := List.length_filter_le (wrg g.m log) (List.range log.length)
              simpa using this
            show WS (evS _ _ _ _ (_ ++ [LL wr])) _ _
            cases hwr0 : wr with
            | nil =>
              ((try simp -dsimp (disch := first | assumption | omega | (simp; done) | fail) [-getElem?_pos]) <;> (repeat (with_reducible refine hold ?_)))
              refine ⟨_, false, o', ?_, hb'.mono (by omega), rfl, rfl, by omega⟩
              have := hI []
              rw [List.append_nil, ref_out hcut] at this
              exact this
            | cons w0 ws =>
              rw [← hwr0]
              have hpos : 1 ≤ wr.length := by rw [hwr0]; simp
              have hne : ¬ (wr.length : Int) = 0 := by omega
              have hpl : ¬ (p.length : Int) = 400 := by omega
              have hnn : ¬ wr = [] := fun z => by rw [z] at hpos; simp at hpos
              ((try simp -dsimp (disch := first | assumption | omega | (simp; done) | fail) [-getElem?_pos, hne, hnn, hpl]) <;> (repeat (with_reducible refine hold ?_)))
              refine take_ok.w wr.length (gsj hj) hb' (by omega) (m2 := by omega) fun dr o2 hdr hb2 => ?_
              have hxa := List.getElem?_eq_getElem hdr
              have hma := List.getElem_mem hdr
              generalize wr[dr] = a at hxa hma
              rw [← hwd] at hma
              simp only [List.map_id', List.mem_filter, List.mem_range] at hma
              obtain ⟨ha, hca⟩ := hma
              have hrc := List.getElem?_eq_getElem ha
              have R := L _ (List.getElem_mem ha)
              unfold wrg at hca
              rw [hrc] at hca
              generalize log[a] = rc at hrc R hca
              simp only [decide_eq_true_eq] at hca
              have hoP : oP (soe g.m rc) rc.1.length = .int (soe g.m rc) := by unfold oP; rw [if_pos hca]
              have hps : p.length < szl := by show _ < 16777216; omega
              have hbw := below_wt D G R hca rest
              have hbl := wt_len (N := s * n) (s := s) (below d g rc (soe g.m rc) ++ rest)
              have hsz : (below d g rc (soe g.m rc)).length + rest.length ≤ szl := by
                rw [List.length_append] at hbl
                show _ ≤ 16777216; omega
              ((try simp -dsimp (disch := first | assumption | omega | (simp; done) | fail) [-getElem?_pos, hxa, law_error G.m R, hoP, law_below (k := k + 1) D hs hn G R hca, hrc, hg1]) <;> (repeat (with_reducible refine hold ?_)))
              refine ⟨m, Nat.lt_succ_self m, below d g rc (soe g.m rc) ++ rest, p ++ [(a, soe g.m rc)], gb1.length + 1 + 1, gb1 ++ [LL wr, LL (below d g rc (soe g.m rc)), LL (below d g rc (soe g.m rc) ++ rest)], o2, fun q => ?_, by omega, by omega, fun x hx => ?_, by simp; omega, (gan (st := gb1) (n := 2)).trans rfl, hb2.mono (by omega), by simp, ⟨_, _, _, _, _, _, rfl⟩⟩
              · rw [List.append_assoc, List.singleton_append, hI, ref_on hcut hrc, if_pos ⟨hca, rfl⟩]
              · rcases List.mem_append.mp hx with h | h
                · exact below_ok D G R hca x h
                · exact hok x (.tail _ h)
        · have hle : (g.ch.length : Int) < many := by have := hcc.resolve_left hm; omega
          have h1 : ¬ many < 0 := by omega
          ((try simp -dsimp (disch := first | assumption | omega | (simp; done) | fail) [-getElem?_pos, h1, hle]) <;> (repeat (with_reducible refine hold ?_)))
          refine W_cfilR (fun i => i) (wrg g.m log) (by show _ < 16777216; omega) (fun i hi => ?_) ?_
          · have hx := List.getElem?_eq_getElem hi
            have R := L _ (List.getElem_mem hi)
            have hc : wrg g.m log i = decide (soe g.m log[i] < log[i].1.length) := by unfold wrg; rw [hx]
            generalize log[i] = rc at hx R hc
            ((try simp -dsimp (disch := first | assumption | omega | (simp; done) | fail) [-getElem?_pos, wipeS, hx, law_error G.m R, hc]) <;> (repeat (with_reducible refine hold ?_)))
            refine WB_dec (fun h1 => ?_) (fun h1 => ?_)
            · ((try simp -dsimp (disch := first | assumption | omega | (simp; done) | fail) [-getElem?_pos, h1]) <;> (repeat (with_reducible refine hold ?_)))
              exact ⟨by simp [hc, h1], rfl⟩
            · ((try simp -dsimp (disch := first | assumption | omega | (simp; done) | fail) [-getElem?_pos, h1]) <;> (repeat (with_reducible refine hold ?_)))
              exact ⟨by simp [hc, h1], rfl⟩
          · generalize hwd : ((List.range log.length).filter (wrg g.m log)).map (fun i => i) = wr
            have hwl : wr.length ≤ log.length := by
              rw [← hwd, List.length_map]
              have := List.length_filter_le (wrg g.m log) (List.range log.length)
              simpa using this
            show WS (evS _ _ _ _ (_ ++ [LL wr])) _ _
            cases hwr0 : wr with
            | nil =>
              ((try simp -dsimp (disch := first | assumption | omega | (simp; done) | fail) [-getElem?_pos]) <;> (repeat (with_reducible refine hold ?_)))
              refine ⟨_, false, o', ?_, hb'.mono (by omega), rfl, rfl, by omega⟩
              have := hI []
              rw [List.append_nil, ref_out hcut] at this
              exact this
            | cons w0 ws =>
              rw [← hwr0]
              have hpos : 1 ≤ wr.length := by rw [hwr0]; simp
              have hne : ¬ (wr.length : Int) = 0 := by omega
              have hpl : ¬ (p.length : Int) = 400 := by omega
              have hnn : ¬ wr = [] := fun z => by rw [z] at hpos; simp at hpos
              ((try simp -dsimp (disch := first | assumption | omega | (simp; done) | fail) [-getElem?_pos, hne, hnn, hpl]) <;> (repeat (with_reducible refine hold ?_)))
              refine take_ok.w wr.length (gsj hj) hb' (by omega) (m2 := by omega) fun dr o2 hdr hb2 => ?_
              have hxa := List.getElem?_eq_getElem hdr
              have hma := List.getElem_mem hdr
              generalize wr[dr] = a at hxa hma
              rw [← hwd] at hma
              simp only [List.map_id', List.mem_filter, List.mem_range] at hma
              obtain ⟨ha, hca⟩ := hma
              have hrc := List.getElem?_eq_getElem ha
              have R := L _ (List.getElem_mem ha)
              unfold wrg at hca
              rw [hrc] at hca
              generalize log[a] = rc at hrc R hca
              simp only [decide_eq_true_eq] at hca
              have hoP : oP (soe g.m rc) rc.1.length = .int (soe g.m rc) := by unfold oP; rw [if_pos hca]
              have hps : p.length < szl := by show _ < 16777216; omega
              have hbw := below_wt D G R hca rest
              have hbl := wt_len (N := s * n) (s := s) (below d g rc (soe g.m rc) ++ rest)
              have hsz : (below d g rc (soe g.m rc)).length + rest.length ≤ szl := by
                rw [List.length_append] at hbl
                show _ ≤ 16777216; omega
              ((try simp -dsimp (disch := first | assumption | omega | (simp; done) | fail) [-getElem?_pos, hxa, law_error G.m R, hoP, law_below (k := k + 1) D hs hn G R hca, hrc, hg1]) <;> (repeat (with_reducible refine hold ?_)))
              refine ⟨m, Nat.lt_succ_self m, below d g rc (soe g.m rc) ++ rest, p ++ [(a, soe g.m rc)], gb1.length + 1 + 1, gb1 ++ [LL wr, LL (below d g rc (soe g.m rc)), LL (below d g rc (soe g.m rc) ++ rest)], o2, fun q => ?_, by omega, by omega, fun x hx => ?_, by simp; omega, (gan (st := gb1) (n := 2)).trans rfl, hb2.mono (by omega), by simp, ⟨_, _, _, _, _, _, rfl⟩⟩
              · rw [List.append_assoc, List.singleton_append, hI, ref_on hcut hrc, if_pos ⟨hca, rfl⟩]
              · rcases List.mem_append.mp hx with h | h
                · exact below_ok D G R hca x h
                · exact hok x (.tail _ h)
end K92

set_option Elab.async false
set_option linter.all false
set_option maxRecDepth 100000
set_option maxHeartbeats 4000000
namespace K92
open PySem Fc
variable {k : Nat} {bs : List Nat} {st : St}
/-! ### checks -/
theorem is_row' {xs : List Nat} {n : Nat} (h : ∀ x ∈ xs, x < n) (hl : xs.length ≤ 300) : callF ft ct (k + 4) bs 4 [.p (E xs), .p (.int n)] st = .ok (.p (.bl true)) st := is_row (fun x hx => by have := h x hx; omega) hl
theorem is_record {r : Rec} {n : Nat} (R : Rk r n) : callF ft ct (k + 5) bs 9 [.p (.tup [E r.1, E r.2]), .p (.int n)] st = .ok (.p (.bl true)) st := by
  refine W_eq (W_call f9 rfl rfl ?_)
  have hl := R.l
  have hr := R.len
  ((try simp -dsimp (disch := first | assumption | omega | (simp; done) | fail) [-getElem?_pos, f9, b9, b9_1, b9_2, b9_3, is_pair2, is_row' R.row R.l, hr]) <;> (repeat (with_reducible refine hold ?_)))
  unfold IT
  refine W_items (fun j σ s => s = st ∧ (∃ u2 : Option A, σ = [some (.p (.tup [E r.1, E r.2])), some (.p (.int n)), u2])) ?_ ?_ ?_
  · exact ⟨rfl, ⟨_, rfl⟩⟩
  · rintro j x σ s' hx ⟨rfl, ⟨u2, rfl⟩⟩
    have h1 : (x : Int) ≤ 99 := by have := R.giv x (List.mem_of_getElem? hx); omega
    ((try simp -dsimp (disch := first | assumption | omega | (simp; done) | fail) [-getElem?_pos, l9_1, is_between, h1]) <;> (repeat (with_reducible refine hold ?_)))
    exact ⟨rfl, ⟨_, rfl⟩⟩
  · rintro σ s' ⟨rfl, ⟨u2, rfl⟩⟩
    ((try simp -dsimp (disch := first | assumption | omega | (simp; done) | fail) [-getElem?_pos]) <;> (repeat (with_reducible refine hold ?_)))
    exact ⟨rfl, rfl⟩
theorem check_log {log : List Rec} {n : Nat} (L : ∀ r ∈ log, Rk r n) (hl : log.length ≤ 128) (n1 : 1 ≤ n) (n2 : n ≤ 6) : callF ft ct (k + 6) bs 10 [.p (E log), .p (.int n)] st = .ok (.p .non) st := by
  refine W_eq (W_call f10 rfl rfl ?_)
  have e1 := check_number (k := k + 2) (bs := st.length :: bs) (st := st) (v := n) (a := 1) (b := 6) (by omega) (by omega)
  have e2 : ¬ (128 : Int) < log.length := by omega
  ((try simp -dsimp (disch := first | assumption | omega | (simp; done) | fail) [-getElem?_pos, f10, b10, b10_1, b10_2, e1, e2]) <;> (repeat (with_reducible refine hold ?_)))
  refine W_range (fun j σ s => s = st ∧ (∃ u2 : Option A, σ = [some (.p (E log)), some (.p (.int n)), u2])) ?_ ?_ ?_
  · exact ⟨rfl, ⟨_, rfl⟩⟩
  · rintro j σ s' hj ⟨rfl, ⟨u2, rfl⟩⟩
    have hx := List.getElem?_eq_getElem hj
    have R := L _ (List.getElem_mem hj)
    generalize log[j] = r at hx R
    ((try simp -dsimp (disch := first | assumption | omega | (simp; done) | fail) [-getElem?_pos, l10_1, hx, is_record R]) <;> (repeat (with_reducible refine hold ?_)))
    exact ⟨rfl, ⟨_, rfl⟩⟩
  · rintro σ s' ⟨rfl, ⟨u2, rfl⟩⟩
    ((try simp -dsimp (disch := first | assumption | omega | (simp; done) | fail) [-getElem?_pos]) <;> (repeat (with_reducible refine hold ?_)))
    exact ⟨rfl, rfl⟩
theorem check_machine' {d : Mc} {s n : Nat} (D : Mk d s n) (hs : s ≤ 64) (n1 : 1 ≤ n) (n2 : n ≤ 6) : callF ft ct (k + 4) bs 6 [.p (E d)] st = .ok (.p .non) st :=
  check_machine ⟨by rw [D.l]; exact D.s1, by rw [D.l]; exact hs, n1, n2, D.row, fun r hr c hc => by rw [D.l]; exact D.cell r hr c hc⟩
theorem Mk.fst {d : Mc} {s n : Nat} (D : Mk d s n) : ∃ r, d[0]? = some r ∧ r.length = n := by
  have h : 0 < d.length := by rw [D.l]; exact D.s1
  exact ⟨d[0], List.getElem?_eq_getElem h, D.row _ (List.getElem_mem h)⟩
theorem judge_unexplained {d : Mc} {log : List Rec} {many : Int} {paper : List (Nat × Nat)} {B : Bool} {M s n : Nat} (D : Mk d s n) (hs : s ≤ 64) (n1 : 1 ≤ n) (hn : n ≤ 6) (L : ∀ r ∈ log, Rk r n) (hl : log.length ≤ 128) (hw : (1 + s) ^ (s * n) ≤ M) (hM : M ≤ 1000)
    (m1 : -1 ≤ many) (m2 : many ≤ 8) (hB : isRef d log many M [⟨d, [], []⟩] paper = B) : callF ft ct (k + 7) bs 20 [.p (E d), .p (E log), .p (.int many), .p (E paper)] st = .ok (.p (.bl B)) st := by
  refine W_eq (W_call f20 rfl rfl ?_)
  obtain ⟨r0, e0, l0⟩ := D.fst
  have e1 := check_number (k := k + 3) (bs := st.length :: bs) (st := st) m1 m2
  ((try simp -dsimp (disch := first | assumption | omega | (simp; done) | fail) [-getElem?_pos, f20, b20, b20_1, b20_2, b20_3, check_machine' (k := k + 2) D hs n1 hn, e0, l0, check_log L hl n1 hn, e1, is_refused (k := k + 3) D hs hn L hw hM hB]) <;> (repeat (with_reducible refine hold ?_)))
  exact ⟨rfl, rfl⟩
end K92

set_option Elab.async false
set_option linter.all false
set_option maxRecDepth 100000
set_option maxHeartbeats 4000000
namespace K92
open PySem Fc
variable {k : Nat} {bs : List Nat} {st : St}
/-! ### slips -/
structure Slp where
  s : Nat
  x : Nat
  a : Nat
  g : Nat
instance : Enc Slp := ⟨fun f => .tup [.int f.s, .int f.x, .int f.a, .int f.g], 1, fun f => by simp [P.kd, P.kds], fun a b h => by
  injection h with h; injection h with h1 h; injection h with h2 h; injection h with h3 h; injection h with h4 h
  cases a; cases b
  simp only [P.int.injEq, Int.ofNat_inj] at h1 h2 h3 h4
  simp_all⟩
@[simp] theorem E_slp {f : Slp} : E f = .tup [.int f.s, .int f.x, .int f.a, .int f.g] := id rfl
/-- a slip of a design -/
structure SlpOk (d : Mc) (s n : Nat) (f : Slp) : Prop where
  hs : f.s < s
  hx : f.x < n
  ha : f.a ≤ 99
  hg : f.g < s
  ne : cel d f.s f.x ≠ (f.a, f.g)
def ltP (a b : Slp) : Bool := ltI [(a.s : Int), (a.x : Int)] [(b.s : Int), (b.x : Int)]
/-- a fault -/
structure FltOk (d : Mc) (s n : Nat) (fs : List Slp) : Prop where
  l : fs.length ≤ 8
  ok : ∀ f ∈ fs, SlpOk d s n f
  ord : ∀ i f g, fs[i]? = some f → fs[i + 1]? = some g → ltP f g = true
theorem is_slip {d : Mc} {s n : Nat} {f : Slp} (D : Mk d s n) (F : SlpOk d s n f) : callF ft ct (k + 3) bs 11 [.p (E d), .p (.tup [.int f.s, .int f.x, .int f.a, .int f.g])] st = .ok (.p (.bl true)) st := by
  refine W_eq (W_call f11 rfl rfl ?_)
  obtain ⟨r0, e0, l0⟩ := D.fst
  obtain ⟨r, c, g1, g2, g3, _⟩ := D.at F.hs F.hx
  have ld := D.l
  have h1 : (f.s : Int) ≤ (s : Int) - 1 := by have := F.hs; omega
  have h2 : (f.x : Int) ≤ (n : Int) - 1 := by have := F.hx; omega
  have h3 : (f.a : Int) ≤ 99 := by have := F.ha; omega
  have h4 : (f.g : Int) ≤ (s : Int) - 1 := by have := F.hg; omega
  have hne := F.ne
  rw [g3] at hne
  ((try simp -dsimp (disch := first | assumption | omega | (simp; done) | fail) [-getElem?_pos, f11, b11, b11_1, b11_2, b11_3, b11_4, is_between, ld, h1, h2, h3, h4, e0, l0, g1, g2]) <;> (repeat (with_reducible refine hold ?_)))
  refine ⟨?_, rfl⟩
  have : ¬ (c.1 = f.a ∧ c.2 = f.g) := fun z => hne (Prod.ext z.1 z.2)
  simp
  omega
theorem has_order {fs : List Slp} (hl : fs.length ≤ 8) (h : ∀ i f g, fs[i]? = some f → fs[i + 1]? = some g → ltP f g = true) : callF ft ct (k + 1) bs 12 [.p (E fs)] st = .ok (.p (.bl true)) st := by
  refine W_eq (W_call f12 rfl rfl ?_)
  have hw : ∀ s', walkOf (.rng 0 ((fs.length : Int) - 1) 1) s' = some (RG (fs.length - 1), []) := fun s' => by
    cases fs with
    | nil => rfl
    | cons a r => exact walkRng' (by simp) (by simp at hl ⊢; omega)
  have hsl : ∀ (a b c d : P) (s0 : St), sliceA (.p (.tup [a, b, c, d])) none (some 2) s0 = .ok (.p (.tup [a, b])) s0 := fun _ _ _ _ _ => rfl
  have hlt : ∀ (a b c d : Int) (s0 : St), cmpop .lt (.p (.tup [.int a, .int b])) (.p (.tup [.int c, .int d])) s0 = some (ltI [a, b] [c, d]) := fun _ _ _ _ _ => rfl
  ((try simp -dsimp (disch := first | assumption | omega | (simp; done) | fail) [-getElem?_pos, f12, b12, b12_1, hw]) <;> (repeat (with_reducible refine hold ?_)))
  refine W_range (fun j σ s => s = st ∧ (∃ u1 : Option A, σ = [some (.p (E fs)), u1])) ?_ ?_ ?_
  · exact ⟨rfl, ⟨_, rfl⟩⟩
  · rintro j σ s' hj ⟨rfl, ⟨u1, rfl⟩⟩
    have h1 := List.getElem?_eq_getElem (show j < fs.length by omega)
    have h2 := List.getElem?_eq_getElem (show j + 1 < fs.length by omega)
    have h3 := h j _ _ h1 h2
    generalize fs[j] = f at h1 h3
    generalize fs[j + 1] = g at h2 h3
    unfold ltP at h3
    have hg : ∀ s0 : St, getix (.p (E fs)) (.p (.int ((j : Int) + 1))) s0 = some (.p (E g)) := fun s0 => by
      have := getix_E (st := s0) (xs := fs) (n := j + 1)
      rw [h2] at this
      exact this
    ((try simp -dsimp (disch := first | assumption | omega | (simp; done) | fail) [-getElem?_pos, l12_1, h1, hg, hsl, hlt, h3]) <;> (repeat (with_reducible refine hold ?_)))
    exact ⟨rfl, ⟨_, rfl⟩⟩
  · rintro σ s' ⟨rfl, ⟨u1, rfl⟩⟩
    ((try simp -dsimp (disch := first | assumption | omega | (simp; done) | fail) [-getElem?_pos]) <;> (repeat (with_reducible refine hold ?_)))
    exact ⟨rfl, rfl⟩
theorem is_fault {d : Mc} {s n : Nat} {fs : List Slp} (D : Mk d s n) (F : FltOk d s n fs) : callF ft ct (k + 4) bs 13 [.p (E d), .p (E fs)] st = .ok (.p (.bl true)) st := by
  refine W_eq (W_call f13 rfl rfl ?_)
  have hl := F.l
  have h1 : ¬ (8 : Int) < fs.length := by omega
  ((try simp -dsimp (disch := first | assumption | omega | (simp; done) | fail) [-getElem?_pos, f13, b13, b13_1, h1, q13_1]) <;> (repeat (with_reducible refine hold ?_)))
  refine W_cboolI (fun _ => true) (by show _ < 16777216; omega) (fun y hy => ?_) ?_
  · ((try simp -dsimp (disch := first | assumption | omega | (simp; done) | fail) [-getElem?_pos, wipeS, is_slip D (F.ok y hy)]) <;> (repeat (with_reducible refine hold ?_)))
    exact ⟨rfl, rfl⟩
  · have ha : fs.all (fun _ => true) = true := by simp
    ((try simp -dsimp (disch := first | assumption | omega | (simp; done) | fail) [-getElem?_pos, has_order (k := k + 2) F.l F.ord, ha]) <;> (repeat (with_reducible refine hold ?_)))
    exact ⟨rfl, rfl⟩
/-- a design with its slips -/
def slp (d : Mc) (fs : List Slp) : Mc := fs.foldl (fun m f => setc m f.s f.x (f.a, f.g)) d
theorem slp_take {d : Mc} {fs : List Slp} {j : Nat} {f : Slp} (h : fs[j]? = some f) : slp d (fs.take (j + 1)) = setc (slp d (fs.take j)) f.s f.x (f.a, f.g) := by
  unfold slp
  rw [List.take_succ, h, List.foldl_append]
  rfl
theorem slp_ok {d m : Mc} {s n : Nat} : ∀ {fs : List Slp}, (∀ f ∈ fs, SlpOk d s n f) → Mk m s n → Mk (slp m fs) s n
  | [], _, M => M
  | f :: fs, h, M => slp_ok (m := setc m f.s f.x (f.a, f.g)) (fun g hg => h g (.tail _ hg)) (M.set (h f (.head _)).hs (h f (.head _)).hx (h f (.head _)).ha (h f (.head _)).hg)
theorem slip_all {d : Mc} {s n : Nat} {fs : List Slp} (D : Mk d s n) (hs : s ≤ 64) (hn : n ≤ 6) (F : ∀ f ∈ fs, SlpOk d s n f) : callF ft ct (k + 2) bs 14 [.p (E d), .p (E fs)] st = .ok (.p (E (slp d fs))) st := by
  refine W_eq (W_call f14 rfl rfl ?_)
  ((try simp -dsimp (disch := first | assumption | omega | (simp; done) | fail) [-getElem?_pos, f14, b14, b14_1, b14_2]) <;> (repeat (with_reducible refine hold ?_)))
  unfold IT
  refine W_items (fun j σ s => s = st ∧ (∃ u3 u4 u5 u6 : Option A, σ = [some (.p (E d)), some (.p (E fs)), some (.p (E (slp d (fs.take j)))), u3, u4, u5, u6])) ?_ ?_ ?_
  · exact ⟨rfl, by simpa [slp] using ⟨_, _, _, _, rfl⟩⟩
  · rintro j f σ s' hf ⟨rfl, ⟨u3, u4, u5, u6, rfl⟩⟩
    have hm := List.mem_of_getElem? hf
    have M := slp_ok (fs := fs.take j) (fun g hg => F g (List.mem_of_mem_take hg)) D
    ((try simp -dsimp (disch := first | assumption | omega | (simp; done) | fail) [-getElem?_pos, l14_1, with_cell M hs hn (F f hm).hs (F f hm).hx]) <;> (repeat (with_reducible refine hold ?_)))
    exact ⟨rfl, by rw [slp_take hf]; exact ⟨_, _, _, _, rfl⟩⟩
  · rintro σ s' ⟨rfl, ⟨u3, u4, u5, u6, rfl⟩⟩
    ((try simp -dsimp (disch := first | assumption | omega | (simp; done) | fail) [-getElem?_pos]) <;> (repeat (with_reducible refine hold ?_)))
    exact ⟨rfl, rfl⟩
end K92

set_option Elab.async false
set_option linter.all false
set_option maxRecDepth 100000
set_option maxHeartbeats 4000000
namespace K92
open PySem Fc
variable {k : Nat} {bs : List Nat} {st : St}
/-! ### what is told -/
theorem is_number_E {xs : List Nat} : callF ft ct (k + 1) bs 0 [.p (E xs)] st = .ok (.p (.bl false)) st := by
  refine W_eq (W_call f0 rfl rfl ?_)
  ((try simp -dsimp (disch := first | assumption | omega | (simp; done) | fail) [-getElem?_pos, f0, b0]) <;> (repeat (with_reducible refine hold ?_)))
  exact ⟨rfl, rfl⟩
theorem is_between_E {xs : List Nat} {a b : Int} : callF ft ct (k + 2) bs 1 [.p (E xs), .p (.int a), .p (.int b)] st = .ok (.p (.bl false)) st := by
  refine W_eq (W_call f1 rfl rfl ?_)
  ((try simp -dsimp (disch := first | assumption | omega | (simp; done) | fail) [-getElem?_pos, f1, b1, is_number_E]) <;> (repeat (with_reducible refine hold ?_)))
  exact ⟨rfl, rfl⟩
/-- a log is no refusal -/
theorem is_refused_log {d : Mc} {log : List Rec} {s n : Nat} (hl : 1 ≤ log.length) : callF ft ct (k + 3) bs 19 [.p (E d), .p (E log), .p (.int (-1)), .p (E log)] st = .ok (.p (.bl false)) st := by
  refine W_eq (W_call f19 rfl rfl ?_)
  ((try simp -dsimp (disch := first | assumption | omega | (simp; done) | fail) [-getElem?_pos, f19, b19, b19_1, b19_2, b19_3, b19_4]) <;> (repeat (with_reducible refine hold ?_)))
  have h0 := List.getElem?_eq_getElem (show 0 < log.length by omega)
  generalize log[0] = r at h0
  have hne : ¬ log = [] := fun z => by rw [z] at hl; simp at hl
  have hne2 : ¬ (0 : Int) = log.length := by omega
  refine W_while (fun m σ s' => m = 1 ∧ s' = st ++ [LL [(⟨d, [], []⟩ : Stg)]] ∧ (∃ u6 u7 u8 u9 u10 : Option A, σ = [some (.p (E d)), some (.p (E log)), some (.p (.int (-1))), some (.p (E log)), some (.ref st.length), some (.p (.int 0)), u6, u7, u8, u9, u10])) 1 (by decide) ⟨rfl, rfl, ⟨_, _, _, _, _, rfl⟩⟩ ?_
  rintro m σ s' ⟨rfl, rfl, ⟨u6, u7, u8, u9, u10, rfl⟩⟩
  have hp : popO st.length (st ++ [LL [(⟨d, [], []⟩ : Stg)]]) (some (LL [(⟨d, [], []⟩ : Stg)])) = .ok (.p (E (⟨d, [], []⟩ : Stg))) ((st ++ [LL [(⟨d, [], []⟩ : Stg)]]).set st.length (LL [])) := popO_snoc (xs := []) (x := (⟨d, [], []⟩ : Stg))
  ((try simp -dsimp (disch := first | assumption | omega | (simp; done) | fail) [-getElem?_pos, l19_1, hp, h0, hne, hne2, is_pair2, is_between_E]) <;> (repeat (with_reducible refine hold ?_)))
  exact ⟨rfl, rfl⟩
theorem s_nn : eqq (.str "none") (.str "none") = some true := by decide +kernel
theorem s_sn : eqq (.str "slips") (.str "none") = some false := by decide +kernel
theorem s_ss : eqq (.str "slips") (.str "slips") = some true := by decide +kernel
section
variable {d : Mc} {log : List Rec} {many : Int} {paper : List (Nat × Nat)} {B : Bool} {M s n : Nat}
theorem judge_none (D : Mk d s n) (hs : s ≤ 64) (n1 : 1 ≤ n) (hn : n ≤ 6) (L : ∀ r ∈ log, Rk r n) (hl : log.length ≤ 128) (hw : (1 + s) ^ (s * n) ≤ M) (hM : M ≤ 1000) (hB : isRef d log (-1) M [⟨d, [], []⟩] paper = B) :
    callF ft ct (k + 7) bs 21 [.p (E d), .p (E log), .p (.tup [.str "none", E paper])] st = .ok (.p (.bl B)) st := by
  refine W_eq (W_call f21 rfl rfl ?_)
  obtain ⟨r0, e0, l0⟩ := D.fst
  ((try simp -dsimp (disch := first | assumption | omega | (simp; done) | fail) [-getElem?_pos, f21, b21, b21_1, b21_2, b21_3, b21_4, b21_5, b21_6, s_nn, s_sn, s_ss, check_machine' (k := k + 2) D hs n1 hn, e0, l0, check_log L hl n1 hn, is_refused (k := k + 3) D hs hn L hw hM hB]) <;> (repeat (with_reducible refine hold ?_)))
  exact ⟨rfl, rfl⟩
theorem judge_log (D : Mk d s n) (hs : s ≤ 64) (n1 : 1 ≤ n) (hn : n ≤ 6) (L : ∀ r ∈ log, Rk r n) (hl : log.length ≤ 128) (h1 : 1 ≤ log.length) :
    callF ft ct (k + 7) bs 21 [.p (E d), .p (E log), .p (.tup [.str "none", E log])] st = .ok (.p (.bl false)) st := by
  refine W_eq (W_call f21 rfl rfl ?_)
  obtain ⟨r0, e0, l0⟩ := D.fst
  ((try simp -dsimp (disch := first | assumption | omega | (simp; done) | fail) [-getElem?_pos, f21, b21, b21_1, b21_2, b21_3, b21_4, b21_5, b21_6, s_nn, s_sn, s_ss, check_machine' (k := k + 2) D hs n1 hn, e0, l0, check_log L hl n1 hn, is_refused_log (k := k + 3) (s := s) (n := n) (d := d) h1]) <;> (repeat (with_reducible refine hold ?_)))
  exact ⟨rfl, rfl⟩
theorem judge_slips {fs : List Slp} (D : Mk d s n) (hs : s ≤ 64) (n1 : 1 ≤ n) (hn : n ≤ 6) (L : ∀ r ∈ log, Rk r n) (hl : log.length ≤ 128) (hw : (1 + s) ^ (s * n) ≤ M) (hM : M ≤ 1000) (F : FltOk d s n fs) (hB : isRef d log fs.length M [⟨d, [], []⟩] paper = B) :
    callF ft ct (k + 7) bs 21 [.p (E d), .p (E log), .p (.tup [.str "slips", E fs, E paper])] st = .ok (.p (.bl (good (slp d fs) log && B))) st := by
  refine W_eq (W_call f21 rfl rfl ?_)
  obtain ⟨r0, e0, l0⟩ := D.fst
  obtain ⟨x, ex, hx⟩ := first_error (k := k + 4) (bs := st.length :: bs) (st := st) (slp_ok F.ok D) L hl
  ((try simp -dsimp (disch := first | assumption | omega | (simp; done) | fail) [-getElem?_pos, f21, b21, b21_1, b21_2, b21_3, b21_4, b21_5, b21_6, s_nn, s_sn, s_ss, check_machine' (k := k + 2) D hs n1 hn, e0, l0, check_log L hl n1 hn, is_fault (k := k + 2) D F, slip_all (k := k + 4) D hs hn F.ok, ex, hx]) <;> (repeat (with_reducible refine hold ?_)))
  refine WB_cases (fun hq => ?_) (fun hq => ?_)
  · ((try simp -dsimp (disch := first | assumption | omega | (simp; done) | fail) [-getElem?_pos, is_refused (k := k + 3) D hs hn L hw hM hB]) <;> (repeat (with_reducible refine hold ?_)))
    exact ⟨by simp [hq], rfl⟩
  · ((try simp -dsimp (disch := first | assumption | omega | (simp; done) | fail) [-getElem?_pos]) <;> (repeat (with_reducible refine hold ?_)))
    exact ⟨by simp [hq], rfl⟩
end
end K92

set_option Elab.async false
set_option linter.all false
set_option maxRecDepth 100000
set_option maxHeartbeats 4000000
namespace K92
open PySem Fc
variable {k : Nat} {bs : List Nat} {st : St}
theorem law_explained {d : Mc} {log : List Rec} {paper : List (Nat × Nat)} {B : Bool} {M s n : Nat} {fs : List Slp} (D : Mk d s n) (hs : s ≤ 64) (hn : n ≤ 6) (L : ∀ r ∈ log, Rk r n) (hl : log.length ≤ 128) (hw : (1 + s) ^ (s * n) ≤ M) (hM : M ≤ 1000) (F : ∀ f ∈ fs, SlpOk d s n f) (hB : isRef d log fs.length M [⟨d, [], []⟩] paper = B) :
    callF ft ct (k + 5) bs 40 [.p (E d), .p (E log), .p (E fs), .p (E paper)] st = .ok (.p (.bl (good (slp d fs) log && B))) st := by
  refine W_eq (W_call f40 rfl rfl ?_)
  ((try simp -dsimp (disch := first | assumption | omega | (simp; done) | fail) [-getElem?_pos, f40, b40, b40_1, b40_2, b40_3]) <;> (repeat (with_reducible refine hold ?_)))
  unfold IT
  refine W_items (fun j σ s => s = st ∧ (∃ u5 u6 u7 u8 u9 : Option A, σ = [some (.p (E d)), some (.p (E log)), some (.p (E fs)), some (.p (E paper)), some (.p (E (slp d (fs.take j)))), u5, u6, u7, u8, u9])) ?_ ?_ ?_
  · exact ⟨rfl, by simpa [slp] using ⟨_, _, _, _, _, rfl⟩⟩
  · rintro j f σ s' hf ⟨rfl, ⟨u5, u6, u7, u8, u9, rfl⟩⟩
    have S := F f (List.mem_of_getElem? hf)
    have Mm := slp_ok (fs := fs.take j) (fun g hg => F g (List.mem_of_mem_take hg)) D
    rw [slp_take hf]
    generalize slp d (fs.take j) = m at Mm ⊢
    obtain ⟨r0, _, f1, _⟩ := Mm.at S.hs S.hx
    have hr0 : m.getD f.s [] = r0 := by rw [List.getD_eq_getElem?_getD, f1]; rfl
    have lr := Mm.row r0 (List.mem_of_getElem? f1)
    have lm := Mm.l
    have b1 : (r0.take f.x).length + 1 ≤ szl := by rw [List.length_take]; show _ ≤ 16777216; omega
    have a2 := fun st => add_E (st := st) (a := r0.take f.x ++ [(f.a, f.g)]) (b := r0.drop (f.x + 1)) (by simp only [List.length_append, List.length_take, List.length_drop, List.length_singleton]; show _ ≤ 16777216; omega)
    have a3 := fun st => add_E1L (st := st) (a := m.take f.s) (x := r0.take f.x ++ (f.a, f.g) :: r0.drop (f.x + 1)) (by rw [List.length_take]; show _ ≤ 16777216; omega)
    have a4 := fun st => add_E (st := st) (a := m.take f.s ++ [r0.take f.x ++ (f.a, f.g) :: r0.drop (f.x + 1)]) (b := m.drop (f.s + 1)) (by simp only [List.length_append, List.length_take, List.length_drop, List.length_singleton]; show _ ≤ 16777216; omega)
    have es : setc m f.s f.x (f.a, f.g) = m.take f.s ++ (r0.take f.x ++ (f.a, f.g) :: r0.drop (f.x + 1)) :: m.drop (f.s + 1) := by
      unfold setc setr
      rw [hr0]; simp
    ((try simp -dsimp (disch := first | assumption | omega | (simp; done) | fail) [-getElem?_pos, l40_1, f1, a2, a3, a4]) <;> (repeat (with_reducible refine hold ?_)))
    exact ⟨rfl, by rw [es]; exact ⟨_, _, _, _, _, rfl⟩⟩
  · rintro σ s' ⟨rfl, ⟨u5, u6, u7, u8, u9, rfl⟩⟩
    have Mm := slp_ok (fs := fs) F D
    ((try simp -dsimp (disch := first | assumption | omega | (simp; done) | fail) [-getElem?_pos]) <;> (repeat (with_reducible refine hold ?_)))
    unfold IT
    refine W_items (fun j σ s => s = s' ∧ (∀ r ∈ log.take j, ¬ soe (slp d fs) r < r.1.length) ∧ (∃ u5 u6 u7 u8 u9 : Option A, σ = [some (.p (E d)), some (.p (E log)), some (.p (E fs)), some (.p (E paper)), some (.p (E (slp d fs))), u5, u6, u7, u8, u9])) ?_ ?_ ?_
    · exact ⟨rfl, fun r hr => by simp at hr, ⟨_, _, _, _, _, rfl⟩⟩
    · rintro j r σ s'' hr ⟨rfl, hb, ⟨u5, u6, u7, u8, u9, rfl⟩⟩
      have hm := List.mem_of_getElem? hr
      ((try simp -dsimp (disch := first | assumption | omega | (simp; done) | fail) [-getElem?_pos, l40_2, law_error Mm (L r hm)]) <;> (repeat (with_reducible refine hold ?_)))
      refine WB_cases (fun hq => ?_) (fun hq => ?_)
      · have hq := of_decide_eq_true hq
        ((try simp -dsimp (disch := first | assumption | omega | (simp; done) | fail) [-getElem?_pos]) <;> (repeat (with_reducible refine hold ?_)))
        have : good (slp d fs) log = false := by
          rw [Bool.eq_false_iff]
          intro h
          have := List.all_eq_true.mp h r hm
          simp at this
          omega
        exact ⟨by rw [this]; rfl, rfl⟩
      · have hq := of_decide_eq_false hq
        ((try simp -dsimp (disch := first | assumption | omega | (simp; done) | fail) [-getElem?_pos]) <;> (repeat (with_reducible refine hold ?_)))
        refine ⟨rfl, fun r' hr' => ?_, ⟨_, _, _, _, _, rfl⟩⟩
        rw [List.take_succ, hr] at hr'
        rcases List.mem_append.mp hr' with z | z
        · exact hb _ z
        · simp at z; subst z; exact hq
    · rintro σ s'' ⟨rfl, hb, ⟨u5, u6, u7, u8, u9, rfl⟩⟩
      have : good (slp d fs) log = true := List.all_eq_true.mpr fun r hr => by
        have := hb r (by rw [List.take_length]; exact hr)
        simpa using this
      ((try simp -dsimp (disch := first | assumption | omega | (simp; done) | fail) [-getElem?_pos, law_is_refusal D hs hn L hw hM (by omega) hB]) <;> (repeat (with_reducible refine hold ?_)))
      exact ⟨by rw [this]; rfl, rfl⟩
end K92

set_option Elab.async false
set_option linter.all false
set_option maxRecDepth 100000
set_option maxHeartbeats 4000000
namespace K92
open PySem Fc
variable {k : Nat} {bs : List Nat} {st : St}
@[simp] theorem app_slp {j s x a g : Nat} {xs : List Slp} (h : xs.length < szl) : appO bs j (.p (.tup [.int (s : Int), .int (x : Int), .int (a : Int), .int (g : Int)])) st (some (LL xs)) = .ok (.p .non) (st.set j (LL (xs ++ [⟨s, x, a, g⟩]))) := appO_E (⟨s, x, a, g⟩ : Slp) rfl h
def asc (f g : Slp) : Prop := f.s < g.s ∨ (f.s = g.s ∧ f.x < g.x)
theorem asc_lt {f g : Slp} (h : asc f g) : ltP f g = true := by
  unfold ltP
  rcases h with h | ⟨h1, h2⟩
  · rw [ltI, if_neg (by omega)]; simp; omega
  · rw [ltI, if_pos (by omega), ltI, if_neg (by omega)]; simp; omega
theorem law_fault {d m : Mc} {s s' n : Nat} (D : Mk d s n) (D' : Mk m s' n) (hs : s ≤ 64) (hn : n ≤ 6) (h8 : s * n ≤ 8) : WE (callF ft ct (k + 1) bs 39 [.p (E d), .p (E m)] st) NoX fun v s1 => ∃ fs, FltOk d s n fs ∧ v = .p (E fs) ∧ s1 = st := by
  refine W_call f39 rfl rfl ?_
  have h4s : 4 ≤ szl := by show 4 ≤ 16777216; omega
  have ld := D.l
  have lm := D'.l
  obtain ⟨r0, e0, l0⟩ := D.fst
  by_cases hss : s' = s
  · subst hss
    ((try simp -dsimp (disch := first | assumption | omega | (simp; done) | fail) [-getElem?_pos, f39, b39, b39_1, b39_2, b39_3, ld, lm]) <;> (repeat (with_reducible refine hold ?_)))
    refine W_range (fun i σ s1 => ∃ fs : List Slp, fs.length ≤ i * n ∧ (∀ f ∈ fs, f.s < i ∧ SlpOk d s' n f) ∧ fs.Pairwise asc ∧ s1 = st ++ [LL fs] ∧ (∃ u3 u4 : Option A, σ = [some (.p (E d)), some (.p (E m)), some (.ref st.length), u3, u4])) ?_ ?_ ?_
    · exact ⟨[], Nat.zero_le _, fun f hf => (by cases hf), List.Pairwise.nil, rfl, ⟨_, _, rfl⟩⟩
    · rintro i σ s1 hi ⟨fs, h1, h2, h3, rfl, ⟨u3, u4, rfl⟩⟩
      have hin : (i + 1) * n ≤ 8 := Nat.le_trans (Nat.mul_le_mul_right n (by omega)) h8
      rw [Nat.succ_mul] at hin
      ((try simp -dsimp (disch := first | assumption | omega | (simp; done) | fail) [-getElem?_pos, l39_2, e0, l0]) <;> (repeat (with_reducible refine hold ?_)))
      refine W_range (fun j σ s1 => ∃ fs : List Slp, fs.length ≤ i * n + j ∧ (∀ f ∈ fs, (f.s < i ∨ (f.s = i ∧ f.x < j)) ∧ SlpOk d s' n f) ∧ fs.Pairwise asc ∧ s1 = st ++ [LL fs] ∧ (∃ u4 : Option A, σ = [some (.p (E d)), some (.p (E m)), some (.ref st.length), some (.p (.int (i : Nat))), u4])) ?_ ?_ ?_
      · exact ⟨fs, h1, fun f hf => ⟨.inl (h2 f hf).1, (h2 f hf).2⟩, h3, rfl, ⟨_, rfl⟩⟩
      · rintro j σ s1 hj ⟨fs, h1, h2, h3, rfl, ⟨u4, rfl⟩⟩
        obtain ⟨rm, cm, m1, m2, m3, m4, m5⟩ := D'.at hi hj
        obtain ⟨rd, cd, d1, d2, d3, d4, d5⟩ := D.at hi hj
        have hz : fs.length < szl := by show _ < 16777216; omega
        ((try simp -dsimp (disch := first | assumption | omega | (simp; done) | fail) [-getElem?_pos, l39_1, m1, m2, d1, d2]) <;> (repeat (with_reducible refine hold ?_)))
        refine WB_cases (fun hq => ?_) (fun hq => ?_)
        · ((try simp -dsimp (disch := first | assumption | omega | (simp; done) | fail) [-getElem?_pos, m1, m2, h4s]) <;> (repeat (with_reducible refine hold ?_)))
          refine ⟨fs ++ [⟨i, j, cm.1, cm.2⟩], by rw [List.length_append, List.length_singleton]; omega, fun f hf => ?_, ?_, rfl, ⟨_, rfl⟩⟩
          · rcases List.mem_append.mp hf with z | z
            · obtain ⟨z1, z2⟩ := h2 f z
              exact ⟨by omega, z2⟩
            · rw [List.mem_singleton] at z
              subst z
              refine ⟨.inr ⟨rfl, Nat.lt_succ_self j⟩, hi, hj, m4, m5, ?_⟩
              show cel d i j ≠ _
              rw [d3]
              intro z
              simp at hq
              have z1 : cd.1 = cm.1 := by rw [z]
              have z2 : cd.2 = cm.2 := by rw [z]
              omega
          · rw [List.pairwise_append]
            refine ⟨h3, List.pairwise_singleton _ _, fun a ha b hb => ?_⟩
            rw [List.mem_singleton] at hb
            subst hb
            have := (h2 a ha).1
            unfold asc
            simp only
            omega
        · ((try simp -dsimp (disch := first | assumption | omega | (simp; done) | fail) [-getElem?_pos]) <;> (repeat (with_reducible refine hold ?_)))
          exact ⟨fs, by omega, fun f hf => ⟨by have := (h2 f hf).1; omega, (h2 f hf).2⟩, h3, rfl, ⟨_, rfl⟩⟩
      · rintro σ s1 ⟨fs, h1, h2, h3, rfl, ⟨u4, rfl⟩⟩
        ((try simp -dsimp (disch := first | assumption | omega | (simp; done) | fail) [-getElem?_pos]) <;> (repeat (with_reducible refine hold ?_)))
        exact ⟨fs, by rw [Nat.succ_mul]; exact h1, fun f hf => ⟨by have := (h2 f hf).1; omega, (h2 f hf).2⟩, h3, rfl, ⟨_, _, rfl⟩⟩
    · rintro σ s1 ⟨fs, h1, h2, h3, rfl, ⟨u3, u4, rfl⟩⟩
      ((try simp -dsimp (disch := first | assumption | omega | (simp; done) | fail) [-getElem?_pos]) <;> (repeat (with_reducible refine hold ?_)))
      refine ⟨fs, ⟨by omega, fun f hf => (h2 f hf).2, fun i f g hf hg => ?_⟩, rfl, rfl⟩
      obtain ⟨a1, a2⟩ := List.getElem?_eq_some_iff.mp hf
      obtain ⟨b1, b2⟩ := List.getElem?_eq_some_iff.mp hg
      subst a2 b2
      exact asc_lt (List.pairwise_iff_getElem.mp h3 i (i + 1) a1 b1 (Nat.lt_succ_self i))
  · have hne : ¬ (s' : Int) = s := by omega
    ((try simp -dsimp (disch := first | assumption | omega | (simp; done) | fail) [-getElem?_pos, f39, b39, b39_1, b39_2, b39_3, ld, lm, hne, hss]) <;> (repeat (with_reducible refine hold ?_)))
    exact ⟨[], ⟨by simp, fun f hf => (by cases hf), fun i f g hf => (by cases hf)⟩, rfl, rfl⟩
end K92

set_option Elab.async false
set_option linter.all false
set_option maxRecDepth 100000
set_option maxHeartbeats 4000000
namespace K92
open PySem Fc
variable {k : Nat} {bs : List Nat} {st : St}
theorem law_spoilt {jb C : Nat} {o : MO} {paper : List (Nat × Nat)} (ho : st[jb]? = some o) (hb : Bag C o) (hC : C ≤ 1000000) (hp : paper.length ≤ 1000) :
    WE (callF ft ct (k + 2) bs 37 [.ref jb, .p (E paper)] st) NoX fun v s' => ∃ p' o', Bag (C + 3) o' ∧ v = .p (E (p' : List (Nat × Nat))) ∧ s' = st.set jb o' ∧ p'.length ≤ paper.length + 1 := by
  refine W_call f37 rfl rfl ?_
  have hj := lt_of_get ho
  cases h0 : paper with
  | nil =>
    ((try simp -dsimp (disch := first | assumption | omega | (simp; done) | fail) [-getElem?_pos, f37, b37, b37_1, b37_2, b37_3, b37_4, b37_5, b37_6, b37_7, b37_8]) <;> (repeat (with_reducible refine hold ?_)))
    exact ⟨[(0, 0)], o, hb.mono (by omega), rfl, by rw [set_self ho], by simp⟩
  | cons p0 ps =>
    rw [← h0]
    have hpos : 1 ≤ paper.length := by rw [h0]; simp
    have hnn : ¬ paper = [] := fun z => by rw [z] at h0; cases h0
    have hne : ¬ (paper.length : Int) = 0 := by omega
    ((try simp -dsimp (disch := first | assumption | omega | (simp; done) | fail) [-getElem?_pos, f37, b37, b37_1, b37_2, b37_3, b37_4, b37_5, b37_6, b37_7, b37_8, hnn, hne]) <;> (repeat (with_reducible refine hold ?_)))
    refine take_ok.w paper.length ho hb (by omega) fun d1 o1 hd1 hb1 => ?_
    ((try simp -dsimp (disch := first | assumption | omega | (simp; done) | fail) [-getElem?_pos]) <;> (repeat (with_reducible refine hold ?_)))
    refine take_ok.w 5 (gj hj) hb1 (by omega) fun d2 o2 hd2 hb2 => ?_
    have hx := List.getElem?_eq_getElem hd1
    generalize paper[d1] = c at hx
    obtain ⟨a, t⟩ := c
    have lt1 : (paper.take d1).length = d1 := by rw [List.length_take]; omega
    have ld1 : (paper.drop (d1 + 1)).length = paper.length - (d1 + 1) := List.length_drop
    have ld0 : (paper.drop d1).length = paper.length - d1 := List.length_drop
    have z1 : (paper.take d1).length + 1 ≤ szl := by show _ ≤ 16777216; omega
    have q0 := fun s0 => add_E (st := s0) (a := paper.take d1) (b := paper.drop (d1 + 1)) (by show _ ≤ 16777216; omega)
    have q1 : ∀ s0, binop .add (.p (E (paper.take d1))) (.p (.tup [.tup [.int (a : Int), .int ((t : Int) + 1)]])) s0 = .ok (.p (E (paper.take d1 ++ [(a, t + 1)]))) s0 := fun s0 => add_E (b := [(a, t + 1)]) z1
    have q2 := fun (u v : Nat) s0 => add_E (st := s0) (a := paper.take d1 ++ [(u, v)]) (b := paper.drop (d1 + 1)) (by rw [List.length_append, List.length_singleton]; show _ ≤ 16777216; omega)
    have q3 := fun (u v : Nat) s0 => add_E (st := s0) (a := paper.take d1 ++ [(u, v)]) (b := paper.drop d1) (by rw [List.length_append, List.length_singleton]; show _ ≤ 16777216; omega)
    by_cases k0 : d2 = 0
    · subst k0
      ((try simp -dsimp (disch := first | assumption | omega | (simp; done) | fail) [-getElem?_pos, hx, q0]) <;> (repeat (with_reducible refine hold ?_)))
      exact ⟨_, o2, hb2.mono (by omega), rfl, by simp, by rw [List.length_append]; omega⟩
    by_cases k1 : d2 = 1
    · subst k1
      ((try simp -dsimp (disch := first | assumption | omega | (simp; done) | fail) [-getElem?_pos, hx, q1, q2]) <;> (repeat (with_reducible refine hold ?_)))
      exact ⟨_, o2, hb2.mono (by omega), rfl, by simp, by simp; omega⟩
    by_cases k2 : d2 = 2
    · subst k2
      ((try simp -dsimp (disch := first | assumption | omega | (simp; done) | fail) [-getElem?_pos, hx]) <;> (repeat (with_reducible refine hold ?_)))
      refine take_ok.w 4 (gj hj) (by simpa using hb2) (by omega) fun d3 o3 hd3 hb3 => ?_
      ((try simp -dsimp (disch := first | assumption | omega | (simp; done) | fail) [-getElem?_pos, q2]) <;> (repeat (with_reducible refine hold ?_)))
      exact ⟨_, o3, hb3.mono (by omega), rfl, by simp, by simp; omega⟩
    by_cases k3 : d2 = 3
    · subst k3
      ((try simp -dsimp (disch := first | assumption | omega | (simp; done) | fail) [-getElem?_pos, hx, q3]) <;> (repeat (with_reducible refine hold ?_)))
      exact ⟨_, o2, hb2.mono (by omega), rfl, by simp, by simp; omega⟩
    · have i0 : ¬ (d2 : Int) = 0 := by omega
      have i1 : ¬ (d2 : Int) = 1 := by omega
      have i2 : ¬ (d2 : Int) = 2 := by omega
      have i3 : ¬ (d2 : Int) = 3 := by omega
      ((try simp -dsimp (disch := first | assumption | omega | (simp; done) | fail) [-getElem?_pos, hx, i0, i1, i2, i3, k0, k1, k2, k3, q2]) <;> (repeat (with_reducible refine hold ?_)))
      exact ⟨_, o2, hb2.mono (by omega), rfl, by simp, by simp; omega⟩
end K92

set_option Elab.async false
set_option linter.all false
set_option maxRecDepth 100000
set_option maxHeartbeats 4000000
namespace K92
open PySem Fc
variable {k : Nat} {bs : List Nat} {st : St}
theorem law_ring {j s n a B : Nat} {o : MO} (h : st[j]? = some o) (hb : Bag B o) (hB : B ≤ 1000000) (s1 : 1 ≤ s) (s2 : s ≤ 64) (n2 : n ≤ 6) (a1 : 1 ≤ a) (a2 : a ≤ 99) :
    WE (callF ft ct (k + 2) bs 27 [.ref j, .p (.int s), .p (.int n), .p (.int a)] st) NoX fun v s' => ∃ m o', Mk m s n ∧ Bag (B + s * (n * 2)) o' ∧ v = .p (E m) ∧ s' = st.set j o' := by
  refine W_call f27 rfl rfl ?_
  have hj := lt_of_get h
  have hsn : s * (n * 2) ≤ 64 * (6 * 2) := Nat.mul_le_mul s2 (Nat.mul_le_mul n2 (Nat.le_refl _))
  ((try simp -dsimp (disch := first | assumption | omega | (simp; done) | fail) [-getElem?_pos, f27, b27, b27_1, b27_2]) <;> (repeat (with_reducible refine hold ?_)))
  refine W_range (fun i σ s' => ∃ (m : Mc) (o' : MO), m.length = i ∧ (∀ r ∈ m, r.length = n) ∧ (∀ r ∈ m, ∀ c ∈ r, c.1 ≤ 99 ∧ c.2 < s) ∧ Bag (B + i * (n * 2)) o' ∧ s' = st.set j o' ++ [LL m] ∧ (∃ u5 u6 u7 u8 u9 : Option A, σ = [some (.ref j), some (.p (.int s)), some (.p (.int n)), some (.p (.int a)), some (.ref st.length), u5, u6, u7, u8, u9])) ?_ ?_ ?_
  · exact ⟨[], o, rfl, by simp, by simp, by simpa using hb, by rw [set_self h]; rfl, ⟨_, _, _, _, _, rfl⟩⟩
  · rintro i σ s' hi ⟨m, o', h1, h2, h3, h4, rfl, ⟨u5, u6, u7, u8, u9, rfl⟩⟩
    have hin : i * (n * 2) ≤ 64 * (6 * 2) := Nat.mul_le_mul (by omega) (Nat.mul_le_mul n2 (Nat.le_refl _))
    ((try simp -dsimp (disch := first | assumption | omega | (simp; done) | fail) [-getElem?_pos, l27_2]) <;> (repeat (with_reducible refine hold ?_)))
    refine W_range (fun i' σ s' => ∃ (r : List (Nat × Nat)) (o' : MO), r.length = i' ∧ (∀ c ∈ r, c.1 ≤ 99 ∧ c.2 < s) ∧ Bag (B + i * (n * 2) + i' * 2) o' ∧ s' = st.set j o' ++ [LL m, LL r] ∧ (∃ u7 u8 u9 : Option A, σ = [some (.ref j), some (.p (.int s)), some (.p (.int n)), some (.p (.int a)), some (.ref st.length), some (.p (.int i)), some (.ref (st.length + 1)), u7, u8, u9])) ?_ ?_ ?_
    · exact ⟨[], o', rfl, by simp, by simpa using h4, rfl, ⟨_, _, _, rfl⟩⟩
    · rintro i' σ s' hi' ⟨r, o', h1', h3', h4', rfl, ⟨u7, u8, u9, rfl⟩⟩
      have hs0 : (0 : Int) < s := by omega
      have hsN : 0 < s := by omega
      have hm : ((i : Int) + 1) % (s : Int) = (((i + 1) % s : Nat) : Int) := by
        have := Int.natCast_emod (i + 1) s
        rw [this]; rfl
      have hmod : (i + 1) % s < s := Nat.mod_lt _ (by omega)
      generalize (i + 1) % s = gi at hm hmod
      have hlr : r.length < szl := by show _ < 16777216; omega
      by_cases hx : i' = 0
      · subst hx
        ((try simp -dsimp (disch := first | assumption | omega | (simp; done) | fail) [-getElem?_pos, l27_1, hs0, hsN, hm]) <;> (repeat (with_reducible refine hold ?_)))
        refine take_ok.w a (gsj hj) h4' (by omega) fun d1 o1 hd1 hb1 => ?_
        ((try simp -dsimp (disch := first | assumption | omega | (simp; done) | fail) [-getElem?_pos]) <;> (repeat (with_reducible refine hold ?_)))
        refine WB_cases (fun hq => ?_) (fun hq => ?_)
        · ((try simp -dsimp (disch := first | assumption | omega | (simp; done) | fail) [-getElem?_pos]) <;> (repeat (with_reducible refine hold ?_)))
          exact ⟨r ++ [(a, gi)], o1, by simp [h1'], all_snoc h3' ⟨a2, hmod⟩, hb1.mono (by omega), rfl, ⟨_, _, _, rfl⟩⟩
        · ((try simp -dsimp (disch := first | assumption | omega | (simp; done) | fail) [-getElem?_pos]) <;> (repeat (with_reducible refine hold ?_)))
          exact ⟨r ++ [(d1, gi)], o1, by simp [h1'], all_snoc h3' ⟨by show d1 ≤ 99; omega, hmod⟩, hb1.mono (by omega), rfl, ⟨_, _, _, rfl⟩⟩
      · have hx1 : (0 : Int) < i' := by omega
        have hx2 : ¬ (i' : Int) = 0 := by omega
        have hx3 : 0 < i' := by omega
        ((try simp -dsimp (disch := first | assumption | omega | (simp; done) | fail) [-getElem?_pos, l27_1, hs0, hsN, hm, hx, hx1, hx2, hx3]) <;> (repeat (with_reducible refine hold ?_)))
        refine take_ok.w s (gsj hj) h4' (by omega) fun d2 o2 hd2 hb2 => ?_
        ((try simp -dsimp (disch := first | assumption | omega | (simp; done) | fail) [-getElem?_pos]) <;> (repeat (with_reducible refine hold ?_)))
        refine take_ok.w a (gsj hj) hb2 (by omega) fun d1 o1 hd1 hb1 => ?_
        ((try simp -dsimp (disch := first | assumption | omega | (simp; done) | fail) [-getElem?_pos, hx, hx2]) <;> (repeat (with_reducible refine hold ?_)))
        refine WB_cases (fun hq => ?_) (fun hq => ?_)
        · ((try simp -dsimp (disch := first | assumption | omega | (simp; done) | fail) [-getElem?_pos, hx, hx2]) <;> (repeat (with_reducible refine hold ?_)))
          exact ⟨r ++ [(d1, d2)], o1, by simp [h1'], all_snoc h3' ⟨by show d1 ≤ 99; omega, hd2⟩, by rw [Nat.succ_mul]; exact hb1.mono (by omega), rfl, ⟨_, _, _, rfl⟩⟩
        · ((try simp -dsimp (disch := first | assumption | omega | (simp; done) | fail) [-getElem?_pos]) <;> (repeat (with_reducible refine hold ?_)))
          exact ⟨r ++ [(d1, d2)], o1, by simp [h1'], all_snoc h3' ⟨by show d1 ≤ 99; omega, hd2⟩, by rw [Nat.succ_mul]; exact hb1.mono (by omega), rfl, ⟨_, _, _, rfl⟩⟩
    · rintro σ s' ⟨r, o', h1', h3', h4', rfl, ⟨u7, u8, u9, rfl⟩⟩
      have hlm : m.length < szl := by show _ < 16777216; omega
      ((try simp -dsimp (disch := first | assumption | omega | (simp; done) | fail) [-getElem?_pos]) <;> (repeat (with_reducible refine hold ?_)))
      exact ⟨m ++ [r], o', by simp [h1], all_snoc h2 h1', all_snoc h3 h3', by rw [Nat.succ_mul]; exact h4'.mono (by omega), rfl, ⟨_, _, _, _, _, rfl⟩⟩
  · rintro σ s' ⟨m, o', h1, h2, h3, h4, rfl, ⟨u5, u6, u7, u8, u9, rfl⟩⟩
    ((try simp -dsimp (disch := first | assumption | omega | (simp; done) | fail) [-getElem?_pos]) <;> (repeat (with_reducible refine hold ?_)))
    exact ⟨m, o', ⟨h1, s1, h2, h3⟩, h4, rfl, rfl⟩
theorem law_design {j s n a B : Nat} {o : MO} (h : st[j]? = some o) (hb : Bag B o) (hB : B < 1000000) (s1 : 1 ≤ s) (s2 : s ≤ 64) (n2 : n ≤ 6) (a1 : 1 ≤ a) (a2 : a ≤ 99) :
    WE (callF ft ct (k + 3) bs 28 [.ref j, .p (.int s), .p (.int n), .p (.int a)] st) NoX fun v s' => ∃ m o', Mk m s n ∧ Bag (B + 1 + s * (n * 2)) o' ∧ v = .p (E m) ∧ s' = st.set j o' := by
  refine W_call f28 rfl rfl ?_
  have hj := lt_of_get h
  ((try simp -dsimp (disch := first | assumption | omega | (simp; done) | fail) [-getElem?_pos, f28, b28, b28_1]) <;> (repeat (with_reducible refine hold ?_)))
  refine take_ok.w 2 h hb (by omega) fun d1 o1 hd1 hb1 => ?_
  ((try simp -dsimp (disch := first | assumption | omega | (simp; done) | fail) [-getElem?_pos]) <;> (repeat (with_reducible refine hold ?_)))
  refine WB_cases (fun hq => ?_) (fun hq => ?_)
  · ((try simp -dsimp (disch := first | assumption | omega | (simp; done) | fail) [-getElem?_pos]) <;> (repeat (with_reducible refine hold ?_)))
    refine WE_use (law_ring (k := k) (gj hj) hb1 (by omega) s1 s2 n2 a1 a2) fun v s' hh => ?_
    obtain ⟨m, o', hm, hb', rfl, rfl⟩ := hh
    ((try simp -dsimp (disch := first | assumption | omega | (simp; done) | fail) [-getElem?_pos]) <;> (repeat (with_reducible refine hold ?_)))
    exact ⟨m, o', hm, hb', rfl, by simp⟩
  · ((try simp -dsimp (disch := first | assumption | omega | (simp; done) | fail) [-getElem?_pos]) <;> (repeat (with_reducible refine hold ?_)))
    refine WE_use (law_machine (k := k) (gj hj) hb1 (by omega) s1 s2 n2 a1 (by omega)) fun v s' hh => ?_
    obtain ⟨m, o', hm, hb', rfl, rfl⟩ := hh
    ((try simp -dsimp (disch := first | assumption | omega | (simp; done) | fail) [-getElem?_pos]) <;> (repeat (with_reducible refine hold ?_)))
    exact ⟨m, o', ⟨hm.l, s1, hm.row, fun r hr c hc => ⟨by have := (hm.cell r hr c hc).1; omega, (hm.cell r hr c hc).2⟩⟩, hb', rfl, by simp⟩
end K92

set_option Elab.async false
set_option linter.all false
set_option maxRecDepth 100000
set_option maxHeartbeats 4000000
namespace K92
open PySem Fc
variable {k : Nat} {bs : List Nat} {st : St}
theorem law_lot {j n L M B : Nat} {o : MO} (h : st[j]? = some o) (hb : Bag B o) (hB : B + M * (L + 1) ≤ 1000000) (n1 : 1 ≤ n) (n2 : n ≤ 6) (hL : L ≤ 100) (hM : M ≤ 1000) :
    WE (callF ft ct (k + 3) bs 30 [.ref j, .p (.int n), .p (.int M), .p (.int L)] st) NoX fun v s' => ∃ (rows : List (List Nat)) (o' : MO), rows.length = M ∧ (∀ r ∈ rows, r.length ≤ L ∧ ∀ x ∈ r, x < n) ∧ Bag (B + M * (L + 1)) o' ∧ v = .p (E rows) ∧ s' = st.set j o' := by
  refine W_call f30 rfl rfl ?_
  have hj := lt_of_get h
  ((try simp -dsimp (disch := first | assumption | omega | (simp; done) | fail) [-getElem?_pos, f30, b30, q30_1]) <;> (repeat (with_reducible refine hold ?_)))
  refine W_compR (fun i (xs : List (List Nat)) s => ∃ o', xs.length = i ∧ (∀ r ∈ xs, r.length ≤ L ∧ ∀ x ∈ r, x < n) ∧ Bag (B + i * (L + 1)) o' ∧ s = st.set j o') ⟨o, rfl, by simp, by simpa using hb, by rw [set_self h]⟩ (by show _ < 16777216; omega) ?_ ?_
  · rintro i xs s hi hxi ⟨o', h0, h1, h2, rfl⟩
    have hiM : (i + 1) * (L + 1) ≤ M * (L + 1) := Nat.mul_le_mul_right _ hi
    rw [Nat.succ_mul] at hiM
    ((try simp -dsimp (disch := first | assumption | omega | (simp; done) | fail) [-getElem?_pos, wipeS]) <;> (repeat (with_reducible refine hold ?_)))
    refine WE_use (law_row (k := k) (gj hj) h2 (by omega) n1 n2 hL) fun v s' hh => ?_
    obtain ⟨r, o2, hr1, hr2, hb2, rfl, rfl⟩ := hh
    ((try simp -dsimp (disch := first | assumption | omega | (simp; done) | fail) [-getElem?_pos]) <;> (repeat (with_reducible refine hold ?_)))
    exact .inl ⟨r, rfl, o2, by simp [h0], all_snoc h1 ⟨hr1, hr2⟩, by rw [Nat.succ_mul]; exact hb2.mono (by omega), by simp⟩
  · rintro xs s hxl ⟨o', h0, h1, h2, rfl⟩
    ((try simp -dsimp (disch := first | assumption | omega | (simp; done) | fail) [-getElem?_pos]) <;> (repeat (with_reducible refine hold ?_)))
    exact ⟨xs, o', h0, h1, h2, rfl, rfl⟩
theorem ans_rk {m : Mc} {s n : Nat} {row : List Nat} (F : Mk m s n) (h : ∀ x ∈ row, x < n) (hl : row.length ≤ 300) : Rk (row, ans m row) n := by
  refine ⟨h, by simp [ans], hl, fun a ha => ?_⟩
  simp only [ans] at ha
  obtain ⟨i, hi, rfl⟩ := List.mem_map.mp ha
  obtain ⟨x, rr, c, g1, g2, g3, g4, g5, g6, g7, g8, g9⟩ := F.step h (List.mem_range.mp hi)
  rw [g6]; exact g8
theorem law_log {j n s B : Nat} {o : MO} {d : Mc} (ho : st[j]? = some o) (hb : Bag B o) (hB : B ≤ 100000) (D : Mk d s n) (hs : s ≤ 64) (n1 : 1 ≤ n) (n2 : n ≤ 6) :
    WE (callF ft ct (k + 4) bs 38 [.ref j, .p (E d)] st) NoX fun v s' => ∃ (log : List Rec) (m : Mc) (s1 : Nat) (o' : MO), (∀ r ∈ log, Rk r n) ∧ 1 ≤ log.length ∧ log.length ≤ 3 ∧ Mk m s1 n ∧ Bag (B + 100) o' ∧ v = .p (.tup [E log, E m]) ∧ s' = st.set j o' := by
  refine W_call f38 rfl rfl ?_
  have hj := lt_of_get ho
  obtain ⟨r0, e0, l0⟩ := D.fst
  ((try simp -dsimp (disch := first | assumption | omega | (simp; done) | fail) [-getElem?_pos, f38, b38, b38_1, b38_2, b38_3, b38_4, e0, l0]) <;> (repeat (with_reducible refine hold ?_)))
  refine take_ok.w 3 ho hb (by omega) fun d1 o1 hd1 hb1 => ?_
  obtain ⟨q1, c1, hq1⟩ : ∃ q : Nat, (1 : Int) + d1 = q ∧ q = 1 + d1 := ⟨1 + d1, by omega, rfl⟩
  ((try simp -dsimp (disch := first | assumption | omega | (simp; done) | fail) [-getElem?_pos, c1]) <;> (repeat (with_reducible refine hold ?_)))
  refine WE_use (law_machine (k := k + 1) (gj hj) hb1 (by omega) (s := q1) (by omega) (by omega) n2 (a := 2) (by omega) (by omega)) fun v s' hh => ?_
  obtain ⟨m, o2, hm, hb2, rfl, rfl⟩ := hh
  have hk : q1 * (n * 2) ≤ 3 * (6 * 2) := Nat.mul_le_mul (by omega) (Nat.mul_le_mul n2 (Nat.le_refl _))
  have M1 : Mk m q1 n := ⟨hm.l, by omega, hm.row, fun r hr c hc => ⟨by have := (hm.cell r hr c hc).1; omega, (hm.cell r hr c hc).2⟩⟩
  ((try simp -dsimp (disch := first | assumption | omega | (simp; done) | fail) [-getElem?_pos]) <;> (repeat (with_reducible refine hold ?_)))
  refine take_ok.w 2 (gj hj) hb2 (by omega) fun d2 o3 hd2 hb3 => ?_
  ((try simp -dsimp (disch := first | assumption | omega | (simp; done) | fail) [-getElem?_pos]) <;> (repeat (with_reducible refine hold ?_)))
  refine WB_cases (fun hq => ?_) (fun hq => ?_)
  · ((try simp -dsimp (disch := first | assumption | omega | (simp; done) | fail) [-getElem?_pos]) <;> (repeat (with_reducible refine hold ?_)))
    refine take_ok.w 2 (gj hj) hb3 (by omega) fun d4 o4 hd4 hb4 => ?_
    obtain ⟨q4, c4, hq4⟩ : ∃ q : Nat, (1 : Int) + d4 = q ∧ q = 1 + d4 := ⟨1 + d4, by omega, rfl⟩
    have hw4 : ∀ s', walkOf (.rng 0 ((1 : Int) + d4) 1) s' = some (RG q4, []) := fun s' => walkRng' c4 (by omega)
    ((try simp -dsimp (disch := first | assumption | omega | (simp; done) | fail) [-getElem?_pos, hw4]) <;> (repeat (with_reducible refine hold ?_)))
    refine W_range (fun i σ s' => ∃ (m : Mc) (o' : MO), Mk m s n ∧ Bag (B + 39 + i * 4) o' ∧ s' = st.set j o' ∧ (∃ u4 u5 u6 u7 u8 u9 : Option A, σ = [some (.ref j), some (.p (E d)), some (.p (.int n)), some (.p (E m)), u4, u5, u6, u7, u8, u9])) ?_ ?_ ?_
    · exact ⟨d, o4, D, hb4.mono (by omega), by simp, ⟨_, _, _, _, _, _, rfl⟩⟩
    · rintro i σ s' hi ⟨m, o', F, hb', rfl, ⟨u4, u5, u6, u7, u8, u9, rfl⟩⟩
      have lm := F.l
      have hspos := F.s1
      ((try simp -dsimp (disch := first | assumption | omega | (simp; done) | fail) [-getElem?_pos, l38_1, lm]) <;> (repeat (with_reducible refine hold ?_)))
      refine take_ok.w s (gj hj) hb' (by omega) fun e1 p1 he1 hp1 => ?_
      ((try simp -dsimp (disch := first | assumption | omega | (simp; done) | fail) [-getElem?_pos]) <;> (repeat (with_reducible refine hold ?_)))
      refine take_ok.w n (gj hj) (by simpa using hp1) (by omega) fun e2 p2 he2 hp2 => ?_
      ((try simp -dsimp (disch := first | assumption | omega | (simp; done) | fail) [-getElem?_pos]) <;> (repeat (with_reducible refine hold ?_)))
      refine take_ok.w 2 (gj hj) (by simpa using hp2) (by omega) fun e3 p3 he3 hp3 => ?_
      ((try simp -dsimp (disch := first | assumption | omega | (simp; done) | fail) [-getElem?_pos, lm]) <;> (repeat (with_reducible refine hold ?_)))
      refine take_ok.w s (gj hj) (by simpa using hp3) (by omega) fun e4 p4 he4 hp4 => ?_
      obtain ⟨r0, _, f1, _⟩ := F.at he1 he2
      have hr0 : m.getD e1 [] = r0 := by rw [List.getD_eq_getElem?_getD, f1]; rfl
      have lr := F.row r0 (List.mem_of_getElem? f1)
      have b1 : (r0.take e2).length + 1 ≤ szl := by rw [List.length_take]; show _ ≤ 16777216; omega
      have a2 := fun st => add_E (st := st) (a := r0.take e2 ++ [(e3, e4)]) (b := r0.drop (e2 + 1)) (by simp only [List.length_append, List.length_take, List.length_drop, List.length_singleton]; show _ ≤ 16777216; omega)
      have a3 := fun st => add_E1L (st := st) (a := m.take e1) (x := r0.take e2 ++ (e3, e4) :: r0.drop (e2 + 1)) (by rw [List.length_take]; show _ ≤ 16777216; omega)
      have a4 := fun st => add_E (st := st) (a := m.take e1 ++ [r0.take e2 ++ (e3, e4) :: r0.drop (e2 + 1)]) (b := m.drop (e1 + 1)) (by simp only [List.length_append, List.length_take, List.length_drop, List.length_singleton]; show _ ≤ 16777216; omega)
      have es : setc m e1 e2 (e3, e4) = m.take e1 ++ (r0.take e2 ++ (e3, e4) :: r0.drop (e2 + 1)) :: m.drop (e1 + 1) := by
        unfold setc setr
        rw [hr0]; simp
      ((try simp -dsimp (disch := first | assumption | omega | (simp; done) | fail) [-getElem?_pos, f1, a2, a3, a4]) <;> (repeat (with_reducible refine hold ?_)))
      exact ⟨setc m e1 e2 (e3, e4), p4, F.set he1 he2 (by show e3 ≤ 99; omega) he4, hp4.mono (by omega), by simp, by rw [es]; exact ⟨_, _, _, _, _, _, rfl⟩⟩
    · rintro σ s' ⟨m, o', F, hb', rfl, ⟨u4, u5, u6, u7, u8, u9, rfl⟩⟩
      have hb5 : Bag (B + 60) o' := hb'.mono (by omega)
      ((try simp -dsimp (disch := first | assumption | omega | (simp; done) | fail) [-getElem?_pos]) <;> (repeat (with_reducible refine hold ?_)))
      refine take_ok.w 3 (gj hj) hb5 (by omega) fun d3 o3 hd3 hb3 => ?_
      obtain ⟨q3, c3, hq3⟩ : ∃ q : Nat, (1 : Int) + d3 = q ∧ q = 1 + d3 := ⟨1 + d3, by omega, rfl⟩
      ((try simp -dsimp (disch := first | assumption | omega | (simp; done) | fail) [-getElem?_pos, c3]) <;> (repeat (with_reducible refine hold ?_)))
      refine WE_use (law_lot (k := k) (L := 4) (M := q3) (gj hj) hb3 (by omega) n1 n2 (by omega) (by omega)) fun v s' hh => ?_
      obtain ⟨rows, o4, h1, h2, h3, rfl, rfl⟩ := hh
      have hrl : rows.length < szl := by show _ < 16777216; omega
      ((try simp -dsimp (disch := first | assumption | omega | (simp; done) | fail) [-getElem?_pos, q38_1]) <;> (repeat (with_reducible refine hold ?_)))
      refine W_cmapI (fun row => ((row, ans m row) : Rec)) hrl (fun y hy => ?_) ?_
      · ((try simp -dsimp (disch := first | assumption | omega | (simp; done) | fail) [-getElem?_pos, wipeS, law_answers (k := k + 1) F (h2 y hy).2 (by have := (h2 y hy).1; omega)]) <;> (repeat (with_reducible refine hold ?_)))
        exact ⟨rfl, rfl⟩
      · ((try simp -dsimp (disch := first | assumption | omega | (simp; done) | fail) [-getElem?_pos]) <;> (repeat (with_reducible refine hold ?_)))
        refine ⟨rows.map fun row => (row, ans m row), m, s, o4, fun r hr => ?_, by simp; omega, by simp; omega, F, h3.mono (by omega), rfl, by simp⟩
        obtain ⟨row, hrow, rfl⟩ := List.mem_map.mp hr
        exact ans_rk F (h2 row hrow).2 (by have := (h2 row hrow).1; omega)
  · have hb5 : Bag (B + 60) o3 := hb3.mono (by omega)
    ((try simp -dsimp (disch := first | assumption | omega | (simp; done) | fail) [-getElem?_pos]) <;> (repeat (with_reducible refine hold ?_)))
    refine take_ok.w 3 (gj hj) hb5 (by omega) fun d3 o3 hd3 hb3 => ?_
    obtain ⟨q3, c3, hq3⟩ : ∃ q : Nat, (1 : Int) + d3 = q ∧ q = 1 + d3 := ⟨1 + d3, by omega, rfl⟩
    ((try simp -dsimp (disch := first | assumption | omega | (simp; done) | fail) [-getElem?_pos, c3]) <;> (repeat (with_reducible refine hold ?_)))
    refine WE_use (law_lot (k := k) (L := 4) (M := q3) (gj hj) hb3 (by omega) n1 n2 (by omega) (by omega)) fun v s' hh => ?_
    obtain ⟨rows, o4, h1, h2, h3, rfl, rfl⟩ := hh
    have hrl : rows.length < szl := by show _ < 16777216; omega
    ((try simp -dsimp (disch := first | assumption | omega | (simp; done) | fail) [-getElem?_pos, q38_1]) <;> (repeat (with_reducible refine hold ?_)))
    refine W_cmapI (fun row => ((row, ans m row) : Rec)) hrl (fun y hy => ?_) ?_
    · ((try simp -dsimp (disch := first | assumption | omega | (simp; done) | fail) [-getElem?_pos, wipeS, law_answers (k := k + 1) M1 (h2 y hy).2 (by have := (h2 y hy).1; omega)]) <;> (repeat (with_reducible refine hold ?_)))
      exact ⟨rfl, rfl⟩
    · ((try simp -dsimp (disch := first | assumption | omega | (simp; done) | fail) [-getElem?_pos]) <;> (repeat (with_reducible refine hold ?_)))
      refine ⟨rows.map fun row => (row, ans m row), m, q1, o4, fun r hr => ?_, by simp; omega, by simp; omega, M1, h3.mono (by omega), rfl, by simp⟩
      obtain ⟨row, hrow, rfl⟩ := List.mem_map.mp hr
      exact ans_rk M1 (h2 row hrow).2 (by have := (h2 row hrow).1; omega)
end K92

set_option Elab.async false
set_option linter.all false
set_option maxRecDepth 100000
set_option maxHeartbeats 4000000
namespace K92
open PySem Fc
variable {k : Nat} {bs : List Nat} {st : St}
theorem is_tt : cmpop .is (.p (.bl true)) (.p (.bl true)) st = some true := rfl
theorem is_ff : cmpop .is (.p (.bl false)) (.p (.bl false)) st = some true := rfl
theorem wk2 : walkOf (.rng 0 2 1) st = some (RG 2, []) := walkRng' (n := 2) rfl (by omega)
theorem wk3 : walkOf (.rng 0 3 1) st = some (RG 3, []) := walkRng' (n := 3) rfl (by omega)
theorem law_tells {b : Bool} : callF ft ct (k + 1) bs 23 [.p (.bl b), .p (.bl b)] st = .ok (.p (.bl true)) st := by
  refine W_eq (W_call f23 rfl rfl ?_)
  cases b
  · ((try simp -dsimp (disch := first | assumption | omega | (simp; done) | fail) [-getElem?_pos, f23, b23, b23_1, is_tt, is_ff]) <;> (repeat (with_reducible refine hold ?_)))
    exact ⟨rfl, rfl⟩
  · ((try simp -dsimp (disch := first | assumption | omega | (simp; done) | fail) [-getElem?_pos, f23, b23, b23_1, is_tt, is_ff]) <;> (repeat (with_reducible refine hold ?_)))
    exact ⟨rfl, rfl⟩
theorem eqq_same {b : Bool} : eqq (.bl b) (.bl b) = some true := by cases b <;> decide +kernel
theorem pow_le {s n : Nat} (s1 : 1 ≤ s) (n1 : 1 ≤ n) (n2 : n ≤ 2) (h : s + n ≤ 4) : (1 + s) ^ (s * n) ≤ 81 ∧ s * n ≤ 8 ∧ s ≤ 3 := by
  have h1 : n = 1 ∨ n = 2 := by omega
  have h2 : s = 1 ∨ s = 2 ∨ s = 3 := by omega
  rcases h1 with rfl | rfl <;> rcases h2 with rfl | rfl | rfl <;> first | omega | decide
theorem law_true {ns : List Int} (hl : ns.length ≤ 63) : WE (callF ft ct (k + 10) bs 41 [.p (scr ns)] []) NoX fun v _ => v = .p (.bl true) := by
  refine W_call f41 rfl rfl ?_
  obtain ⟨x0, x1, x2, eb0⟩ := law_bag (k := k + 8) (bs := [0] ++ bs) (st := []) (ns := ns) (q := 0) hl (by omega)
  simp at eb0
  ((try simp -dsimp (disch := first | assumption | omega | (simp; done) | fail) [-getElem?_pos, f41, b41, b41_1, eb0]) <;> (repeat (with_reducible refine hold ?_)))
  refine take_ok.w 2 rfl (B := 0) ⟨_, _, _, _, rfl, by omega, by omega⟩ (by omega) fun n0 o1 hn0 hb1 => ?_
  obtain ⟨n, hnI, hn⟩ : ∃ n : Nat, (1 : Int) + n0 = n ∧ n = 1 + n0 := ⟨1 + n0, by omega, rfl⟩
  ((try simp -dsimp (disch := first | assumption | omega | (simp; done) | fail) [-getElem?_pos, b41_2, hnI]) <;> (repeat (with_reducible refine hold ?_)))
  refine take_ok.w (4 - n) rfl hb1 (by omega) fun s0 o2 hs0 hb2 => ?_
  obtain ⟨s, hsI, hs⟩ : ∃ s : Nat, (1 : Int) + s0 = s ∧ s = 1 + s0 := ⟨1 + s0, by omega, rfl⟩
  obtain ⟨hpw, h8, hs3⟩ := pow_le (s := s) (n := n) (by omega) (by omega) (by omega) (by omega)
  ((try simp -dsimp (disch := first | assumption | omega | (simp; done) | fail) [-getElem?_pos, hsI]) <;> (repeat (with_reducible refine hold ?_)))
  refine WE_use (law_design (k := k + 6) (by rfl) hb2 (by omega) (s := s) (n := n) (a := 2) (by omega) (by omega) (by omega) (by omega) (by omega)) fun v s' => ?_
  rintro ⟨d, o3, D, hb3, rfl, rfl⟩
  obtain ⟨y0, y1, y2, eb1⟩ := law_bag (k := k + 8) (bs := [0] ++ bs) (st := [o3]) (ns := ns) (q := 1) hl (by omega)
  simp at eb1
  ((try simp -dsimp (disch := first | assumption | omega | (simp; done) | fail) [-getElem?_pos, b41_3, eb1, b41_4]) <;> (repeat (with_reducible refine hold ?_)))
  refine WE_use (law_log (k := k + 5) (by rfl) (B := 0) ⟨_, _, _, _, rfl, by omega, by omega⟩ (by omega) D (by omega) (by omega) (by omega)) fun v s' => ?_
  rintro ⟨log, m, s1, o4, L, hl1, hl3, Mm, hb4, rfl, rfl⟩
  obtain ⟨z0, z1, z2, eb2⟩ := law_bag (k := k + 8) (bs := [0] ++ bs) (st := [o3, o4]) (ns := ns) (q := 2) hl (by omega)
  simp at eb2
  have hlog : log.length ≤ 128 := by omega
  ((try simp -dsimp (disch := first | assumption | omega | (simp; done) | fail) [-getElem?_pos, b41_5, eb2, b41_6, wk2]) <;> (repeat (with_reducible refine hold ?_)))
  refine W_range (fun i σ s' => ∃ o', Bag (i * 100) o' ∧ s' = [o3, o4, o'] ∧ (∃ u4 u5 u6 u9 u10 u11 u12 u13 : Option A, σ = [some (.p (scr ns)), some (.ref 2), some (.p (.int n)), some (.p (E d)), u4, u5, u6, some (.p (E log)), some (.p (E m)), u9, u10, u11, u12, u13])) ?_ ?_ ?_
  · exact ⟨_, ⟨_, _, _, _, rfl, by omega, by omega⟩, rfl, ⟨_, _, _, _, _, _, _, _, rfl⟩⟩
  · rintro i σ s' hi ⟨o', hb', rfl, ⟨u4, u5, u6, u9, u10, u11, u12, u13, rfl⟩⟩
    ((try simp -dsimp (disch := first | assumption | omega | (simp; done) | fail) [-getElem?_pos, l41_2]) <;> (repeat (with_reducible refine hold ?_)))
    refine take_ok.w 5 (by rfl) hb' (by omega) fun m0 o5 hm0 hb5 => ?_
    obtain ⟨mn, hmn, hm1, hm2⟩ : ∃ mn : Int, (m0 : Int) - 1 = mn ∧ -1 ≤ mn ∧ mn ≤ 8 := ⟨_, rfl, by omega, by omega⟩
    ((try simp -dsimp (disch := first | assumption | omega | (simp; done) | fail) [-getElem?_pos, hmn]) <;> (repeat (with_reducible refine hold ?_)))
    refine WE_use (law_refusal (k := k + 5) (M := 81) (many := mn) (by rfl) hb5 (by omega) D (by omega) (by omega) L hlog hpw (by omega) hm1) fun v s' => ?_
    rintro ⟨paper, b, o6, hr, hb6, rfl, rfl, hpl⟩
    ((try simp -dsimp (disch := first | assumption | omega | (simp; done) | fail) [-getElem?_pos, law_is_refusal (k := k + 5) D (by omega) (by omega) L hpw (by omega) hm1 hr, eqq_same, wk3]) <;> (repeat (with_reducible refine hold ?_)))
    refine W_range (fun j σ s' => ∃ (paper : List (Nat × Nat)) (o' : MO), paper.length ≤ 81 + j ∧ Bag (i * 100 + 82 + j * 3) o' ∧ s' = [o3, o4, o'] ∧ (∃ u4 u5 u6 u10 u12 u13 : Option A, σ = [some (.p (scr ns)), some (.ref 2), some (.p (.int n)), some (.p (E d)), u4, u5, u6, some (.p (E log)), some (.p (E m)), some (.p (.int mn)), u10, some (.p (E paper)), u12, u13])) ?_ ?_ ?_
    · exact ⟨paper, o6, by omega, hb6.mono (by omega), rfl, ⟨_, _, _, _, _, _, rfl⟩⟩
    · rintro j σ s' hj ⟨paper, o', hpl, hb', rfl, ⟨u4, u5, u6, u10, u12, u13, rfl⟩⟩
      ((try simp -dsimp (disch := first | assumption | omega | (simp; done) | fail) [-getElem?_pos, l41_1, law_is_refusal (k := k + 5) (paper := paper) D (by omega) (by omega) L hpw (by omega) hm1 rfl, judge_unexplained (k := k + 2) (paper := paper) D (by omega) (by omega) (by omega) L hlog hpw (by omega) hm1 hm2 rfl, law_tells]) <;> (repeat (with_reducible refine hold ?_)))
      refine WE_use (law_spoilt (k := k + 7) (by rfl) hb' (by omega) (by omega)) fun v s' => ?_
      rintro ⟨p', o7, hb7, rfl, rfl, hp7⟩
      ((try simp -dsimp (disch := first | assumption | omega | (simp; done) | fail) [-getElem?_pos]) <;> (repeat (with_reducible refine hold ?_)))
      exact ⟨p', o7, by omega, hb7.mono (by omega), rfl, ⟨_, _, _, _, _, _, rfl⟩⟩
    · rintro σ s' ⟨paper, o', hpl, hb', rfl, ⟨u4, u5, u6, u10, u12, u13, rfl⟩⟩
      ((try simp -dsimp (disch := first | assumption | omega | (simp; done) | fail) [-getElem?_pos]) <;> (repeat (with_reducible refine hold ?_)))
      exact ⟨o', hb'.mono (by omega), rfl, ⟨_, _, _, _, _, _, _, _, rfl⟩⟩
  · rintro σ s' ⟨o', hb', rfl, ⟨u4, u5, u6, u9, u10, u11, u12, u13, rfl⟩⟩
    ((try simp -dsimp (disch := first | assumption | omega | (simp; done) | fail) [-getElem?_pos, b41_7]) <;> (repeat (with_reducible refine hold ?_)))
    refine WE_use (law_fault (k := k + 8) D Mm (by omega) (by omega) h8) fun v s' => ?_
    rintro ⟨fs, F, rfl, rfl⟩
    ((try simp -dsimp (disch := first | assumption | omega | (simp; done) | fail) [-getElem?_pos, b41_8]) <;> (repeat (with_reducible refine hold ?_)))
    refine WE_use (law_refusal (k := k + 5) (M := 81) (many := fs.length) (by rfl) hb' (by omega) D (by omega) (by omega) L hlog hpw (by omega) (by omega)) fun v s' => ?_
    rintro ⟨paper, b, o6, hr, hb6, rfl, rfl, hpl⟩
    ((try simp -dsimp (disch := first | assumption | omega | (simp; done) | fail) [-getElem?_pos, b41_9, law_explained (k := k + 4) D (by omega) (by omega) L hlog hpw (by omega) F.ok hr, b41_10, judge_slips (k := k + 2) D (by omega) (by omega) (by omega) L hlog hpw (by omega) F hr, law_tells, b41_11]) <;> (repeat (with_reducible refine hold ?_)))
    refine WE_use (law_refusal (k := k + 5) (M := 81) (many := -1) (by rfl) hb6 (by omega) D (by omega) (by omega) L hlog hpw (by omega) (by omega)) fun v s' => ?_
    rintro ⟨paper2, b2, o7, hr2, hb7, rfl, rfl, hpl2⟩
    have ju0 : ∀ s0 bs0, callF ft ct (k + 9) bs0 20 [.p (E d), .p (E log), .p (.int 0), .p (.tup [])] s0 = .ok (.p (.bl true)) s0 := fun s0 bs0 => judge_unexplained (k := k + 2) (many := 0) (paper := []) D (by omega) (by omega) (by omega) L hlog hpw (by omega) (by omega) (by omega) (by rw [ref_cut (by rfl), ref_nil]; rfl)
    ((try simp -dsimp (disch := first | assumption | omega | (simp; done) | fail) [-getElem?_pos, b41_12, judge_none (k := k + 2) D (by omega) (by omega) (by omega) L hlog hpw (by omega) hr2, law_tells, b41_13, ju0, is_tt, is_ff, judge_log (k := k + 2) D (by omega) (by omega) (by omega) L hlog hl1]) <;> (repeat (with_reducible refine hold ?_)))
    rfl
end K92

namespace K92
open Fc
def D : Dat := ⟨ft, fnm, ct, gl⟩
end K92

set_option Elab.async false
set_option linter.all false
set_option maxRecDepth 100000
set_option maxHeartbeats 0
namespace K92
open PySem PySem.Spec PyProof.Rows L2 Fc
def top (i : Nat) : Stmt := PySem.Challenge.pw_foldsclose_k92_unexplained_judged.main.body.getD i (.Pass ⟨0, 0, 0, 0⟩)
def dd (i : Nat) (x : Str) : He.DefD := ⟨(x, none), x, x, defArgs (top i), defBody (top i), defScope (top i), [], []⟩
def fn : List He.DefD := [dd 11 "is_number", dd 12 "is_between", dd 13 "check_number", dd 14 "are_letters", dd 15 "is_row", dd 16 "is_pair", dd 18 "check_machine", dd 19 "is_cell", dd 20 "with_cell", dd 22 "is_record", dd 23 "check_log", dd 26 "is_slip", dd 27 "has_order", dd 28 "is_fault", dd 29 "slip_all", dd 32 "step_of_error", dd 33 "first_error", dd 34 "used_cells", dd 35 "stages_of", dd 36 "is_refused", dd 37 "judge_unexplained", dd 38 "judge_explained", dd 40 "_law_is_int", dd 41 "_law_tells", dd 42 "_law_bag", dd 43 "_law_take", dd 44 "_law_machine", dd 45 "_law_ring", dd 46 "_law_design", dd 47 "_law_row", dd 48 "_law_lot", dd 49 "_law_run", dd 50 "_law_answers", dd 51 "_law_error", dd 52 "_law_below", dd 53 "_law_refusal", dd 54 "_law_is_refusal", dd 55 "_law_spoilt", dd 56 "_law_log", dd 57 "_law_fault", dd 58 "_law_explained", dd 59 "law"]
def loose0 : List Str := ["ALL", "ANSWERS", "BadLog", "BadMachine", "BadNumber", "FoldsError", "LETTERS", "LOT_SIZE", "ROW_LENGTH", "SLIPS", "STANDINGS", "_law_answers", "_law_bag", "_law_below", "_law_design", "_law_error", "_law_explained", "_law_fault", "_law_is_int", "_law_is_refusal"]
def loose1 : List Str := ["_law_log", "_law_lot", "_law_machine", "_law_refusal", "_law_ring", "_law_row", "_law_run", "_law_spoilt", "_law_take", "_law_tells", "are_letters", "check_log", "check_machine", "check_number", "first_error", "has_order", "is_between", "is_cell", "is_fault", "is_number"]
def loose2 : List Str := ["is_pair", "is_record", "is_refused", "is_row", "is_slip", "judge_explained", "judge_unexplained", "slip_all", "stages_of", "step_of_error", "used_cells", "with_cell"]
def loose : List Str := loose0 ++ loose1 ++ loose2
abbrev lw := PySem.Challenge.rw_foldsclose_k92_unexplained_judged
abbrev R : PySem.W.OpenRow := PySem.W.OpenLaw.row lw
def exB : PySem.W.Frag → Bool := allB D lw.prog "FoldsError" "self"
abbrev hk : PySem.W.Hook := hookC 5 fn exB
def ob (s : PySem.W.SharedT) : AlC := obsC 5 fn exB (HandSHeadRun.getT s)
theorem ob_eq (s : PySem.W.SharedT) : ob s = hk.obs s.abs := obsC_eq (HandSHeadRun.getT_eq s)
theorem run (w : World) : HandSHeadRun.RunEq R (PySem.W.view R.prog [59]) hk ob 6000 loose w := by
  intro os
  kernel_rfl
theorem defs_ok : defsB D fn D.ft Ns D.fnm = true := by kernel_rfl
end K92
open PySem PySem.W PySem.Calls PyProof.Rows
theorem K92.holds (pl : Fc.Plain K92.D 41 41) : K92.lw.Holds := by
  w_on; o_law
  refine HandSHeadRun.head_any (r := OpenLaw.row K92.lw) (q := view (OpenLaw.row K92.lw).prog [59]) (H := K92.hk) (ob := K92.ob) (M := 6000) (loose := K92.loose) (d := HandSHeadRun.topDef (OpenLaw.row K92.lw).prog 59) (kwd := []) K92.ob_eq
    (by kernel_rfl) (fun s => by kernel_rfl) K92.run (by kernel_rfl) (by kernel_rfl) (by kernel_rfl) (by rfl) (by first | assumption | decide +kernel) (by decide +kernel) ⟨rfl, rfl, rfl, rfl, rfl, by decide +kernel⟩ ?hw ?hc
  case hw => w_witness2
  case hc =>
    refine Fc.walk_C (k := 45) (x := "script") rfl (by kernel_rfl) ⟨rfl, by decide, by decide⟩ ?F
    intro w mg fa h Y G hmg0
    obtain ⟨K, KX, c, e⟩ := Y
    have hmg : mg ("law" : PySem.Str) = some (.ref fa) := by
      have e : (HandSHeadRun.topDef (OpenLaw.row K92.lw).prog 59).name = ("law" : PySem.Str) := by kernel_rfl
      rw [← e]
      exact hmg0
    obtain ⟨fd, sp, hb, hs, hF⟩ := Fc.law_end (w := w) (k := 40) (x := "script") (f := 41) (root := "FoldsError") (self := "self") K92.defs_ok KX G c e rfl rfl rfl hmg pl
    exact ⟨K, fd, sp, KX, hb, hs, hF⟩

open PySem PySem.W PyProof.Rows
set_option Elab.async false
set_option maxRecDepth 100000 in
set_option maxHeartbeats 8000000 in
theorem PySem.Challenge.cw_foldsclose_k92_unexplained_judged_holds : PySem.Challenge.rw_foldsclose_k92_unexplained_judged.Holds := by
  refine K92.holds fun ns hl => ?_
  obtain ⟨a, s, e, rfl⟩ := Fc.W_ex (K92.law_true (k := 31) (bs := []) hl)
  exact ⟨s, e⟩
