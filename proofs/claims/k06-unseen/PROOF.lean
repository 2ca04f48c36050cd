import PyProof.Rows.All
import Wide.All
import OpenK.AllK
import Wide.FinOn
import HandS.ForMost
import HandS.ForExc
import KE.DataCmp
import KE.SortData
import KE.DataIsa
import KE.DataMinMax
import HandS.TupSets
import HandS.Lambda
import HandS.TupAny
import HandS.TupMul
import PyProof.Rows.RuleB_bool
import KE.DataEq
import HandS.Wide
import HandS.CallSlots
import HandS.Style
import HandS.TupLe
import HandS.IsInst
import PyProof.Rows.SumAny
import PyProof.WalksMore
import PyProof.SumWalkG
import HandS.SortKw
import KE.DataFind
import HandS.Strs
import HandS.Walk
import HandS.Zip
import KE.GoesMore
import HandS.WordsExc
import HandS.Head0
import HandS.Head1
import HandS.Head2
import HandS.HeadHook1
import HandS.HeadHook2
import HandS.HeadHook3
import HandS.HeadHook4
import HandS.HeadEnd
import HandS.Ends
import PySem.Challenge.RW_everynoise_k06_whole_unseen
set_option linter.all false
set_option Elab.async false
/-! MP1: a small Python over plain data: values, slots, syntax, interpreter. -/
namespace MP
open PySem

/-- data: no heap -/
inductive Dv where
  | non | bl (b : Bool) | int (i : Int) | str (x : Str) | tup (xs : List Dv) | lv (xs : List Dv)
  | fn (f : Nat) | clo (c : Nat) (vs : List Dv) | exc (c : Nat) | scr (ns : List Int)
  deriving Inhabited

mutual
def Dv.beq : Dv → Dv → Bool
  | .non, .non => true
  | .bl a, .bl b => a == b
  | .int a, .int b => decide (a = b)
  | .str a, .str b => decide (a = b)
  | .tup a, .tup b => beqs a b
  | .lv a, .lv b => beqs a b
  | .fn a, .fn b => Nat.beq a b
  | .clo a x, .clo b y => Nat.beq a b && beqs x y
  | .exc a, .exc b => Nat.beq a b
  | .scr a, .scr b => decide (a = b)
  | _, _ => false
def beqs : List Dv → List Dv → Bool
  | [], [] => true
  | a :: x, b :: y => Dv.beq a b && beqs x y
  | _, _ => false
end
mutual
theorem Dv.beq_eq : ∀ (a b : Dv), Dv.beq a b = true → a = b
  | .non, b, h => by cases b <;> simp_all [Dv.beq]
  | .bl x, b, h => by cases b <;> simp_all [Dv.beq]
  | .int x, b, h => by cases b <;> simp_all [Dv.beq]
  | .str x, b, h => by cases b <;> simp_all [Dv.beq]
  | .fn x, b, h => by cases b <;> simp_all [Dv.beq]
  | .exc x, b, h => by cases b <;> simp_all [Dv.beq]
  | .scr x, b, h => by cases b <;> simp_all [Dv.beq]
  | .tup x, b, h => by cases b <;> simp_all [Dv.beq]; exact beqs_eq x _ h
  | .lv x, b, h => by cases b <;> simp_all [Dv.beq]; exact beqs_eq x _ h
  | .clo x y, b, h => by cases b <;> simp_all [Dv.beq]; exact beqs_eq y _ h.2
theorem beqs_eq : ∀ (a b : List Dv), beqs a b = true → a = b
  | [], [], _ => rfl
  | [], _ :: _, h => by simp [beqs] at h
  | _ :: _, [], h => by simp [beqs] at h
  | a :: x, b :: y, h => by
    simp only [beqs, Bool.and_eq_true] at h
    rw [Dv.beq_eq a b h.1, beqs_eq x y h.2]
end
mutual
theorem Dv.beq_self : ∀ (a : Dv), Dv.beq a a = true
  | .non => rfl
  | .bl x => by simp [Dv.beq]
  | .int x => by simp [Dv.beq]
  | .str x => by simp [Dv.beq]
  | .fn x => by simp [Dv.beq]
  | .exc x => by simp [Dv.beq]
  | .scr x => by simp [Dv.beq]
  | .tup x => by simp only [Dv.beq]; exact beqs_self x
  | .lv x => by simp only [Dv.beq]; exact beqs_self x
  | .clo x y => by simp only [Dv.beq, beqs_self y, Nat.beq_refl, Bool.and_self]
theorem beqs_self : ∀ (a : List Dv), beqs a a = true
  | [] => rfl
  | a :: x => by simp only [beqs, Dv.beq_self a, beqs_self x, Bool.and_self]
end

/-- what an expression hands back: data, a new list that nobody else holds, or the list that a slot owns -/
inductive T where
  | d (x : Dv) | fr (xs : List Dv) | frd | rf (i : Nat)
  deriving Inhabited
/-- a slot: nothing, data, a list (a dict) that this slot alone holds -/
inductive Sl where
  | none | val (x : Dv) | own (xs : List Dv) | ownd (kvs : List (Dv × Dv))
  deriving Inhabited
abbrev Ro := List Sl
inductive Re (α : Type) where
  | ok (a : α) (r : Ro) | exc (c : Nat) (r : Ro) | bad
@[reducible] def Re.bind {α β : Type} (x : Re α) (f : α → Ro → Re β) : Re β := match x with
  | .ok a r => f a r
  | .exc c r => .exc c r
  | .bad => .bad

mutual
def toPy : Dv → Option PyData
  | .non => some .none
  | .bl b => some (.bool b)
  | .int i => some (.int i)
  | .str x => some (.str x)
  | .tup xs => (toPys xs).map .tuple
  | .lv xs => (toPys xs).map .list
  | _ => Option.none
def toPys : List Dv → Option (List PyData)
  | [] => some []
  | x :: xs => match toPy x, toPys xs with
    | some y, some ys => some (y :: ys)
    | _, _ => Option.none
end

inductive TyK where
  | int | bool | tuple | list | str
inductive Bop where
  | add | sub | mul | fdiv | mod | pow
inductive Cop where
  | eq | ne | lt | le | gt | ge | inn | nin
inductive Bi where
  | len | abs | int | isTL | max2 | min2 | maxL | sumL | allL | anyS | tupleOf | listOf | isi (k : TyK) | sortedL (rev : Bool) | lenSet | sortedSet
inductive Tg where
  | one (i : Nat) | tup (is : List Nat)

mutual
inductive E where
  | non | bl (b : Bool) | int (i : Int) | str (x : Str)
  | var (i : Nat)
  | glb (v : Dv) (g : Nat)
  | tup (es : Es) | disp (es : Es)
  | bin (op : Bop) (a b : E)
  | neg (a : E)
  | cmp (op : Cop) (a b : E) | chain (op op' : Cop) (a b c : E)
  | and (a b : E) | or (a b : E) | not (a : E)
  | ite (c a b : E)
  | isN (a : E) (neg : Bool)
  | isB (a : E) (b neg : Bool)
  | idx (a b : E)
  | slc (a : E) (lo hi : Opt) | rev (a : E)
  | bi (b : Bi) (es : Es)
  | call (f : Nat) (es : Es) (ds : List Dv)
  | callv (i : Nat) (es : Es)
  | lam (c : Nat) (fr : List Nat)
  | isx (i c : Nat)
  | mindex (a b : E) | mcount (a b : E)
  | mpop (i : Nat) | mpopi (i : Nat) (a : E)
  | comp (elt : E) (tg : Tg) (it : It) (c : Opt) (own : List Nat)
inductive Opt where
  | no | yes (e : E)
inductive Es where
  | nil | cons (e : E) (r : Es) | star (e : E) (r : Es) | io (i : Nat) (r : Es)
inductive It where
  | seq (e : E) | rng1 (a : E) | rng2 (a b : E) | rng3 (a b c : E) | enum (a : E) | zip (a b : E) | rvs (a : E)
end

inductive St where
  | asg (i : Nat) (e : E)
  | ptup (is : List Nat) (es : Es)
  | atup (is : List Nat) (e : E)
  | aug (i : Nat) (op : Bop) (e : E)
  | setix (i : Nat) (ix e : E)
  | augix (i : Nat) (ix : E) (op : Bop) (e : E)
  | app (i : Nat) (e : E) | ext (i : Nat) (e : E) | ins (i : Nat) (a e : E)
  | expr (e : E)
  | ret (e : E) | retN
  | ifs (c : E) (a b : St)
  | for_ (tg : Tg) (it : It) (b : St)
  | while_ (c : E) (b : St)
  | raise (c : Nat)
  | try1 (b : St) (c : Nat) (x : Nat) (h : St)
  | try2 (b : St) (c : Nat) (x : Nat) (h : St) (c' : Nat) (x' : Nat) (h' : St)
  | pass
  | seq (a b : St)

/-! ### helpers -/
def line : Nat := 16777216
def seqT (r : Ro) : T → Option (List Dv)
  | .d (.scr ns) => some (ns.map .int)
  | .d (.tup xs) => some xs
  | .d (.lv xs) => some xs
  | .fr xs => some xs
  | .rf i => match r[i]? with
    | some (.own xs) => some xs
    | _ => none
  | _ => none
/-- a list alone -/
def lstT (r : Ro) : T → Option (List Dv)
  | .d (.scr ns) => some (ns.map .int)
  | .d (.lv xs) => some xs
  | .fr xs => some xs
  | .rf i => match r[i]? with
    | some (.own xs) => some xs
    | _ => none
  | _ => none
/-- as data, for reading -/
def viewT (r : Ro) : T → Option Dv
  | .d x => some x
  | .fr xs => some (.lv xs)
  | .rf i => match r[i]? with
    | some (.own xs) => some (.lv xs)
    | _ => none
  | .frd => none
/-- as data, for keeping: an owned list is owned no more -/
def mat (r : Ro) : T → Option (Dv × Ro)
  | .d x => some (x, r)
  | .fr xs => some (.lv xs, r)
  | .rf i => match r[i]? with
    | some (.own xs) => some (.lv xs, r.set i (.val (.lv xs)))
    | _ => none
  | .frd => none

def okMul (i j : Int) : Bool := decide (i.natAbs.log2 + j.natAbs.log2 < 1000000)
def okDiv (j : Int) : Bool := decide (j ≠ 0) && decide (j.natAbs.log2 < 9000)
def binI : Bop → Int → Int → Option Int
  | .add, i, j => some (i + j)
  | .sub, i, j => some (i - j)
  | .mul, i, j => if okMul i j then some (i * j) else none
  | .fdiv, i, j => if okDiv j then some (i.fdiv j) else none
  | .mod, i, j => if j ≠ 0 then some (i.fmod j) else none
  | .pow, i, j => if 0 ≤ j ∧ j ≤ 1000000 ∧ i.natAbs < 2 ^ 64 then some (i ^ j.toNat) else none
def rep (xs : List Dv) : Nat → List Dv
  | 0 => []
  | n + 1 => xs ++ rep xs n
def binT (r : Ro) (op : Bop) (a b : T) : Option T :=
  match viewT r a, viewT r b with
  | some (.int i), some (.int j) => (binI op i j).map fun k => .d (.int k)
  | some (.bl i), some (.bl j) => match op with
    | .sub => some (.d (.int ((if i then 1 else 0) - (if j then 1 else 0))))
    | _ => none
  | some (.tup x), some (.tup y) => match op with
    | .add => if x.length + y.length ≤ line then some (.d (.tup (x ++ y))) else none
    | _ => none
  | some (.lv x), some (.lv y) => match op with
    | .add => if x.length + y.length ≤ line then some (.fr (x ++ y)) else none
    | _ => none
  | some (.tup x), some (.int j) => match op with
    | .mul => if -1000000 ≤ j ∧ j ≤ 1000 ∧ x.length ≤ 1000 then some (.d (.tup (rep x j.toNat))) else none
    | _ => none
  | some (.lv x), some (.int j) => match op with
    | .mul => if -1000000 ≤ j ∧ j ≤ 1000000 ∧ x.length * j.toNat ≤ line then some (.fr (rep x j.toNat)) else none
    | _ => none
  | _, _ => none

def pyEq (x y : PyData) : Option Bool := if x.depth ≤ 60 ∧ y.depth ≤ 60 then some (PyData.eqv x y) else none
def isNonP : PyData → Bool
  | .none => true
  | _ => false
def pyLt (x y : PyData) : Option Bool := if x.depth ≤ 60 ∧ y.depth ≤ 60 ∧ PySem.W.alike x y = true ∧ isNonP x = false then some (PySem.W.dataLt x y) else none
def cmpI : Cop → Int → Int → Option Bool
  | .eq, i, j => some (decide (i = j))
  | .ne, i, j => some (!decide (i = j))
  | .lt, i, j => some (decide (i < j))
  | .le, i, j => some (decide (i ≤ j))
  | .gt, i, j => some (decide (j < i))
  | .ge, i, j => some (decide (j ≤ i))
  | _, _, _ => none
def isSeqP : PyData → Option (List PyData)
  | .list xs => some xs
  | .tuple xs => some xs
  | _ => none
def cmpP (op : Cop) (x y : PyData) : Option Bool := match op with
  | .eq => pyEq x y
  | .ne => (pyEq x y).map not
  | .lt => pyLt x y
  | .gt => pyLt y x
  | .inn => match isSeqP y with
    | some ys => if x.depth ≤ 60 ∧ y.depth ≤ 60 then some (ys.any fun z => PyData.eqv z x) else none
    | none => none
  | .nin => match isSeqP y with
    | some ys => if x.depth ≤ 60 ∧ y.depth ≤ 60 then some (!ys.any fun z => PyData.eqv z x) else none
    | none => none
  | _ => none
def cmpT (r : Ro) (op : Cop) (a b : T) : Option Bool :=
  match viewT r a, viewT r b with
  | some (.int i), some (.int j) => cmpI op i j
  | some x, some y => match toPy x, toPy y with
    | some p, some q => cmpP op p q
    | _, _ => none
  | _, _ => none

abbrev ixN := L2.ixN
def getI (xs : List Dv) (i : Int) : Option Dv := (ixN xs.length i).bind fun k => xs[k]?
def clip (n d : Nat) : Option Int → Nat
  | none => d
  | some i => if i < 0 then (i + n).toNat else min i.toNat n
def cut (xs : List Dv) (lo hi : Option Int) : List Dv := (xs.drop (clip xs.length 0 lo)).take (clip xs.length xs.length hi - clip xs.length 0 lo)
def allB : List Dv → Option Bool
  | [] => some true
  | .bl b :: r => (allB r).map (b && ·)
  | _ => none
def anyI : List Dv → Option Bool
  | [] => some false
  | .int i :: r => (anyI r).map (decide (i ≠ 0) || ·)
  | _ => none
def sumI : List Dv → Option Int
  | [] => some 0
  | .int i :: r => (sumI r).map (i + ·)
  | _ => none
def intsOf : List Dv → Option (List Int)
  | [] => some []
  | .int i :: r => (intsOf r).map (i :: ·)
  | _ => none
def lexD : List Dv → List Dv → Bool
  | [], _ :: _ => true
  | .int a :: x, .int b :: y => decide (a < b) || (decide (a = b) && lexD x y)
  | _, _ => false
def dLt : Dv → Dv → Bool
  | .int a, .int b => decide (a < b)
  | .tup a, .tup b => lexD a b
  | _, _ => false
def bef (up : Bool) (x y : Dv) : Bool := match up with
  | true => dLt x y
  | false => dLt y x
def insD (up : Bool) (x : Dv) : List Dv → List Dv
  | [] => [x]
  | y :: r => if bef up x y then x :: y :: r else y :: insD up x r
/-- stable: later equal items stand behind -/
def sortD (up : Bool) (xs : List Dv) : List Dv := xs.foldl (fun acc x => insD up x acc) []
def isTy : TyK → Dv → Option Bool
  | .int, .int _ => some true
  | .int, .bl _ => some true
  | .bool, .bl _ => some true
  | .tuple, .tup _ => some true
  | .list, .lv _ => some true
  | .str, .str _ => some true
  | _, .non => some false
  | _, .int _ => some false
  | _, .bl _ => some false
  | _, .str _ => some false
  | _, .tup _ => some false
  | _, .lv _ => some false
  | _, _ => none
def distinct : List Dv → List Dv
  | [] => []
  | x :: r => if r.any (Dv.beq x) then distinct r else x :: distinct r
mutual
/-- tuples of numbers: what sets are asked of -/
def flatT : Dv → Bool
  | .tup (.int _ :: xs) => flatI xs
  | _ => false
def flatI : List Dv → Bool
  | [] => true
  | .int _ :: r => flatI r
  | _ => false
end
def isTLf (r : Ro) (t : T) : Option Bool := match viewT r t with
  | some (.tup _) => some true
  | some (.lv _) => some true
  | some (.int _) => some false
  | some (.bl _) => some false
  | some (.str _) => some false
  | some .non => some false
  | _ => none
def biT (r : Ro) : Bi → List T → Option T
  | .len, [t] => (seqT r t).map fun xs => .d (.int xs.length)
  | .abs, [.d (.int i)] => some (.d (.int (if i < 0 then -i else i)))
  | .int, [.d (.int i)] => some (.d (.int i))
  | .max2, [.d (.int i), .d (.int j)] => some (.d (.int (if j > i then j else i)))
  | .min2, [.d (.int i), .d (.int j)] => some (.d (.int (if j < i then j else i)))
  | .maxL, [t] => match lstT r t with
    | some xs => match intsOf xs with
      | some (i :: is) => some (.d (.int (is.foldl max i)))
      | _ => none
    | none => none
  | .sumL, [t] => match seqT r t with
    | some xs => (sumI xs).map fun k => .d (.int k)
    | none => none
  | .allL, [t] => match lstT r t with
    | some xs => (allB xs).map fun k => .d (.bl k)
    | none => none
  | .anyS, [.d (.tup xs)] => (anyI xs).map fun k => .d (.bl k)
  | .tupleOf, [t] => (seqT r t).map fun xs => .d (.tup xs)
  | .listOf, [t] => (seqT r t).map fun xs => .fr xs
  | .isi k, [t] => match viewT r t with
    | some x => (isTy k x).map fun b => .d (.bl b)
    | none => none
  | .isTL, [t] => (isTLf r t).map fun b => .d (.bl b)
  | .sortedL up, [t] => match lstT r t with
    | some xs => if xs.all flatT || (intsOf xs).isSome then some (.fr (sortD up xs)) else none
    | none => none
  | .lenSet, [t] => match lstT r t with
    | some xs => if xs.all flatT && decide (xs.length < 64) then some (.d (.int (distinct xs).length)) else none
    | none => none
  | .sortedSet, [t] => match lstT r t with
    | some xs => if (intsOf xs).isSome then some (.fr (sortD true (distinct xs))) else none
    | none => none
  | _, _ => none

def asgs : List Nat → List Dv → Ro → Option Ro
  | [], [], r => some r
  | i :: is, x :: xs, r => asgs is xs (r.set i (.val x))
  | _, _, _ => none
def asgT (t : Tg) (x : Dv) (r : Ro) : Option Ro := match t with
  | .one i => some (r.set i (.val x))
  | .tup is => match x with
    | .tup xs => asgs is xs r
    | _ => none
def wipe : List Nat → Ro → Ro
  | [], r => r
  | i :: is, r => (wipe is r).set i .none
def keepV (r0 : Ro) (i : Nat) : Sl := match r0[i]? with
  | some (.val x) => .val x
  | _ => .none
def restore (r0 : Ro) : List Nat → Ro → Ro
  | [], r => r
  | i :: is, r => (restore r0 is r).set i (keepV r0 i)
/-- the items of a loop, and the slot that must stay as it is meanwhile -/
structure Src where
  items : List Dv
  guard : Option (Nat × List Dv)
def gOk (g : Option (Nat × List Dv)) (r : Ro) : Bool := match g with
  | none => true
  | some (i, xs) => match r[i]? with
    | some (.own ys) => beqs ys xs
    | _ => false
def srcT (r : Ro) (t : T) : Option Src := match t with
  | .rf i => match r[i]? with
    | some (.own xs) => some ⟨xs, some (i, xs)⟩
    | _ => none
  | _ => (seqT r t).map fun xs => ⟨xs, none⟩
def rngUp (lo : Int) : Nat → List Dv
  | 0 => []
  | n + 1 => .int lo :: rngUp (lo + 1) n
def rngDown (lo : Int) : Nat → List Dv
  | 0 => []
  | n + 1 => .int lo :: rngDown (lo - 1) n
def inR (i : Int) : Bool := decide (-1000000000 < i) && decide (i < 1000000000)
def enumD (k : Int) : List Dv → List Dv
  | [] => []
  | x :: r => .tup [.int k, x] :: enumD (k + 1) r
def zipD : List Dv → List Dv → List Dv
  | x :: xs, y :: ys => .tup [x, y] :: zipD xs ys
  | _, _ => []
def optI : Option T → Option (Option Int)
  | none => some none
  | some (.d (.int i)) => some (some i)
  | _ => none

def compL (tg : Tg) (own : List Nat) (g : Option (Nat × List Dv)) (cond : Ro → Re Bool) (elt : Ro → Re T) : List Dv → Ro → Re (List Dv)
  | [], r => if gOk g (wipe own r) then .ok [] r else .bad
  | x :: xs, r => if gOk g (wipe own r) then match asgT tg x (wipe own r) with
      | none => .bad
      | some r1 => match cond r1 with
        | .ok true r2 => match elt r2 with
          | .ok t r3 => match mat r3 t with
            | some (d, r4) => match compL tg own g cond elt xs r4 with
              | .ok ds r5 => .ok (d :: ds) r5
              | _ => .bad
            | none => .bad
          | _ => .bad
        | .ok false r2 => compL tg own g cond elt xs r2
        | _ => .bad
    else .bad

/-- a call's end: what is handed back, what the borrowed lists are then -/
inductive FR where
  | ok (t : T) (outs : List Sl) | exc (c : Nat) (outs : List Sl) | bad
abbrev CallF := Nat → List Sl → FR
/-- an argument: data, or a slot whose list is lent -/
inductive Ar where
  | v (x : Dv) | io (i : Nat)
def lend (r : Ro) : List Ar → Option (List Sl)
  | [] => some []
  | .v x :: as => (lend r as).map (.val x :: ·)
  | .io i :: as => match r[i]? with
    | some (.own xs) => (lend r as).map (.own xs :: ·)
    | some (.ownd kvs) => (lend r as).map (.ownd kvs :: ·)
    | _ => none
def lentIx : List Ar → List Nat
  | [] => []
  | .v _ :: as => lentIx as
  | .io i :: as => i :: lentIx as
def unlend : List Nat → List Sl → Ro → Option Ro
  | [], [], r => some r
  | i :: is, .own xs :: ss, r => unlend is ss (r.set i (.own xs))
  | i :: is, .ownd kvs :: ss, r => unlend is ss (r.set i (.ownd kvs))
  | _, _, _ => none
def callT (x : FR) (as : List Ar) (r : Ro) : Re T := match x with
  | .ok t outs => match unlend (lentIx as) outs r with
    | some r1 => match t with
      | .d _ => .ok t r1
      | .fr _ => .ok t r1
      | _ => .bad
    | none => .bad
  | .exc c outs => match unlend (lentIx as) outs r with
    | some r1 => .exc c r1
    | none => .bad
  | .bad => .bad
end MP
set_option linter.all false
set_option Elab.async false
/-! MP2: the interpreter. -/
namespace MP
open PySem

def isSub (a c : Nat) : Bool := Nat.beq a c || Nat.beq c 0
/-- a tuple, or a list -/
def isTupT (r : Ro) (t : T) : Option Bool := match viewT r t with
  | some (.tup _) => some true
  | some (.lv _) => some false
  | _ => none
def plc : List PyData → PyData → Option Nat
  | [], _ => none
  | y :: r, d => if PyData.eqv y d then some 0 else (plc r d).map (· + 1)
def itemsT (k : Bool) (r : Ro) (t : T) (y : Dv) : Option (List PyData × PyData) := match viewT r t, toPy y with
  | some (.tup xs), some p => if k then match toPys xs with
      | some ps => if PyData.depthAll ps ≤ 60 ∧ p.depth ≤ 60 ∧ xs.length ≤ line then some (ps, p) else none
      | none => none
    else none
  | some (.lv xs), some p => if k then none else match toPys xs with
      | some ps => if PyData.depthAll ps ≤ 60 ∧ p.depth ≤ 60 ∧ xs.length ≤ line then some (ps, p) else none
      | none => none
  | _, _ => none
def idxT (k : Bool) (r : Ro) (t : T) (y : Dv) : Option Nat := match itemsT k r t y with
  | some (ps, p) => plc ps p
  | none => none
def cntT (k : Bool) (r : Ro) (t : T) (y : Dv) : Option Nat := match itemsT k r t y with
  | some (ps, p) => some (ps.countP fun z => PyData.eqv z p)
  | none => none
def capt (r : Ro) : List Nat → Option (List Dv)
  | [] => some []
  | i :: is => match r[i]? with
    | some (.val x) => (capt r is).map (x :: ·)
    | _ => none
def vals : List Ar → Option (List Sl)
  | [] => some []
  | .v x :: r => (vals r).map (.val x :: ·)
  | _ => none
def insAt (xs : List Dv) (i : Int) (x : Dv) : List Dv := xs.take (clip xs.length 0 (some i)) ++ x :: xs.drop (clip xs.length 0 (some i))

/-! ### what an expression's parts make of it -/
abbrev Fe := Ro → Re T
def Re.map {α β : Type} (f : α → β) : Re α → Re β
  | .ok a r => .ok (f a) r
  | .exc c r => .exc c r
  | .bad => .bad
def ofB (x : Re Bool) : Re T := x.map fun k => .d (.bl k)
def asB (x : Re T) : Re Bool := match x with
  | .ok (.d (.bl k)) r => .ok k r
  | .exc c r => .exc c r
  | _ => .bad
def andB (ga gb : Ro → Re Bool) : Ro → Re Bool := fun r => (ga r).bind fun k r1 => if k then gb r1 else .ok false r1
def orB (ga gb : Ro → Re Bool) : Ro → Re Bool := fun r => (ga r).bind fun k r1 => if k then .ok true r1 else gb r1
def notB (ga : Ro → Re Bool) : Ro → Re Bool := fun r => (ga r).bind fun k r1 => .ok (!k) r1
def constF (x : Dv) : Fe := fun r => .ok (.d x) r
def varF (i : Nat) : Fe := fun r => match r[i]? with
  | some (.val x) => .ok (.d x) r
  | some (.own _) => .ok (.rf i) r
  | _ => .bad
def tupF (fs : Ro → Re (List Dv)) : Fe := fun r => match fs r with
  | .ok xs r1 => if xs.length ≤ line then .ok (.d (.tup xs)) r1 else .bad
  | .exc c r1 => .exc c r1
  | .bad => .bad
def dispF (fs : Ro → Re (List Dv)) : Fe := fun r => match fs r with
  | .ok xs r1 => if xs.length ≤ line then .ok (.fr xs) r1 else .bad
  | .exc c r1 => .exc c r1
  | .bad => .bad
def binF (op : Bop) (fa fb : Fe) : Fe := fun r => (fa r).bind fun x r1 => (fb r1).bind fun y r2 => match binT r2 op x y with
  | some t => .ok t r2
  | none => .bad
def negF (fa : Fe) : Fe := fun r => (fa r).bind fun x r1 => match x with
  | .d (.int i) => .ok (.d (.int (-i))) r1
  | _ => .bad
def cmpF (op : Cop) (fa fb : Fe) : Fe := fun r => (fa r).bind fun x r1 => (fb r1).bind fun y r2 => match cmpT r2 op x y with
  | some k => .ok (.d (.bl k)) r2
  | none => .bad
/-- three in a row -/
def chainF (op op' : Cop) (fa fb fc : Fe) : Fe := fun r => (fa r).bind fun x r1 => (fb r1).bind fun y r2 => match cmpT r2 op x y with
  | some true => (fc r2).bind fun z r3 => match cmpT r3 op' y z with
    | some k => .ok (.d (.bl k)) r3
    | none => .bad
  | some false => .ok (.d (.bl false)) r2
  | none => .bad
def iteF (ga : Ro → Re Bool) (fa fb : Fe) : Fe := fun r => (ga r).bind fun k r1 => if k then fa r1 else fb r1
def isNT (neg : Bool) : T → Option Bool
  | .d .non => some (!neg)
  | .d (.clo ..) => none
  | .d (.exc _) => none
  | .d (.fn _) => none
  | .frd => none
  | _ => some neg
def isNF (neg : Bool) (fa : Fe) : Fe := fun r => (fa r).bind fun t r1 => match isNT neg t, viewT r1 t with
  | some k, some _ => .ok (.d (.bl k)) r1
  | _, _ => .bad
def isBF (b neg : Bool) (fa : Fe) : Fe := fun r => (fa r).bind fun t r1 => match t with
  | .d (.bl k) => .ok (.d (.bl (if neg then !decide (k = b) else decide (k = b)))) r1
  | _ => .bad
def subF (fa fb : Fe) : Fe := fun r => (fa r).bind fun x r1 => (fb r1).bind fun y r2 => match y with
  | .d (.int i) => match seqT r2 x with
    | some xs => match getI xs i with
      | some v => .ok (.d v) r2
      | none => .bad
    | none => .bad
  | _ => .bad
def sliT (r : Ro) (t : T) (l h : Option Int) : Option T := match viewT r t with
  | some (.tup xs) => some (.d (.tup (cut xs l h)))
  | some (.lv xs) => some (.fr (cut xs l h))
  | _ => none
def somO (fa : Fe) : Ro → Re (Option Int) := fun r => (fa r).bind fun t r1 => match t with
  | .d (.int i) => .ok (some i) r1
  | _ => .bad
def slcF (fa : Fe) (fl fh : Ro → Re (Option Int)) : Fe := fun r => (fa r).bind fun x r1 => (fl r1).bind fun l r2 => (fh r2).bind fun u r3 => match sliT r3 x l u with
  | some t => .ok t r3
  | none => .bad
def revF (fa : Fe) : Fe := fun r => (fa r).bind fun x r1 => match x with
  | .d (.tup xs) => .ok (.d (.tup xs.reverse)) r1
  | _ => .bad
def biF (b : Bi) (fs : Ro → Re (List T)) : Fe := fun r => (fs r).bind fun ts r1 => match biT r1 b ts with
  | some t => .ok t r1
  | none => .bad
def nodupN : List Nat → Bool
  | [] => true
  | i :: is => !(is.any fun j => Nat.beq i j) && nodupN is
def callF (F : CallF) (f : Nat) (ds : List Dv) (fs : Ro → Re (List Ar)) : Fe := fun r => (fs r).bind fun as r1 => match lend r1 as with
  | some ss => if nodupN (lentIx as) then callT (F f (ss ++ ds.map .val)) as r1 else .bad
  | none => .bad
def callvF (F : CallF) (i : Nat) (fs : Ro → Re (List Ar)) : Fe := fun r => match r[i]? with
  | some (.val (.fn f)) => (fs r).bind fun as r1 => match vals as with
    | some ss => callT (F f ss) as r1
    | none => .bad
  | some (.val (.clo c vs)) => (fs r).bind fun as r1 => match vals as with
    | some ss => callT (F c (vs.map .val ++ ss)) as r1
    | none => .bad
  | _ => .bad
def lamF (c : Nat) (fr : List Nat) : Fe := fun r => match capt r fr with
  | some vs => .ok (.d (.clo c vs)) r
  | none => .bad
def isxF (i c : Nat) : Fe := fun r => match r[i]? with
  | some (.val (.exc a)) => .ok (.d (.bl (isSub a c))) r
  | _ => .bad
def idxF (fa fb : Fe) : Fe := fun r => (fa r).bind fun x r1 => match isTupT r1 x with
  | some k => (fb r1).bind fun y r2 => match y with
    | .d y => match idxT k r2 x y with
      | some j => .ok (.d (.int j)) r2
      | none => .bad
    | _ => .bad
  | none => .bad
def cntF (fa fb : Fe) : Fe := fun r => (fa r).bind fun x r1 => match isTupT r1 x with
  | some k => (fb r1).bind fun y r2 => match y with
    | .d y => match cntT k r2 x y with
      | some j => .ok (.d (.int j)) r2
      | none => .bad
    | _ => .bad
  | none => .bad
def popF (i : Nat) : Fe := fun r => match r[i]? with
  | some (.own xs) => match xs.getLast? with
    | some x => .ok (.d x) (r.set i (.own xs.dropLast))
    | none => .bad
  | _ => .bad
def popiF (i : Nat) (fa : Fe) : Fe := fun r => match r[i]? with
  | some (.own _) => (fa r).bind fun t r1 => match t with
    | .d (.int k) => match r1[i]? with
      | some (.own xs) => match ixN xs.length k with
        | some j => match xs[j]? with
          | some x => .ok (.d x) (r1.set i (.own (xs.eraseIdx j)))
          | none => .bad
        | none => .bad
      | _ => .bad
    | _ => .bad
  | _ => .bad
def condF (g : Option (Ro → Re Bool)) : Ro → Re Bool := match g with
  | none => fun r => .ok true r
  | some g => g
def compF (fe : Fe) (tg : Tg) (fi : Ro → Re Src) (g : Option (Ro → Re Bool)) (own : List Nat) : Fe := fun r => match fi r with
  | .ok src r1 => if src.items.length ≤ line then
      match compL tg own src.guard (condF g) fe src.items r1 with
      | .ok ds r2 => .ok (.fr ds) (restore r1 own r2)
      | _ => .bad
    else .bad
  | .exc c r1 => .exc c r1
  | .bad => .bad
def consK (fa : Fe) (fs : Ro → Re (List Dv)) : Ro → Re (List Dv) := fun r => (fa r).bind fun t r1 => match mat r1 t with
  | some (x, r2) => (fs r2).bind fun xs r3 => .ok (x :: xs) r3
  | none => .bad
def starK (fa : Fe) (fs : Ro → Re (List Dv)) : Ro → Re (List Dv) := fun r => (fa r).bind fun t r1 => match t with
  | .d (.tup ys) => (fs r1).bind fun xs r3 => .ok (ys ++ xs) r3
  | _ => .bad
def consT (fa : Fe) (fs : Ro → Re (List T)) : Ro → Re (List T) := fun r => (fa r).bind fun t r1 => (fs r1).bind fun ts r2 => .ok (t :: ts) r2
def consA (fa : Fe) (fs : Ro → Re (List Ar)) : Ro → Re (List Ar) := fun r => (fa r).bind fun t r1 => match mat r1 t with
  | some (x, r2) => (fs r2).bind fun xs r3 => .ok (.v x :: xs) r3
  | none => .bad
def ioA (i : Nat) (fs : Ro → Re (List Ar)) : Ro → Re (List Ar) := fun r => match r[i]? with
  | some (.own _) => (fs r).bind fun xs r3 => .ok (.io i :: xs) r3
  | some (.ownd _) => (fs r).bind fun xs r3 => .ok (.io i :: xs) r3
  | _ => .bad
def seqI (fa : Fe) : Ro → Re Src := fun r => (fa r).bind fun t r1 => match srcT r1 t with
  | some s => .ok s r1
  | none => .bad
def rng1I (fa : Fe) : Ro → Re Src := fun r => (fa r).bind fun t r1 => match t with
  | .d (.int n) => if inR n then .ok ⟨rngUp 0 n.toNat, none⟩ r1 else .bad
  | _ => .bad
def rng2I (fa fb : Fe) : Ro → Re Src := fun r => (fa r).bind fun t r1 => match t with
  | .d (.int m) => (fb r1).bind fun u r2 => match u with
    | .d (.int n) => if inR m && inR n then .ok ⟨rngUp m (n - m).toNat, none⟩ r2 else .bad
    | _ => .bad
  | _ => .bad
def rng3I (fa fb fc : Fe) : Ro → Re Src := fun r => (fa r).bind fun t r1 => match t with
  | .d (.int m) => (fb r1).bind fun u r2 => match u with
    | .d (.int n) => (fc r2).bind fun v r3 => match v with
      | .d (.int k) => if inR m && inR n && decide (k = -1) then .ok ⟨rngDown m (m - n).toNat, none⟩ r3 else .bad
      | _ => .bad
    | _ => .bad
  | _ => .bad
def enumI (fa : Fe) : Ro → Re Src := fun r => (fa r).bind fun t r1 => match srcT r1 t with
  | some s => .ok ⟨enumD 0 s.items, s.guard⟩ r1
  | none => .bad
def seqD : Dv → Option (List Dv)
  | .lv xs => some xs
  | .tup xs => some xs
  | _ => none
def zipT (x y : Dv) : Option (List Dv) := match x, y with
  | .lv xs, .lv ys => some (zipD xs ys)
  | .tup xs, .tup ys => some (zipD xs ys)
  | _, _ => none
def zipI (fa fb : Fe) : Ro → Re Src := fun r => (fa r).bind fun t r1 => match mat r1 t with
  | some (x, r2) => (fb r2).bind fun u r3 => match mat r3 u with
    | some (y, r4) => match zipT x y with
      | some zs => .ok ⟨zs, none⟩ r4
      | none => .bad
    | none => .bad
  | none => .bad
def rvsI (fa : Fe) : Ro → Re Src := fun r => (fa r).bind fun t r1 => match t with
  | .d (.tup xs) => .ok ⟨xs.reverse, none⟩ r1
  | _ => .bad

mutual
def ev (F : CallF) : E → Fe
  | .non => constF .non
  | .bl b => constF (.bl b)
  | .int i => constF (.int i)
  | .str x => constF (.str x)
  | .var i => varF i
  | .glb v _ => constF v
  | .tup es => tupF (evs F es)
  | .disp es => dispF (evs F es)
  | .bin op a b => binF op (ev F a) (ev F b)
  | .neg a => negF (ev F a)
  | .cmp op a b => cmpF op (ev F a) (ev F b)
  | .chain op op' a b c => chainF op op' (ev F a) (ev F b) (ev F c)
  | .and a b => fun r => ofB (andB (fun r => asB (ev F a r)) (fun r => asB (ev F b r)) r)
  | .or a b => fun r => ofB (orB (fun r => asB (ev F a r)) (fun r => asB (ev F b r)) r)
  | .not a => fun r => ofB (notB (fun r => asB (ev F a r)) r)
  | .ite c a b => iteF (fun r => asB (ev F c r)) (ev F a) (ev F b)
  | .isN a neg => isNF neg (ev F a)
  | .isB a b neg => isBF b neg (ev F a)
  | .idx a b => subF (ev F a) (ev F b)
  | .slc a lo hi => slcF (ev F a) (evo F lo) (evo F hi)
  | .rev a => revF (ev F a)
  | .bi b es => biF b (evt F es)
  | .call f es ds => callF F f ds (eva F es)
  | .callv i es => callvF F i (eva F es)
  | .lam c fr => lamF c fr
  | .isx i c => isxF i c
  | .mindex a b => idxF (ev F a) (ev F b)
  | .mcount a b => cntF (ev F a) (ev F b)
  | .mpop i => popF i
  | .mpopi i a => popiF i (ev F a)
  | .comp elt tg it c own => compF (ev F elt) tg (evi F it) (evc F c) own
def evo (F : CallF) : Opt → Ro → Re (Option Int)
  | .no => fun r => .ok none r
  | .yes e => somO (ev F e)
def evc (F : CallF) : Opt → Option (Ro → Re Bool)
  | .no => none
  | .yes e => some fun r => asB (ev F e r)
/-- a display's items, kept -/
def evs (F : CallF) : Es → Ro → Re (List Dv)
  | .nil => fun r => .ok [] r
  | .cons e es => consK (ev F e) (evs F es)
  | .star e es => starK (ev F e) (evs F es)
  | .io _ _ => fun _ => .bad
/-- a built-in's arguments, looked at alone -/
def evt (F : CallF) : Es → Ro → Re (List T)
  | .nil => fun r => .ok [] r
  | .cons e es => consT (ev F e) (evt F es)
  | .star _ _ => fun _ => .bad
  | .io _ _ => fun _ => .bad
/-- a def's arguments -/
def eva (F : CallF) : Es → Ro → Re (List Ar)
  | .nil => fun r => .ok [] r
  | .cons e es => consA (ev F e) (eva F es)
  | .io i es => ioA i (eva F es)
  | .star _ _ => fun _ => .bad
def evi (F : CallF) : It → Ro → Re Src
  | .seq e => seqI (ev F e)
  | .rng1 a => rng1I (ev F a)
  | .rng2 a b => rng2I (ev F a) (ev F b)
  | .rng3 a b c => rng3I (ev F a) (ev F b) (ev F c)
  | .enum a => enumI (ev F a)
  | .zip a b => zipI (ev F a) (ev F b)
  | .rvs a => rvsI (ev F a)
end

/-- a statement's end -/
inductive RS where
  | nx (r : Ro) | ret (t : T) (r : Ro) | exc (c : Nat) (r : Ro) | bad
def asgS (i : Nat) (t : T) (r : Ro) : RS := match t with
  | .d x => .nx (r.set i (.val x))
  | .fr xs => .nx (r.set i (.own xs))
  | .frd => .nx (r.set i (.ownd []))
  | .rf j => match mat r (.rf j) with
    | some (x, r2) => .nx (r2.set i (.val x))
    | none => .bad
/-- items held apart until all are there -/
def holdT (r : Ro) (t : T) : Option (Sl × Ro) := match t with
  | .fr xs => some (.own xs, r)
  | .frd => none
  | t => (mat r t).map fun p => (.val p.1, p.2)
def consH (fa : Fe) (fs : Ro → Re (List Sl)) : Ro → Re (List Sl) := fun r => (fa r).bind fun t r1 => match holdT r1 t with
  | some (x, r2) => (fs r2).bind fun ss r3 => .ok (x :: ss) r3
  | none => .bad
def evh (F : CallF) : Es → Ro → Re (List Sl)
  | .nil => fun r => .ok [] r
  | .cons e es => consH (ev F e) (evh F es)
  | _ => fun _ => .bad
def asgH : List Nat → List Sl → Ro → Option Ro
  | [], [], r => some r
  | i :: is, s :: ss, r => asgH is ss (r.set i s)
  | _, _, _ => none
def forL (tg : Tg) (g : Option (Nat × List Dv)) (body : Ro → RS) : List Dv → Ro → RS
  | [], r => .nx r
  | x :: xs, r => match asgT tg x r with
    | none => .bad
    | some r1 => match body r1 with
      | .nx r2 => if gOk g r2 then forL tg g body xs r2 else .bad
      | .ret t r2 => .ret t r2
      | .exc c r2 => .exc c r2
      | .bad => .bad
/-- an expression's end, then -/
@[reducible] def Re.andS {α : Type} (x : Re α) (f : α → Ro → RS) : RS := match x with
  | .ok a r => f a r
  | .exc c r => .exc c r
  | .bad => .bad
abbrev WhileF := (Ro → Re Bool) → (Ro → RS) → Ro → RS
abbrev Fs := Ro → RS
def asgF (i : Nat) (f : Fe) : Fs := fun r => (f r).andS fun t r1 => asgS i t r1
def ptupF (is : List Nat) (fs : Ro → Re (List Sl)) : Fs := fun r => (fs r).andS fun ss r1 => match asgH is ss r1 with
  | some r2 => .nx r2
  | none => .bad
def atupF (is : List Nat) (f : Fe) : Fs := fun r => (f r).andS fun t r1 => match t with
  | .d (.tup xs) => match asgs is xs r1 with
    | some r2 => .nx r2
    | none => .bad
  | _ => .bad
def augF (i : Nat) (op : Bop) (f : Fe) : Fs := fun r => match r[i]? with
  | some (.val (.int a)) => (f r).andS fun t r1 => match t with
    | .d (.int b) => match binI op a b with
      | some k => .nx (r1.set i (.val (.int k)))
      | none => .bad
    | _ => .bad
  | _ => .bad
def setixF (i : Nat) (fx f : Fe) : Fs := fun r => (f r).andS fun t r1 => match mat r1 t with
  | some (x, r2) => match r2[i]? with
    | some (.own _) => (fx r2).andS fun u r3 => match u with
      | .d (.int k) => match r3[i]? with
        | some (.own xs) => match ixN xs.length k with
          | some j => .nx (r3.set i (.own (xs.set j x)))
          | none => .bad
        | _ => .bad
      | _ => .bad
    | _ => .bad
  | none => .bad
def augixF (i : Nat) (fx : Fe) (op : Bop) (f : Fe) : Fs := fun r => match r[i]? with
  | some (.own _) => (fx r).andS fun u r1 => match u with
    | .d (.int k) => match r1[i]? with
      | some (.own xs) => match getI xs k with
        | some (.int a) => (f r1).andS fun t r2 => match t with
          | .d (.int b) => match binI op a b with
            | some v => match r2[i]? with
              | some (.own ys) => match ixN ys.length k with
                | some j => .nx (r2.set i (.own (ys.set j (.int v))))
                | none => .bad
              | _ => .bad
            | none => .bad
          | _ => .bad
        | _ => .bad
      | _ => .bad
    | _ => .bad
  | _ => .bad
def appF (i : Nat) (f : Fe) : Fs := fun r => match r[i]? with
  | some (.own _) => (f r).andS fun t r1 => match mat r1 t with
    | some (x, r2) => match r2[i]? with
      | some (.own xs) => if xs.length < line then .nx (r2.set i (.own (xs ++ [x]))) else .bad
      | _ => .bad
    | none => .bad
  | _ => .bad
def extF (i : Nat) (f : Fe) : Fs := fun r => match r[i]? with
  | some (.own _) => (f r).andS fun t r1 => match mat r1 t with
    | some (.lv ys, r2) => match r2[i]? with
      | some (.own xs) => if xs.length + ys.length ≤ line then .nx (r2.set i (.own (xs ++ ys))) else .bad
      | _ => .bad
    | _ => .bad
  | _ => .bad
def insF (i : Nat) (fa f : Fe) : Fs := fun r => match r[i]? with
  | some (.own _) => (fa r).andS fun u r1 => match u with
    | .d (.int k) => (f r1).andS fun t r2 => match mat r2 t with
      | some (x, r3) => match r3[i]? with
        | some (.own xs) => if xs.length < line && inR k then .nx (r3.set i (.own (insAt xs k x))) else .bad
        | _ => .bad
      | none => .bad
    | _ => .bad
  | _ => .bad
def exprF (f : Fe) : Fs := fun r => (f r).andS fun _ r1 => .nx r1
def retF (f : Fe) : Fs := fun r => (f r).andS fun t r1 => .ret t r1
def ifsF (g : Ro → Re Bool) (a b : Fs) : Fs := fun r => (g r).andS fun k r1 => if k then a r1 else b r1
def tgs : Tg → List Nat
  | .one i => [i]
  | .tup is => is
/-- the slots that a statement may store to -/
def sets : St → List Nat
  | .asg i _ => [i]
  | .ptup is _ => is
  | .atup is _ => is
  | .aug i _ _ => [i]
  | .ifs _ a b => sets a ++ sets b
  | .for_ tg _ b => tgs tg ++ sets b
  | .while_ _ b => sets b
  | .try1 b _ x h => sets b ++ x :: sets h
  | .try2 b _ x h _ x' h' => sets b ++ (x :: sets h ++ x' :: sets h')
  | .seq a b => sets a ++ sets b
  | _ => []
def gFree (S : List Nat) (g : Option (Nat × List Dv)) : Bool := match g with
  | none => true
  | some (i, _) => !(S.any fun j => Nat.beq i j)
def forF (S : List Nat) (tg : Tg) (fi : Ro → Re Src) (b : Fs) : Fs := fun r => (fi r).andS fun src r1 => if gFree (tgs tg ++ S) src.guard then forL tg src.guard b src.items r1 else .bad
def hndF (x : Nat) (h : Fs) (a : Nat) (r : Ro) : RS := match h (r.set x (.val (.exc a))) with
  | .nx r2 => .nx (r2.set x .none)
  | .ret (.d v) r2 => .ret (.d v) r2
  | _ => .bad
def try1F (b : Fs) (c x : Nat) (h : Fs) : Fs := fun r => match b r with
  | .exc a r1 => if isSub a c then hndF x h a r1 else .exc a r1
  | o => o
def try2F (b : Fs) (c x : Nat) (h : Fs) (c' x' : Nat) (h' : Fs) : Fs := fun r => match b r with
  | .exc a r1 => if isSub a c then hndF x h a r1 else if isSub a c' then hndF x' h' a r1 else .exc a r1
  | o => o
def seqF (a b : Fs) : Fs := fun r => match a r with
  | .nx r1 => b r1
  | o => o
def exec (F : CallF) (W : WhileF) : St → Fs
  | .asg i e => asgF i (ev F e)
  | .ptup is es => ptupF is (evh F es)
  | .atup is e => atupF is (ev F e)
  | .aug i op e => augF i op (ev F e)
  | .setix i ix e => setixF i (ev F ix) (ev F e)
  | .augix i ix op e => augixF i (ev F ix) op (ev F e)
  | .app i e => appF i (ev F e)
  | .ext i e => extF i (ev F e)
  | .ins i a e => insF i (ev F a) (ev F e)
  | .expr e => exprF (ev F e)
  | .ret e => retF (ev F e)
  | .retN => fun r => .ret (.d .non) r
  | .ifs c a b => ifsF (fun r => asB (ev F c r)) (exec F W a) (exec F W b)
  | .for_ tg it b => forF (sets b) tg (evi F it) (exec F W b)
  | .while_ c b => W (fun r => asB (ev F c r)) (exec F W b)
  | .raise c => fun r => .exc c r
  | .try1 b c x h => try1F (exec F W b) c x (exec F W h)
  | .try2 b c x h c' x' h' => try2F (exec F W b) c x (exec F W h) c' x' (exec F W h')
  | .pass => fun r => .nx r
  | .seq a b => seqF (exec F W a) (exec F W b)

/-- a while with a bounded number of turns -/
def whileB : Nat → WhileF
  | 0, _, _, _ => .bad
  | n + 1, c, b, r => match c r with
    | .ok true r1 => match b r1 with
      | .nx r2 => whileB n c b r2
      | o => o
    | .ok false r1 => .nx r1
    | .exc c r1 => .exc c r1
    | .bad => .bad

structure Df where
  args : Nat
  slots : Nat
  body : St
def lentPos : Nat → List Sl → List Nat
  | _, [] => []
  | k, .own _ :: r => k :: lentPos (k + 1) r
  | k, .ownd _ :: r => k :: lentPos (k + 1) r
  | k, _ :: r => lentPos (k + 1) r
def outsAt (r : Ro) : List Nat → Option (List Sl)
  | [] => some []
  | k :: ks => match r[k]? with
    | some (.own xs) => (outsAt r ks).map (.own xs :: ·)
    | some (.ownd xs) => (outsAt r ks).map (.ownd xs :: ·)
    | _ => none
def retV (ps : List Nat) (t : T) (r : Ro) : Option T := match t with
  | .rf i => if ps.any fun j => Nat.beq i j then none else match r[i]? with
    | some (.own xs) => some (.fr xs)
    | _ => none
  | .frd => none
  | .d x => some (.d x)
  | .fr xs => some (.fr xs)
def finish (ps : List Nat) (x : RS) : FR := match x with
  | .nx r => match outsAt r ps with
    | some o => .ok (.d .non) o
    | none => .bad
  | .ret t r => match retV ps t r with
    | some t' => match outsAt r ps with
      | some o => .ok t' o
      | none => .bad
    | none => .bad
  | .exc c r => match outsAt r ps with
    | some o => .exc c o
    | none => .bad
  | .bad => .bad
abbrev Tbl := Nat → Option Df
def callN (tb : Tbl) (W : WhileF) : Nat → CallF
  | 0, _, _ => .bad
  | n + 1, f, as => match tb f with
    | some df => if as.length = df.args && (lentPos 0 as).all (fun i => !((sets df.body).any fun j => Nat.beq i j)) then finish (lentPos 0 as) (exec (callN tb W n) W df.body (as ++ List.replicate (df.slots - df.args) .none)) else .bad
    | none => .bad
end MP
set_option linter.all false
set_option Elab.async false
set_option maxRecDepth 100000
set_option maxHeartbeats 4000000
/-! MPZ: tuples are laid as known objects (no dict of their own). -/
namespace MP
open PySem PySem.Spec PyProof.Rows L2

/-- a tuple's object that has no dict -/
def tob (its : List Value) : Obj := { cls := .type "tuple", data := .seq its.toArray }
section
variable {X : Cx} {pins : List (Addr × Obj)} {σ : L2.St} {H : Hp} {s : Shared} {Q : VK}
theorem lay_tup {h : Heap} {t' : Nat} {its : List Value} {xs : List V} (I : Inv X pins σ H { s with heap := h, toks := t' }) (r : Vals xs its) (hz : xs.length ≤ sizeLine) (q : ∀ p ob, ob.dict = none → H p = none → Q (.ref p) (upd H p (.frz ob (.tup xs)))) :
    EP X pins σ Q (.ref h.objs.size) { s with heap := h.push { cls := .type "tuple", data := .seq its.toArray }, toks := t' } := by
  have hn : H h.objs.size = none := I.hok.fresh (Nat.le_refl _)
  refine ⟨.ref h.objs.size, upd H h.objs.size (.frz (tob its) (.tup xs)), I.laid (t' := t') (fun b u e => Heap.get?_push_of_some _ e) (Nat.le_refl _) ?_, rfl, q _ _ rfl hn⟩
  exact ⟨Heap.get?_push_size _ rfl, hz, its, r, ⟨_, Heap.get?_push_size _ rfl, rfl, _, rfl⟩⟩
def tTupZ (t : TA) : TE := fun σ H Q => t σ H fun xs H1 => xs.length ≤ sizeLine ∧ ∀ p ob, ob.dict = none → H1 p = none → Q (.ref p) (upd H1 p (.frz ob (.tup xs)))
theorem pe_tupZ {es : List Expr} {t : TA} {pos : Pos} {x1} (h : PA X es t) : PE X (.Tuple es x1 pos) (tTupZ t) := by
  refine ⟨fun pins s σ H Q I hq => ?_⟩
  refine wpAny_Tuple_spliced (thn (h.run pos pins s σ H _ I hq) fun us s1 ⟨xs, H1, I1, r, z, q⟩ => ⟨by rw [← r.length]; exact z, ?_⟩)
  exact lay_tup (s := s1) (t' := s1.toks) (h := s1.heap) I1 r z q
theorem call_tuple_ofZ : CallR X (.type "tuple") (fun xs H Q => ∃ p ys, xs = [.ref p] ∧ ((SqL X.K H p ys ∧ ∀ l ob, ob.dict = none → H l = none → Q (.ref l) (upd H l (.frz ob (.tup ys)))) ∨ (SqT X.K H p ys ∧ Q (.ref p) H))) := by
  intro pins s σ H xs us Q I r h
  obtain ⟨p, ys, rfl, h⟩ := h
  obtain ⟨u, rfl, rx⟩ := vals1 r
  cases rx
  rcases h with ⟨hq, q⟩ | ⟨hq, q⟩
  · obtain ⟨its, r', pl, hz⟩ := I.list hq
    have hlen := r'.length
    refine call_tuple_list pl.isList (fun h' kp => ?_) (by simp only [List.size_toArray] <;> omega)
    have I1 : Inv X pins σ H { s with heap := h' } := I.kept (t' := s.toks) kp
    exact lay_tup (s := s) (t' := s.toks) I1 r' hz q
  · obtain ⟨its, r', pl, hz⟩ := I.tuple hq
    exact call_tuple_same pl ⟨.ref p, H, I, rfl, q⟩
def rCatZ (K : PySem.W.Frag) : R2 := fun x y H Q => ∃ a b xs ys, x = .ref a ∧ y = .ref b ∧ SqT K H a xs ∧ SqT K H b ys ∧ xs.length + ys.length ≤ sizeLine ∧
  (xs = [] → Q (.ref b) H) ∧ (xs ≠ [] → ys = [] → Q (.ref a) H) ∧ (xs ≠ [] → ys ≠ [] → ∀ p ob, ob.dict = none → H p = none → Q (.ref p) (upd H p (.frz ob (.tup (xs ++ ys)))))
theorem op_catZ : OpR X (binaryOp .Add) (rCatZ X.K) := by
  intro pins s σ H x y v u Q I rx ry h
  obtain ⟨a, b, xs, ys, rfl, rfl, ha, hb, hz, q0, q1, q2⟩ := h
  by_cases hx : xs = []
  · exact op_catA pins s σ H _ _ v u Q I rx ry ⟨a, b, xs, ys, rfl, rfl, ha, hb, hz, q0, q1, fun z => absurd hx z⟩
  · cases rx
    cases ry
    obtain ⟨its, r1, p1, _⟩ := I.tuple ha
    obtain ⟨its2, r2, p2, _⟩ := I.tuple hb
    refine HT.cat_tup p1 p2 (fun z => hx (r1.nil_iff.mp z)) (fun z => ⟨.ref a, H, I, rfl, q1 hx (r2.nil_iff.mp z)⟩) (fun z => ?_) (by rw [← r1.length, ← r2.length]; exact hz)
    exact lay_tup (s := s) (t' := s.toks) (h := s.heap) I (r1.append r2) (by rw [List.length_append]; exact hz) (q2 hx (fun w => z (r2.nil_iff.mpr w)))
def rSlZ (K : PySem.W.Frag) : V → Option Int → Option Int → Hp → VK → Prop := fun x lo hi H Q => ∃ a xs, x = .ref a ∧ SqT K H a xs ∧
  (HT.sIx xs.length 0 lo = 0 ∧ HT.sIx xs.length xs.length hi = xs.length → Q (.ref a) H) ∧ (¬ (HT.sIx xs.length 0 lo = 0 ∧ HT.sIx xs.length xs.length hi = xs.length) → ∀ p ob, ob.dict = none → H p = none → Q (.ref p) (upd H p (.frz ob (.tup (cutV xs lo hi)))))
theorem sl_tupZ : SlR X (rSlZ X.K) := by
  intro pins s σ H x v vl vu lo hi sl Q I rx hs pl pu h
  obtain ⟨a, xs, rfl, hx, q1, q2⟩ := h
  by_cases hw : HT.sIx xs.length 0 lo = 0 ∧ HT.sIx xs.length xs.length hi = xs.length
  · exact sl_tupA pins s σ H _ v vl vu lo hi sl Q I rx hs pl pu ⟨a, xs, rfl, hx, q1, fun z => absurd hw z⟩
  · cases rx
    obtain ⟨its, r, ht, hz⟩ := I.tuple hx
    have hlen : its.toArray.size = xs.length := by rw [List.size_toArray]; exact r.length.symm
    refine ⟨"tuple", _, PyProof.Rows.slot_tuple_getitem.lookup, ht.typeIs, ?_⟩
    refine HT.getItem_tuple_cut ht hs pl pu (by rw [hlen]; exact hw) ?_ (by rw [hlen]; exact hz)
    rw [hlen]
    exact lay_tup (s := s) (t' := s.toks) (h := s.heap) I ((r.drop (HT.sIx xs.length 0 lo)).take (HT.sIx xs.length xs.length hi - HT.sIx xs.length 0 lo)) (Nat.le_trans (cutV_length xs lo hi) hz) (q2 hw)
end
end MP
set_option linter.all false
set_option Elab.async false
set_option maxRecDepth 100000
/-! MP3: how the plain data stand in the kit's abstract heap. -/
namespace MP
open PySem PySem.Spec PyProof.Rows L2

structure Par where
  K : PySem.W.Frag
  fa : Nat → Option Addr
  ca : Nat → Option Addr
  J : Hp → Prop
  Jk : ∀ H H' : Hp, J H → (∀ b ps, H b = some (.tbl ps) → H' b = some (.tbl ps)) → (∀ b φ, H b = some (.ext φ) → H' b = some (.ext φ)) → J H'

abbrev Bs := Addr → Prop
/-- a tuple of the written part -/
def KTup (K : PySem.W.Frag) (a : Addr) (xs : List V) : Prop := ∃ (o : Obj) (its : Array Value) (n : Nat), K.lookup a = some o ∧ o.cls = .type "tuple" ∧ o.data = .seq its n ∧ its.size ≤ sizeLine ∧ Vals xs its.toList ∧ o.dict = none
/-- a tuple laid since: its object is known -/
def ZTup (H : Hp) (a : Addr) (xs : List V) : Prop := ∃ ob : Obj, H a = some (.frz ob (.tup xs)) ∧ ob.dict = none
def TupAt (K : PySem.W.Frag) (B : Bs) (H : Hp) (a : Addr) (xs : List V) : Prop := (ZTup H a xs ∧ ¬ B a) ∨ KTup K a xs
theorem TupAt.sq {K : PySem.W.Frag} {B : Bs} {H : Hp} {a : Addr} {xs : List V} (t : TupAt K B H a xs) : SqT K H a xs := by
  rcases t with ⟨⟨o, e, _⟩, _⟩ | ⟨o, its, n, h1, h2, h3, h4, h5, _⟩
  · exact .inl (.inr ⟨o, e⟩)
  · exact .inr ⟨o, its, n, h1, h2, h3, h4, h5⟩
def ScrAt (K : PySem.W.Frag) (B : Bs) (H : Hp) (a : Addr) (xs : List V) : Prop := (Rd H a (.lst xs) ∧ ¬ B a) ∨ ∀ H', SqL K H' a xs
mutual
inductive Rv (P : Par) (B : Bs) (H : Hp) : Dv → V → Prop
  | non : Rv P B H .non .non
  | bl (b : Bool) : Rv P B H (.bl b) (.bl b)
  | int (i : Int) : Rv P B H (.int i) (.int i)
  | str (x : Str) : Rv P B H (.str x) (.str x)
  | tup {a xs ds} : TupAt P.K B H a xs → Rvs P B H ds xs → Rv P B H (.tup ds) (.ref a)
  | lv {a xs ds} : H a = some (.lst xs) → ¬ B a → Rvs P B H ds xs → Rv P B H (.lv ds) (.ref a)
  | scr {a ns} : ScrAt P.K B H a (ns.map V.int) → Rv P B H (.scr ns) (.ref a)
  | fn {f a} : P.fa f = some a → Rv P B H (.fn f) (.ref a)
  | exc (c v) : Rv P B H (.exc c) v
inductive Rvs (P : Par) (B : Bs) (H : Hp) : List Dv → List V → Prop
  | nil : Rvs P B H [] []
  | cons {d v ds vs} : Rv P B H d v → Rvs P B H ds vs → Rvs P B H (d :: ds) (v :: vs)
end

section
variable {P : Par} {B B' B'' : Bs} {H H' H'' : Hp}
def Kp (H : Hp) (B : Bs) (H' : Hp) (B' : Bs) : Prop := ∀ b o, H b = some o → ¬ B b → (∀ ps, o ≠ .tbl ps) → H' b = some o ∧ ¬ B' b
theorem Kp.trans (h : Kp H B H' B') (k : Kp H' B' H'' B'') : Kp H B H'' B'' := fun b o e n t => let ⟨e1, n1⟩ := h b o e n t; k b o e1 n1 t
theorem Kp.rd {a : Addr} {u : HO} (h : Kp H B H' B') (r : Rd H a u) (n : ¬ B a) (hu : ∀ ps, u ≠ .tbl ps) : Rd H' a u ∧ ¬ B' a := by
  rcases r with r | ⟨o, r⟩
  · obtain ⟨e, n'⟩ := h a u r n hu
    exact ⟨.inl e, n'⟩
  · obtain ⟨e, n'⟩ := h a _ r n (fun _ z => by cases z)
    exact ⟨.inr ⟨o, e⟩, n'⟩
mutual
theorem Rv.keep (h : Kp H B H' B') : ∀ {d : Dv} {v : V}, Rv P B H d v → Rv P B' H' d v
  | _, _, .non => .non
  | _, _, .bl b => .bl b
  | _, _, .int i => .int i
  | _, _, .str x => .str x
  | _, _, .tup t rs => by
    refine .tup ?_ (Rvs.keep h rs)
    rcases t with ⟨⟨o, e, d⟩, n⟩ | t
    · obtain ⟨e', n'⟩ := h _ _ e n (fun _ z => by cases z)
      exact .inl ⟨⟨o, e', d⟩, n'⟩
    · exact .inr t
  | _, _, .lv r n rs => by
    obtain ⟨r', n'⟩ := h _ _ r n (fun _ z => by cases z)
    exact .lv r' n' (Rvs.keep h rs)
  | _, _, .scr t => by
    refine .scr ?_
    rcases t with ⟨r, n⟩ | t
    · exact .inl (h.rd r n (fun _ z => by cases z))
    · exact .inr t
  | _, _, .fn e => .fn e
  | _, _, .exc c v => .exc c v
theorem Rvs.keep (h : Kp H B H' B') : ∀ {ds : List Dv} {vs : List V}, Rvs P B H ds vs → Rvs P B' H' ds vs
  | _, _, .nil => .nil
  | _, _, .cons r rs => .cons (Rv.keep h r) (Rvs.keep h rs)
end
theorem Kp.weak (h : ∀ b, B' b → B b) : Kp H B H B' := fun b o e n _ => ⟨e, fun z => n (h b z)⟩
theorem Rv.weak (h : ∀ b, B' b → B b) {d : Dv} {v : V} (r : Rv P B H d v) : Rv P B' H d v := r.keep (Kp.weak h)
theorem Rvs.weak (h : ∀ b, B' b → B b) {ds : List Dv} {vs : List V} (r : Rvs P B H ds vs) : Rvs P B' H ds vs := r.keep (Kp.weak h)

theorem Rvs.ints : ∀ ns : List Int, Rvs P B H (ns.map Dv.int) (ns.map V.int)
  | [] => .nil
  | n :: ns => .cons (.int n) (Rvs.ints ns)
theorem Rvs.length : ∀ {ds : List Dv} {vs : List V}, Rvs P B H ds vs → ds.length = vs.length
  | _, _, .nil => rfl
  | _, _, .cons _ rs => by simp [Rvs.length rs]
theorem Rvs.get : ∀ {ds : List Dv} {vs : List V} {i : Nat} {d : Dv}, Rvs P B H ds vs → ds[i]? = some d → ∃ v, vs[i]? = some v ∧ Rv P B H d v
  | _, _, _, _, .nil, e => by simp at e
  | _, _, 0, _, .cons r _, e => by simp at e; subst e; exact ⟨_, rfl, r⟩
  | _, _, i + 1, d, .cons _ rs, e => by
    obtain ⟨v, h1, h2⟩ := Rvs.get (i := i) (d := d) rs (by simpa using e)
    exact ⟨v, by simpa using h1, h2⟩
theorem Rvs.getV : ∀ {ds : List Dv} {vs : List V} {i : Nat} {v : V}, Rvs P B H ds vs → vs[i]? = some v → ∃ d, ds[i]? = some d ∧ Rv P B H d v
  | _, _, _, _, .nil, e => by simp at e
  | _, _, 0, _, .cons r _, e => by simp at e; subst e; exact ⟨_, rfl, r⟩
  | _, _, i + 1, d, .cons _ rs, e => by
    obtain ⟨v, h1, h2⟩ := Rvs.getV (i := i) (v := d) rs (by simpa using e)
    exact ⟨v, by simpa using h1, h2⟩
theorem Rvs.append : ∀ {ds ds' : List Dv} {vs vs' : List V}, Rvs P B H ds vs → Rvs P B H ds' vs' → Rvs P B H (ds ++ ds') (vs ++ vs')
  | _, _, _, _, .nil, k => k
  | _, _, _, _, .cons r rs, k => .cons r (Rvs.append rs k)
theorem Rvs.take : ∀ {ds : List Dv} {vs : List V} (n : Nat), Rvs P B H ds vs → Rvs P B H (ds.take n) (vs.take n)
  | _, _, 0, _ => .nil
  | _, _, _ + 1, .nil => .nil
  | _, _, n + 1, .cons r rs => .cons r (Rvs.take n rs)
theorem Rvs.drop : ∀ {ds : List Dv} {vs : List V} (n : Nat), Rvs P B H ds vs → Rvs P B H (ds.drop n) (vs.drop n)
  | _, _, 0, r => r
  | _, _, _ + 1, .nil => .nil
  | _, _, n + 1, .cons _ rs => Rvs.drop n rs
theorem Rvs.set : ∀ {ds : List Dv} {vs : List V} (i : Nat) {d : Dv} {v : V}, Rvs P B H ds vs → Rv P B H d v → Rvs P B H (ds.set i d) (vs.set i v)
  | _, _, _, _, _, .nil, _ => .nil
  | _, _, 0, _, _, .cons _ rs, r => .cons r rs
  | _, _, i + 1, _, _, .cons q rs, r => .cons q (Rvs.set i rs r)
theorem Rvs.erase : ∀ {ds : List Dv} {vs : List V} (i : Nat), Rvs P B H ds vs → Rvs P B H (ds.eraseIdx i) (vs.eraseIdx i)
  | _, _, _, .nil => .nil
  | _, _, 0, .cons _ rs => rs
  | _, _, i + 1, .cons q rs => .cons q (Rvs.erase i rs)
theorem Rvs.snoc {ds : List Dv} {vs : List V} {d : Dv} {v : V} (rs : Rvs P B H ds vs) (r : Rv P B H d v) : Rvs P B H (ds ++ [d]) (vs ++ [v]) := rs.append (.cons r .nil)
theorem Rvs.reverse : ∀ {ds : List Dv} {vs : List V}, Rvs P B H ds vs → Rvs P B H ds.reverse vs.reverse
  | _, _, .nil => .nil
  | _, _, .cons r rs => by simp only [List.reverse_cons]; exact (Rvs.reverse rs).snoc r
theorem Rvs.dropLast {ds : List Dv} {vs : List V} (rs : Rvs P B H ds vs) : Rvs P B H ds.dropLast vs.dropLast := by
  rw [List.dropLast_eq_take, List.dropLast_eq_take, rs.length]; exact rs.take _
theorem Rvs.rep {ds : List Dv} {vs : List V} (rs : Rvs P B H ds vs) : ∀ n : Nat, Rvs P B H (MP.rep ds n) (List.replicate n vs).flatten
  | 0 => .nil
  | n + 1 => by
    rw [List.replicate_succ, List.flatten_cons]
    exact rs.append (Rvs.rep rs n)
end

/-! ### slots -/
abbrev Own := Nat → Option Addr
def BsOf (Ow : Own) (X : Bs) : Bs := fun a => (∃ i, Ow i = some a) ∨ X a
def SlAt (P : Par) (Ow : Own) (X : Bs) (H : Hp) (σ : L2.St) (i : Nat) : Sl → Prop
  | .none => True
  | .val d => ∃ v, σ[i]? = some (some v) ∧ Rv P (BsOf Ow X) H d v
  | .own ds => ∃ a xs, Ow i = some a ∧ σ[i]? = some (some (.ref a)) ∧ H a = some (.lst xs) ∧ Rvs P (BsOf Ow X) H ds xs
  | .ownd _ => False
structure Rho (P : Par) (H : Hp) (Ow : Own) (X : Bs) (r : Ro) (σ : L2.St) : Prop where
  len : r.length = σ.length
  sl : ∀ i s, r[i]? = some s → SlAt P Ow X H σ i s
  inj : ∀ i j a, Ow i = some a → Ow j = some a → i = j
  ow : ∀ i a, Ow i = some a → ∃ xs, H a = some (.lst xs)
  x : ∀ a, X a → H a ≠ none
  disj : ∀ i a, Ow i = some a → ¬ X a
  j : P.J H
structure Ext (H : Hp) (Ow : Own) (H' : Hp) (Ow' : Own) : Prop where
  keep : ∀ b o, H b = some o → (∀ i, Ow i ≠ some b) → (∀ ps, o ≠ .tbl ps) → H' b = some o
  st : ∀ i, Ow' i = Ow i ∨ Ow' i = none
  al : ∀ b, H b ≠ none → H' b ≠ none
/-- behind statements that may store to the slots S -/
structure ExtS (S : List Nat) (H : Hp) (Ow : Own) (H' : Hp) (Ow' : Own) : Prop where
  keep : ∀ b o, H b = some o → (∀ i, Ow i ≠ some b) → (∀ ps, o ≠ .tbl ps) → H' b = some o
  ow : ∀ i a, Ow' i = some a → (∃ j, Ow j = some a) ∨ H a = none
  st : ∀ i, i ∉ S → Ow' i = Ow i ∨ Ow' i = none
  al : ∀ b, H b ≠ none → H' b ≠ none

section
variable {P : Par} {H H' H'' : Hp} {Ow Ow' Ow'' : Own} {X X' : Bs} {r r' : Ro} {σ : L2.St}
theorem Ext.ow (h : Ext H Ow H' Ow') {i : Nat} {a : Addr} (e : Ow' i = some a) : Ow i = some a := by
  rcases h.st i with z | z
  · rw [← z]; exact e
  · rw [z] at e; cases e
theorem Ext.refl : Ext H Ow H Ow := ⟨fun _ _ e _ _ => e, fun i => .inl rfl, fun _ h => h⟩
theorem Ext.trans (h : Ext H Ow H' Ow') (k : Ext H' Ow' H'' Ow'') : Ext H Ow H'' Ow'' := by
  refine ⟨fun b o e n t => k.keep b o (h.keep b o e n t) (fun i q => n i (h.ow q)) t, fun i => ?_, fun b hb => k.al b (h.al b hb)⟩
  rcases k.st i with z | z
  · rw [z]; exact h.st i
  · exact .inr z
theorem Ext.toS (h : Ext H Ow H' Ow') (S : List Nat) : ExtS S H Ow H' Ow' := ⟨h.keep, fun i a e => .inl ⟨i, h.ow e⟩, fun i _ => h.st i, h.al⟩
theorem ExtS.mono {S S' : List Nat} (h : ExtS S H Ow H' Ow') (hs : ∀ i, i ∈ S → i ∈ S') : ExtS S' H Ow H' Ow' := ⟨h.keep, h.ow, fun i n => h.st i (fun z => n (hs i z)), h.al⟩
theorem ExtS.trans {S : List Nat} (h : ExtS S H Ow H' Ow') (k : ExtS S H' Ow' H'' Ow'') : ExtS S H Ow H'' Ow'' := by
  refine ⟨fun b o e n t => ?_, fun i a e => ?_, fun i n => ?_, fun b hb => k.al b (h.al b hb)⟩
  · refine k.keep b o (h.keep b o e n t) (fun i q => ?_) t
    rcases h.ow i b q with ⟨j, z⟩ | z
    · exact n j z
    · rw [e] at z; cases z
  · rcases k.ow i a e with ⟨j, z⟩ | z
    · exact h.ow j a z
    · refine .inr ?_
      cases q : H a with
      | none => rfl
      | some o => exact absurd z (h.al a (by rw [q]; simp))
  · rcases k.st i n with z | z
    · rw [z]; exact h.st i n
    · exact .inr z
theorem ExtS.kp {S : List Nat} (h : ExtS S H Ow H' Ow') : Kp H (BsOf Ow X) H' (BsOf Ow' X) := fun b o e n t => by
  refine ⟨h.keep b o e (fun i q => n (.inl ⟨i, q⟩)) t, fun z => ?_⟩
  rcases z with ⟨i, z⟩ | z
  · rcases h.ow i b z with ⟨j, q⟩ | q
    · exact n (.inl ⟨j, q⟩)
    · rw [e] at q; cases q
  · exact n (.inr z)
theorem Ext.kp (h : Ext H Ow H' Ow') : Kp H (BsOf Ow X) H' (BsOf Ow' X) := fun b o e n t => by
  refine ⟨h.keep b o e (fun i q => n (.inl ⟨i, q⟩)) t, fun z => ?_⟩
  rcases z with ⟨i, z⟩ | z
  · exact n (.inl ⟨i, h.ow z⟩)
  · exact n (.inr z)
theorem BsOf.mono (h : ∀ a, X a → X' a) : ∀ a, BsOf Ow X a → BsOf Ow X' a := fun a z => z.elim .inl fun z => .inr (h a z)
/-- less is asked -/
theorem Rho.weak (R : Rho P H Ow X' r σ) (h : ∀ a, X a → X' a) : Rho P H Ow X r σ := by
  refine ⟨R.len, fun i s e => ?_, R.inj, R.ow, fun a z => R.x a (h a z), fun i a e z => R.disj i a e (h a z), R.j⟩
  have q := R.sl i s e
  cases s with
  | none => trivial
  | val d => obtain ⟨v, h1, h2⟩ := q; exact ⟨v, h1, h2.weak (BsOf.mono h)⟩
  | own ds => obtain ⟨a, xs, h1, h2, h3, h4⟩ := q; exact ⟨a, xs, h1, h2, h3, h4.weak (BsOf.mono h)⟩
  | ownd kvs => exact q
def addX (X : Bs) (a : Addr) : Bs := fun b => X b ∨ b = a
theorem addX_of {a : Addr} : ∀ b, X b → addX X a b := fun _ h => .inl h

/-- a new object, protected from now on -/
theorem Rho.new (R : Rho P H Ow X r σ) {a : Addr} {o : HO} (na : H a = none) : Rho P (upd H a o) Ow (addX X a) r σ := by
  have ne : ∀ {b u}, H b = some u → b ≠ a := fun h => ne_of_none h na
  have kp : Kp H (BsOf Ow X) (upd H a o) (BsOf Ow (addX X a)) := fun b u e n _ => by
    refine ⟨by rw [upd_ne (ne e)]; exact e, fun z => ?_⟩
    rcases z with z | z | z
    · exact n (.inl z)
    · exact n (.inr z)
    · exact ne e z
  refine ⟨R.len, fun i s e => ?_, R.inj, fun i b e => ?_, fun b z => ?_, fun i b e z => ?_, ?_⟩
  · have q := R.sl i s e
    cases s with
    | none => trivial
    | val d => obtain ⟨v, h1, h2⟩ := q; exact ⟨v, h1, h2.keep kp⟩
    | own ds => obtain ⟨b, xs, h1, h2, h3, h4⟩ := q; exact ⟨b, xs, h1, h2, by rw [upd_ne (ne h3)]; exact h3, h4.keep kp⟩
    | ownd kvs => exact q
  · obtain ⟨xs, h⟩ := R.ow i b e
    exact ⟨xs, by rw [upd_ne (ne h)]; exact h⟩
  · rcases z with z | z
    · have := R.x b z
      by_cases hb : b = a
      · subst hb; rw [upd_same]; simp
      · rw [upd_ne hb]; exact this
    · subst z; rw [upd_same]; simp
  · rcases z with z | z
    · exact R.disj i b e z
    · obtain ⟨xs, h⟩ := R.ow i b e
      exact ne h z
  · exact P.Jk _ _ R.j (fun b ps e => by rw [upd_ne (ne e)]; exact e) fun b φ e => by rw [upd_ne (ne e)]; exact e
theorem Ext.new {a : Addr} {o : HO} (na : H a = none) : Ext H Ow (upd H a o) Ow := by
  refine ⟨fun b u e _ _ => by rw [upd_ne (ne_of_none e na)]; exact e, fun i => .inl rfl, fun b h => ?_⟩
  by_cases hb : b = a
  · subst hb; rw [upd_same]; simp
  · rw [upd_ne hb]; exact h
end

/-- what an expression's value is, and the state behind it -/
def Okp (P : Par) (H : Hp) (Ow : Own) (X : Bs) (σ : L2.St) (t : T) (r' : Ro) (v : V) (H' : Hp) : Prop := ∃ Ow', Ext H Ow H' Ow' ∧ match t with
  | .d x => Rho P H' Ow' X r' σ ∧ Rv P (BsOf Ow' X) H' x v
  | .fr ds => ∃ a xs, v = .ref a ∧ H a = none ∧ H' a = some (.lst xs) ∧ Rho P H' Ow' (addX X a) r' σ ∧ Rvs P (BsOf Ow' (addX X a)) H' ds xs
  | .rf i => Rho P H' Ow' X r' σ ∧ σ[i]? = some (some v)
  | .frd => False
abbrev XW := Nat → Option Addr → L2.St → Hp → Prop
/-- an expression's reading by the interpreter -/
def tE (P : Par) (W : XW) (f : Ro → Re T) : TE := fun σ H Q => ∃ r Ow X, Rho P H Ow X r σ ∧ match f r with
  | .ok t r' => ∀ v H', Okp P H Ow X σ t r' v H' → Q v H'
  | .exc c r' => ∀ H' Ow' d, Ext H Ow H' Ow' → Rho P H' Ow' X r' σ → W c d σ H'
  | .bad => False

/-- what stands of a value while others are reckoned: X0 what was protected ahead, X1 what is now -/
def Hld (P : Par) (H : Hp) (Ow : Own) (X0 X1 : Bs) (σ : L2.St) (t : T) (v : V) : Prop := match t with
  | .d x => Rv P (BsOf Ow X1) H x v
  | .fr ds => ∃ a xs, v = .ref a ∧ X1 a ∧ ¬ X0 a ∧ (∀ i, Ow i ≠ some a) ∧ H a = some (.lst xs) ∧ Rvs P (BsOf Ow X1) H ds xs
  | .rf i => σ[i]? = some (some v)
  | .frd => False
section
variable {P : Par} {H H' H'' : Hp} {Ow Ow' Ow'' : Own} {X X1 X2 : Bs} {r r' r'' : Ro} {σ : L2.St} {t : T} {v : V}
theorem Okp.hld (R : Rho P H Ow X r σ) (h : Okp P H Ow X σ t r' v H') : ∃ Ow' X1, Ext H Ow H' Ow' ∧ (∀ a, X a → X1 a) ∧ (∀ a, X1 a → X a ∨ H a = none) ∧ Rho P H' Ow' X1 r' σ ∧ Hld P H' Ow' X X1 σ t v := by
  obtain ⟨Ow', e, h⟩ := h
  cases t with
  | d x => exact ⟨Ow', X, e, fun _ z => z, fun _ z => .inl z, h.1, h.2⟩
  | fr ds =>
    obtain ⟨a, xs, h1, h2, h3, h4, h5⟩ := h
    exact ⟨Ow', addX X a, e, addX_of, fun b z => z.elim .inl fun z => .inr (by rw [z]; exact h2), h4, a, xs, h1, .inr rfl, fun z => R.x a z h2, fun i z => h4.disj i a z (.inr rfl), h3, h5⟩
  | rf i => exact ⟨Ow', X, e, fun _ z => z, fun _ z => .inl z, h.1, h.2⟩
  | frd => exact h.elim
theorem Hld.ext (h : Hld P H Ow X X1 σ t v) (e : Ext H Ow H' Ow') (R : Rho P H' Ow' X2 r' σ) (hx : ∀ a, X1 a → X2 a) (hn : ∀ a, X2 a → X1 a ∨ H a = none) : Hld P H' Ow' X X2 σ t v := by
  have kp : Kp H (BsOf Ow X1) H' (BsOf Ow' X2) := fun b o q n t => by
    obtain ⟨h1, h2⟩ := e.kp (X := X1) b o q n t
    refine ⟨h1, fun z => ?_⟩
    rcases z with z | z
    · exact h2 (.inl z)
    · rcases hn b z with z | z
      · exact n (.inr z)
      · rw [q] at z; cases z
  cases t with
  | d x => exact Rv.keep kp h
  | fr ds =>
    obtain ⟨a, xs, h1, h2, h3, h4, h5, h6⟩ := h
    exact ⟨a, xs, h1, hx a h2, h3, fun i z => R.disj i a z (hx a h2), e.keep a _ h5 h4 (fun _ z => by cases z), h6.keep kp⟩
  | rf i => exact h
  | frd => exact h.elim

/-- looked at as a sequence -/
theorem Hld.seq {ds : List Dv} (h : Hld P H Ow X X1 σ t v) (R : Rho P H Ow X1 r σ) (e : seqT r t = some ds) :
    ∃ a xs, v = .ref a ∧ (SqL P.K H a xs ∨ SqT P.K H a xs) ∧ Rvs P (BsOf Ow X1) H ds xs := by
  cases t with
  | d x =>
    have h : Rv P (BsOf Ow X1) H x v := h
    cases h with
    | tup t rs =>
      simp only [seqT, Option.some.injEq] at e
      subst e
      exact ⟨_, _, rfl, .inr t.sq, rs⟩
    | lv t n rs =>
      simp only [seqT, Option.some.injEq] at e
      subst e
      exact ⟨_, _, rfl, .inl (.inl (.inl t)), rs⟩
    | scr t =>
      simp only [seqT, Option.some.injEq] at e
      subst e
      refine ⟨_, _, rfl, .inl ?_, Rvs.ints _⟩
      rcases t with ⟨t, _⟩ | t
      · exact .inl t
      · exact t H
    | _ => simp [seqT] at e
  | fr xs =>
    simp only [seqT, Option.some.injEq] at e
    subst e
    obtain ⟨a, xs, h1, h2, h3, h4, h5, h6⟩ := h
    exact ⟨a, xs, h1, .inl (.inl (.inl h5)), h6⟩
  | rf i =>
    simp only [seqT] at e
    split at e
    · rename_i ys q
      simp only [Option.some.injEq] at e
      subst e
      obtain ⟨a, xs, h1, h2, h3, h4⟩ := R.sl i _ q
      have h : σ[i]? = some (some v) := h
      rw [h2] at h
      simp only [Option.some.injEq] at h
      exact ⟨a, xs, h.symm, .inl (.inl (.inl h3)), h4⟩
    · cases e
  | frd => exact h.elim
/-- looked at as data -/
theorem Hld.view {d : Dv} (h : Hld P H Ow X X1 σ t v) (R : Rho P H Ow X1 r σ) (e : viewT r t = some d) : Rv P (fun _ => False) H d v := by
  cases t with
  | d x =>
    simp only [viewT, Option.some.injEq] at e
    subst e
    exact Rv.weak (fun _ z => z.elim) h
  | fr xs =>
    simp only [viewT, Option.some.injEq] at e
    subst e
    obtain ⟨a, xs, h1, h2, h3, h4, h5, h6⟩ := h
    subst h1
    exact .lv h5 (fun z => z) (h6.weak fun _ z => z.elim)
  | rf i =>
    simp only [viewT] at e
    split at e
    · rename_i ys q
      simp only [Option.some.injEq] at e
      subst e
      obtain ⟨a, xs, h1, h2, h3, h4⟩ := R.sl i _ q
      have h : σ[i]? = some (some v) := h
      rw [h2] at h
      simp only [Option.some.injEq] at h
      subst h
      exact .lv h3 (fun z => z) (h4.weak fun _ z => z.elim)
    · cases e
  | frd => exact h.elim
/-- a slot's list is owned no more -/
theorem Rho.freeze {i : Nat} {ds : List Dv} (R : Rho P H Ow X r σ) (q : r[i]? = some (.own ds)) :
    ∃ Ow', Ext H Ow H Ow' ∧ Rho P H Ow' X (r.set i (.val (.lv ds))) σ ∧ (∀ v, σ[i]? = some (some v) → Rv P (BsOf Ow' X) H (.lv ds) v) := by
  obtain ⟨a, xs, h1, h2, h3, h4⟩ := R.sl i _ q
  refine ⟨fun j => if j = i then none else Ow j, ?_, ?_, ?_⟩
  · refine ⟨fun b o e n t => e, fun j => ?_, fun b h => h⟩
    by_cases hj : j = i
    · simp [hj]
    · simp [hj]
  all_goals
    have na : ¬ BsOf (fun j => if j = i then none else Ow j) X a := by
      rintro (⟨j, z⟩ | z)
      · by_cases hj : j = i
        · simp [hj] at z
        · simp only [hj, if_false] at z
          exact hj (R.inj j i a z h1)
      · exact R.disj i a h1 z
    have sub : ∀ b, BsOf (fun j => if j = i then none else Ow j) X b → BsOf Ow X b := by
      rintro b (⟨j, z⟩ | z)
      · by_cases hj : j = i
        · simp [hj] at z
        · simp only [hj, if_false] at z
          exact .inl ⟨j, z⟩
      · exact .inr z
  · refine ⟨by simpa using R.len, fun j s e => ?_, fun j k b e1 e2 => ?_, fun j b e => ?_, R.x, fun j b e z => ?_, R.j⟩
    · by_cases hj : j = i
      · subst hj
        have hlt : j < r.length := (List.getElem?_eq_some_iff.mp q).1
        rw [List.getElem?_set_self hlt] at e
        cases e
        exact ⟨_, h2, .lv h3 na (h4.weak sub)⟩
      · rw [List.getElem?_set_ne (Ne.symm hj)] at e
        have z := R.sl j s e
        cases s with
        | none => trivial
        | val d => obtain ⟨v, z1, z2⟩ := z; exact ⟨v, z1, z2.weak sub⟩
        | own d =>
          obtain ⟨b, ys, z1, z2, z3, z4⟩ := z
          exact ⟨b, ys, by simp only [hj, if_false]; exact z1, z2, z3, z4.weak sub⟩
        | ownd d => exact z
    · by_cases hj : j = i
      · simp [hj] at e1
      · by_cases hk : k = i
        · simp [hk] at e2
        · simp only [hj, hk, if_false] at e1 e2
          exact R.inj j k b e1 e2
    · by_cases hj : j = i
      · simp [hj] at e
      · simp only [hj, if_false] at e
        exact R.ow j b e
    · by_cases hj : j = i
      · simp [hj] at e
      · simp only [hj, if_false] at e
        exact R.disj j b e z
  · intro v hv
    rw [h2] at hv
    simp only [Option.some.injEq] at hv
    subst hv
    exact .lv h3 na (h4.weak sub)
/-- kept as data from now on -/
theorem Hld.mat {d : Dv} (h : Hld P H Ow X X1 σ t v) (R : Rho P H Ow X1 r σ) (hx : ∀ a, X a → X1 a) (e : MP.mat r t = some (d, r')) : ∃ Ow', Ext H Ow H Ow' ∧ Rho P H Ow' X r' σ ∧ Rv P (BsOf Ow' X) H d v := by
  cases t with
  | d x =>
    simp only [MP.mat, Option.some.injEq, Prod.mk.injEq] at e
    obtain ⟨e1, e2⟩ := e
    subst e1 e2
    exact ⟨Ow, .refl, R.weak hx, Rv.weak (BsOf.mono hx) h⟩
  | fr xs =>
    simp only [MP.mat, Option.some.injEq, Prod.mk.injEq] at e
    obtain ⟨e1, e2⟩ := e
    subst e1 e2
    obtain ⟨a, xs, h1, h2, h3, h4, h5, h6⟩ := h
    subst h1
    exact ⟨Ow, .refl, R.weak hx, .lv h5 (fun z => z.elim (fun ⟨i, z⟩ => h4 i z) h3) (h6.weak (BsOf.mono hx))⟩
  | rf i =>
    simp only [MP.mat] at e
    split at e
    · rename_i ys q
      simp only [Option.some.injEq, Prod.mk.injEq] at e
      obtain ⟨e1, e2⟩ := e
      subst e1 e2
      obtain ⟨Ow', e1, R1, hv⟩ := R.freeze q
      exact ⟨Ow', e1, R1.weak hx, (hv v h).weak (BsOf.mono hx)⟩
    · cases e
  | frd => exact h.elim
end
end MP
set_option linter.all false
set_option Elab.async false
set_option maxRecDepth 100000
set_option maxHeartbeats 1000000
/-! MP4: operations on values. -/
namespace MP
open PySem PySem.Spec PyProof.Rows L2

def Fin (P : Par) (W : XW) (Xb : Bs) (σ : L2.St) (H : Hp) (Ow : Own) (res : Re T) (Q : VK) : Prop := match res with
  | .ok t r' => ∀ v H', Okp P H Ow Xb σ t r' v H' → Q v H'
  | .exc c r' => ∀ H' Ow' d, Ext H Ow H' Ow' → Rho P H' Ow' Xb r' σ → W c d σ H'
  | .bad => False
theorem tE_iff {P : Par} {W : XW} {f : Ro → Re T} {σ : L2.St} {H : Hp} {Q : VK} : tE P W f σ H Q ↔ ∃ r Ow X, Rho P H Ow X r σ ∧ Fin P W X σ H Ow (f r) Q := Iff.rfl

section
variable {P : Par} {W : XW} {Xb X1 : Bs} {σ : L2.St} {H H' H1 : Hp} {Ow Ow' Ow1 : Own} {res : Re T} {Q : VK} {t : T} {r r' r1 : Ro} {v : V}
theorem Okp.lift (e : Ext H Ow H1 Ow1) (h : Okp P H1 Ow1 Xb σ t r' v H') : Okp P H Ow Xb σ t r' v H' := by
  obtain ⟨Ow', e', h⟩ := h
  refine ⟨Ow', e.trans e', ?_⟩
  cases t with
  | fr ds =>
    obtain ⟨a, xs, h1, h2, h3⟩ := h
    refine ⟨a, xs, h1, ?_, h3⟩
    cases q : H a with
    | none => rfl
    | some o => exact absurd h2 (e.al a (by rw [q]; simp))
  | _ => exact h
theorem Fin.lift (e : Ext H Ow H1 Ow1) (h : Fin P W Xb σ H Ow res Q) : Fin P W Xb σ H1 Ow1 res Q := by
  cases res with
  | ok t r' => exact fun v H' k => h v H' (k.lift e)
  | exc c r' => exact fun H' Ow' d k R => h H' Ow' d (e.trans k) R
  | bad => exact h
/-- plain data, the state as it is -/
theorem Okp.data {x : Dv} (R : Rho P H Ow Xb r σ) (h : Rv P (BsOf Ow Xb) H x v) : Okp P H Ow Xb σ (.d x) r v H := ⟨Ow, .refl, R, h⟩
/-- a new list -/
theorem Okp.list {ds : List Dv} {xs : List V} {a : Addr} (R : Rho P H Ow X1 r σ) (hx : ∀ a, Xb a → X1 a) (na : H a = none) (h : Rvs P (BsOf Ow X1) H ds xs) : Okp P H Ow Xb σ (.fr ds) r (.ref a) (upd H a (.lst xs)) := by
  have R2 := (R.weak hx).new (o := .lst xs) na
  refine ⟨Ow, .new na, a, xs, rfl, na, upd_same, R2, ?_⟩
  refine h.keep fun b o e n t => ⟨by rw [upd_ne (ne_of_none e na)]; exact e, fun z => ?_⟩
  rcases z with z | z | z
  · exact n (.inl z)
  · exact n (.inr (hx b z))
  · exact ne_of_none e na z
/-- a new tuple -/
theorem Okp.tuple {ds : List Dv} {xs : List V} {a : Addr} {ob : Obj} (R : Rho P H Ow X1 r σ) (hx : ∀ a, Xb a → X1 a) (hd : ob.dict = none) (na : H a = none) (h : Rvs P (BsOf Ow X1) H ds xs) : Okp P H Ow Xb σ (.d (.tup ds)) r (.ref a) (upd H a (.frz ob (.tup xs))) := by
  have R2 := (R.weak hx).new (o := .frz ob (.tup xs)) na
  have R3 : Rho P (upd H a (.frz ob (.tup xs))) Ow Xb r σ := R2.weak addX_of
  refine ⟨Ow, .new na, R3, .tup (.inl ⟨⟨ob, upd_same, hd⟩, fun z => ?_⟩) ?_⟩
  · rcases z with ⟨i, z⟩ | z
    · obtain ⟨ys, q⟩ := R.ow i a z
      rw [na] at q; cases q
    · exact R.x a (hx a z) na
  · refine h.keep fun b o e n t => ⟨by rw [upd_ne (ne_of_none e na)]; exact e, fun z => ?_⟩
    rcases z with z | z
    · exact n (.inl z)
    · exact n (.inr (hx b z))
theorem Okp.int {i : Int} (R : Rho P H Ow X1 r σ) (hx : ∀ a, Xb a → X1 a) : Okp P H Ow Xb σ (.d (.int i)) r (.int i) H := .data (R.weak hx) (.int i)
theorem Okp.bl {i : Bool} (R : Rho P H Ow X1 r σ) (hx : ∀ a, Xb a → X1 a) : Okp P H Ow Xb σ (.d (.bl i)) r (.bl i) H := .data (R.weak hx) (.bl i)
end

/-! ### reading data in the model's heap -/
section
variable {P : Par} {B : Bs} {H : Hp} {X : Cx} {pins : List (Addr × Obj)} {σ : L2.St} {s : Shared}
theorem tupAt_sq (I : Inv X pins σ H s) (hK : X.K = P.K) {a : Addr} {xs : List V} (t : TupAt P.K B H a xs) : SqT X.K H a xs := by
  rw [hK]
  exact t.sq
mutual
theorem reads_of (I : Inv X pins σ H s) (hK : X.K = P.K) : ∀ (d : Dv) (v : V) (u : Value) (p : PyData), Rv P B H d v → RelV v u → toPy d = some p → ∃ as, Reads s.heap u p as
  | .non, _, _, _, h, r, e => by
    cases h; cases r
    simp only [toPy, Option.some.injEq] at e; subst e
    exact ⟨_, .none⟩
  | .bl b, _, _, _, h, r, e => by
    cases h; cases r
    simp only [toPy, Option.some.injEq] at e; subst e
    exact ⟨_, .bool b⟩
  | .int i, _, _, _, h, r, e => by
    cases h
    obtain ⟨t, rfl⟩ := r
    simp only [toPy, Option.some.injEq] at e; subst e
    exact ⟨_, .int i t⟩
  | .str x, _, _, _, h, r, e => by
    cases h
    obtain ⟨t, rfl⟩ := r
    simp only [toPy, Option.some.injEq] at e; subst e
    exact ⟨_, .str x t⟩
  | .tup ds, _, _, _, h, r, e => by
    cases h with
    | tup t rs =>
      cases r
      obtain ⟨its, rv, ⟨o, ho, hc, n, hd⟩, _⟩ := I.tuple (tupAt_sq I hK t)
      simp only [toPy, Option.map_eq_some_iff] at e
      obtain ⟨ps, e1, e2⟩ := e
      subst e2
      obtain ⟨as, hr⟩ := readsAll_of I hK ds _ its ps rs rv e1
      exact ⟨_, .tuple ho hc hd hr⟩
  | .lv ds, _, _, _, h, r, e => by
    cases h with
    | lv t _ rs =>
      cases r
      obtain ⟨its, rv, ⟨o, n, ho, hc, _, hd⟩, _⟩ := I.list (.inl (.inl t))
      simp only [toPy, Option.map_eq_some_iff] at e
      obtain ⟨ps, e1, e2⟩ := e
      subst e2
      obtain ⟨as, hr⟩ := readsAll_of I hK ds _ its ps rs rv e1
      exact ⟨_, .list ho hc hd hr⟩
  | .fn _, _, _, _, _, _, e => by simp [toPy] at e
  | .clo _ _, _, _, _, _, _, e => by simp [toPy] at e
  | .exc _, _, _, _, _, _, e => by simp [toPy] at e
  | .scr _, _, _, _, _, _, e => by simp [toPy] at e
theorem readsAll_of (I : Inv X pins σ H s) (hK : X.K = P.K) : ∀ (ds : List Dv) (vs : List V) (us : List Value) (ps : List PyData), Rvs P B H ds vs → Vals vs us → toPys ds = some ps → ∃ as, ReadsAll s.heap us ps as
  | [], _, _, _, h, r, e => by
    cases h; cases r
    simp only [toPys, Option.some.injEq] at e; subst e
    exact ⟨_, .nil⟩
  | d :: ds, _, _, _, h, r, e => by
    cases h with
    | cons h1 h2 =>
      cases r with
      | cons r1 r2 =>
        simp only [toPys] at e
        split at e
        · rename_i p ps e1 e2
          simp only [Option.some.injEq] at e; subst e
          obtain ⟨as, q1⟩ := reads_of I hK d _ _ p h1 r1 e1
          obtain ⟨bs, q2⟩ := readsAll_of I hK ds _ _ ps h2 r2 e2
          exact ⟨_, .cons q1 q2⟩
        · cases e
end
mutual
theorem toPy_plain : ∀ (d : Dv) (p : PyData), toPy d = some p → p.plain = true
  | .non, _, e => by simp only [toPy, Option.some.injEq] at e; subst e; rfl
  | .bl b, _, e => by simp only [toPy, Option.some.injEq] at e; subst e; rfl
  | .int i, _, e => by simp only [toPy, Option.some.injEq] at e; subst e; rfl
  | .str x, _, e => by simp only [toPy, Option.some.injEq] at e; subst e; rfl
  | .tup ds, _, e => by
    simp only [toPy, Option.map_eq_some_iff] at e
    obtain ⟨ps, e1, e2⟩ := e
    subst e2
    simp only [PyData.plain]
    exact toPys_plain ds ps e1
  | .lv ds, _, e => by
    simp only [toPy, Option.map_eq_some_iff] at e
    obtain ⟨ps, e1, e2⟩ := e
    subst e2
    simp only [PyData.plain]
    exact toPys_plain ds ps e1
  | .fn _, _, e => by simp [toPy] at e
  | .clo _ _, _, e => by simp [toPy] at e
  | .exc _, _, e => by simp [toPy] at e
  | .scr _, _, e => by simp [toPy] at e
theorem toPys_plain : ∀ (ds : List Dv) (ps : List PyData), toPys ds = some ps → PyData.plainAll ps = true
  | [], _, e => by simp only [toPys, Option.some.injEq] at e; subst e; rfl
  | d :: ds, _, e => by
    simp only [toPys] at e
    split at e
    · rename_i p ps e1 e2
      simp only [Option.some.injEq] at e; subst e
      simp only [PyData.plainAll, toPy_plain d p e1, toPys_plain ds ps e2, Bool.and_self]
    · cases e
end
end

/-! ### the two-place operators -/
def opOf : Bop → Operator
  | .add => .Add | .sub => .Sub | .mul => .Mult | .fdiv => .FloorDiv | .mod => .Mod | .pow => .Pow
theorem seqT_view_tup {r : Ro} {t : T} {xs : List Dv} (e : viewT r t = some (.tup xs)) : seqT r t = some xs := by
  cases t with
  | d x => simp only [viewT, Option.some.injEq] at e; subst e; rfl
  | fr ys => simp [viewT] at e
  | rf i => simp only [viewT] at e; split at e <;> simp at e
  | frd => simp [viewT] at e
theorem seqT_view_lv {r : Ro} {t : T} {xs : List Dv} (e : viewT r t = some (.lv xs)) : seqT r t = some xs := by
  cases t with
  | d x => simp only [viewT, Option.some.injEq] at e; subst e; rfl
  | fr ys => simp only [viewT, Option.some.injEq, Dv.lv.injEq] at e; subst e; rfl
  | rf i =>
    simp only [viewT, seqT] at *
    split at e
    · simp only [Option.some.injEq, Dv.lv.injEq] at e; subst e; rfl
    · cases e
  | frd => simp [viewT] at e
section
variable {P : Par} {X : Cx} {pins : List (Addr × Obj)} {σ : L2.St} {H : Hp} {s : Shared} {Ow : Own} {Xb X1 : Bs} {r : Ro} {t t1 t2 : T} {x y : V} {v u : Value} {Q : VK}

theorem hld_tup (h : Hld P H Ow Xb X1 σ t x) (R : Rho P H Ow X1 r σ) {ds : List Dv} (e : viewT r t = some (.tup ds)) : ∃ a xs, x = .ref a ∧ SqT P.K H a xs ∧ Rvs P (BsOf Ow X1) H ds xs := by
  have hv := h.view R e
  cases t with
  | d z =>
    simp only [viewT, Option.some.injEq] at e
    subst e
    have h : Rv P (BsOf Ow X1) H (.tup ds) x := h
    cases h with
    | tup t rs =>
      exact ⟨_, _, rfl, t.sq, rs⟩
  | fr ys => simp [viewT] at e
  | rf i => simp only [viewT] at e; split at e <;> simp at e
  | frd => simp [viewT] at e
theorem hld_lst (h : Hld P H Ow Xb X1 σ t x) (R : Rho P H Ow X1 r σ) {ds : List Dv} (e : viewT r t = some (.lv ds)) : ∃ a xs, x = .ref a ∧ H a = some (.lst xs) ∧ Rvs P (BsOf Ow X1) H ds xs := by
  cases t with
  | d z =>
    simp only [viewT, Option.some.injEq] at e
    subst e
    have h : Rv P (BsOf Ow X1) H (.lv ds) x := h
    cases h with
    | lv t _ rs => exact ⟨_, _, rfl, t, rs⟩
  | fr ys =>
    simp only [viewT, Option.some.injEq, Dv.lv.injEq] at e
    subst e
    obtain ⟨a, xs, h1, h2, h3, h4, h5, h6⟩ := h
    exact ⟨a, xs, h1, h5, h6⟩
  | rf i =>
    simp only [viewT] at e
    split at e
    · rename_i ys q
      simp only [Option.some.injEq, Dv.lv.injEq] at e
      subst e
      obtain ⟨a, xs, h1, h2, h3, h4⟩ := R.sl i _ q
      have h : σ[i]? = some (some x) := h
      rw [h2] at h
      simp only [Option.some.injEq] at h
      exact ⟨a, xs, h.symm, h3, h4⟩
    · cases e
  | frd => exact h.elim
theorem sq_len (I : Inv X pins σ H s) (hK : X.K = P.K) {a : Addr} {xs : List V} (h : SqL P.K H a xs ∨ SqT P.K H a xs) : xs.length ≤ sizeLine := by
  rw [← hK] at h
  rcases h with h | h
  · obtain ⟨_, _, _, z⟩ := I.list h; exact z
  · obtain ⟨_, _, _, z⟩ := I.tuple h; exact z

theorem binI_ok (I : Inv X pins σ H s) {op : Bop} {i j k : Int} (rx : RelV (.int i) v) (ry : RelV (.int j) u) (e : binI op i j = some k) (q : Q (.int k) H) :
    wpAny (model X.prog X.w) X.A (binaryOp (opOf op) v u) (EP X pins σ Q) X.xe s := by
  cases op with
  | add => simp only [binI, Option.some.injEq] at e; subst e; exact op_add pins s σ H _ _ v u Q I rx ry ⟨i, j, rfl, rfl, q⟩
  | sub => simp only [binI, Option.some.injEq] at e; subst e; exact op_sub pins s σ H _ _ v u Q I rx ry ⟨i, j, rfl, rfl, q⟩
  | mul =>
    simp only [binI] at e
    split at e
    · rename_i hc
      have hc' : CMulW i j := by simp only [okMul, decide_eq_true_eq] at hc; exact hc
      simp only [Option.some.injEq] at e; subst e
      exact op_mulW pins s σ H _ _ v u Q I rx ry ⟨i, j, rfl, rfl, hc', q⟩
    · cases e
  | fdiv =>
    simp only [binI] at e
    split at e
    · rename_i hc
      simp only [okDiv, Bool.and_eq_true, decide_eq_true_eq] at hc
      simp only [Option.some.injEq] at e; subst e
      obtain ⟨t, rfl⟩ := rx
      obtain ⟨t', rfl⟩ := ry
      exact floordiv_int hc.1 ⟨.int _, H, I.tok _, ⟨_, rfl⟩, q⟩ (.inl (PyProof.noPylong_of_log2 hc.2))
    · cases e
  | mod =>
    simp only [binI] at e
    split at e
    · rename_i hc
      simp only [Option.some.injEq] at e; subst e
      exact op_modN pins s σ H _ _ v u Q I rx ry ⟨i, j, rfl, rfl, hc, q⟩
    · cases e
  | pow =>
    simp only [binI] at e
    split at e
    · rename_i hc
      simp only [Option.some.injEq] at e; subst e
      exact op_pow pins s σ H _ _ v u Q I rx ry ⟨i, j, rfl, rfl, hc, q⟩
    · cases e
end
end MP
set_option linter.all false
set_option Elab.async false
set_option maxRecDepth 100000
set_option maxHeartbeats 4000000
/-! MP5: tuple * int, whatever the int. -/
namespace MP
open PySem PySem.Spec PyProof.Rows L2
theorem tup_mul_same (l : Addr) (items : Array Value) (n : Nat) (dd : Option Addr) (sl : Array (Option Value)) (x : Int) (u : Tok) (c0 : (decide (x < -(2 ^ 63)) || decide (x ≥ 2 ^ 63)) = false) (c1 : (items.isEmpty || x == 1) = true) :
    Meets (Builtin.«tuple.__mul__» ⟨[.ref l, .int x u], []⟩) (fun _ R s => s.heap.get? l = some { cls := .type "tuple", dict := dd, data := .seq items n, slots := sl } ∧
      R (.ok (.ret (Value.ref l))) s) :=
  .of_wp fun prog w A R s h => by
    obtain ⟨hp, g, d, tk, os⟩ := s
    obtain ⟨hl, h⟩ := h
    have f1 := AutoSeq1.idx_int
    wp_walk using AutoSeq1.wpAny_loadPart' hl
    repeat (first
      | (refine wpAny_ite_false (decide_eq_false (by rw [c0]; exact Bool.false_ne_true)) ?_; wp_walk using AutoSeq1.wpAny_loadPart' hl)
      | (refine wpAny_ite_true (decide_eq_true c1) ?_; wp_walk using AutoSeq1.wpAny_loadPart' hl))
    exact ⟨_, rfl, h⟩
theorem tup_mul_none (l : Addr) (items : Array Value) (n : Nat) (dd : Option Addr) (sl : Array (Option Value)) (x : Int) (u : Tok) (c0 : (decide (x < -(2 ^ 63)) || decide (x ≥ 2 ^ 63)) = false) (c1 : (items.isEmpty || x == 1) = false)
    (c2 : (decide (x ≤ 0) || items.isEmpty) = true) :
    Meets (Builtin.«tuple.__mul__» ⟨[.ref l, .int x u], []⟩) (fun _ R s => s.heap.get? l = some { cls := .type "tuple", dict := dd, data := .seq items n, slots := sl } ∧
      R (.ok (.ret (Value.ref s.heap.objs.size))) { s with heap := s.heap.push { cls := Value.type "tuple", data := Data.seq #[] }, toks := s.toks }) :=
  .of_wp fun prog w A R s h => by
    obtain ⟨hp, g, d, tk, os⟩ := s
    obtain ⟨hl, h⟩ := h
    have f1 := AutoSeq1.idx_int
    wp_walk using AutoSeq1.wpAny_loadPart' hl
    repeat (first
      | (refine wpAny_ite_false (decide_eq_false (by rw [c0]; exact Bool.false_ne_true)) ?_; wp_walk using AutoSeq1.wpAny_loadPart' hl)
      | (refine wpAny_ite_false (decide_eq_false (by rw [c1]; exact Bool.false_ne_true)) ?_; wp_walk using AutoSeq1.wpAny_loadPart' hl)
      | (refine wpAny_ite_true (decide_eq_true c2) ?_; wp_walk using AutoSeq1.wpAny_loadPart' hl))
    exact ⟨_, rfl, h⟩

section
variable {P : Par} {X : Cx} {pins : List (Addr × Obj)} {σ : L2.St} {H : Hp} {s : Shared} {Ow : Own} {Xb X1 : Bs} {r : Ro} {t t1 t2 : T} {x y : V} {v u : Value} {Q : VK}
/-- t * k, k from -10^6 to 1000 -/
theorem repT_ok {l : Addr} {xs : List V} {k : Int} {tk : Tok} (I : Inv X pins σ H s) (hT : SqT X.K H l xs) (h1 : -1000000 ≤ k) (h2 : k ≤ 1000) (hz : xs.length ≤ 1000)
    (q : ∀ a H', (H' = H ∧ a = l ∧ (List.replicate k.toNat xs).flatten = xs) ∨ ((∃ ob : Obj, ob.dict = none ∧ H a = none ∧ H' = upd H a (.frz ob (.tup (List.replicate k.toNat xs).flatten)))) → Q (.ref a) H') :
    wpAny (model X.prog X.w) X.A (binaryOp .Mult (.ref l) (.int k tk)) (EP X pins σ Q) X.xe s := by
  obtain ⟨its, r, ⟨⟨cls, dd, data, sl⟩, ho, hc, n, hd⟩, hs⟩ := I.tuple hT
  simp only at hc hd
  subst hc hd
  have hle : its.length = xs.length := r.length.symm
  have c0 : (decide (k < -(2 ^ 63)) || decide (k ≥ 2 ^ 63)) = false := by
    rw [decide_eq_false (by omega), decide_eq_false (by omega)] <;> rfl
  have core : ∀ {Qf : Value → Shared → Prop} {a : Value} {s2 : Shared}, (Meets (Builtin.«tuple.__mul__» ⟨[.ref l, .int k tk], []⟩) (fun _ R s => s.heap.get? l = some { cls := .type "tuple", dict := dd, data := .seq its.toArray n, slots := sl } ∧ R (.ok (.ret a)) s2)) → True := fun _ => trivial
  by_cases hsame : xs = [] ∨ k = 1
  · have c1 : (its.toArray.isEmpty || k == 1) = true := by
      rcases hsame with z | z
      · have : its = [] := List.eq_nil_of_length_eq_zero (by rw [hle, z]; rfl)
        subst this; rfl
      · subst z; simp
    refine wpAny_binaryOp_repeat_ref (T := "tuple") (U := "int") (by decide) ⟨_, ho, rfl⟩ (fun s' => typeIs_int s' k tk) noFill_tuple_mul F.fills_int_mul F.slot_int_rmul repeat_tuple F.slot_int_index.lookup
      (call_meets F.slot_int_rmul (typeIs_int s k tk) F.entry_int_rmul (F.args_int_rmul_2 _ _) (int_rmul_tuple k tk l its.toArray n dd sl)
        ⟨ho, rfl, ⟨_, ho, rfl⟩, call_meets F.slot_tuple_mul ⟨_, ho, rfl⟩ F.entry_tuple_mul (F.args_tuple_mul_2 _ _) (tup_mul_same l its.toArray n dd sl k tk c0 c1) ⟨ho, ?_⟩⟩)
    refine ⟨.ref l, H, I, rfl, q l H (.inl ⟨rfl, rfl, ?_⟩)⟩
    rcases hsame with z | z
    · subst z
      have : ∀ m : Nat, (List.replicate m ([] : List V)).flatten = [] := fun m => by
        induction m with
        | zero => rfl
        | succ m ih => rw [List.replicate_succ, List.flatten_cons, ih]; rfl
      exact this _
    · subst z; simp
  · have hne : xs ≠ [] := fun z => hsame (.inl z)
    have hk1 : k ≠ 1 := fun z => hsame (.inr z)
    have hi : its.toArray.isEmpty = false := by
      cases its with
      | nil => exact absurd (List.eq_nil_of_length_eq_zero (by rw [← hle]; rfl)) hne
      | cons a b => rfl
    have c1 : (its.toArray.isEmpty || k == 1) = false := by
      rw [hi, Bool.false_or]
      exact beq_eq_false_iff_ne.mpr hk1
    by_cases hk0 : k ≤ 0
    · have c2 : (decide (k ≤ 0) || its.toArray.isEmpty) = true := by rw [decide_eq_true hk0]; rfl
      refine wpAny_binaryOp_repeat_ref (T := "tuple") (U := "int") (by decide) ⟨_, ho, rfl⟩ (fun s' => typeIs_int s' k tk) noFill_tuple_mul F.fills_int_mul F.slot_int_rmul repeat_tuple F.slot_int_index.lookup
        (call_meets F.slot_int_rmul (typeIs_int s k tk) F.entry_int_rmul (F.args_int_rmul_2 _ _) (int_rmul_tuple k tk l its.toArray n dd sl)
          ⟨ho, rfl, ⟨_, ho, rfl⟩, call_meets F.slot_tuple_mul ⟨_, ho, rfl⟩ F.entry_tuple_mul (F.args_tuple_mul_2 _ _) (tup_mul_none l its.toArray n dd sl k tk c0 c1 c2) ⟨ho, ?_⟩⟩)
      have hz0 : k.toNat = 0 := by omega
      have hn := I.hok.fresh (Nat.le_refl s.heap.objs.size)
      exact lay_tup (s := s) (t' := s.toks) (h := s.heap) (its := []) I .nil (Nat.zero_le _) fun p ob hd hp => q p _ (.inr ⟨ob, hd, hp, by rw [hz0]; rfl⟩)
    · have hsz0 : its.toArray.size = xs.length := by rw [List.size_toArray, hle]
      have hm : ((its.toArray.size : Nat) : Int) * k ≤ 1000000 := by
        rw [hsz0]
        have a1 : ((xs.length : Nat) : Int) * k ≤ 1000 * k := Int.mul_le_mul_of_nonneg_right (by omega) (by omega)
        omega
      have flen : (List.replicate k.toNat its).flatten.length ≤ sizeLine := by
        rw [PyProof.Rows.lm_len_rep_flat, hle, sizeLine_eq]
        have a1 : k.toNat * xs.length ≤ 1000 * 1000 := Nat.mul_le_mul (by omega) hz
        omega
      have c2 : (decide (k ≤ 0) || its.toArray.isEmpty) = false := by
        rw [hi, Bool.or_false]
        exact decide_eq_false (by omega)
      have c4 : Builtin.Tuple.tupleTooMany (((its.toArray.size : Nat) : Int) * k) = false := by
        unfold Builtin.Tuple.tupleTooMany
        rw [sizeLine_eq]
        exact decide_eq_false (by omega)
      refine wpAny_binaryOp_repeat_ref (T := "tuple") (U := "int") (by decide) ⟨_, ho, rfl⟩ (fun s' => typeIs_int s' k tk) noFill_tuple_mul F.fills_int_mul F.slot_int_rmul repeat_tuple F.slot_int_index.lookup
        (call_meets F.slot_int_rmul (typeIs_int s k tk) F.entry_int_rmul (F.args_int_rmul_2 _ _) (int_rmul_tuple k tk l its.toArray n dd sl)
          ⟨ho, rfl, ⟨_, ho, rfl⟩, call_meets F.slot_tuple_mul ⟨_, ho, rfl⟩ F.entry_tuple_mul (F.args_tuple_mul_2 _ _) (tuple_mulW l its.toArray n dd sl k tk c0 c1 c2 (by omega) c4 (by rw [size_rep, List.size_toArray]; exact flen)) ⟨ho, ?_⟩⟩)
      rw [size_rep]
      exact lay_tup (s := s) (t' := s.toks) (h := s.heap) I (r.rep k.toNat) (by rw [PyProof.Rows.lm_len_rep_flat, sizeLine_eq]; have a1 : k.toNat * xs.length ≤ 1000 * 1000 := Nat.mul_le_mul (by omega) hz; omega) fun p ob hd hp => q p _ (.inr ⟨ob, hd, hp, rfl⟩)

theorem binT_ok (I : Inv X pins σ H s) (hK : X.K = P.K) (R : Rho P H Ow X1 r σ) (hx : ∀ a, Xb a → X1 a) (h1 : Hld P H Ow Xb X1 σ t1 x) (h2 : Hld P H Ow Xb X1 σ t2 y) (rx : RelV x v) (ry : RelV y u) {op : Bop}
    (e : binT r op t1 t2 = some t) (q : ∀ v' H', Okp P H Ow Xb σ t r v' H' → Q v' H') : wpAny (model X.prog X.w) X.A (binaryOp (opOf op) v u) (EP X pins σ Q) X.xe s := by
  unfold binT at e
  split at e
  · rename_i i j e1 e2
    simp only [Option.map_eq_some_iff] at e
    obtain ⟨k, e3, e4⟩ := e
    subst e4
    have w1 := h1.view R e1
    have w2 := h2.view R e2
    cases w1; cases w2
    exact binI_ok I rx ry e3 (q _ _ (.int R hx))
  · rename_i i j e1 e2
    split at e
    · simp only [Option.some.injEq] at e; subst e
      have w1 := h1.view R e1
      have w2 := h2.view R e2
      cases w1; cases w2
      cases rx; cases ry
      exact sub_bool ⟨.int _, H, I.tok _, ⟨_, rfl⟩, q _ _ (.int R hx)⟩
    · cases e
  · rename_i ds es e1 e2
    split at e
    · split at e
      · rename_i hl
        simp only [Option.some.injEq] at e; subst e
        obtain ⟨a, xs, rfl, s1, r1⟩ := hld_tup h1 R e1
        obtain ⟨b, ys, rfl, s2, r2⟩ := hld_tup h2 R e2
        have z1 := r1.length
        have z2 := r2.length
        have vw1 : viewT r t1 = some (.tup ds) := e1
        have asd : ∀ {t : T} {ds : List Dv} {a : Addr}, viewT r t = some (.tup ds) → Hld P H Ow Xb X1 σ t (.ref a) → Rv P (BsOf Ow Xb) H (.tup ds) (.ref a) := fun {t ds a} e h => by
          cases t with
          | d z => simp only [viewT, Option.some.injEq] at e; subst e; exact Rv.weak (BsOf.mono hx) h
          | fr ys => simp [viewT] at e
          | rf i => simp only [viewT] at e; split at e <;> simp at e
          | frd => simp [viewT] at e
        refine op_catZ pins s σ H _ _ v u Q I rx ry ⟨a, b, xs, ys, rfl, rfl, by rw [hK]; exact s1, by rw [hK]; exact s2, by rw [sizeLine_eq]; unfold line at hl; omega, fun z => ?_, fun _ z => ?_, fun _ _ p ob hd hp => ?_⟩
        · have : ds = [] := List.eq_nil_of_length_eq_zero (by rw [z1, z]; rfl)
          subst this
          exact q _ _ (.data (R.weak hx) (asd e2 h2))
        · have : es = [] := List.eq_nil_of_length_eq_zero (by rw [z2, z]; rfl)
          subst this
          rw [List.append_nil] at q
          exact q _ _ (.data (R.weak hx) (asd e1 h1))
        · exact q _ _ (.tuple R hx hd hp (r1.append r2))
      · cases e
    · cases e
  · rename_i ds es e1 e2
    split at e
    · split at e
      · rename_i hl
        simp only [Option.some.injEq] at e; subst e
        obtain ⟨a, xs, rfl, s1, r1⟩ := hld_lst h1 R e1
        obtain ⟨b, ys, rfl, s2, r2⟩ := hld_lst h2 R e2
        have z1 := r1.length
        have z2 := r2.length
        exact op_cat pins s σ H _ _ v u Q I rx ry ⟨a, b, xs, ys, rfl, rfl, s1, s2, by rw [sizeLine_eq]; unfold line at hl; omega, fun p hp => q _ _ (.list R hx hp (r1.append r2))⟩
      · cases e
    · cases e
  · rename_i ds k e1 e2
    split at e
    · split at e
      · rename_i hl
        simp only [Option.some.injEq] at e; subst e
        obtain ⟨a, xs, rfl, s1, r1⟩ := hld_tup h1 R e1
        have z1 := r1.length
        have w2 := h2.view R e2
        cases w2
        obtain rfl : v = Value.ref a := rx
        obtain ⟨tk, rfl⟩ := ry
        refine repT_ok I (by rw [hK]; exact s1) hl.1 hl.2.1 (by omega) fun b H' hq => ?_
        rcases hq with ⟨rfl, rfl, e5⟩ | ⟨ob, hd, hn, rfl⟩
        · have asd : Rv P (BsOf Ow Xb) H' (.tup (rep ds k.toNat)) (.ref b) := by
            have hr := r1.rep k.toNat
            rw [e5] at hr
            cases t1 with
            | d z =>
              simp only [viewT, Option.some.injEq] at e1; subst e1
              have h1 : Rv P (BsOf Ow X1) H' (.tup ds) (.ref b) := h1
              cases h1 with
              | @tup _ ys _ tt rs =>
                refine Rv.weak (BsOf.mono hx) (.tup tt ?_)
                have : ys = xs := by
                  have i1 : SqT X.K H' b ys := by
                    rw [hK]; exact tt.sq
                  exact I.tuple_inj i1 (by rw [hK]; exact s1)
                rw [this]; exact hr
            | fr ys => simp [viewT] at e1
            | rf i => simp only [viewT] at e1; split at e1 <;> simp at e1
            | frd => simp [viewT] at e1
          exact q _ _ (.data (R.weak hx) asd)
        · exact q _ _ (.tuple R hx hd hn (r1.rep k.toNat))
      · cases e
    · cases e
  · rename_i ds k e1 e2
    split at e
    · split at e
      · rename_i hl
        simp only [Option.some.injEq] at e; subst e
        obtain ⟨a, xs, rfl, s1, r1⟩ := hld_lst h1 R e1
        have z1 := r1.length
        have w2 := h2.view R e2
        cases w2
        exact op_rep pins s σ H _ _ v u Q I rx ry ⟨a, k, xs, rfl, rfl, s1, by omega, by omega, by rw [sizeLine_eq, ← z1]; exact hl.2.2, fun p hp => q _ _ (.list R hx hp (r1.rep k.toNat))⟩
      · cases e
    · cases e
  · cases e

/-! ### comparisons -/
def copOf : Cop → CmpOp
  | .eq => .Eq | .ne => .NotEq | .lt => .Lt | .le => .LtE | .gt => .Gt | .ge => .GtE | .inn => .In | .nin => .NotIn
theorem cmpT_ok (I : Inv X pins σ H s) (hK : X.K = P.K) (hu : X.A.units + 70 < cLine) (R : Rho P H Ow X1 r σ) (h1 : Hld P H Ow Xb X1 σ t1 x) (h2 : Hld P H Ow Xb X1 σ t2 y) (rx : RelV x v) (ry : RelV y u) {op : Cop} {k : Bool}
    (e : cmpT r op t1 t2 = some k) (q : Q (.bl k) H) : wpAny (model X.prog X.w) X.A (compareOp (copOf op) v u) (EP X pins σ Q) X.xe s := by
  unfold cmpT at e
  split at e
  · rename_i i j e1 e2
    have w1 := h1.view R e1
    have w2 := h2.view R e2
    cases w1; cases w2
    cases op <;> simp only [cmpI, Option.some.injEq, reduceCtorEq] at e <;> subst e
    · exact op_eq pins s σ H _ _ v u Q I rx ry ⟨rfl, by rw [show decide (V.int i = V.int j) = decide (i = j) from by simp]; exact q⟩
    · exact op_ne pins s σ H _ _ v u Q I rx ry ⟨rfl, by rw [show decide (V.int i = V.int j) = decide (i = j) from by simp]; exact q⟩
    · exact op_lt pins s σ H _ _ v u Q I rx ry ⟨i, j, rfl, rfl, q⟩
    · exact op_le pins s σ H _ _ v u Q I rx ry ⟨i, j, rfl, rfl, q⟩
    · exact op_gt pins s σ H _ _ v u Q I rx ry ⟨i, j, rfl, rfl, q⟩
    · exact op_ge pins s σ H _ _ v u Q I rx ry ⟨i, j, rfl, rfl, q⟩
  · rename_i d1 d2 _ e1 e2
    split at e
    · rename_i p1 p2 f1 f2
      have w1 := h1.view R e1
      have w2 := h2.view R e2
      obtain ⟨as, c1⟩ := reads_of I hK _ _ _ _ w1 rx f1
      obtain ⟨bs, c2⟩ := reads_of I hK _ _ _ _ w2 ry f2
      have pl1 := toPy_plain _ _ f1
      have pl2 := toPy_plain _ _ f2
      have fin : EP X pins σ Q (.bool k) s := ⟨.bl k, H, I, rfl, q⟩
      cases op <;> simp only [cmpP] at e
      · unfold pyEq at e; split at e
        · rename_i hd
          simp only [Option.some.injEq] at e; subst e
          exact SeqAt.eq_plain c1 c2 pl1 pl2 (by omega) fin
        · cases e
      · unfold pyEq at e; split at e
        · rename_i hd
          simp only [Option.map_some, Option.some.injEq] at e; subst e
          exact SeqAt.ne_plain c1 c2 pl1 pl2 (by omega) fin
        · cases e
      · unfold pyLt at e; split at e
        · rename_i hd
          simp only [Option.some.injEq] at e; subst e
          exact PySem.W.lt_data c1 c2 hd.2.2.1 (by intro z; rw [z] at hd; simp [isNonP] at hd) (by omega) fin
        · cases e
      · cases e
      · unfold pyLt at e; split at e
        · rename_i hd
          simp only [Option.some.injEq] at e; subst e
          have al := PySem.W.alike_comm p2 p1
          exact PySem.W.gt_data c1 c2 (by rw [← al]; exact hd.2.2.1) (by
            intro z; rw [z] at hd
            have h4 := hd.2.2.1
            have h5 := hd.2.2.2
            cases p2 <;> simp_all [PySem.W.alike, isNonP]) (by omega) fin
        · cases e
      · cases e
      · split at e
        · rename_i zs hz
          split at e
          · rename_i hd
            simp only [Option.some.injEq] at e; subst e
            cases p2 <;> simp only [isSeqP, Option.some.injEq, reduceCtorEq] at hz
            · subst hz
              have hd2 := hd.2; simp only [PyData.depth] at hd2
              exact SeqAt.in_list_data c2 c1 (by simpa [PyData.plain] using pl2) pl1 (by omega) fin
            · subst hz
              have hd2 := hd.2; simp only [PyData.depth] at hd2
              exact SeqAt.in_tuple_data c2 c1 (by simpa [PyData.plain] using pl2) pl1 (by omega) fin
          · cases e
        · cases e
      · split at e
        · rename_i zs hz
          split at e
          · rename_i hd
            simp only [Option.some.injEq] at e; subst e
            cases p2 <;> simp only [isSeqP, Option.some.injEq, reduceCtorEq] at hz
            · subst hz
              have hd2 := hd.2; simp only [PyData.depth] at hd2
              exact SeqAt.notIn_list_data c2 c1 (by simpa [PyData.plain] using pl2) pl1 (by omega) fin
            · subst hz
              have hd2 := hd.2; simp only [PyData.depth] at hd2
              exact SeqAt.notIn_tuple_data c2 c1 (by simpa [PyData.plain] using pl2) pl1 (by omega) fin
          · cases e
        · cases e
    · cases e
  · cases e
end
end MP
set_option linter.all false
set_option Elab.async false
set_option maxRecDepth 100000
set_option maxHeartbeats 1000000
/-! MP6: expressions. -/
namespace MP
open PySem PySem.Spec PyProof.Rows L2

def WXof (P : Par) (W : XW) : WX := fun cls d σ H => ∃ c a, P.ca c = some a ∧ cls = Value.ref a ∧ W c d σ H
structure Cok (P : Par) (X : Cx) (W : XW) : Prop where
  K : X.K = P.K
  calm : X.calm = true
  nd : X.N.Nodup
  un : X.A.units + 150 < cLine
  tk : Takes X (WXof P W)

section
variable {P : Par} {W : XW} {X : Cx} {pins : List (Addr × Obj)} {σ : L2.St} {H : Hp} {s : Shared} {Ow : Own} {Xb : Bs} {r : Ro} {Q : VK} {a b c : Expr} {fa fb fc : Ro → Re T} {pos : Pos}

theorem step1 {k : T → Ro → Re T} (ha : PE X a (tE P W fa)) (I : Inv X pins σ H s) (R : Rho P H Ow Xb r σ) (hf : Fin P W Xb σ H Ow ((fa r).bind k) Q) {Qf : Value → Shared → Prop}
    (hc : ∀ x r1 u s1 v H1 Ow1 X1, fa r = .ok x r1 → Inv X pins σ H1 s1 → RelV v u → Ext H Ow H1 Ow1 → (∀ a, Xb a → X1 a) → (∀ a, X1 a → Xb a ∨ H a = none) → Rho P H1 Ow1 X1 r1 σ → Hld P H1 Ow1 Xb X1 σ x v → Okp P H Ow Xb σ x r1 v H1 →
      Fin P W Xb σ H1 Ow1 (k x r1) Q → Qf u s1) :
    wpAny (model X.prog X.w) X.A (eval a X.env) Qf X.xe s := by
  cases e : fa r with
  | ok x r1 =>
    rw [e] at hf
    refine thn (ha.run pins s σ H (fun v1 H1 => Okp P H Ow Xb σ x r1 v1 H1) I ⟨r, Ow, Xb, R, by rw [e]; exact fun v H' h => h⟩) fun u s1 ⟨v, H1, I1, rv, ok⟩ => ?_
    obtain ⟨Ow1, X1, e1, x1, x2, R1, h1⟩ := ok.hld R
    exact hc x r1 u s1 v H1 Ow1 X1 e I1 rv e1 x1 x2 R1 h1 ok (hf.lift e1)
  | exc c r1 =>
    rw [e] at hf
    refine thn (ha.run pins s σ H (fun v1 H1 => False) I ⟨r, Ow, Xb, R, by rw [e]; exact hf⟩) fun u s1 ⟨v, H1, I1, rv, ok⟩ => ok.elim
  | bad =>
    rw [e] at hf
    exact hf.elim
/-- the second of two: the first one's value is held meanwhile -/
theorem step2 {k : T → Ro → Re T} {t0 : T} {v0 : V} {X0 : Bs} (ha : PE X a (tE P W fa)) (I : Inv X pins σ H s) (R : Rho P H Ow Xb r σ) (h0 : Hld P H Ow X0 Xb σ t0 v0) (hx0 : ∀ a, X0 a → Xb a) (hf : Fin P W X0 σ H Ow ((fa r).bind k) Q)
    {Qf : Value → Shared → Prop}
    (hc : ∀ x r1 u s1 v H1 Ow1 X1, fa r = .ok x r1 → Inv X pins σ H1 s1 → RelV v u → Ext H Ow H1 Ow1 → (∀ a, X0 a → X1 a) → Rho P H1 Ow1 X1 r1 σ → Hld P H1 Ow1 X0 X1 σ t0 v0 → Hld P H1 Ow1 X0 X1 σ x v →
      Fin P W X0 σ H1 Ow1 (k x r1) Q → Qf u s1) :
    wpAny (model X.prog X.w) X.A (eval a X.env) Qf X.xe s := by
  cases e : fa r with
  | ok x r1 =>
    rw [e] at hf
    refine thn (ha.run pins s σ H (fun v1 H1 => Okp P H Ow Xb σ x r1 v1 H1) I ⟨r, Ow, Xb, R, by rw [e]; exact fun v H' h => h⟩) fun u s1 ⟨v, H1, I1, rv, ok⟩ => ?_
    obtain ⟨Ow1, X1, e1, x1, x2, R1, h1⟩ := ok.hld R
    refine hc x r1 u s1 v H1 Ow1 X1 e I1 rv e1 (fun a z => x1 a (hx0 a z)) R1 (h0.ext e1 R1 x1 x2) ?_ (hf.lift e1)
    cases x with
    | fr ds =>
      obtain ⟨a, xs, q1, q2, q3, q⟩ := h1
      exact ⟨a, xs, q1, q2, fun z => q3 (hx0 a z), q⟩
    | _ => exact h1
  | exc c r1 =>
    rw [e] at hf
    refine thn (ha.run pins s σ H (fun v1 H1 => False) I ⟨r, Ow, Xb, R, by rw [e]; exact fun H' Ow' d e' R' => hf H' Ow' d e' (R'.weak hx0)⟩) fun u s1 ⟨v, H1, I1, rv, ok⟩ => ok.elim
  | bad =>
    rw [e] at hf
    exact hf.elim

/-! ### constants, names -/
theorem s_const {e : Expr} {x : Dv} {v : V} (h : PE X e (tC v)) (hv : ∀ B H, Rv P B H x v) : PE X e (tE P W fun r => .ok (.d x) r) := by
  refine ⟨fun pins s σ H Q I ⟨r, Ow, Xb, R, hf⟩ => ?_⟩
  exact h.run pins s σ H Q I (hf v H (.data R (hv _ _)))
theorem s_var {i : Nat} {x : Str} (hN : X.N[i]? = some x) (hv : Vis X.env.scope x) (hd : (x == ("__debug__" : Str)) = false) (hcd : (x == ("__classdict__" : Str)) = false) :
    PE X (.Name x pos) (tE P W fun r => match r[i]? with
      | some (.val x) => .ok (.d x) r
      | some (.own _) => .ok (.rf i) r
      | _ => .bad) := by
  refine ⟨fun pins s σ H Q I ⟨r, Ow, Xb, R, hf⟩ => ?_⟩
  cases q : r[i]? with
  | none => simp only [q] at hf
  | some sl =>
    cases sl with
    | none => simp only [q] at hf
    | val x =>
      simp only [q] at hf
      obtain ⟨v, h1, h2⟩ := R.sl i _ q
      exact (pe_var hN hv hd hcd).run pins s σ H Q I ⟨v, h1, hf v H (.data R h2)⟩
    | own xs =>
      simp only [q] at hf
      obtain ⟨a, xs, h0, h1, h2, h3⟩ := R.sl i _ q
      exact (pe_var hN hv hd hcd).run pins s σ H Q I ⟨.ref a, h1, hf _ H ⟨Ow, .refl, R, h1⟩⟩
    | ownd xs => simp only [q] at hf

/-! ### operators -/
theorem s_bin {op : Bop} (C : Cok P X W) (ha : PE X a (tE P W fa)) (hb : PE X b (tE P W fb)) : PE X (.BinOp a (opOf op) b pos) (tE P W fun r => (fa r).bind fun x r1 => (fb r1).bind fun y r2 => match binT r2 op x y with
    | some t => .ok t r2
    | none => .bad) := by
  refine ⟨fun pins s σ H Q I ⟨r, Ow, Xb, R, hf⟩ => ?_⟩
  refine wpAny_BinOp (step1 ha I R hf fun x r1 u s1 v H1 Ow1 X1 _ I1 rv e1 x1 _ R1 h1 _ f1 => ?_)
  refine step2 hb I1 R1 h1 x1 f1 fun y r2 u2 s2 v2 H2 Ow2 X2 _ I2 rv2 e2 x2 R2 g1 g2 f2 => ?_
  cases q : binT r2 op x y with
  | none => rw [q] at f2; exact f2.elim
  | some t =>
    rw [q] at f2
    exact binT_ok I2 C.K R2 x2 g1 g2 rv rv2 q f2
theorem s_neg (ha : PE X a (tE P W fa)) : PE X (.UnaryOp .USub a pos) (tE P W fun r => (fa r).bind fun x r1 => match x with
    | .d (.int i) => .ok (.d (.int (-i))) r1
    | _ => .bad) := by
  refine ⟨fun pins s σ H Q I ⟨r, Ow, Xb, R, hf⟩ => ?_⟩
  refine UnaryOp_ (step1 ha I R hf fun x r1 u s1 v H1 Ow1 X1 _ I1 rv e1 x1 _ R1 h1 _ f1 => ?_)
  cases x with
  | d z =>
    cases z with
    | int i =>
      have h1 : Rv P (BsOf Ow1 X1) H1 (.int i) v := h1
      cases h1
      exact un_neg pins s1 σ H1 _ u Q I1 rv ⟨i, rfl, f1 _ _ (.int R1 x1)⟩
    | _ => exact f1.elim
  | _ => exact f1.elim
theorem s_cmp {op : Cop} (C : Cok P X W) (ha : PE X a (tE P W fa)) (hb : PE X b (tE P W fb)) (hm : behindInMarks (copOf op) b = false) : PE X (.Compare a [copOf op] [b] pos) (tE P W fun r => (fa r).bind fun x r1 => (fb r1).bind fun y r2 => match cmpT r2 op x y with
    | some k => .ok (.d (.bl k)) r2
    | none => .bad) := by
  refine ⟨fun pins s σ H Q I ⟨r, Ow, Xb, R, hf⟩ => ?_⟩
  refine wpAny_Compare1 (step1 ha I R hf fun x r1 u s1 v H1 Ow1 X1 _ I1 rv e1 x1 _ R1 h1 _ f1 => ?_) hm
  refine step2 hb I1 R1 h1 x1 f1 fun y r2 u2 s2 v2 H2 Ow2 X2 _ I2 rv2 e2 x2 R2 g1 g2 f2 => ?_
  cases q : cmpT r2 op x y with
  | none => rw [q] at f2; exact f2.elim
  | some k =>
    rw [q] at f2
    exact cmpT_ok I2 C.K (by have := C.un; omega) R2 g1 g2 rv rv2 q (f2 _ _ (.bl R2 x2))

/-! ### tests -/
def tT (P : Par) (W : XW) (f : Ro → Re Bool) : TT := fun σ H Q => ∃ r Ow Xb, Rho P H Ow Xb r σ ∧ match f r with
  | .ok k r' => ∀ H' Ow', Ext H Ow H' Ow' → Rho P H' Ow' Xb r' σ → Q k H'
  | .exc c r' => ∀ H' Ow' d, Ext H Ow H' Ow' → Rho P H' Ow' Xb r' σ → W c d σ H'
  | .bad => False
/-- a test of a plain expression -/
theorem t_val {e : Expr} {f : Ro → Re T} (h : PE X e (tE P W f)) (he : ∀ whole, isTrue e X.env whole = (do let v ← whole; standAt e.pos; holding [v] (truthy v))) : PT X e (tT P W fun r => asB (f r)) := by
  refine ⟨fun pins s σ H Q I ⟨r, Ow, Xb, R, hf⟩ => ?_⟩
  refine (pt_val (t := tE P W f) h he).run pins s σ H Q I ⟨r, Ow, Xb, R, ?_⟩
  cases e : f r with
  | ok t r1 =>
    have hf' := hf
    simp only [e] at hf'
    cases t with
    | d z =>
      cases z with
      | bl k =>
        rintro v H' ⟨Ow', e', R', rv⟩
        cases rv
        exact ⟨_, rfl, hf' H' Ow' e' R'⟩
      | _ => exact hf'.elim
    | _ => exact hf'.elim
  | exc c r1 =>
    have hf' := hf
    simp only [e] at hf'
    exact hf'
  | bad =>
    have hf' := hf
    simp only [e] at hf'
    exact hf'.elim
end
end MP
set_option linter.all false
set_option Elab.async false
set_option maxRecDepth 100000
set_option maxHeartbeats 1000000
/-! MP7: expressions, further. -/
namespace MP
open PySem PySem.Spec PyProof.Rows L2

theorem PE.imp {X : Cx} {e : Expr} {t t' : TE} (h : PE X e t) (k : ∀ σ H Q, t' σ H Q → t σ H Q) : PE X e t' := ⟨fun pins s σ H Q I q => h.run pins s σ H Q I (k σ H Q q)⟩
theorem PT.imp {X : Cx} {e : Expr} {t t' : TT} (h : PT X e t) (k : ∀ σ H Q, t' σ H Q → t σ H Q) : PT X e t' := ⟨fun pins s σ H Q I q => h.run pins s σ H Q I (k σ H Q q)⟩
theorem PW.imp {X : Cx} {e : Expr} {t t' : TT} (h : PW X e t) (k : ∀ σ H Q, t' σ H Q → t σ H Q) : PW X e t' := ⟨fun wh pins s σ H Q I q => h.run wh pins s σ H Q I (k σ H Q q)⟩
theorem PA.imp {X : Cx} {es : List Expr} {t t' : TA} (h : PA X es t) (k : ∀ σ H Q, t' σ H Q → t σ H Q) : PA X es t' := ⟨fun pos pins s σ H Q I q => h.run pos pins s σ H Q I (k σ H Q q)⟩

section
variable {P : Par} {W : XW} {X : Cx} {pins : List (Addr × Obj)} {σ : L2.St} {H : Hp} {s : Shared} {Ow : Own} {Xb : Bs} {r : Ro} {Q : VK} {a b c : Expr} {fa fb fc : Ro → Re T} {ga gb : Ro → Re Bool} {pos : Pos}

theorem into {k : T → Ro → Re T} {Q' : VK} (R : Rho P H Ow Xb r σ) (hf : Fin P W Xb σ H Ow ((fa r).bind k) Q)
    (hc : ∀ x r1 v H1 Ow1 X1, fa r = .ok x r1 → Ext H Ow H1 Ow1 → (∀ a, Xb a → X1 a) → (∀ a, X1 a → Xb a ∨ H a = none) → Rho P H1 Ow1 X1 r1 σ → Hld P H1 Ow1 Xb X1 σ x v → Okp P H Ow Xb σ x r1 v H1 → Fin P W Xb σ H1 Ow1 (k x r1) Q → Q' v H1) : tE P W fa σ H Q' := by
  refine ⟨r, Ow, Xb, R, ?_⟩
  cases e : fa r with
  | ok x r1 =>
    rw [e] at hf
    rintro v H1 ok
    obtain ⟨Ow1, X1, e1, x1, x2, R1, h1⟩ := ok.hld R
    exact hc x r1 v H1 Ow1 X1 e e1 x1 x2 R1 h1 ok (hf.lift e1)
  | exc c r1 => rw [e] at hf; exact hf
  | bad => rw [e] at hf; exact hf.elim
/-- a second one, the first one's value held -/
theorem into2 {k : T → Ro → Re T} {Q' : VK} {t0 : T} {v0 : V} {X0 : Bs} (R : Rho P H Ow Xb r σ) (h0 : Hld P H Ow X0 Xb σ t0 v0) (hx0 : ∀ a, X0 a → Xb a) (hf : Fin P W X0 σ H Ow ((fa r).bind k) Q)
    (hc : ∀ x r1 v H1 Ow1 X1, fa r = .ok x r1 → Ext H Ow H1 Ow1 → (∀ a, X0 a → X1 a) → Rho P H1 Ow1 X1 r1 σ → Hld P H1 Ow1 X0 X1 σ t0 v0 → Hld P H1 Ow1 X0 X1 σ x v → Fin P W X0 σ H1 Ow1 (k x r1) Q → Q' v H1) : tE P W fa σ H Q' := by
  refine ⟨r, Ow, Xb, R, ?_⟩
  cases e : fa r with
  | ok x r1 =>
    rw [e] at hf
    rintro v H1 ok
    obtain ⟨Ow1, X1, e1, x1, x2, R1, h1⟩ := ok.hld R
    refine hc x r1 v H1 Ow1 X1 e e1 (fun a z => x1 a (hx0 a z)) R1 (h0.ext e1 R1 x1 x2) ?_ (hf.lift e1)
    cases x with
    | fr ds =>
      obtain ⟨a, xs, q1, q2, q3, q⟩ := h1
      exact ⟨a, xs, q1, q2, fun z => q3 (hx0 a z), q⟩
    | _ => exact h1
  | exc c r1 => rw [e] at hf; exact fun H' Ow' d e' R' => hf H' Ow' d e' (R'.weak hx0)
  | bad => rw [e] at hf; exact hf.elim

/-! ### and, or, not -/
def FinB (P : Par) (W : XW) (Xb : Bs) (σ : L2.St) (H : Hp) (Ow : Own) (res : Re Bool) (Q : Bool → Hp → Prop) : Prop := match res with
  | .ok k r' => ∀ H' Ow', Ext H Ow H' Ow' → Rho P H' Ow' Xb r' σ → Q k H'
  | .exc c r' => ∀ H' Ow' d, Ext H Ow H' Ow' → Rho P H' Ow' Xb r' σ → W c d σ H'
  | .bad => False
theorem FinB.lift {res : Re Bool} {Q : Bool → Hp → Prop} {H1 : Hp} {Ow1 : Own} (e : Ext H Ow H1 Ow1) (h : FinB P W Xb σ H Ow res Q) : FinB P W Xb σ H1 Ow1 res Q := by
  cases res with
  | ok k r' => exact fun H' Ow' e' R => h H' Ow' (e.trans e') R
  | exc c r' => exact fun H' Ow' d k R => h H' Ow' d (e.trans k) R
  | bad => exact h
theorem intoT {k : Bool → Ro → Re Bool} {Q Q' : Bool → Hp → Prop} (R : Rho P H Ow Xb r σ) (hf : FinB P W Xb σ H Ow ((ga r).bind k) Q)
    (hc : ∀ x r1 H1 Ow1, ga r = .ok x r1 → Ext H Ow H1 Ow1 → Rho P H1 Ow1 Xb r1 σ → FinB P W Xb σ H1 Ow1 (k x r1) Q → Q' x H1) : tT P W ga σ H Q' := by
  refine ⟨r, Ow, Xb, R, ?_⟩
  cases e : ga r with
  | ok x r1 =>
    rw [e] at hf
    exact fun H1 Ow1 e1 R1 => hc x r1 H1 Ow1 e e1 R1 (FinB.lift e1 hf)
  | exc c r1 => rw [e] at hf; exact hf
  | bad => rw [e] at hf; exact hf.elim
theorem tT_iff {f : Ro → Re Bool} {Q : Bool → Hp → Prop} : tT P W f σ H Q ↔ ∃ r Ow X, Rho P H Ow X r σ ∧ FinB P W X σ H Ow (f r) Q := Iff.rfl

theorem tand {σ : L2.St} {H : Hp} {Q : Bool → Hp → Prop} (h : tT P W (andB ga gb) σ H Q) : tAnd (tT P W ga) (tT P W gb) σ H Q := by
  obtain ⟨r, Ow, Xb, R, hf⟩ := h
  refine intoT R hf fun x r1 H1 Ow1 _ e1 R1 f1 => ?_
  cases x with
  | true => rw [if_pos rfl]; exact ⟨r1, Ow1, Xb, R1, f1⟩
  | false => rw [if_neg Bool.false_ne_true]; exact f1 H1 Ow1 .refl R1
theorem tor {σ : L2.St} {H : Hp} {Q : Bool → Hp → Prop} (h : tT P W (orB ga gb) σ H Q) : tOr (tT P W ga) (tT P W gb) σ H Q := by
  obtain ⟨r, Ow, Xb, R, hf⟩ := h
  refine intoT R hf fun x r1 H1 Ow1 _ e1 R1 f1 => ?_
  cases x with
  | true => rw [if_pos rfl]; exact f1 H1 Ow1 .refl R1
  | false => rw [if_neg Bool.false_ne_true]; exact ⟨r1, Ow1, Xb, R1, f1⟩
theorem t_not (h : PT X a (tT P W ga)) : PT X (.UnaryOp .Not a pos) (tT P W (notB ga)) := by
  refine PT.imp (pt_not h) fun σ H Q ⟨r, Ow, Xb, R, hf⟩ => ?_
  exact intoT R hf fun x r1 H1 Ow1 _ e1 R1 f1 => f1 H1 Ow1 .refl R1
theorem t_and1 (h : PT X a (tT P W ga)) : PW X (.BoolOp .And [a] pos) (tT P W ga) := pw_and1 h
theorem t_or1 (h : PT X a (tT P W ga)) : PW X (.BoolOp .Or [a] pos) (tT P W ga) := pw_or1 h
theorem t_and {rest : List Expr} (h : PT X a (tT P W ga)) (k : PW X (.BoolOp .And (b :: rest) pos) (tT P W gb)) : PW X (.BoolOp .And (a :: b :: rest) pos) (tT P W (andB ga gb)) := PW.imp (pw_and h k) fun _ _ _ q => tand q
theorem t_or {rest : List Expr} (h : PT X a (tT P W ga)) (k : PW X (.BoolOp .Or (b :: rest) pos) (tT P W gb)) : PW X (.BoolOp .Or (a :: b :: rest) pos) (tT P W (orB ga gb)) := PW.imp (pw_or h k) fun _ _ _ q => tor q

/-- as values -/
theorem fin_ofB {res : Re Bool} {Q : VK} (h : Fin P W Xb σ H Ow (ofB res) Q) : FinB P W Xb σ H Ow res fun k H' => Q (.bl k) H' := by
  cases res with
  | ok k r' => exact fun H' Ow' e R => h _ _ ⟨Ow', e, R, .bl k⟩
  | exc c r' => exact h
  | bad => exact h
theorem tB_of (h : PE X a (tE P W fun r => ofB (ga r))) : PE X a fun σ H Q => tT P W ga σ H fun k H' => Q (.bl k) H' := by
  refine PE.imp h fun σ H Q ⟨r, Ow, Xb, R, hf⟩ => ⟨r, Ow, Xb, R, ?_⟩
  have hf2 : FinB P W Xb σ H Ow (ga r) fun k H' => Q (.bl k) H' := hf
  show Fin P W Xb σ H Ow (ofB (ga r)) Q
  revert hf2
  generalize ga r = res
  intro hf
  cases res with
  | ok k r' =>
    rintro v H' ⟨Ow', e', R', rv⟩
    cases rv
    exact hf H' Ow' e' R'
  | exc c r' => exact hf
  | bad => exact hf
theorem s_asB (h : PE X a (tE P W fa)) : PE X a (tE P W fun r => ofB (asB (fa r))) := by
  refine PE.imp h fun σ H Q ⟨r, Ow, Xb, R, hf⟩ => ⟨r, Ow, Xb, R, ?_⟩
  cases e : fa r with
  | ok t r1 =>
    have hf' := hf
    simp only [e] at hf'
    cases t with
    | d z =>
      cases z with
      | bl k => exact hf'
      | _ => exact hf'.elim
    | _ => exact hf'.elim
  | exc c r1 => have hf' := hf; simp only [e] at hf'; exact hf'
  | bad => have hf' := hf; simp only [e] at hf'; exact hf'.elim
theorem s_and {rest : List Expr} (h : PE X a (tE P W fun r => ofB (ga r))) (k : PE X (.BoolOp .And (b :: rest) pos) (tE P W fun r => ofB (gb r))) : PE X (.BoolOp .And (a :: b :: rest) pos) (tE P W fun r => ofB (andB ga gb r)) := by
  refine PE.imp (pe_and (tB_of h) (tB_of k)) fun σ H Q ⟨r, Ow, Xb, R, hf⟩ => ?_
  have := tand (P := P) (W := W) (ga := ga) (gb := gb) ⟨r, Ow, Xb, R, fin_ofB hf⟩
  exact intoT R (fin_ofB hf) fun x r1 H1 Ow1 _ e1 R1 f1 => ⟨x, rfl, by
    cases x with
    | true => rw [if_pos rfl]; exact ⟨r1, Ow1, Xb, R1, f1⟩
    | false => rw [if_neg Bool.false_ne_true]; exact f1 H1 Ow1 .refl R1⟩
theorem s_or {rest : List Expr} (h : PE X a (tE P W fun r => ofB (ga r))) (k : PE X (.BoolOp .Or (b :: rest) pos) (tE P W fun r => ofB (gb r))) : PE X (.BoolOp .Or (a :: b :: rest) pos) (tE P W fun r => ofB (orB ga gb r)) := by
  refine PE.imp (pe_or (tB_of h) (tB_of k)) fun σ H Q ⟨r, Ow, Xb, R, hf⟩ => ?_
  exact intoT R (fin_ofB hf) fun x r1 H1 Ow1 _ e1 R1 f1 => ⟨x, rfl, by
    cases x with
    | true => rw [if_pos rfl]; exact f1 H1 Ow1 .refl R1
    | false => rw [if_neg Bool.false_ne_true]; exact ⟨r1, Ow1, Xb, R1, f1⟩⟩
theorem s_not (h : PE X a (tE P W fun r => ofB (ga r))) : PE X (.UnaryOp .Not a pos) (tE P W fun r => ofB (notB ga r)) := by
  refine PE.imp (pe_not (tB_of h)) fun σ H Q ⟨r, Ow, Xb, R, hf⟩ => ?_
  exact intoT R (fin_ofB hf) fun x r1 H1 Ow1 _ e1 R1 f1 => ⟨x, rfl, f1 H1 Ow1 .refl R1⟩
theorem s_ite (hc : PT X c (tT P W ga)) (ha : PE X a (tE P W fa)) (hb : PE X b (tE P W fb)) : PE X (.IfExp c a b pos) (tE P W fun r => (ga r).bind fun k r1 => if k then fa r1 else fb r1) := by
  refine PE.imp (pe_ifExp hc ha hb) fun σ H Q ⟨r, Ow, Xb, R, hf⟩ => ⟨r, Ow, Xb, R, ?_⟩
  cases e : ga r with
  | ok k r1 =>
    have hf' := hf
    simp only [e] at hf'
    intro H1 Ow1 e1 R1
    cases k with
    | true => rw [if_pos rfl]; exact ⟨r1, Ow1, Xb, R1, Fin.lift e1 hf'⟩
    | false => rw [if_neg Bool.false_ne_true]; exact ⟨r1, Ow1, Xb, R1, Fin.lift e1 hf'⟩
  | exc c r1 => have hf' := hf; simp only [e] at hf'; exact hf'
  | bad => have hf' := hf; simp only [e] at hf'

theorem tE_B {f : Ro → Re T} {σ : L2.St} {H : Hp} {Q : Bool → Hp → Prop} (h : tT P W (fun r => asB (f r)) σ H Q) : tE P W f σ H fun x H1 => ∃ k, x = .bl k ∧ Q k H1 := by
  obtain ⟨r, Ow, Xb, R, hf⟩ := h
  refine ⟨r, Ow, Xb, R, ?_⟩
  have hf2 : FinB P W Xb σ H Ow (asB (f r)) Q := hf
  revert hf2
  generalize f r = res
  intro hf
  cases res with
  | ok t r1 =>
    cases t with
    | d z =>
      cases z with
      | bl k =>
        rintro v H' ⟨Ow', e', R', rv⟩
        cases rv
        exact ⟨_, rfl, hf H' Ow' e' R'⟩
      | _ => exact hf.elim
    | _ => exact hf.elim
  | exc c r1 => exact hf
  | bad => exact hf.elim
/-! ### comparisons as tests; chains -/
theorem t_cmp {op : Cop} (C : Cok P X W) (ha : PE X a (tE P W fa)) (hb : PE X b (tE P W fb)) (hm : behindInMarks (copOf op) b = false) : PT X (.Compare a [copOf op] [b] pos) (tT P W fun r => asB ((fa r).bind fun x r1 => (fb r1).bind fun y r2 => match cmpT r2 op x y with
    | some k => .ok (.d (.bl k)) r2
    | none => .bad)) := by
  refine ⟨fun pins s σ H Q I h => ?_⟩
  obtain ⟨r, Ow, Xb, R, hf⟩ := tE_B h
  refine wpAny_isTrue_Compare1 (step1 ha I R hf fun x r1 u s1 v H1 Ow1 X1 _ I1 rv e1 x1 _ R1 h1 _ f1 => ?_) hm
  refine step2 hb I1 R1 h1 x1 f1 fun y r2 u2 s2 v2 H2 Ow2 X2 _ I2 rv2 e2 x2 R2 g1 g2 f2 => ?_
  cases q : cmpT r2 op x y with
  | none => rw [q] at f2; exact f2.elim
  | some k =>
    rw [q] at f2
    refine thn (cmpT_ok (Q := fun x H1 => ∃ k, x = V.bl k ∧ Q k H1) I2 C.K (by have := C.un; omega) R2 g1 g2 rv rv2 q (f2 _ _ (.bl R2 x2))) fun z s3 ⟨w, H3, I3, rw3, k2, ek, q3⟩ => ?_
    subst ek
    cases rw3
    exact wpAny_truthy_bool ⟨H3, I3, q3⟩
/-- three in a row -/
theorem s_chain {op op' : Cop} (C : Cok P X W) (ha : PE X a (tE P W fa)) (hb : PE X b (tE P W fb)) (hc : PE X c (tE P W fc)) (hm : lastMarks [copOf op, copOf op'] [b, c] = false) :
    PE X (.Compare a [copOf op, copOf op'] [b, c] pos) (tE P W (chainF op op' fa fb fc)) := by
  refine ⟨fun pins s σ H Q I ⟨r, Ow, Xb, R, hf⟩ => ?_⟩
  have hu : X.A.units + 70 < cLine := by have := C.un; omega
  refine Compare_chain (step1 ha I R hf fun x r1 u s1 v H1 Ow1 X1 _ I1 rv e1 x1 _ R1 h1 _ f1 => chain_link ?_) hm
  refine step2 hb I1 R1 h1 x1 f1 fun y r2 u2 s2 v2 H2 Ow2 X2 _ I2 rv2 e2 x2 R2 g1 g2 f2 => ?_
  cases q : cmpT r2 op x y with
  | none => rw [q] at f2; exact f2.elim
  | some k =>
    rw [q] at f2
    refine thn (cmpT_ok (Q := fun w H' => w = .bl k ∧ H' = H2) I2 C.K hu R2 g1 g2 rv rv2 q ⟨rfl, rfl⟩) fun z s3 ⟨w, H3, I3, rw3, e3, e4⟩ => ?_
    subst e3 e4
    cases rw3
    refine wpAny_truthy_bool ?_
    cases k with
    | false => exact ite_ff ⟨.bl false, _, I3, rfl, f2 _ _ (.bl R2 x2)⟩
    | true =>
      refine ite_tt (chain_last ?_)
      refine step2 hc I3 R2 g2 x2 f2 fun z r4 u4 s4 v4 H4 Ow4 X4 _ I4 rv4 e4 x4 R4 k1 k2 f4 => ?_
      cases q2 : cmpT r4 op' y z with
      | none => rw [q2] at f4; exact f4.elim
      | some k =>
        rw [q2] at f4
        exact cmpT_ok I4 C.K hu R4 k1 k2 rv2 rv4 q2 (f4 _ _ (.bl R4 x4))
theorem t_chain {op op' : Cop} (C : Cok P X W) (ha : PE X a (tE P W fa)) (hb : PE X b (tE P W fb)) (hc : PE X c (tE P W fc)) (hm : lastMarks [copOf op, copOf op'] [b, c] = false) :
    PT X (.Compare a [copOf op, copOf op'] [b, c] pos) (tT P W fun r => asB (chainF op op' fa fb fc r)) := by
  refine ⟨fun pins s σ H Q I h => ?_⟩
  obtain ⟨r, Ow, Xb, R, hf⟩ := tE_B h
  have hu : X.A.units + 70 < cLine := by have := C.un; omega
  refine isTrue_chain (step1 ha I R hf fun x r1 u s1 v H1 Ow1 X1 _ I1 rv e1 x1 _ R1 h1 _ f1 => test_link ?_) hm
  refine step2 hb I1 R1 h1 x1 f1 fun y r2 u2 s2 v2 H2 Ow2 X2 _ I2 rv2 e2 x2 R2 g1 g2 f2 => ?_
  cases q : cmpT r2 op x y with
  | none => rw [q] at f2; exact f2.elim
  | some k =>
    rw [q] at f2
    refine thn (cmpT_ok (Q := fun w H' => w = .bl k ∧ H' = H2) I2 C.K hu R2 g1 g2 rv rv2 q ⟨rfl, rfl⟩) fun z s3 ⟨w, H3, I3, rw3, e3, e4⟩ => ?_
    subst e3 e4
    cases rw3
    refine wpAny_truthy_bool ?_
    cases k with
    | false =>
      obtain ⟨k, ek, q⟩ := f2 _ _ (.bl R2 x2)
      cases ek
      exact ite_ff ⟨_, I3, q⟩
    | true =>
      refine ite_tt (test_last ?_)
      refine step2 hc I3 R2 g2 x2 f2 fun z r4 u4 s4 v4 H4 Ow4 X4 _ I4 rv4 e4 x4 R4 k1 k2 f4 => ?_
      cases q2 : cmpT r4 op' y z with
      | none => rw [q2] at f4; exact f4.elim
      | some k =>
        rw [q2] at f4
        refine thn (cmpT_ok (Q := fun x H1 => ∃ k, x = V.bl k ∧ Q k H1) I4 C.K hu R4 k1 k2 rv2 rv4 q2 (f4 _ _ (.bl R4 x4))) fun z s5 ⟨w, H5, I5, rw5, k2, ek, q5⟩ => ?_
        subst ek
        cases rw5
        exact wpAny_truthy_bool ⟨H5, I5, q5⟩
end
end MP
set_option linter.all false
set_option Elab.async false
set_option maxRecDepth 100000
set_option maxHeartbeats 1000000
/-! MP8: arguments, displays, subscripts, built-ins. -/
namespace MP
open PySem PySem.Spec PyProof.Rows L2

inductive HldA (P : Par) (H : Hp) (Ow : Own) (X0 X1 : Bs) (σ : L2.St) : List T → List V → Prop
  | nil : HldA P H Ow X0 X1 σ [] []
  | cons {t v ts vs} : Hld P H Ow X0 X1 σ t v → HldA P H Ow X0 X1 σ ts vs → HldA P H Ow X0 X1 σ (t :: ts) (v :: vs)
theorem HldA.ext {P : Par} {H H' : Hp} {Ow Ow' : Own} {X X1 X2 : Bs} {σ : L2.St} {r' : Ro} (e : Ext H Ow H' Ow') (R : Rho P H' Ow' X2 r' σ) (hx : ∀ a, X1 a → X2 a) (hn : ∀ a, X2 a → X1 a ∨ H a = none) :
    ∀ {ts : List T} {vs : List V}, HldA P H Ow X X1 σ ts vs → HldA P H' Ow' X X2 σ ts vs
  | _, _, .nil => .nil
  | _, _, .cons h hs => .cons (h.ext e R hx hn) (HldA.ext e R hx hn hs)
theorem Hld.less {P : Par} {H : Hp} {Ow : Own} {X X' X1 : Bs} {σ : L2.St} {t : T} {v : V} (hx : ∀ a, X' a → X a) (h : Hld P H Ow X X1 σ t v) : Hld P H Ow X' X1 σ t v := by
  cases t with
  | fr ds =>
    obtain ⟨a, xs, q1, q2, q3, q⟩ := h
    exact ⟨a, xs, q1, q2, fun z => q3 (hx a z), q⟩
  | _ => exact h
theorem HldA.less {P : Par} {H : Hp} {Ow : Own} {X X' X1 : Bs} {σ : L2.St} (hx : ∀ a, X' a → X a) : ∀ {ts : List T} {vs : List V}, HldA P H Ow X X1 σ ts vs → HldA P H Ow X' X1 σ ts vs
  | _, _, .nil => .nil
  | _, _, .cons h hs => .cons (h.less hx) (HldA.less hx hs)

/-- arguments that are looked at -/
def FinA (P : Par) (W : XW) (Xb : Bs) (σ : L2.St) (H : Hp) (Ow : Own) (res : Re (List T)) (Q : List V → Hp → Prop) : Prop := match res with
  | .ok ts r' => ∀ vs H' Ow' X1, Ext H Ow H' Ow' → (∀ a, Xb a → X1 a) → (∀ a, X1 a → Xb a ∨ H a = none) → Rho P H' Ow' X1 r' σ → HldA P H' Ow' Xb X1 σ ts vs → Q vs H'
  | .exc c r' => ∀ H' Ow' d, Ext H Ow H' Ow' → Rho P H' Ow' Xb r' σ → W c d σ H'
  | .bad => False
def tHA (P : Par) (W : XW) (fs : Ro → Re (List T)) : TA := fun σ H Q => ∃ r Ow X, Rho P H Ow X r σ ∧ FinA P W X σ H Ow (fs r) Q
/-- a display's items, a def's arguments: kept -/
def FinK (P : Par) (W : XW) (Xb : Bs) (σ : L2.St) (H : Hp) (Ow : Own) (res : Re (List Dv)) (Q : List V → Hp → Prop) : Prop := match res with
  | .ok ds r' => ∀ vs H' Ow', Ext H Ow H' Ow' → Rho P H' Ow' Xb r' σ → Rvs P (BsOf Ow' Xb) H' ds vs → Q vs H'
  | .exc c r' => ∀ H' Ow' d, Ext H Ow H' Ow' → Rho P H' Ow' Xb r' σ → W c d σ H'
  | .bad => False
def tKA (P : Par) (W : XW) (fs : Ro → Re (List Dv)) : TA := fun σ H Q => ∃ r Ow X, Rho P H Ow X r σ ∧ FinK P W X σ H Ow (fs r) Q

theorem starless {e : Expr} {es : List Expr} {env : Env} (h : ∀ x p, e ≠ .Starred x p) : starEach (e :: es) env = (false, eval e env) :: starEach es env := by
  cases e <;> first
    | rfl
    | exact absurd rfl (h _ _)

section
variable {P : Par} {W : XW} {X : Cx} {pins : List (Addr × Obj)} {σ : L2.St} {H : Hp} {s : Shared} {Ow : Own} {Xb : Bs} {r : Ro} {Q : VK} {a b c : Expr} {fa fb fc : Ro → Re T} {ga gb : Ro → Re Bool} {pos : Pos} {es : List Expr}

theorem a_nil : PA X [] (tHA P W fun r => .ok [] r) := by
  refine PA.imp pa_nil fun σ H Q ⟨r, Ow, Xb, R, hf⟩ => ?_
  exact hf [] H Ow Xb .refl (fun _ z => z) (fun _ z => .inl z) R .nil
theorem a_cons {fs : Ro → Re (List T)} (ha : PE X a (tE P W fa)) (hr : PA X es (tHA P W fs)) (hn : ∀ x p, a ≠ .Starred x p) : PA X (a :: es) (tHA P W fun r => (fa r).bind fun t r1 => (fs r1).bind fun ts r2 => .ok (t :: ts) r2) := by
  refine PA.imp (pa_cons ha hr (starless hn)) fun σ H Q ⟨r, Ow, Xb, R, hf⟩ => ?_
  refine ⟨r, Ow, Xb, R, ?_⟩
  cases e : fa r with
  | ok x r1 =>
    simp only [e, Re.bind] at hf
    rintro v H1 ok
    obtain ⟨Ow1, X1, e1, x1, x2, R1, h1⟩ := ok.hld R
    refine ⟨r1, Ow1, X1, R1, ?_⟩
    cases e' : fs r1 with
    | ok ts r2 =>
      simp only [e', Re.bind] at hf
      intro vs H2 Ow2 X2 e2 y1 y2 R2 h2
      refine hf (v :: vs) H2 Ow2 X2 (e1.trans e2) (fun a z => y1 a (x1 a z)) (fun a z => ?_) R2 (.cons (h1.ext e2 R2 y1 y2) (h2.less x1))
      rcases y2 a z with z | z
      · exact x2 a z
      · refine .inr ?_
        cases q : H a with
        | none => rfl
        | some o => exact absurd z (e1.al a (by rw [q]; simp))
    | exc c r2 =>
      simp only [e', Re.bind] at hf
      exact fun H' Ow' d e' R' => hf H' Ow' d (e1.trans e') (R'.weak x1)
    | bad => simp only [e', Re.bind] at hf; exact hf.elim
  | exc c r1 =>
    simp only [e, Re.bind] at hf
    exact hf
  | bad => simp only [e, Re.bind] at hf; exact hf.elim

theorem k_nil : PA X [] (tKA P W fun r => .ok [] r) := by
  refine PA.imp pa_nil fun σ H Q ⟨r, Ow, Xb, R, hf⟩ => ?_
  exact hf [] H Ow .refl R .nil
theorem k_cons {fs : Ro → Re (List Dv)} (ha : PE X a (tE P W fa)) (hr : PA X es (tKA P W fs)) (hn : ∀ x p, a ≠ .Starred x p) : PA X (a :: es) (tKA P W (consK fa fs)) := by
  refine PA.imp (pa_cons ha hr (starless hn)) fun σ H Q ⟨r, Ow, Xb, R, hf⟩ => ?_
  unfold consK at hf
  refine ⟨r, Ow, Xb, R, ?_⟩
  cases e : fa r with
  | ok x r1 =>
    simp only [e, Re.bind] at hf
    rintro v H1 ok
    obtain ⟨Ow1, X1, e1, x1, x2, R1, h1⟩ := ok.hld R
    cases m : mat r1 x with
    | none => simp only [m, Re.bind] at hf; exact hf.elim
    | some dr =>
      obtain ⟨d, r2⟩ := dr
      simp only [m, Re.bind] at hf
      obtain ⟨Ow2, e2, R2, hv⟩ := h1.mat R1 x1 m
      refine ⟨r2, Ow2, Xb, R2, ?_⟩
      cases e' : fs r2 with
      | ok ts r3 =>
        simp only [e', Re.bind] at hf
        intro vs H3 Ow3 e3 R3 h3
        exact hf (v :: vs) H3 Ow3 ((e1.trans e2).trans e3) R3 (.cons (hv.keep e3.kp) h3)
      | exc c r3 =>
        simp only [e', Re.bind] at hf
        exact fun H' Ow' d e' R' => hf H' Ow' d ((e1.trans e2).trans e') R'
      | bad => simp only [e', Re.bind] at hf; exact hf.elim
  | exc c r1 => simp only [e, Re.bind] at hf; exact hf
  | bad => simp only [e, Re.bind] at hf; exact hf.elim

/-! ### displays -/
theorem s_tup {fs : Ro → Re (List Dv)} {k : Nat} (h : PA X es (tKA P W fs)) : PE X (.Tuple es k pos) (tE P W fun r => (match fs r with
    | .ok xs r1 => if xs.length ≤ line then .ok (.d (.tup xs)) r1 else .bad
    | .exc c r1 => .exc c r1
    | .bad => .bad : Re T)) := by
  refine PE.imp (pe_tupZ h) fun σ H Q ⟨r, Ow, Xb, R, hf⟩ => ⟨r, Ow, Xb, R, ?_⟩
  cases e : fs r with
  | ok ds r1 =>
    simp only [e] at hf
    split at hf
    · rename_i t r2 q
      split at q
      · rename_i hl
        simp only [Re.ok.injEq] at q
        obtain ⟨rfl, rfl⟩ := q
        intro vs H1 Ow1 e1 R1 h1
        refine ⟨by rw [← h1.length, sizeLine_eq]; exact hl, fun p ob hd hp => hf _ _ (Okp.lift e1 (.tuple R1 (fun _ z => z) hd hp h1))⟩
      · cases q
    · rename_i q; split at q <;> cases q
    · exact hf.elim
  | exc c r1 => simp only [e] at hf; exact hf
  | bad => simp only [e] at hf
theorem s_disp {fs : Ro → Re (List Dv)} (h : PA X es (tKA P W fs)) : PE X (.List es pos) (tE P W fun r => (match fs r with
    | .ok xs r1 => if xs.length ≤ line then .ok (.fr xs) r1 else .bad
    | .exc c r1 => .exc c r1
    | .bad => .bad : Re T)) := by
  refine PE.imp (pe_lst h) fun σ H Q ⟨r, Ow, Xb, R, hf⟩ => ⟨r, Ow, Xb, R, ?_⟩
  cases e : fs r with
  | ok ds r1 =>
    simp only [e] at hf
    split at hf
    · rename_i t r2 q
      split at q
      · rename_i hl
        simp only [Re.ok.injEq] at q
        obtain ⟨rfl, rfl⟩ := q
        intro vs H1 Ow1 e1 R1 h1
        refine ⟨by rw [← h1.length, sizeLine_eq]; exact hl, fun p hp => hf _ _ (Okp.lift e1 (.list R1 (fun _ z => z) hp h1))⟩
      · cases q
    · rename_i q; split at q <;> cases q
    · exact hf.elim
  | exc c r1 => simp only [e] at hf; exact hf
  | bad => simp only [e] at hf

/-! ### subscripts -/
theorem sl_plain_ix {e : Expr} (h : ∀ l u s p, e ≠ .Slice l u s p) : PlainIx e := by
  intro o i
  cases e <;> first
    | rfl
    | exact absurd rfl (h _ _ _ _)
theorem s_idx (C : Cok P X W) (ha : PE X a (tE P W fa)) (hb : PE X b (tE P W fb)) (hn : ∀ l u s p, b ≠ .Slice l u s p) : PE X (.Subscript a b pos) (tE P W fun r => (fa r).bind fun x r1 => (fb r1).bind fun y r2 => match y with
    | .d (.int i) => match seqT r2 x with
      | some xs => match getI xs i with
        | some v => .ok (.d v) r2
        | none => .bad
      | none => .bad
    | _ => .bad) := by
  refine PE.imp (pe_ix (ix_list.or ix_tup) ha hb (sl_plain_ix hn)) fun σ H Q ⟨r, Ow, Xb, R, hf⟩ => ?_
  refine into R hf fun x r1 v H1 Ow1 X1 _ e1 x1 _ R1 h1 _ f1 => ?_
  refine into2 R1 h1 x1 f1 fun y r2 v2 H2 Ow2 X2 _ e2 x2 R2 g1 g2 f2 => ?_
  cases y with
  | d z =>
    cases z with
    | int i =>
      cases q : seqT r2 x with
      | none => simp only [q] at f2; exact f2.elim
      | some ds =>
        simp only [q] at f2
        cases q2 : getI ds i with
        | none => simp only [q2] at f2; exact f2.elim
        | some d =>
          simp only [q2] at f2
          have g2 : Rv P (BsOf Ow2 X2) H2 (.int i) v2 := g2
          cases g2
          obtain ⟨p, xs, rfl, hs, rs⟩ := g1.seq R2 q
          have hl := rs.length
          unfold getI at q2
          simp only [Option.bind_eq_some_iff] at q2
          obtain ⟨k, k1, k2⟩ := q2
          obtain ⟨w, w1, w2⟩ := rs.get k2
          have at_ : atI xs i = some w := by
            unfold atI
            have k1' : L2.ixN ds.length i = some k := k1
            rw [← hl, k1']
            exact w1
          have fin := f2 w H2 (.data (R2.weak x2) (Rv.weak (BsOf.mono x2) w2))
          rw [← C.K] at hs
          rcases hs with hs | hs
          · exact .inl ⟨p, xs, i, w, rfl, rfl, hs, at_, fin⟩
          · exact .inr ⟨p, xs, i, w, rfl, rfl, hs, at_, fin⟩
    | _ => exact f2.elim
  | _ => exact f2.elim
end
end MP
set_option linter.all false
set_option Elab.async false
set_option maxRecDepth 100000
set_option maxHeartbeats 1000000
/-! MP9: built-ins. -/
namespace MP
open PySem PySem.Spec PyProof.Rows L2

/-- a built-in's reading by the interpreter -/
def rB (P : Par) (b : Bi) : List V → Hp → VK → Prop := fun vs H Q => ∃ (σ : L2.St) (r : Ro) (Ow : Own) (Xb X1 : Bs) (ts : List T) (t' : T), (∀ a, Xb a → X1 a) ∧ Rho P H Ow X1 r σ ∧ HldA P H Ow Xb X1 σ ts vs ∧ biT r b ts = some t' ∧
  ∀ v H', Okp P H Ow Xb σ t' r v H' → Q v H'

section
variable {P : Par} {W : XW} {X : Cx} {a : Expr} {es : List Expr} {pos p : Pos} {x : Str} {fs : Ro → Re (List T)} {b : Bi}
theorem s_bi {r : List V → Hp → VK → Prop} {t : TA} (h : PE X a (tCB (rB P b) t) → PE X a (tCB (rB P b) t)) : True := trivial
theorem bi_read {σ : L2.St} {H : Hp} {Q : VK} (h : tE P W (fun r => (fs r).bind fun ts r1 => match biT r1 b ts with
    | some t => .ok t r1
    | none => .bad) σ H Q) : tCB (rB P b) (tHA P W fs) σ H Q := by
  obtain ⟨r, Ow, Xb, R, hf⟩ := h
  refine ⟨r, Ow, Xb, R, ?_⟩
  cases e : fs r with
  | ok ts r1 =>
    simp only [e, Re.bind] at hf
    intro vs H1 Ow1 X1 e1 x1 x2 R1 h1
    cases q : biT r1 b ts with
    | none => simp only [q] at hf
    | some t' =>
      simp only [q] at hf
      exact ⟨σ, r1, Ow1, Xb, X1, ts, t', x1, R1, h1, q, fun v H' ok => hf v H' (Okp.lift e1 ok)⟩
  | exc c r1 => simp only [e, Re.bind] at hf; exact hf
  | bad => simp only [e, Re.bind] at hf
/-- a built-in function -/
theorem s_fn {id : String} (hc : CallR X (.builtin id) (rB P b)) (hg : Gl X x) (hm : X.mg x = none) (hv : bootBuiltins x = some (.builtin id)) (ha : PA X (a :: es) (tHA P W fs)) (hn : x ≠ "__name__") (hdb : (x == ("__debug__" : Str)) = false)
    (he : starEach (a :: es) X.env = (false, eval a X.env) :: starEach es X.env) (hpl : (backTo pos (starEach es X.env)).any (·.1) = false) :
    PE X (.Call (.Name x p) (a :: es) [] pos) (tE P W fun r => (fs r).bind fun ts r1 => match biT r1 b ts with
    | some t => .ok t r1
    | none => .bad) := PE.imp (pe_callB hc hg hm hv ha hn hdb he hpl) fun _ _ _ h => bi_read h
/-- a built-in class -/
theorem s_ty {id : String} (hc : CallR X (.type id) (rB P b)) (hg : Gl X x) (hm : X.mg x = none) (hv : bootBuiltins x = some (.type id)) (ha : PA X (a :: es) (tHA P W fs)) (hn : x ≠ "__name__") (hdb : (x == ("__debug__" : Str)) = false)
    (he : starEach (a :: es) X.env = (false, eval a X.env) :: starEach es X.env) (hpl : (backTo pos (starEach es X.env)).any (·.1) = false) :
    PE X (.Call (.Name x p) (a :: es) [] pos) (tE P W fun r => (fs r).bind fun ts r1 => match biT r1 b ts with
    | some t => .ok t r1
    | none => .bad) := PE.imp (pe_callTy hc hg hm hv ha hn hdb he hpl) fun _ _ _ h => bi_read h
end

section
variable {P : Par} {X : Cx} {Xb X1 : Bs} {Ow : Own} {H : Hp} {r : Ro} {σ : L2.St} {t : T} {v : V}
theorem HldA.one (h : HldA P H Ow Xb X1 σ [t] vs) : ∃ v, vs = [v] ∧ Hld P H Ow Xb X1 σ t v := by
  cases h with
  | cons h hs => cases hs; exact ⟨_, rfl, h⟩
theorem HldA.two {t2 : T} (h : HldA P H Ow Xb X1 σ [t, t2] vs) : ∃ v w, vs = [v, w] ∧ Hld P H Ow Xb X1 σ t v ∧ Hld P H Ow Xb X1 σ t2 w := by
  cases h with
  | cons h hs =>
    cases hs with
    | cons k ks => cases ks; exact ⟨_, _, rfl, h, k⟩
/-- the argument lists that biT knows have one or two places -/
theorem map_ok {f : List Dv → T} {o : Option (List Dv)} {t' : T} (e : o.map f = some t') : ∃ xs, o = some xs ∧ t' = f xs := by
  cases o with
  | none => cases e
  | some xs => exact ⟨xs, rfl, (Option.some.inj e).symm⟩

theorem crb_len (hK : X.K = P.K) : CallR X (.builtin "len") (rB P .len) := by
  intro pins s σ0 H xs us Q I rv h
  obtain ⟨σ, r, Ow, Xb, X1, ts, t', hx, R, ha, e, q⟩ := h
  unfold biT at e
  split at e <;> try cases e
  all_goals try (rename_i heq; cases heq)
  rename_i t _
  obtain ⟨ds, e1, rfl⟩ := map_ok e
  obtain ⟨v, rfl, h1⟩ := ha.one
  obtain ⟨a, ys, rfl, hs, rs⟩ := h1.seq R e1
  rw [rs.length] at q
  refine call_len_seq pins s σ0 H _ us Q I rv ⟨a, ys, rfl, by rw [hK]; exact hs, q _ _ (.int R hx)⟩
end
end MP
set_option linter.all false
set_option Elab.async false
set_option maxRecDepth 100000
set_option maxHeartbeats 1000000
/-! MP10: built-ins, further. -/
namespace MP
open PySem PySem.Spec PyProof.Rows L2

section
variable {P : Par} {X : Cx} {Xb X1 B : Bs} {Ow : Own} {H : Hp} {r : Ro} {σ : L2.St} {t : T} {v : V} {vs : List V}
theorem lst_seq {ds : List Dv} (e : lstT r t = some ds) : seqT r t = some ds := by
  cases t with
  | d x => cases x <;> simp only [lstT, reduceCtorEq] at e <;> exact e
  | fr xs => exact e
  | rf i => exact e
  | frd => exact e
theorem Hld.lst {ds : List Dv} (h : Hld P H Ow Xb X1 σ t v) (R : Rho P H Ow X1 r σ) (e : lstT r t = some ds) : ∃ a xs, v = .ref a ∧ SqL P.K H a xs ∧ Rvs P (BsOf Ow X1) H ds xs := by
  cases t with
  | d x =>
    have h : Rv P (BsOf Ow X1) H x v := h
    cases h with
    | lv t n rs =>
      simp only [lstT, Option.some.injEq] at e
      subst e
      exact ⟨_, _, rfl, .inl (.inl t), rs⟩
    | scr t =>
      simp only [lstT, Option.some.injEq] at e
      subst e
      refine ⟨_, _, rfl, ?_, Rvs.ints _⟩
      rcases t with ⟨t, _⟩ | t
      · exact .inl t
      · exact t H
    | _ => simp [lstT] at e
  | fr xs =>
    simp only [lstT, Option.some.injEq] at e
    subst e
    obtain ⟨a, xs, h1, h2, h3, h4, h5, h6⟩ := h
    exact ⟨a, xs, h1, .inl (.inl h5), h6⟩
  | rf i =>
    simp only [lstT] at e
    split at e
    · rename_i ys q
      simp only [Option.some.injEq] at e
      subst e
      obtain ⟨a, xs, h1, h2, h3, h4⟩ := R.sl i _ q
      have h : σ[i]? = some (some v) := h
      rw [h2] at h
      simp only [Option.some.injEq] at h
      exact ⟨a, xs, h.symm, .inl (.inl h3), h4⟩
    · cases e
  | frd => exact h.elim
theorem seq_cases {ds : List Dv} (e : seqT r t = some ds) : lstT r t = some ds ∨ t = .d (.tup ds) := by
  cases t with
  | d x =>
    cases x with
    | tup xs => simp only [seqT, Option.some.injEq] at e; subst e; exact .inr rfl
    | _ => exact .inl e
  | fr xs => exact .inl e
  | rf i => exact .inl e
  | frd => exact .inl e
theorem rvs_ints : ∀ {ds : List Dv} {xs : List V} {ns : List Int}, Rvs P B H ds xs → intsOf ds = some ns → xs = ns.map V.int
  | [], _, _, h, e => by
    cases h
    simp only [intsOf, Option.some.injEq] at e
    subst e; rfl
  | d :: ds, _, ns, h, e => by
    cases h with
    | cons h1 h2 =>
      cases h1 with
      | int i =>
        simp only [intsOf, Option.map_eq_some_iff] at e
        obtain ⟨ms, e1, rfl⟩ := e
        rw [rvs_ints h2 e1]; rfl
      | _ => simp [intsOf] at e
theorem sum_ints : ∀ {ds : List Dv} {k : Int}, sumI ds = some k → ∃ ns, intsOf ds = some ns ∧ ns.sum = k
  | [], _, e => by
    simp only [sumI, Option.some.injEq] at e
    subst e; exact ⟨[], rfl, rfl⟩
  | d :: ds, k, e => by
    cases d with
    | int i =>
      simp only [sumI, Option.map_eq_some_iff] at e
      obtain ⟨m, e1, rfl⟩ := e
      obtain ⟨ns, h1, h2⟩ := sum_ints e1
      exact ⟨i :: ns, by simp [intsOf, h1], by simp [h2]⟩
    | _ => simp [sumI] at e
theorem any_ints : ∀ {ds : List Dv} {k : Bool}, anyI ds = some k → ∃ ns, intsOf ds = some ns ∧ ns.any (fun i => decide (i ≠ 0)) = k
  | [], _, e => by
    simp only [anyI, Option.some.injEq] at e
    subst e; exact ⟨[], rfl, rfl⟩
  | d :: ds, k, e => by
    cases d with
    | int i =>
      simp only [anyI, Option.map_eq_some_iff] at e
      obtain ⟨m, e1, rfl⟩ := e
      obtain ⟨ns, h1, h2⟩ := any_ints e1
      exact ⟨i :: ns, by simp [intsOf, h1], by rw [List.any_cons, h2]⟩
    | _ => simp [anyI] at e
theorem all_bools : ∀ {ds : List Dv} {xs : List V} {k : Bool}, Rvs P B H ds xs → allB ds = some k → ∃ bs : List Bool, xs = bs.map V.bl ∧ bs.all id = k
  | [], _, _, h, e => by
    cases h
    simp only [allB, Option.some.injEq] at e
    subst e; exact ⟨[], rfl, rfl⟩
  | d :: ds, _, k, h, e => by
    cases h with
    | cons h1 h2 =>
      cases h1 with
      | bl b =>
        simp only [allB, Option.map_eq_some_iff] at e
        obtain ⟨m, e1, rfl⟩ := e
        obtain ⟨bs, rfl, h4⟩ := all_bools h2 e1
        exact ⟨b :: bs, rfl, by simp [h4]⟩
      | _ => simp [allB] at e

theorem asInt {ds : Int} (h : Hld P H Ow Xb X1 σ (.d (.int ds)) v) : v = .int ds := by
  have h : Rv P (BsOf Ow X1) H (.int ds) v := h
  cases h; rfl
theorem crb_abs : CallR X (.builtin "abs") (rB P .abs) := by
  intro pins s σ0 H xs us Q I rv h
  obtain ⟨σ, r, Ow, Xb, X1, ts, t', hx, R, ha, e, q⟩ := h
  unfold biT at e
  split at e <;> try cases e
  all_goals try (rename_i heq; cases heq)
  obtain ⟨v, rfl, h1⟩ := ha.one
  cases asInt h1
  exact call_abs pins s σ0 H _ us Q I rv ⟨_, rfl, q _ _ (.int R hx)⟩
theorem crb_int : CallR X (.type "int") (rB P .int) := by
  intro pins s σ0 H xs us Q I rv h
  obtain ⟨σ, r, Ow, Xb, X1, ts, t', hx, R, ha, e, q⟩ := h
  unfold biT at e
  split at e <;> try cases e
  all_goals try (rename_i heq; cases heq)
  obtain ⟨v, rfl, h1⟩ := ha.one
  cases asInt h1
  exact call_int1 pins s σ0 H _ us Q I rv (.inl ⟨_, rfl, q _ _ (.int R hx)⟩)
theorem crb_max2 (hc : X.calm = true) : CallR X (.builtin "max") (rB P .max2) := by
  intro pins s σ0 H xs us Q I rv h
  obtain ⟨σ, r, Ow, Xb, X1, ts, t', hx, R, ha, e, q⟩ := h
  unfold biT at e
  split at e <;> try cases e
  all_goals try (rename_i heq; cases heq)
  obtain ⟨v, w, rfl, h1, h2⟩ := ha.two
  cases asInt h1
  cases asInt h2
  exact call_max2 hc pins s σ0 H _ us Q I rv ⟨_, _, rfl, q _ _ (.int R hx)⟩
theorem crb_min2 (hc : X.calm = true) : CallR X (.builtin "min") (rB P .min2) := by
  intro pins s σ0 H xs us Q I rv h
  obtain ⟨σ, r, Ow, Xb, X1, ts, t', hx, R, ha, e, q⟩ := h
  unfold biT at e
  split at e <;> try cases e
  all_goals try (rename_i heq; cases heq)
  obtain ⟨v, w, rfl, h1, h2⟩ := ha.two
  cases asInt h1
  cases asInt h2
  exact call_min2 hc pins s σ0 H _ us Q I rv ⟨_, _, rfl, q _ _ (.int R hx)⟩
theorem foldl_max_le : ∀ (is : List Int) (i : Int), i ≤ is.foldl max i ∧ ∀ y ∈ is, y ≤ is.foldl max i
  | [], i => ⟨Int.le_refl _, fun y h => by cases h⟩
  | a :: is, i => by
    obtain ⟨h1, h2⟩ := foldl_max_le is (max i a)
    refine ⟨Int.le_trans (Int.le_max_left i a) h1, fun y hy => ?_⟩
    rcases List.mem_cons.mp hy with rfl | hy
    · exact Int.le_trans (Int.le_max_right i y) h1
    · exact h2 y hy
theorem foldl_max_mem : ∀ (is : List Int) (i : Int), is.foldl max i = i ∨ is.foldl max i ∈ is
  | [], i => .inl rfl
  | a :: is, i => by
    rcases foldl_max_mem is (max i a) with h | h
    · rw [List.foldl_cons, h]
      rcases Int.le_total i a with z | z
      · rw [Int.max_eq_right z]; exact .inr List.mem_cons_self
      · rw [Int.max_eq_left z]; exact .inl rfl
    · exact .inr (List.mem_cons_of_mem _ h)
theorem crb_maxL (hK : X.K = P.K) (hc : X.calm = true) : CallR X (.builtin "max") (rB P .maxL) := by
  intro pins s σ0 H xs us Q I rv h
  obtain ⟨σ, r, Ow, Xb, X1, ts, t', hx, R, ha, e, q⟩ := h
  unfold biT at e
  split at e <;> try cases e
  all_goals try (rename_i heq; cases heq)
  split at e
  · rename_i ds e1
    split at e
    · rename_i i is e2
      simp only [Option.some.injEq] at e
      subst e
      obtain ⟨v, rfl, h1⟩ := ha.one
      obtain ⟨a, ys, rfl, hs, rs⟩ := h1.lst R e1
      have := rvs_ints rs e2
      subst this
      refine cr_max hc pins s σ0 H _ us Q I rv ⟨a, _, rfl, by rw [hK]; exact hs, by simp, fun m hm hy => ?_⟩
      have em : m = is.foldl max i := by
        obtain ⟨l1, l2⟩ := foldl_max_le is i
        have h3 := hy (is.foldl max i) (by
          rcases foldl_max_mem is i with h | h
          · rw [h]; exact List.mem_cons_self
          · exact List.mem_cons_of_mem _ h)
        have h4 : m ≤ is.foldl max i := by
          rcases List.mem_cons.mp hm with rfl | hm
          · exact l1
          · exact l2 m hm
        omega
      subst em
      exact q _ _ (.int R hx)
    · cases e
  · cases e
theorem crb_allL (hK : X.K = P.K) (hc : X.calm = true) : CallR X (.builtin "all") (rB P .allL) := by
  intro pins s σ0 H xs us Q I rv h
  obtain ⟨σ, r, Ow, Xb, X1, ts, t', hx, R, ha, e, q⟩ := h
  unfold biT at e
  split at e <;> try cases e
  all_goals try (rename_i heq; cases heq)
  split at e
  · rename_i ds e1
    simp only [Option.map_eq_some_iff] at e
    obtain ⟨k, e2, rfl⟩ := e
    obtain ⟨v, rfl, h1⟩ := ha.one
    obtain ⟨a, ys, rfl, hs, rs⟩ := h1.lst R e1
    obtain ⟨bs, rfl, rfl⟩ := all_bools rs e2
    exact cr_all hc pins s σ0 H _ us Q I rv ⟨a, bs, rfl, by rw [hK]; exact hs, q _ _ (.bl R hx)⟩
  · cases e
theorem crb_listOf (hK : X.K = P.K) : CallR X (.type "list") (rB P .listOf) := by
  intro pins s σ0 H xs us Q I rv h
  obtain ⟨σ, r, Ow, Xb, X1, ts, t', hx, R, ha, e, q⟩ := h
  unfold biT at e
  split at e <;> try cases e
  all_goals try (rename_i heq; cases heq)
  obtain ⟨ds, e1, rfl⟩ := map_ok e
  obtain ⟨v, rfl, h1⟩ := ha.one
  obtain ⟨a, ys, rfl, hs, rs⟩ := h1.seq R e1
  exact call_list_of pins s σ0 H _ us Q I rv ⟨a, ys, rfl, by rw [hK]; exact hs, fun l hl => q _ _ (.list R hx hl rs)⟩
theorem crb_tupleOf (hK : X.K = P.K) : CallR X (.type "tuple") (rB P .tupleOf) := by
  intro pins s σ0 H xs us Q I rv h
  obtain ⟨σ, r, Ow, Xb, X1, ts, t', hx, R, ha, e, q⟩ := h
  unfold biT at e
  split at e <;> try cases e
  all_goals try (rename_i heq; cases heq)
  obtain ⟨ds, e1, rfl⟩ := map_ok e
  obtain ⟨v, rfl, h1⟩ := ha.one
  rcases seq_cases e1 with e2 | rfl
  · obtain ⟨a, ys, rfl, hs, rs⟩ := h1.lst R e2
    exact call_tuple_ofZ pins s σ0 H _ us Q I rv ⟨a, ys, rfl, .inl ⟨by rw [hK]; exact hs, fun l ob hd hl => q _ _ (.tuple R hx hd hl rs)⟩⟩
  · have h1 : Rv P (BsOf Ow X1) H (.tup ds) v := h1
    have h2 := Rv.weak (BsOf.mono hx) h1
    cases h1 with
    | tup t rs =>
      exact call_tuple_ofZ pins s σ0 H _ us Q I rv ⟨_, _, rfl, .inr ⟨tupAt_sq I hK t, q _ _ (.data (R.weak hx) h2)⟩⟩
/-! sums, any -/
theorem sum_tupleG {prog : Program} {w : World} {A : Around} {E : Value → Shared → Prop} {s : Shared} {l : Addr} {xs : Array (Int × Tok)} {Q : Value → Shared → Prop} (hh : A.handled = none) (hl : s.heap.IsTuple l (intItems xs))
    (h : ∀ h' tk t', (∀ b o, s.heap.get? b = some o → h'.get? b = some o) → Q (.int (preSum (numAt xs) xs.size) t') { s with heap := h', toks := tk }) :
    wpAny (model prog w) A (call (.builtin "sum") [.ref l]) Q E s := by
  have hlt : l < s.heap.objs.size := by obtain ⟨_, e, _⟩ := hl; exact Heap.lt_size e
  refine call_sum_walkG (wpAny_pyIter_tuple hl ?_)
  refine ⟨_, _, _, _, _, _, numAt xs, rfl, Walks.tuple (A := A.in1) hh _ l (Nat.ne_of_lt hlt) (intItems xs), ⟨⟨_, Heap.get?_push_size _ rfl, rfl, rfl⟩, hl.push _⟩, fun b hb => ?_, (fun _ _ => intItems_at), fun h' tk t' hk => ?_⟩
  · have hsz : (s.heap.push { cls := .type "tuple_iterator", data := .fields #[.ref l, .int 0 0] }).objs.size = s.heap.objs.size + 1 := size_push' _ _
    simp only [List.mem_cons, List.not_mem_nil, or_false] at hb
    rcases hb with rfl | rfl
    · show _ < (s.heap.push { cls := .type "tuple_iterator", data := .fields #[.ref l, .int 0 0] }).objs.size
      rw [hsz]; exact Nat.lt_succ_self _
    · show _ < (s.heap.push { cls := .type "tuple_iterator", data := .fields #[.ref _, .int 0 0] }).objs.size
      rw [size_push']; exact Nat.lt_succ_of_lt hlt
  · have := h h' tk t' fun b o eo => hk b o (fun hm => by
      rcases List.mem_cons.mp hm with rfl | hm
      · exact absurd (Heap.lt_size eo) (Nat.lt_irrefl _)
      · cases hm) (Heap.get?_push_of_some _ eo)
    simpa [intItems] using this
theorem crb_sumL (hK : X.K = P.K) (hc : X.calm = true) : CallR X (.builtin "sum") (rB P .sumL) := by
  intro pins s σ0 H xs us Q I rv h
  obtain ⟨σ, r, Ow, Xb, X1, ts, t', hx, R, ha, e, q⟩ := h
  unfold biT at e
  split at e <;> try cases e
  all_goals try (rename_i heq; cases heq)
  split at e
  · rename_i ds e1
    simp only [Option.map_eq_some_iff] at e
    obtain ⟨k, e2, rfl⟩ := e
    obtain ⟨ns, e3, rfl⟩ := sum_ints e2
    obtain ⟨v, rfl, h1⟩ := ha.one
    obtain ⟨a, ys, rfl, hs, rs⟩ := h1.seq R e1
    have := rvs_ints rs e3
    subst this
    rw [← hK] at hs
    rcases hs with hs | hs
    · exact cr_sum hc pins s σ0 H _ us Q I rv ⟨a, ns, rfl, hs, q _ _ (.int R hx)⟩
    · obtain ⟨its, rt, ht, _⟩ := I.tuple hs
      rw [Vals.ref1 rv]
      obtain ⟨xs, hxs⟩ := rt.ints.allInts.items
      rw [hxs] at ht
      refine sum_tupleG (I.ok.hd hc) ht fun h' tk t' hk => ⟨.int _, H, I.kept hk, ⟨_, rfl⟩, ?_⟩
      have hn := rt.ints.numsOf
      have e4 := nums_intItems xs
      rw [← hxs] at e4
      have e5 : preSum (numAt xs) xs.size = ns.sum := by
        rw [preSum_eq, List.take_of_length_le (by simp), ← e4, ← hn]
      rw [e5]
      exact q _ _ (.int R hx)
  · cases e
theorem ints_at {its : List Value} {ns : List Int} (e : IntsAre its ns) : ∀ {i : Nat} {v : Value}, its[i]? = some v → ∃ k t, v = .int k t ∧ ns[i]? = some k := by
  induction e with
  | nil => intro i v h; simp at h
  | cons _ _ _ ih =>
    intro i v h
    cases i with
    | zero => simp at h; subst h; exact ⟨_, _, rfl, rfl⟩
    | succ i => exact ih (by simpa using h)
theorem truth_ints {prog : Program} {w : World} {A : Around} {ns : List Int} {its : List Value} (e : IntsAre its ns) :
    TruthOf prog w A (fun i v => its.toArray[i]? = some v) (fun i => decide (ns.getD i 0 ≠ 0)) := fun i v s Q E hv hq => by
  have hv' : its[i]? = some v := by simpa using hv
  obtain ⟨k, t, rfl, hk⟩ := ints_at e hv'
  have hg : ns.getD i 0 = k := by rw [List.getD_eq_getElem?_getD, hk] <;> rfl
  have hq' : Q (decide (ns.getD i 0 ≠ 0)) s := hq
  rw [hg] at hq'
  refine PyProof.Rows.truthy_int ?_
  rw [show (k != 0) = decide (k ≠ 0) from by simp only [bne, ne_eq, decide_not]; rfl]
  exact hq'
theorem any_ints_range : ∀ ns : List Int, (List.range ns.length).any (fun i => decide (ns.getD i 0 ≠ 0)) = ns.any fun i => decide (i ≠ 0)
  | [] => rfl
  | b :: bs => by
    rw [List.length_cons, List.range_succ_eq_map, List.any_cons, List.any_map, List.any_cons, ← any_ints_range bs]
    all_goals rfl
theorem crb_anyS (hK : X.K = P.K) (hc : X.calm = true) : CallR X (.builtin "any") (rB P .anyS) := by
  intro pins s σ0 H xs us Q I rv h
  obtain ⟨σ, r, Ow, Xb, X1, ts, t', hx, R, ha, e, q⟩ := h
  unfold biT at e
  split at e <;> try cases e
  all_goals try (rename_i heq; cases heq)
  rename_i ds
  simp only [Option.map_eq_some_iff] at e
  obtain ⟨k, e2, rfl⟩ := e
  obtain ⟨ns, e3, rfl⟩ := any_ints e2
  obtain ⟨v, rfl, h1⟩ := ha.one
  obtain ⟨a, ys, rfl, hs, rs⟩ := hld_tup h1 R (show viewT r (.d (.tup ds)) = some (.tup ds) from rfl)
  have := rvs_ints rs e3
  subst this
  rw [← hK] at hs
  obtain ⟨its, rt, ht, _⟩ := I.tuple hs
  rw [Vals.ref1 rv]
  have hlt : a < s.heap.objs.size := by obtain ⟨_, e, _⟩ := ht; exact Heap.lt_size e
  refine call_any_walk (wpAny_pyIter_tuple ht ?_)
  refine ⟨_, _, _, _, _, _, _, rfl, Walks.tuple (A := X.A.in1) (I.ok.hd hc) _ a (Nat.ne_of_lt hlt) its.toArray, ⟨⟨_, Heap.get?_push_size _ rfl, rfl, rfl⟩, ht.push _⟩, truth_ints rt.ints, fun h' tk hk => ?_⟩
  refine ⟨.bl _, H, I.kept fun b o eo => hk b o (fun hmem => ?_) (Heap.get?_push_of_some _ eo), ?_, q _ _ (.bl R hx)⟩
  · rcases List.mem_cons.mp hmem with e1 | hmem
    · exact absurd (e1 ▸ Heap.lt_size eo) (Nat.lt_irrefl _)
    · cases hmem
  · show Value.bool _ = Value.bool _
    have hl : its.length = ns.length := by rw [← rt.length, List.length_map]
    rw [← any_ints_range, List.size_toArray, hl]

/-! isinstance -/
def tyName : TyK → String
  | .int => "int" | .bool => "bool" | .tuple => "tuple" | .list => "list" | .str => "str"
def rI (P : Par) (k : TyK) : List V → Hp → VK → Prop := fun vs H Q => ∃ (σ : L2.St) (r : Ro) (Ow : Own) (Xb X1 : Bs) (t : T) (x : Dv) (b : Bool) (v : V), vs = [v, .ty (tyName k)] ∧ (∀ a, Xb a → X1 a) ∧ Rho P H Ow X1 r σ ∧ Hld P H Ow Xb X1 σ t v ∧ viewT r t = some x ∧ isTy k x = some b ∧
  ∀ v H', Okp P H Ow Xb σ (.d (.bl b)) r v H' → Q v H'
theorem rv_reads {Z : Bs} (I : Inv X pins σ H s) (hK : X.K = P.K) {d : Dv} {u : Value} (h : Rv P Z H d v) (hu : RelV v u) {p : PyData} (e : toPy d = some p) : ∃ as, Reads s.heap u p as := reads_of I hK d v u p h hu e
/-- the type's name of data, when it is known -/
def tyOfD : Dv → Option String
  | .non => some "NoneType" | .bl _ => some "bool" | .int _ => some "int" | .str _ => some "str" | .tup _ => some "tuple" | .lv _ => some "list" | _ => none
theorem tyx_of {Z : Bs} {d : Dv} {T : String} (hK : X.K = P.K) (I : Inv X pins σ H s) (h : Rv P Z H d v) (e : tyOfD d = some T) : TyX X.K H v (.type T) := by
  cases h with
  | non => simp only [tyOfD, Option.some.injEq] at e; subst e; exact .base .non
  | bl => simp only [tyOfD, Option.some.injEq] at e; subst e; exact .base (.bl _)
  | int => simp only [tyOfD, Option.some.injEq] at e; subst e; exact .base (.int _)
  | str => simp only [tyOfD, Option.some.injEq] at e; subst e; exact .base (.str _)
  | tup t rs =>
    simp only [tyOfD, Option.some.injEq] at e; subst e
    have q := tupAt_sq I hK t
    rcases q with (q | ⟨o, q⟩) | ⟨o, its, n, hk, hc, _⟩
    · exact .base (.tup q)
    · exact .fTuple q
    · exact .kTuple hk hc
  | lv t n rs => simp only [tyOfD, Option.some.injEq] at e; subst e; exact .base (.lst t)
  | _ => simp [tyOfD] at e
theorem kit_all : ∀ (k : TyK) (d : Dv) (b : Bool), isTy k d = some b → ∃ T, tyOfD d = some T ∧ kitB T (tyName k) = some b := by
  have q : ∀ (k : TyK), (kitB "NoneType" (tyName k) = some false) ∧ (kitB "int" (tyName k) = some (match k with | .int => true | _ => false)) ∧ (kitB "bool" (tyName k) = some (match k with | .int => true | .bool => true | _ => false)) ∧
      (kitB "str" (tyName k) = some (match k with | .str => true | _ => false)) ∧ (kitB "tuple" (tyName k) = some (match k with | .tuple => true | _ => false)) ∧ (kitB "list" (tyName k) = some (match k with | .list => true | _ => false)) := by
    intro k
    cases k <;> decide +kernel
  intro k d b e
  obtain ⟨q1, q2, q3, q4, q5, q6⟩ := q k
  cases d <;> cases k <;> simp only [isTy, Option.some.injEq, reduceCtorEq] at e <;> subst e <;> exact ⟨_, rfl, by first | exact q1 | exact q2 | exact q3 | exact q4 | exact q5 | exact q6⟩
theorem crb_isi (hK : X.K = P.K) (k : TyK) : CallR X (.builtin "isinstance") (rI P k) := by
  intro pins s σ0 H xs us Q I rv h
  obtain ⟨σ, r, Ow, Xb, X1, t, x, b, v, rfl, hx, R, h1, e1, e2, q⟩ := h
  obtain ⟨T, f1, f2⟩ := kit_all k x b e2
  exact call_isi pins s σ0 H _ us Q I rv ⟨v, _, _, _, b, rfl, .ty _, tyx_of hK I (h1.view R e1) f1, kit_ty f2, q _ _ (.bl R hx)⟩
def rTL (P : Par) : List V → Hp → VK → Prop := fun vs H Q => ∃ (σ : L2.St) (r : Ro) (Ow : Own) (Xb X1 : Bs) (t : T) (b : Bool) (v : V) (tp : Addr), vs = [v, .ref tp] ∧ H tp = some (.tup [.ty "tuple", .ty "list"]) ∧ (∀ a, Xb a → X1 a) ∧ Rho P H Ow X1 r σ ∧ Hld P H Ow Xb X1 σ t v ∧ isTLf r t = some b ∧
  ∀ v H', Okp P H Ow Xb σ (.d (.bl b)) r v H' → Q v H'
theorem kitTL (K : PySem.W.Frag) {T : String} {b1 b2 : Bool} (h1 : kitB T "tuple" = some b1) (h2 : kitB T "list" = some b2) : PySem.W.kitAny K (.type T) [.type "tuple", .type "list"] = some (b1 || b2) := by
  refine kitAny_cons (kit_ty h1) (fun z => ?_) (fun z => by rw [z]; rfl)
  refine kitAny_cons (kit_ty h2) (fun z2 => ?_) (fun z2 => by rw [z2, z]; rfl)
  rw [z, z2]; exact kitAny_nil
theorem crb_isTL (hK : X.K = P.K) : CallR X (.builtin "isinstance") (rTL P) := by
  intro pins s σ0 H xs us Q I rv h
  obtain ⟨σ, r, Ow, Xb, X1, t, b, v, tp, rfl, ht, hx, R, h1, e1, q⟩ := h
  unfold isTLf at e1
  have core : ∀ {x : Dv} {T : String} {b1 b2 : Bool}, viewT r t = some x → tyOfD x = some T → kitB T "tuple" = some b1 → kitB T "list" = some b2 → b = (b1 || b2) → wpAny (model X.prog X.w) X.A (call (.builtin "isinstance") us) (EP X pins σ0 Q) X.xe s := fun f1 f2 f3 f4 f5 =>
    call_isiT pins s σ0 H _ us Q I rv ⟨v, tp, _, _, [.type "tuple", .type "list"], b, rfl, ht, .cons (.ty _) (.cons (.ty _) .nil), tyx_of hK I (h1.view R f1) f2, by rw [f5]; exact kitTL _ f3 f4, q _ _ (.bl R hx)⟩
  split at e1
  · rename_i heq; simp only [Option.some.injEq] at e1; subst e1; exact core (b1 := true) (b2 := false) heq rfl (by decide +kernel) (by decide +kernel) rfl
  · rename_i heq; simp only [Option.some.injEq] at e1; subst e1; exact core (b1 := false) (b2 := true) heq rfl (by decide +kernel) (by decide +kernel) rfl
  · rename_i heq; simp only [Option.some.injEq] at e1; subst e1; exact core (b1 := false) (b2 := false) heq rfl (by decide +kernel) (by decide +kernel) rfl
  · rename_i heq; simp only [Option.some.injEq] at e1; subst e1; exact core (b1 := false) (b2 := false) heq rfl (by decide +kernel) (by decide +kernel) rfl
  · rename_i heq; simp only [Option.some.injEq] at e1; subst e1; exact core (b1 := false) (b2 := false) heq rfl (by decide +kernel) (by decide +kernel) rfl
  · rename_i heq; simp only [Option.some.injEq] at e1; subst e1; exact core (b1 := false) (b2 := false) heq rfl (by decide +kernel) (by decide +kernel) rfl
  · cases e1
end
end MP
set_option linter.all false
set_option Elab.async false
set_option maxRecDepth 100000
set_option maxHeartbeats 1000000
/-! MP11: sorting, in plain Lean; then as the model has it. -/
namespace MP
open PySem PySem.Spec PyProof.Rows L2 PySem.W

/-- what an item is sorted by -/
def ky : Dv → List Int
  | .int i => [i]
  | .tup xs => (intsOf xs).getD []
  | _ => []
def SameK (a b : Dv) : Prop := (∃ i j, a = .int i ∧ b = .int j) ∨ ∃ x y ix iy, a = .tup x ∧ b = .tup y ∧ intsOf x = some ix ∧ intsOf y = some iy
theorem intsOf_map : ∀ ns : List Int, intsOf (ns.map Dv.int) = some ns
  | [] => rfl
  | n :: ns => by simp [intsOf, intsOf_map ns]
theorem of_intsOf : ∀ {ds : List Dv} {ns : List Int}, intsOf ds = some ns → ds = ns.map Dv.int
  | [], _, e => by simp only [intsOf, Option.some.injEq] at e; subst e; rfl
  | d :: ds, _, e => by
    cases d with
    | int i =>
      simp only [intsOf, Option.map_eq_some_iff] at e
      obtain ⟨m, e1, rfl⟩ := e
      rw [of_intsOf e1]; rfl
    | _ => simp [intsOf] at e
theorem lexD_lt : ∀ (x y : List Int), lexD (x.map Dv.int) (y.map Dv.int) = decide (x < y)
  | [], [] => by simp [lexD]
  | [], _ :: _ => by simp [lexD]
  | _ :: _, [] => by simp [lexD]
  | a :: x, b :: y => by
    simp only [List.map_cons, lexD, lexD_lt x y]
    rw [Bool.eq_iff_iff]
    simp [List.cons_lt_cons_iff]
theorem dLt_ky {a b : Dv} (h : SameK a b) : dLt a b = decide (ky a < ky b) := by
  rcases h with ⟨i, j, rfl, rfl⟩ | ⟨x, y, ix, iy, rfl, rfl, e1, e2⟩
  · simp [dLt, ky, List.cons_lt_cons_iff]
  · simp only [dLt, ky, e1, e2, Option.getD_some]
    rw [of_intsOf e1, of_intsOf e2]
    exact lexD_lt ix iy
def encD (d : Dv) : PyData := (toPy d).getD .none
theorem toPys_ints : ∀ ns : List Int, toPys (ns.map Dv.int) = some (ns.map PyData.int)
  | [] => rfl
  | n :: ns => by simp [toPys, toPy, toPys_ints ns]
theorem dataLt_ky {a b : Dv} (h : SameK a b) : PySem.W.dataLt (encD a) (encD b) = decide (ky a < ky b) := by
  rcases h with ⟨i, j, rfl, rfl⟩ | ⟨x, y, ix, iy, rfl, rfl, e1, e2⟩
  · show PySem.W.dataLt (.int i) (.int j) = _
    rw [PySem.W.dataLt_int]
    simp [ky, List.cons_lt_cons_iff]
  · have f : ∀ {x : List Dv} {ix : List Int}, intsOf x = some ix → encD (.tup x) = .tuple (ix.map .int) := fun {x ix} e => by
      rw [of_intsOf e]; simp [encD, toPy, toPys_ints]
    rw [f e1, f e2, PySem.W.dataLt_tuple]
    simp only [ky, e1, e2, Option.getD_some]
    exact PySem.W.dataLt_ints ix iy
theorem SameK.anti {a b : Dv} (h : SameK a b) (h1 : ky a ≤ ky b) (h2 : ky b ≤ ky a) : a = b := by
  have e := List.le_antisymm h1 h2
  rcases h with ⟨i, j, rfl, rfl⟩ | ⟨x, y, ix, iy, rfl, rfl, e1, e2⟩
  · simp only [ky, List.cons.injEq, and_true] at e; rw [e]
  · simp only [ky, e1, e2, Option.getD_some] at e
    rw [of_intsOf e1, of_intsOf e2, e]
theorem SameK.symm {a b : Dv} (h : SameK a b) : SameK b a := by
  rcases h with ⟨i, j, h1, h2⟩ | ⟨x, y, ix, iy, h1, h2, h3, h4⟩
  · exact .inl ⟨j, i, h2, h1⟩
  · exact .inr ⟨y, x, iy, ix, h2, h1, h4, h3⟩
def AllS (xs : List Dv) : Prop := ∀ a, a ∈ xs → ∀ b, b ∈ xs → SameK a b
/-- not after -/
def leK (up : Bool) (a b : Dv) : Prop := if up then ky a ≤ ky b else ky b ≤ ky a
theorem leK_tr {up : Bool} {a b c : Dv} (h : leK up a b) (k : leK up b c) : leK up a c := by
  cases up with
  | true => exact List.le_trans (show ky a ≤ ky b from h) (show ky b ≤ ky c from k)
  | false => exact List.le_trans (show ky c ≤ ky b from k) (show ky b ≤ ky a from h)
theorem insD_mem {up : Bool} {x : Dv} : ∀ {l : List Dv}, (insD up x l).Perm (x :: l)
  | [] => .refl _
  | y :: r => by
    unfold insD
    split
    · exact .refl _
    · exact ((insD_mem (l := r)).cons y).trans (.swap x y r)
theorem insD_sorted {up : Bool} {x : Dv} : ∀ {l : List Dv}, (∀ y, y ∈ l → SameK x y) → l.Pairwise (leK up) → (insD up x l).Pairwise (leK up)
  | [], _, _ => by simp [insD]
  | y :: r, hs, hp => by
    have hxy := hs y List.mem_cons_self
    obtain ⟨p1, p2⟩ := List.pairwise_cons.mp hp
    unfold insD
    split
    · rename_i h
      have hle : leK up x y := by
        cases up with
        | true =>
          rw [show bef true x y = dLt x y from rfl, dLt_ky hxy] at h
          exact List.le_of_lt (of_decide_eq_true h)
        | false =>
          rw [show bef false x y = dLt y x from rfl, dLt_ky hxy.symm] at h
          exact List.le_of_lt (of_decide_eq_true h)
      refine List.pairwise_cons.mpr ⟨fun z hz => ?_, hp⟩
      rcases List.mem_cons.mp hz with rfl | hz
      · exact hle
      · exact leK_tr hle (p1 z hz)
    · rename_i h
      have hle : leK up y x := by
        cases up with
        | true =>
          rw [show bef true x y = dLt x y from rfl, dLt_ky hxy] at h
          exact fun q => h (decide_eq_true q)
        | false =>
          rw [show bef false x y = dLt y x from rfl, dLt_ky hxy.symm] at h
          exact fun q => h (decide_eq_true q)
      refine List.pairwise_cons.mpr ⟨fun z hz => ?_, insD_sorted (fun y hy => hs y (List.mem_cons_of_mem _ hy)) p2⟩
      rcases List.mem_cons.mp (insD_mem.mem_iff.mp hz) with rfl | hz
      · exact hle
      · exact p1 z hz
theorem sortD_go {up : Bool} : ∀ (l acc : List Dv), AllS (acc ++ l) → acc.Pairwise (leK up) → (l.foldl (fun acc x => insD up x acc) acc).Perm (acc ++ l) ∧ (l.foldl (fun acc x => insD up x acc) acc).Pairwise (leK up)
  | [], acc, _, hp => by rw [List.append_nil]; exact ⟨.refl _, hp⟩
  | x :: l, acc, hs, hp => by
    have pm : (insD up x acc ++ l).Perm (acc ++ x :: l) := (insD_mem.append_right l).trans List.perm_middle.symm
    have := sortD_go (up := up) l (insD up x acc) (fun a ha b hb => hs a (pm.mem_iff.mp ha) b (pm.mem_iff.mp hb)) (insD_sorted (fun y hy => hs x (by simp) y (by simp [hy])) hp)
    exact ⟨this.1.trans pm, this.2⟩
theorem sortD_eq {up : Bool} {l : List Dv} (hs : AllS l) : sortD up l = l.mergeSort (PySem.W.dataLe (!up) encD) := by
  obtain ⟨p1, p2⟩ := sortD_go (up := up) l [] hs .nil
  have O := sortLe_total (listOrd itemOrd) (!up) fun b : Dv => keyToks (encD b)
  have q1 := List.mergeSort_perm l (PySem.W.dataLe (!up) encD)
  have q2 : (l.mergeSort (PySem.W.dataLe (!up) encD)).Pairwise fun a b => PySem.W.dataLe (!up) encD a b = true := List.pairwise_mergeSort O.trans (fun a b => by rw [Bool.or_eq_true]; exact O.total a b) l
  have q3 : (l.mergeSort (PySem.W.dataLe (!up) encD)).Pairwise (leK up) := by
    refine List.Pairwise.imp_of_mem (fun {a b} ha hb h => ?_) q2
    have hk := hs a (q1.mem_iff.mp ha) b (q1.mem_iff.mp hb)
    rw [PySem.W.dataLe_eq] at h
    cases up with
    | true =>
      have h : (!PySem.W.dataLt (encD b) (encD a)) = true := h
      rw [dataLt_ky hk.symm] at h
      exact fun z => by simp [z] at h
    | false =>
      have h : (!PySem.W.dataLt (encD a) (encD b)) = true := h
      rw [dataLt_ky hk] at h
      exact fun z => by simp [z] at h
  refine List.Perm.eq_of_pairwise (fun a b ha hb h1 h2 => ?_) p2 q3 (p1.trans q1.symm)
  have hk := hs a (p1.mem_iff.mp ha) b (q1.mem_iff.mp hb)
  cases up with
  | true => exact hk.anti h1 h2
  | false => exact hk.anti h2 h1
end MP
set_option linter.all false
set_option Elab.async false
set_option maxRecDepth 100000
set_option maxHeartbeats 1000000
/-! MP12: sorted, len(set(..)), isinstance. -/
namespace MP
open PySem PySem.Spec PyProof.Rows L2 PySem.W

section
variable {P : Par} {X : Cx} {Xb X1 B : Bs} {Ow : Own} {H : Hp} {r : Ro} {σ σ0 : L2.St} {t : T} {v : V} {vs : List V} {s : Shared} {pins : List (Addr × Obj)} {Q : VK}

theorem flat_shape {d : Dv} (h : flatT d = true) : ∃ (n : Int) (ns : List Int), d = .tup (.int n :: ns.map .int) := by
  have fl : ∀ {xs : List Dv}, flatI xs = true → ∃ ns : List Int, xs = ns.map Dv.int := by
    intro xs
    induction xs with
    | nil => intro _; exact ⟨[], rfl⟩
    | cons x xs ih =>
      intro h
      cases x with
      | int i =>
        obtain ⟨ns, rfl⟩ := ih (by simpa [flatI] using h)
        exact ⟨i :: ns, rfl⟩
      | _ => simp [flatI] at h
  unfold flatT at h
  split at h
  · obtain ⟨ns, rfl⟩ := fl h
    exact ⟨_, ns, rfl⟩
  · cases h
theorem flat_ints {n : Int} {ns : List Int} : intsOf (.int n :: ns.map Dv.int) = some (n :: ns) := intsOf_map (n :: ns)
theorem allS_of {xs : List Dv} (h : (xs.all flatT || (intsOf xs).isSome) = true) : AllS xs := by
  rw [Bool.or_eq_true] at h
  rcases h with h | h
  · intro a ha b hb
    obtain ⟨n, ns, rfl⟩ := flat_shape (List.all_eq_true.mp h a ha)
    obtain ⟨m, ms, rfl⟩ := flat_shape (List.all_eq_true.mp h b hb)
    exact .inr ⟨_, _, _, _, rfl, rfl, flat_ints, flat_ints⟩
  · obtain ⟨ns, e⟩ := Option.isSome_iff_exists.mp h
    have := of_intsOf e
    subst this
    intro a ha b hb
    obtain ⟨i, _, rfl⟩ := List.mem_map.mp ha
    obtain ⟨j, _, rfl⟩ := List.mem_map.mp hb
    exact .inl ⟨i, j, rfl, rfl⟩
theorem encD_tup (n : Int) (ns : List Int) : encD (.tup (.int n :: ns.map .int)) = .tuple (.int n :: ns.map .int) := by
  have := toPys_ints (n :: ns)
  simp only [List.map_cons] at this
  simp [encD, toPy, this]
theorem enc_facts {xs : List Dv} (h : (xs.all flatT || (intsOf xs).isSome) = true) : AllAlike (xs.map encD) ∧ Sortable (xs.map encD) ∧ (∀ b, b ∈ xs → (encD b).depth ≤ 5) ∧ ∀ b, b ∈ xs → toPy b = some (encD b) := by
  rw [Bool.or_eq_true] at h
  rcases h with h | h
  · have sh : ∀ a, a ∈ xs → ∃ (n : Int) (ns : List Int), a = .tup (.int n :: ns.map .int) := fun a ha => flat_shape (List.all_eq_true.mp h a ha)
    refine ⟨fun d hd d' hd' => ?_, .inl fun d hd => ?_, fun b hb => ?_, fun b hb => ?_⟩
    · obtain ⟨a, ha, rfl⟩ := List.mem_map.mp hd
      obtain ⟨a', ha', rfl⟩ := List.mem_map.mp hd'
      obtain ⟨n, ns, rfl⟩ := sh a ha
      obtain ⟨m, ms, rfl⟩ := sh a' ha'
      rw [encD_tup, encD_tup, alike]
      exact alike_ints (n :: ns) (m :: ms)
    · obtain ⟨a, ha, rfl⟩ := List.mem_map.mp hd
      obtain ⟨n, ns, rfl⟩ := sh a ha
      exact ⟨_, _, encD_tup n ns⟩
    · obtain ⟨n, ns, rfl⟩ := sh b hb
      rw [encD_tup, PyData.depth]
      have := depth_ints (n :: ns)
      simp only [List.map_cons] at this
      rw [this]; omega
    · obtain ⟨n, ns, rfl⟩ := sh b hb
      have := toPys_ints (n :: ns)
      simp only [List.map_cons] at this
      simp [encD, toPy, this]
  · obtain ⟨ns, e⟩ := Option.isSome_iff_exists.mp h
    have := of_intsOf e
    subst this
    refine ⟨fun d hd d' hd' => ?_, .inr fun d hd => ?_, fun b hb => ?_, fun b hb => ?_⟩
    · obtain ⟨a, ha, rfl⟩ := List.mem_map.mp hd
      obtain ⟨a', ha', rfl⟩ := List.mem_map.mp hd'
      obtain ⟨i, _, rfl⟩ := List.mem_map.mp ha
      obtain ⟨j, _, rfl⟩ := List.mem_map.mp ha'
      simp [encD, toPy, alike]
    · obtain ⟨a, ha, rfl⟩ := List.mem_map.mp hd
      obtain ⟨i, _, rfl⟩ := List.mem_map.mp ha
      exact ⟨by simp [encD, toPy], by simp [encD, toPy]⟩
    · obtain ⟨i, _, rfl⟩ := List.mem_map.mp hb
      simp [encD, toPy, PyData.depth]
    · obtain ⟨i, _, rfl⟩ := List.mem_map.mp hb
      simp [encD, toPy]
theorem each_of : ∀ {ds : List Dv} {xs : List V} {us : List Value}, Rvs P B H ds xs → Vals xs us → EachIs (fun u d => ∃ x, Rv P B H d x ∧ RelV x u) us ds
  | _, _, _, .nil, .nil => .nil
  | _, _, _, .cons h1 h2, .cons r1 r2 => .cons ⟨_, h1, r1⟩ (each_of h2 r2)
theorem of_each : ∀ {us : List Value} {ds : List Dv}, EachIs (fun u d => ∃ x, Rv P B H d x ∧ RelV x u) us ds → ∃ xs, Rvs P B H ds xs ∧ Vals xs us
  | _, _, .nil => ⟨[], .nil, .nil⟩
  | _, _, .cons ⟨x, h1, r1⟩ t => by
    obtain ⟨xs, h2, r2⟩ := of_each t
    exact ⟨x :: xs, .cons h1 h2, .cons r1 r2⟩
theorem each_reads (I : Inv X pins σ0 H s) (hK : X.K = P.K) : ∀ {us : List Value} {ds : List Dv}, (∀ d, d ∈ ds → toPy d = some (encD d)) → EachIs (fun u d => ∃ x, Rv P B H d x ∧ RelV x u) us ds → EachIs (fun u d => ∃ as, Reads s.heap u (encD d) as) us ds
  | _, _, _, .nil => .nil
  | _, _, h, .cons ⟨x, h1, r1⟩ t => .cons (rv_reads I hK h1 r1 (h _ List.mem_cons_self)) (each_reads I hK (fun d hd => h d (List.mem_cons_of_mem _ hd)) t)

/-- what a sorted list is -/
theorem sorted_fin {ds : List Dv} {us out : List Value} {up : Bool} (I : Inv X pins σ0 H s) (R : Rho P H Ow X1 r σ) (hx : ∀ a, Xb a → X1 a) (hs : (ds.all flatT || (intsOf ds).isSome) = true) (hz : ds.length ≤ sizeLine) (hl : out.length = ds.length)
    (e : EachIs (fun u d => ∃ x, Rv P (BsOf Ow X1) H d x ∧ RelV x u) out (ds.mergeSort (dataLe (!up) encD))) (q : ∀ v H', Okp P H Ow Xb σ (.fr (sortD up ds)) r v H' → Q v H') :
    EP X pins σ0 Q (.ref (s.heap.objs.size + 1)) { s with heap := sortedAll s.heap us (List.toArray out) } := by
  rw [← sortD_eq (allS_of hs)] at e
  obtain ⟨ys, rs, rv⟩ := of_each e
  have hn : H (s.heap.objs.size + 1) = none := I.hok.fresh (Nat.le_succ _)
  obtain ⟨c, hc⟩ := sortedAll_at s.heap us out.toArray
  refine ⟨.ref (s.heap.objs.size + 1), upd H (s.heap.objs.size + 1) (.lst ys), I.laid (t' := s.toks) (fun b u e => sortedAll_old e) (Nat.le_succ _) ?_, rfl, q _ _ (.list R hx hn rs)⟩
  exact ⟨by rw [rv.length, hl]; exact hz, out, c, rv, hc⟩
theorem crb_sorted (hK : X.K = P.K) (hu : X.A.units + 150 < cLine) : CallR X (.builtin "sorted") (rB P (.sortedL true)) := by
  intro pins s σ0 H xs us Q I rv h
  obtain ⟨σ, r, Ow, Xb, X1, ts, t', hx, R, ha, e, q⟩ := h
  unfold biT at e
  split at e <;> try cases e
  all_goals try (rename_i heq; cases heq)
  split at e
  · rename_i ds e1
    split at e
    · rename_i hf
      simp only [Option.some.injEq] at e
      subst e
      obtain ⟨v, rfl, h1⟩ := ha.one
      obtain ⟨a, ys, rfl, hs, rs⟩ := h1.lst R e1
      rw [← hK] at hs
      obtain ⟨its, rv2, hl, hz⟩ := I.list hs
      rw [Vals.ref1 rv]
      have ee := each_of rs rv2
      obtain ⟨f1, f2, f3, f4⟩ := enc_facts hf
      have hz2 : ds.length ≤ sizeLine := by rw [rs.length]; exact hz
      exact sorted_data (enc := encD) hl.isList ee (each_reads I hK f4 ee) f1 f2 hz2 (fun b hb => by have := f3 b hb; omega) fun out ho eo => sorted_fin (up := true) I R hx hf hz2 ho eo q
    · cases e
  · cases e
def rSR (P : Par) (b : Bool) : List V → List V → Hp → VK → Prop := fun vs zs H Q => zs = [.bl b] ∧ rB P (.sortedL (!b)) vs H Q
theorem crb_sortedRev (hK : X.K = P.K) (hu : X.A.units + 150 < cLine) {b : Bool} : CallRK X (.builtin "sorted") [Str.ofString "reverse"] (rSR P b) := by
  intro pins s σ0 H xs zs us ws Q I rv rz h
  obtain ⟨rfl, σ, r, Ow, Xb, X1, ts, t', hx, R, ha, e, q⟩ := h
  obtain ⟨w, rfl, rw1⟩ := vals1 rz
  cases rw1
  unfold biT at e
  split at e <;> try cases e
  all_goals try (rename_i heq; cases heq)
  split at e
  · rename_i ds e1
    split at e
    · rename_i hf
      simp only [Option.some.injEq] at e
      subst e
      obtain ⟨v, rfl, h1⟩ := ha.one
      obtain ⟨a, ys, rfl, hs, rs⟩ := h1.lst R e1
      rw [← hK] at hs
      obtain ⟨its, rv2, hl, hz⟩ := I.list hs
      rw [Vals.ref1 rv]
      have ee := each_of rs rv2
      obtain ⟨f1, f2, f3, f4⟩ := enc_facts hf
      have hz2 : ds.length ≤ sizeLine := by rw [rs.length]; exact hz
      refine sorted_rev_data (enc := encD) hl.isList ee (each_reads I hK f4 ee) f1 f2 hz2 (fun b hb => by have := f3 b hb; omega) fun out ho eo => sorted_fin (up := !b) I R hx hf hz2 ho ?_ q
      rw [Bool.not_not]; exact eo
    · cases e
  · cases e

/-! len(set(..)) -/
theorem distinct_mem : ∀ {ds : List Dv} {x : Dv}, x ∈ distinct ds ↔ x ∈ ds
  | [], _ => Iff.rfl
  | d :: ds, x => by
    unfold distinct
    split
    · rename_i h
      obtain ⟨y, hy, e⟩ := List.any_eq_true.mp h
      have := Dv.beq_eq _ _ e
      subst this
      rw [distinct_mem, List.mem_cons]
      exact ⟨.inr, fun h => h.elim (fun z => by rw [z]; exact hy) id⟩
    · rw [List.mem_cons, List.mem_cons, distinct_mem]
theorem distinct_nodup : ∀ {ds : List Dv}, (distinct ds).Nodup
  | [] => .nil
  | d :: ds => by
    unfold distinct
    split
    · exact distinct_nodup
    · rename_i h
      refine List.nodup_cons.mpr ⟨fun hm => h (List.any_eq_true.mpr ⟨d, distinct_mem.mp hm, Dv.beq_self d⟩), distinct_nodup⟩
theorem tups_of (I : Inv X pins σ0 H s) (hK : X.K = P.K) : ∀ {ds : List Dv} {xs : List V}, Rvs P B H ds xs → (∀ d, d ∈ ds → flatT d = true) → ∃ ks : List (Addr × List Int), xs = ks.map (fun p => V.ref p.1) ∧ ds = ks.map (fun p => Dv.tup (p.2.map .int)) ∧ ∀ p ∈ ks, SqT X.K H p.1 (p.2.map V.int)
  | _, _, .nil, _ => ⟨[], rfl, rfl, fun _ h => by cases h⟩
  | _, _, .cons (d := d) h1 h2, hf => by
    obtain ⟨ks, rfl, rfl, hk⟩ := tups_of I hK h2 (fun d hd => hf d (List.mem_cons_of_mem _ hd))
    obtain ⟨n, ns, rfl⟩ := flat_shape (hf d List.mem_cons_self)
    cases h1 with
    | @tup a xs _ t rs =>
      have := rvs_ints rs flat_ints
      subst this
      refine ⟨(a, n :: ns) :: ks, rfl, rfl, fun p hp => ?_⟩
      rcases List.mem_cons.mp hp with rfl | hp
      · exact tupAt_sq I hK t
      · exact hk p hp
theorem int_map_inj : ∀ {a b : List Int}, a.map Dv.int = b.map Dv.int → a = b
  | [], [], _ => rfl
  | [], _ :: _, e => by cases e
  | _ :: _, [], e => by cases e
  | a :: x, b :: y, e => by
    simp only [List.map_cons, List.cons.injEq, Dv.int.injEq] at e
    rw [e.1, int_map_inj e.2]
theorem s_lenSet {W : XW} {a : Expr} {fa : Ro → Re T} {p p2 q pos : Pos} (C : Cok P X W) (hg : Gl X "len") (hm : X.mg "len" = none) (hg2 : Gl X "set") (hm2 : X.mg "set" = none) (ha : PE X a (tE P W fa)) (na : ∀ x p, a ≠ .Starred x p) :
    PE X (.Call (.Name "len" p) [.Call (.Name "set" p2) [a] [] q] [] pos) (tE P W fun r => (fa r).bind fun t r1 => match biT r1 .lenSet [t] with
      | some t => .ok t r1
      | none => .bad) := by
  refine ⟨fun pins s σ H Q I ⟨r, Ow, Xb, R, hf⟩ => ?_⟩
  refine Call_ (ld_blt I hg hm PySem.boot_len ?_)
  refine PyProof.Rows.callWith_builtin1 (PyProof.Rows.args_cons ?_ rfl) rfl rfl
  refine Call_ (ld_blt I hg2 hm2 PyProof.Rows.boot_set ?_)
  refine PyProof.Rows.callWith_type1 (PyProof.Rows.args_cons (step1 ha I R hf fun x r1 u s1 v H1 Ow1 X1 _ I1 rv e1 x1 _ R1 h1 _ f1 => PyProof.Rows.args_nil ?_) (starless na)) (starless na) rfl
  unfold biT at f1
  simp only at f1
  cases e1 : lstT r1 x with
  | none => simp only [e1] at f1; exact f1.elim
  | some ds =>
    simp only [e1] at f1
    by_cases hc : (ds.all flatT && decide (ds.length < 64)) = true
    · rw [if_pos hc] at f1
      rw [Bool.and_eq_true, decide_eq_true_eq] at hc
      obtain ⟨p, ys, rfl, hs, rs⟩ := h1.lst R1 e1
      obtain ⟨ks, rfl, ed, hk⟩ := tups_of I1 C.K rs (fun d hd => List.all_eq_true.mp hc.1 d hd)
      rw [← C.K] at hs
      obtain ⟨its, rv2, hl, hz⟩ := I1.list hs
      cases rv
      have hlen : ks.length < 64 := by have := hc.2; rw [ed, List.length_map] at this; exact this
      refine call_set_tups (P := X.prog) (w := X.w) ks (I1.ok.hd C.calm) hl.isList (by simpa using refs_of_vals rv2) (fun p hp => I1.isT (hk p hp)) hlen (by have := C.un; omega) fun h' tk L es ep t' R' g k => ?_
      refine PyProof.Rows.args_nil ?_
      obtain ⟨o, ho, hex, hd⟩ := R'.ob
      have I2 : Inv X pins σ H1 { s1 with heap := h', toks := tk } := I1.kept k
      have hsz : L.length = (distinct ds).length := by
        have nd1 : (L.map fun p => Dv.tup (p.2.map .int)).Nodup := by
          have := R'.nd
          rw [show (L.map fun p => Dv.tup (p.2.map .int)) = (L.map (·.2)).map (fun ns => Dv.tup (ns.map .int)) from by rw [List.map_map]; rfl]
          refine List.Pairwise.map _ (fun a b hab z => hab ?_) this
          simp only [Dv.tup.injEq] at z
          exact int_map_inj z
        have pm : (L.map fun p => Dv.tup (p.2.map .int)).Perm (distinct ds) := by
          refine (List.perm_ext_iff_of_nodup nd1 distinct_nodup).mpr fun d => ?_
          rw [distinct_mem, ed, List.mem_map, List.mem_map]
          constructor
          · rintro ⟨p, hp, rfl⟩
            exact ⟨p, List.mem_of_mem_take (g.sub p hp), rfl⟩
          · rintro ⟨p, hp, rfl⟩
            have := g.all p (by rw [List.take_length]; exact hp)
            obtain ⟨p', hp', e'⟩ := List.mem_map.mp this
            exact ⟨p', hp', by rw [e']⟩
        have := pm.length_eq
        rw [List.length_map] at this
        exact this
      have hes : es.size = (distinct ds).length := by rw [← hsz]; exact R'.size (s := { s1 with heap := h' })
      have hfew := R'.few
      refine call_len_set ho hex hd (R'.fits (s := { s1 with heap := h' })) (by rw [hes, ← hsz]; omega) ⟨.int (distinct ds).length, H1, I2.tok _, ⟨_, by rw [hes]⟩, f1 _ _ (.int R1 x1)⟩
    · rw [if_neg hc] at f1; exact f1.elim
end
end MP
set_option linter.all false
set_option Elab.async false
set_option maxRecDepth 100000
set_option maxHeartbeats 1000000
/-! MP13: isinstance; methods of lists and tuples; slices; is. -/
namespace MP
open PySem PySem.Spec PyProof.Rows L2 PySem.SeqAt

theorem back_flat {pos : Pos} : ∀ {ts : List (Bool × Sem Value)}, ts.any (·.1) = false → (backTo pos ts).any (·.1) = false
  | [], _ => rfl
  | t :: ts, h => by
    rw [List.any_cons, Bool.or_eq_false_iff] at h
    show ((t.1 || (backTo pos ts).any (·.1)) = false)
    rw [h.1, back_flat h.2]; rfl

section
variable {P : Par} {W : XW} {X : Cx} {a b c : Expr} {fa fb fc : Ro → Re T} {pos p p1 p2 : Pos}

/-! ### isinstance -/
theorem s_isi (C : Cok P X W) {k : TyK} (hg : Gl X "isinstance") (hm : X.mg "isinstance" = none) (ha : PE X a (tE P W fa)) (na : ∀ x p, a ≠ .Starred x p) (hb : PE X b (tC (.ty (tyName k)))) (nb : ∀ x p, b ≠ .Starred x p) :
    PE X (.Call (.Name "isinstance" p) [a, b] [] pos) (tE P W fun r => (fa r).bind fun t r1 => match biT r1 (.isi k) [t] with
      | some t => .ok t r1
      | none => .bad) := by
  refine PE.imp (pe_callB (crb_isi C.K k) hg hm PyProof.Rows.boot_isinstance (pa_cons ha (pa_cons hb pa_nil (starless nb)) (starless na)) (by decide) (by decide) (starless na) (by rw [starless nb]; rfl)) fun σ H Q ⟨r, Ow, Xb, R, hf⟩ => ?_
  refine into R hf fun x r1 v H1 Ow1 X1 _ e1 x1 _ R1 h1 _ f1 => ?_
  show rI P k [v, .ty (tyName k)] H1 Q
  unfold biT at f1
  simp only at f1
  cases e1 : viewT r1 x with
  | none => simp only [e1] at f1; exact f1.elim
  | some d =>
    simp only [e1] at f1
    cases e2 : isTy k d with
    | none => simp only [e2, Option.map_none] at f1; exact f1.elim
    | some bb =>
      simp only [e2, Option.map_some] at f1
      exact ⟨σ, r1, Ow1, Xb, X1, x, d, bb, v, rfl, x1, R1, h1, e1, e2, f1⟩
theorem s_isTL (C : Cok P X W) {k : Nat} (hg : Gl X "isinstance") (hm : X.mg "isinstance" = none) (ha : PE X a (tE P W fa)) (na : ∀ x p, a ≠ .Starred x p) (hb : PE X b (tC (.ty "tuple"))) (nb : ∀ x p, b ≠ .Starred x p) (hc : PE X c (tC (.ty "list"))) (nc : ∀ x p, c ≠ .Starred x p) :
    PE X (.Call (.Name "isinstance" p) [a, .Tuple [b, c] k p2] [] pos) (tE P W fun r => (fa r).bind fun t r1 => match biT r1 .isTL [t] with
      | some t => .ok t r1
      | none => .bad) := by
  refine PE.imp (pe_callB (crb_isTL (P := P) C.K) hg hm PyProof.Rows.boot_isinstance (pa_cons ha (pa_cons (pe_tup (pa_cons hb (pa_cons hc pa_nil (starless nc)) (starless nb))) pa_nil (starless fun _ _ z => by cases z)) (starless na)) (by decide) (by decide) (starless na) rfl) fun σ H Q ⟨r, Ow, Xb, R, hf⟩ => ?_
  refine into R hf fun x r1 v H1 Ow1 X1 _ e1 x1 _ R1 h1 _ f1 => ?_
  refine ⟨by rw [sizeLine_eq]; simp, fun tp htp => ?_⟩
  show rTL P [v, .ref tp] (upd H1 tp (.tup [.ty "tuple", .ty "list"])) Q
  have ex : Ext H1 Ow1 (upd H1 tp (.tup [.ty "tuple", .ty "list"])) Ow1 := .new htp
  have R2 := R1.new (o := .tup [.ty "tuple", .ty "list"]) htp
  have h2 := h1.ext ex R2 addX_of (fun a z => z.elim .inl fun z => .inr (by rw [z]; exact htp))
  unfold biT at f1
  simp only at f1
  cases e2 : isTLf r1 x with
  | none => simp only [e2, Option.map_none] at f1; exact f1.elim
  | some bb =>
    simp only [e2, Option.map_some] at f1
    exact ⟨σ, r1, Ow1, Xb, addX X1 tp, x, bb, v, tp, rfl, upd_same, fun a z => addX_of a (x1 a z), R2, h2, e2, fun v' H' ok => f1 v' H' (Okp.lift ex ok)⟩

/-! ### methods -/
theorem recvT {pins : List (Addr × Obj)} {σ σ0 : L2.St} {H : Hp} {s : Shared} {Ow : Own} {X0 X1 : Bs} {r : Ro} {t : T} {v : V} {u : Value} {k : Bool} (C : Cok P X W) (I : Inv X pins σ0 H s) (R : Rho P H Ow X1 r σ) (h : Hld P H Ow X0 X1 σ t v) (ru : RelV v u) (e : isTupT r t = some k) :
    s.TypeIs u (if k then "tuple" else "list") ∧ ∀ a, u = .ref a → ∃ ob, s.heap.get? a = some ob ∧ ob.dict = none := by
  unfold isTupT at e
  split at e
  · rename_i ds q
    simp only [Option.some.injEq] at e
    subst e
    cases t with
    | d z =>
      simp only [viewT, Option.some.injEq] at q
      subst q
      have h : Rv P (BsOf Ow X1) H (.tup ds) v := h
      cases h with
      | @tup a xs _ tt rs =>
        cases ru
        obtain ⟨its, _, ⟨o, ho, hc, n, hd⟩, _⟩ := I.tuple (tupAt_sq I C.K tt)
        refine ⟨⟨o, ho, hc⟩, fun b eb => ?_⟩
        cases eb
        rcases tt with ⟨⟨ob, e1, e2⟩, _⟩ | ⟨o', its', n', h1, h2, h3, h4, h5, h6⟩
        · exact ⟨ob, (I.hok a _ e1).1, e2⟩
        · exact ⟨o', I.kIn a o' (by rw [C.K]; exact h1), h6⟩
    | fr ys => simp [viewT] at q
    | rf i => simp only [viewT] at q; split at q <;> simp at q
    | frd => simp [viewT] at q
  · rename_i ds q
    simp only [Option.some.injEq] at e
    subst e
    obtain ⟨a, xs, rfl, hs, rs⟩ := hld_lst h R q
    cases ru
    obtain ⟨its, _, ⟨o, n, ho, hc, hdn, hd⟩, _⟩ := I.list (.inl (.inl hs))
    refine ⟨⟨o, ho, hc⟩, fun b eb => ?_⟩
    cases eb
    exact ⟨o, ho, hdn⟩
  · cases e
theorem plc_place : ∀ {ps : List PyData} {d : PyData}, plc ps d = ps.findIdx? fun y => PyData.eqv y d
  | [], _ => rfl
  | y :: ps, d => by
    rw [List.findIdx?_cons, plc, plc_place]
theorem items_of {pins : List (Addr × Obj)} {σ σ0 : L2.St} {H : Hp} {s : Shared} {Ow : Own} {X0 X1 : Bs} {r : Ro} {t : T} {v w : V} {u : Value} {k : Bool} {y : Dv} {ps : List PyData} {q : PyData} (C : Cok P X W) (I : Inv X pins σ0 H s) (R : Rho P H Ow X1 r σ) (h : Hld P H Ow X0 X1 σ t v) (hy : Rv P (BsOf Ow X1) H y w) (ru : RelV w u)
    (e : itemsT k r t y = some (ps, q)) : ∃ a its as bs, v = .ref a ∧ (if k then s.heap.IsTuple a (List.toArray its) else s.heap.IsList a (List.toArray its)) ∧ ReadsAll s.heap its ps as ∧ Reads s.heap u q bs ∧ PyData.plainAll ps = true ∧ q.plain = true ∧ PyData.depthAll ps ≤ 60 ∧ q.depth ≤ 60 ∧ its.length ≤ sizeLine := by
  unfold itemsT at e
  split at e
  · rename_i ds p q1 q2
    split at e
    · rename_i hk
      split at e
      · rename_i ps' q3
        split at e
        · rename_i hd
          simp only [Option.some.injEq, Prod.mk.injEq] at e
          obtain ⟨rfl, rfl⟩ := e
          obtain ⟨a, xs, rfl, hs, rs⟩ := hld_tup h R q1
          rw [← C.K] at hs
          obtain ⟨its, rv, ht, hz⟩ := I.tuple hs
          obtain ⟨as, ra⟩ := readsAll_of I C.K _ _ _ _ rs rv q3
          obtain ⟨bs, rb⟩ := reads_of I C.K _ _ _ _ hy ru q2
          exact ⟨a, its, as, bs, rfl, by rw [if_pos hk]; exact ht, ra, rb, toPys_plain _ _ q3, toPy_plain _ _ q2, hd.1, hd.2.1, by rw [← rv.length]; exact hz⟩
        · cases e
      · cases e
    · cases e
  · rename_i ds p q1 q2
    split at e
    · cases e
    · rename_i hk
      split at e
      · rename_i ps' q3
        split at e
        · rename_i hd
          simp only [Option.some.injEq, Prod.mk.injEq] at e
          obtain ⟨rfl, rfl⟩ := e
          obtain ⟨a, xs, rfl, hs, rs⟩ := hld_lst h R q1
          obtain ⟨its, rv, ht, hz⟩ := I.list (.inl (.inl hs))
          obtain ⟨as, ra⟩ := readsAll_of I C.K _ _ _ _ rs rv q3
          obtain ⟨bs, rb⟩ := reads_of I C.K _ _ _ _ hy ru q2
          exact ⟨a, its, as, bs, rfl, by rw [if_neg hk]; exact ht.isList, ra, rb, toPys_plain _ _ q3, toPy_plain _ _ q2, hd.1, hd.2.1, by rw [← rv.length]; exact hz⟩
        · cases e
      · cases e
  · cases e

theorem few1 {cpos : Pos} {env : Env} (nb : ∀ x p, b ≠ .Starred x p) : ((backTo cpos (starEach [b] env)).all (fun x => !x.1) && (backToKw cpos (keywordEach [] env)).all (fun x => x.1.isSome)
      && decide (([b] : List Expr).length + ([] : List Keyword).length + (if ([] : List Keyword).isEmpty then 0 else 1) < 30)) = true := by
  rw [starless nb]; rfl
theorem s_mindex (C : Cok P X W) {apos cpos : Pos} (ha : PE X a (tE P W fa)) (hb : PE X b (tE P W fb)) (nb : ∀ x p, b ≠ .Starred x p) (hbase : attributeBase a "index" X.env (eval a X.env) = eval a X.env) (hline : (apos.endLine == cpos.line) = true) :
    PE X (.Call (.Attribute a "index" apos) [b] [] cpos) (tE P W (idxF fa fb)) := by
  refine ⟨fun pins s σ H Q I ⟨r, Ow, Xb, R, hf⟩ => ?_⟩
  refine wpAny_Call_method_late hbase (few1 nb) hline rfl (step1 ha I R hf fun x r1 u s1 v H1 Ow1 X1 _ I1 rv e1 x1 _ R1 h1 _ f1 => ?_)
  cases ek : isTupT r1 x with
  | none => simp only [ek] at f1; exact f1.elim
  | some k =>
    simp only [ek] at f1
    obtain ⟨ty, hd⟩ := recvT C I1 R1 h1 rv ek
    have rest : wpAny (model X.prog X.w) X.A (eval b X.env) (fun u2 s2 => wpAny (model X.prog X.w) X.A (call (.builtin (if k then "tuple.index" else "list.index")) [u, u2]) (EP X pins σ Q) X.xe s2) X.xe s1 :=
      step2 hb I1 R1 h1 x1 f1 fun y r2 u2 s2 v2 H2 Ow2 X2 _ I2 rv2 e2 x2 R2 g1 g2 f2 => by
        cases y with
        | d y =>
          simp only at f2
          cases ei : idxT k r2 x y with
          | none => simp only [ei] at f2; exact f2.elim
          | some j =>
            simp only [ei] at f2
            unfold idxT at ei
            cases eit : itemsT k r2 x y with
            | none => simp only [eit] at ei; cases ei
            | some pq =>
              obtain ⟨ps, q⟩ := pq
              simp only [eit] at ei
              obtain ⟨ad, its, as, bs, rfl, hl, ra, rb, pl1, pl2, d1, d2, hz⟩ := items_of C I2 R2 g1 g2 rv2 eit
              cases rv
              rw [plc_place] at ei
              obtain ⟨hj, hit, hno⟩ := hit_at (vs := its.toArray) (d := q) (by simpa using ra) pl1 (show dataPlace ps q = some j from ei)
              have hU := C.un
              have ip := items_plain (A := X.A) (vs := its.toArray) (by simpa using ra) rb pl1 pl2 (by omega)
              have fin : EP X pins σ Q (.int (j : Nat) s2.toks) { s2 with toks := s2.toks + 1 } := ⟨.int j, H2, I2.tok _, ⟨_, rfl⟩, f2 _ _ (.int R2 x2)⟩
              cases k with
              | true =>
                rw [if_pos rfl] at hl ⊢
                obtain ⟨⟨cls, dd, data, sl⟩, ho, hc, n, hdt⟩ := hl
                simp only at hc hdt
                subst hc hdt
                exact call_meets PySem.F.slot_tuple_index ⟨_, ho, rfl⟩ PySem.F.entry_tuple_index (PySem.F.args_tuple_index_2 _ _) (_root_.TI.tuple_indexAt ad its.toArray n dd sl u2 _ j hj hit hno) ⟨ho, ip, fin⟩
              | false =>
                rw [if_neg Bool.false_ne_true] at hl ⊢
                obtain ⟨⟨cls, dd, data, sl⟩, ho, hc, n, hdt⟩ := hl
                simp only at hc hdt
                subst hc hdt
                exact call_meets PySem.F.slot_list_index ⟨_, ho, rfl⟩ PySem.F.entry_list_index (PySem.F.args_list_index_2 _ _) (SeqAt.list_indexAt ad its.toArray n dd sl u2 _ j hj (by have h9 := hj; rw [List.size_toArray] at h9; rw [sizeLine_eq] at hz; omega) hit hno) ⟨ho, ip, fin⟩
        | _ => exact f2.elim
    cases k with
    | true => exact ⟨"tuple", "tuple.index", PySem.F.plainAttrs_tuple, PySem.F.slot_tuple_index, PySem.F.type_tuple_index, ty, hd, by rw [starless nb]; exact Calls.callWith_builtin rfl (Calls.evalArgs_plain (Calls.spliced_cons (thn rest fun u2 s2 h => Calls.spliced_nil h)))⟩
    | false => exact ⟨"list", "list.index", PySem.F.plainAttrs_list, PySem.F.slot_list_index, PySem.F.type_list_index, ty, hd, by rw [starless nb]; exact Calls.callWith_builtin rfl (Calls.evalArgs_plain (Calls.spliced_cons (thn rest fun u2 s2 h => Calls.spliced_nil h)))⟩
theorem s_mcount (C : Cok P X W) {apos cpos : Pos} (ha : PE X a (tE P W fa)) (hb : PE X b (tE P W fb)) (nb : ∀ x p, b ≠ .Starred x p) (hbase : attributeBase a "count" X.env (eval a X.env) = eval a X.env) (hline : (apos.endLine == cpos.line) = true) :
    PE X (.Call (.Attribute a "count" apos) [b] [] cpos) (tE P W (cntF fa fb)) := by
  refine ⟨fun pins s σ H Q I ⟨r, Ow, Xb, R, hf⟩ => ?_⟩
  refine wpAny_Call_method_late hbase (few1 nb) hline rfl (step1 ha I R hf fun x r1 u s1 v H1 Ow1 X1 _ I1 rv e1 x1 _ R1 h1 _ f1 => ?_)
  cases ek : isTupT r1 x with
  | none => simp only [ek] at f1; exact f1.elim
  | some k =>
    simp only [ek] at f1
    obtain ⟨ty, hd⟩ := recvT C I1 R1 h1 rv ek
    have rest : wpAny (model X.prog X.w) X.A (eval b X.env) (fun u2 s2 => wpAny (model X.prog X.w) X.A (call (.builtin (if k then "tuple.count" else "list.count")) [u, u2]) (EP X pins σ Q) X.xe s2) X.xe s1 :=
      step2 hb I1 R1 h1 x1 f1 fun y r2 u2 s2 v2 H2 Ow2 X2 _ I2 rv2 e2 x2 R2 g1 g2 f2 => by
        cases y with
        | d y =>
          simp only at f2
          cases ei : cntT k r2 x y with
          | none => simp only [ei] at f2; exact f2.elim
          | some j =>
            simp only [ei] at f2
            unfold cntT at ei
            cases eit : itemsT k r2 x y with
            | none => simp only [eit] at ei; cases ei
            | some pq =>
              obtain ⟨ps, q⟩ := pq
              simp only [eit, Option.some.injEq] at ei
              subst ei
              obtain ⟨ad, its, as, bs, rfl, hl, ra, rb, pl1, pl2, d1, d2, hz⟩ := items_of C I2 R2 g1 g2 rv2 eit
              cases rv
              have hU := C.un
              have fin : EP X pins σ Q (.int ((ps.countP fun y => PyData.eqv y q : Nat) : Int) s2.toks) { s2 with toks := s2.toks + 1 } := ⟨.int _, H2, I2.tok _, ⟨_, rfl⟩, f2 _ _ (.int R2 x2)⟩
              cases k with
              | true => exact count_tuple_data hl (by simpa using ra) rb pl1 pl2 (by omega) fin
              | false => exact count_list_data hl (by simpa using ra) rb pl1 pl2 (by omega) fin
        | _ => exact f2.elim
    cases k with
    | true => exact ⟨"tuple", "tuple.count", PySem.F.plainAttrs_tuple, PySem.F.slot_tuple_count, PySem.F.type_tuple_count, ty, hd, by rw [starless nb]; exact Calls.callWith_builtin rfl (Calls.evalArgs_plain (Calls.spliced_cons (thn rest fun u2 s2 h => Calls.spliced_nil h)))⟩
    | false => exact ⟨"list", "list.count", PySem.F.plainAttrs_list, PySem.F.slot_list_count, PySem.F.type_list_count, ty, hd, by rw [starless nb]; exact Calls.callWith_builtin rfl (Calls.evalArgs_plain (Calls.spliced_cons (thn rest fun u2 s2 h => Calls.spliced_nil h)))⟩
end
end MP
set_option linter.all false
set_option Elab.async false
set_option maxRecDepth 100000
set_option maxHeartbeats 1000000
/-! MP14: slices; is; lists that a slot owns, written. -/
namespace MP
open PySem PySem.Spec PyProof.Rows L2 PySem.SeqAt

section
variable {P : Par} {W : XW} {X : Cx} {a b c : Expr} {fa fb fc : Ro → Re T} {pos p p1 p2 : Pos} {σ : L2.St} {H : Hp} {Ow : Own} {Xb X1 : Bs} {r : Ro} {Q : VK}

/-! ### parts of a slice -/
def FinO (P : Par) (W : XW) (Xb : Bs) (σ : L2.St) (H : Hp) (Ow : Own) (res : Re (Option Int)) (Q : Option Int → Hp → Prop) : Prop := match res with
  | .ok k r' => ∀ H' Ow', Ext H Ow H' Ow' → Rho P H' Ow' Xb r' σ → Q k H'
  | .exc c r' => ∀ H' Ow' d, Ext H Ow H' Ow' → Rho P H' Ow' Xb r' σ → W c d σ H'
  | .bad => False
def tO (P : Par) (W : XW) (f : Ro → Re (Option Int)) : TO := fun σ H Q => ∃ r Ow Xb, Rho P H Ow Xb r σ ∧ FinO P W Xb σ H Ow (f r) Q
theorem o_none : PO X none (tO P W fun r => .ok none r) := by
  refine ⟨fun pins s σ H Q I ⟨r, Ow, Xb, R, hf⟩ => po_none.run pins s σ H Q I (hf H Ow .refl R)⟩
theorem o_some (ha : PE X a (tE P W fa)) : PO X (some a) (tO P W (somO fa)) := by
  refine ⟨fun pins s σ H Q I ⟨r, Ow, Xb, R, hf⟩ => (po_some ha).run pins s σ H Q I ?_⟩
  unfold somO at hf
  refine ⟨r, Ow, Xb, R, ?_⟩
  cases e : fa r with
  | ok t r1 =>
    simp only [e, Re.bind] at hf
    cases t with
    | d z =>
      cases z with
      | int i =>
        rintro v H' ⟨Ow', e', R', rv⟩
        cases rv
        exact ⟨i, rfl, hf H' Ow' e' R'⟩
      | _ => exact hf.elim
    | _ => exact hf.elim
  | exc c r1 => simp only [e, Re.bind] at hf; exact hf
  | bad => simp only [e, Re.bind] at hf; exact hf.elim
theorem intoO {f : Ro → Re (Option Int)} {k : Option Int → Ro → Re T} {Q' : Option Int → Hp → Prop} {t0 : T} {v0 : V} {X0 : Bs} (R : Rho P H Ow Xb r σ) (h0 : Hld P H Ow X0 Xb σ t0 v0) (hx0 : ∀ a, X0 a → Xb a) (hf : Fin P W X0 σ H Ow ((f r).bind k) Q)
    (hc : ∀ o r1 H1 Ow1, f r = .ok o r1 → Ext H Ow H1 Ow1 → Rho P H1 Ow1 Xb r1 σ → Hld P H1 Ow1 X0 Xb σ t0 v0 → Fin P W X0 σ H1 Ow1 (k o r1) Q → Q' o H1) : tO P W f σ H Q' := by
  refine ⟨r, Ow, Xb, R, ?_⟩
  cases e : f r with
  | ok o r1 =>
    rw [e] at hf
    exact fun H1 Ow1 e1 R1 => hc o r1 H1 Ow1 e e1 R1 (h0.ext e1 R1 (fun _ z => z) (fun _ z => .inl z)) (hf.lift e1)
  | exc c r1 => rw [e] at hf; exact fun H' Ow' d e' R' => hf H' Ow' d e' (R'.weak hx0)
  | bad => rw [e] at hf; exact hf.elim
theorem clip_ix (n d : Nat) (o : Option Int) : HT.sIx n d o = clip n d o := by cases o <;> rfl
theorem cut_rvs {B : Bs} {ds : List Dv} {xs : List V} (h : Rvs P B H ds xs) (l u : Option Int) : Rvs P B H (cut ds l u) (cutV xs l u) := by
  unfold cut cutV
  rw [clip_ix, clip_ix, h.length]
  exact (h.drop _).take _
theorem cut_all {ds : List Dv} {l u : Option Int} (h1 : clip ds.length 0 l = 0) (h2 : clip ds.length ds.length u = ds.length) : cut ds l u = ds := by
  unfold cut
  rw [h1, h2, List.drop_zero, Nat.sub_zero, List.take_of_length_le (Nat.le_refl _)]
theorem s_slc (C : Cok P X W) {lo hi : Option Expr} {fl fh : Ro → Re (Option Int)} (ha : PE X a (tE P W fa)) (hl : PO X lo (tO P W fl)) (hh : PO X hi (tO P W fh)) : PE X (.Subscript a (.Slice lo hi none p2) pos) (tE P W fun r => (fa r).bind fun x r1 => (fl r1).bind fun l r2 => (fh r2).bind fun u r3 => match sliT r3 x l u with
    | some t => .ok t r3
    | none => .bad) := by
  refine PE.imp (pe_slice (sl_list.or sl_tupZ) ha hl hh) fun σ H Q ⟨r, Ow, Xb, R, hf⟩ => ?_
  refine into R hf fun x r1 v H1 Ow1 X1 _ e1 x1 _ R1 h1 _ f1 => ?_
  refine intoO R1 h1 x1 f1 fun l r2 H2 Ow2 _ e2 R2 h2 f2 => ?_
  refine intoO R2 h2 x1 f2 fun u r3 H3 Ow3 _ e3 R3 h3 f3 => ?_
  unfold sliT at f3
  split at f3
  · rename_i t q
    split at q
    · rename_i ds e
      simp only [Option.some.injEq] at q
      subst q
      obtain ⟨ad, xs, rfl, hs, rs⟩ := hld_tup h3 R3 e
      refine .inr ⟨ad, xs, rfl, by rw [C.K]; exact hs, fun hw => ?_, fun hw p ob hd hp => f3 _ _ (.tuple R3 x1 hd hp (cut_rvs rs l u))⟩
      rw [clip_ix, clip_ix, ← rs.length] at hw
      rw [cut_all hw.1 hw.2] at f3
      refine f3 _ _ (.data (R3.weak x1) ?_)
      cases x with
      | d z => simp only [viewT, Option.some.injEq] at e; subst e; exact Rv.weak (BsOf.mono x1) h3
      | fr ys => simp [viewT] at e
      | rf i => simp only [viewT] at e; split at e <;> simp at e
      | frd => simp [viewT] at e
    · rename_i ds e
      simp only [Option.some.injEq] at q
      subst q
      obtain ⟨ad, xs, rfl, hs, rs⟩ := hld_lst h3 R3 e
      exact .inl ⟨ad, xs, rfl, .inl (.inl hs), fun p hp => f3 _ _ (.list R3 x1 hp (cut_rvs rs l u))⟩
    · cases q
  · exact f3.elim

/-! ### is None -/
theorem isN_v {t : T} {v : V} {neg k : Bool} (h : Hld P H Ow Xb X1 σ t v) (R : Rho P H Ow X1 r σ) (e : isNT neg t = some k) (hr : ∀ i, t = .rf i → ∃ xs, r[i]? = some (.own xs)) : k = (if neg then !decide (v = .non) else decide (v = .non)) := by
  have h9 : ∀ a : Addr, (decide (V.ref a = V.non)) = false := fun a => by simp
  cases t with
  | d x =>
    have h : Rv P (BsOf Ow X1) H x v := h
    cases h <;> simp only [isNT, Option.some.injEq, reduceCtorEq] at e <;> subst e <;> cases neg <;> simp
  | fr ds =>
    obtain ⟨a, xs, rfl, _⟩ := h
    simp only [isNT, Option.some.injEq] at e
    subst e
    cases neg <;> simp
  | rf i =>
    have h : σ[i]? = some (some v) := h
    simp only [isNT, Option.some.injEq] at e
    subst e
    obtain ⟨ds, q⟩ := hr i rfl
    obtain ⟨a, xs, h1, h2, h3, h4⟩ := R.sl i _ q
    rw [h2] at h
    simp only [Option.some.injEq] at h
    subst h
    cases neg <;> simp
  | frd => exact h.elim
theorem isN_core {neg : Bool} {σ : L2.St} {H : Hp} {Q : VK} (h : tE P W (isNF neg fa) σ H Q) : tE P W fa σ H fun v H1 => Q (.bl (if neg then !decide (v = .non) else decide (v = .non))) H1 := by
  obtain ⟨r, Ow, Xb, R, hf⟩ := h
  unfold isNF at hf
  refine into R hf fun x r1 v H1 Ow1 X1 _ e1 x1 _ R1 h1 _ f1 => ?_
  cases q1 : isNT neg x with
  | none => simp only [q1] at f1; exact f1.elim
  | some k =>
    simp only [q1] at f1
    cases q2 : viewT r1 x with
    | none => simp only [q2] at f1; exact f1.elim
    | some z =>
      simp only [q2] at f1
      have := isN_v h1 R1 q1 fun i ei => by
        subst ei
        simp only [viewT] at q2
        split at q2
        · rename_i ys q; exact ⟨ys, q⟩
        · cases q2
      rw [← this]
      exact f1 _ _ (.bl R1 x1)
theorem s_isN (ha : PE X a (tE P W fa)) (hb : PE X b (tC .non)) (hm : behindInMarks .Is b = false) : PE X (.Compare a [.Is] [b] pos) (tE P W (isNF false fa)) :=
  PE.imp (pe_cmpR op_isN ha hb hm) fun σ H Q h => by
    obtain ⟨r, Ow, Xb, R, hf⟩ := isN_core h
    exact ⟨r, Ow, Xb, R, by revert hf; cases fa r <;> intro hf; exact fun v H' ok => ⟨rfl, hf v H' ok⟩; exact hf; exact hf⟩
theorem s_notN (ha : PE X a (tE P W fa)) (hb : PE X b (tC .non)) (hm : behindInMarks .IsNot b = false) : PE X (.Compare a [.IsNot] [b] pos) (tE P W (isNF true fa)) :=
  PE.imp (pe_cmpR op_notN ha hb hm) fun σ H Q h => by
    obtain ⟨r, Ow, Xb, R, hf⟩ := isN_core h
    exact ⟨r, Ow, Xb, R, by revert hf; cases fa r <;> intro hf; exact fun v H' ok => ⟨rfl, hf v H' ok⟩; exact hf; exact hf⟩

/-! ### a list that a slot owns, written -/
theorem Rho.put {i : Nat} {ds : List Dv} (R : Rho P H Ow Xb r σ) (q : r[i]? = some (.own ds)) : ∃ a xs, Ow i = some a ∧ σ[i]? = some (some (.ref a)) ∧ H a = some (.lst xs) ∧ Rvs P (BsOf Ow Xb) H ds xs ∧
    ∀ xs', Ext H Ow (upd H a (.lst xs')) Ow ∧ Kp H (BsOf Ow Xb) (upd H a (.lst xs')) (BsOf Ow Xb) ∧ ∀ ds', Rvs P (BsOf Ow Xb) H ds' xs' → Rho P (upd H a (.lst xs')) Ow Xb (r.set i (.own ds')) σ := by
  obtain ⟨a, xs, h1, h2, h3, h4⟩ := R.sl i _ q
  refine ⟨a, xs, h1, h2, h3, h4, fun xs' => ?_⟩
  have kp : Kp H (BsOf Ow Xb) (upd H a (.lst xs')) (BsOf Ow Xb) := fun b o e n _ => ⟨by rw [upd_ne (fun z => n (.inl ⟨i, by rw [z]; exact h1⟩))]; exact e, n⟩
  have al : ∀ b, H b ≠ none → upd H a (.lst xs') b ≠ none := fun b hb => by
    by_cases z : b = a
    · subst z; rw [upd_same]; simp
    · rw [upd_ne z]; exact hb
  refine ⟨⟨fun b o e n _ => by rw [upd_ne (fun z => n i (by rw [z]; exact h1))]; exact e, fun i => .inl rfl, al⟩, kp, fun ds' hr => ?_⟩
  refine ⟨by rw [List.length_set]; exact R.len, fun j s e => ?_, R.inj, fun j b e => ?_, fun b z => al b (R.x b z), R.disj, ?_⟩
  · by_cases hj : j = i
    · subst hj
      have hlt : j < r.length := (List.getElem?_eq_some_iff.mp q).1
      rw [List.getElem?_set_self hlt] at e
      cases e
      exact ⟨a, xs', h1, h2, upd_same, hr.keep kp⟩
    · rw [List.getElem?_set_ne (Ne.symm hj)] at e
      have z := R.sl j s e
      cases s with
      | none => trivial
      | val d => obtain ⟨v, z1, z2⟩ := z; exact ⟨v, z1, z2.keep kp⟩
      | own d =>
        obtain ⟨b, ys, z1, z2, z3, z4⟩ := z
        exact ⟨b, ys, z1, z2, by rw [upd_ne (fun w => hj (R.inj j i b z1 (by rw [w]; exact h1)))]; exact z3, z4.keep kp⟩
      | ownd d => exact z
  · obtain ⟨ys, h⟩ := R.ow j b e
    by_cases z : b = a
    · subst z; exact ⟨_, upd_same⟩
    · exact ⟨ys, by rw [upd_ne z]; exact h⟩
  · refine P.Jk _ _ R.j (fun b ps e => ?_) fun b φ e => ?_
    · rw [upd_ne (fun z => by rw [z, h3] at e; cases e)]; exact e
    · rw [upd_ne (fun z => by rw [z, h3] at e; cases e)]; exact e
theorem s_mpop {i : Nat} {x : Str} {apos cpos np : Pos} (hN : X.N[i]? = some x) (hv : Vis X.env.scope x) (hd : (x == ("__debug__" : Str)) = false) (hcd : (x == ("__classdict__" : Str)) = false) (hbase : attributeBase (.Name x np) "pop" X.env (eval (.Name x np) X.env) = eval (.Name x np) X.env)
    (hline : (apos.endLine == cpos.line) = true) : PE X (.Call (.Attribute (.Name x np) "pop" apos) [] [] cpos) (tE P W fun r => match r[i]? with
    | some (.own xs) => match xs.getLast? with
      | some x => .ok (.d x) (r.set i (.own xs.dropLast))
      | none => .bad
    | _ => .bad) := by
  refine PE.imp (pe_bm0 (T := "list") PySem.F.plainAttrs_list PySem.F.slot_list_pop PySem.F.type_list_pop mt_pop (pe_var hN hv hd hcd) hbase hline) fun σ H Q ⟨r, Ow, Xb, R, hf⟩ => ?_
  cases q : r[i]? with
  | none => simp only [q] at hf
  | some sl =>
    cases sl with
    | own ds =>
      simp only [q] at hf
      obtain ⟨a, xs, h1, h2, h3, h4, put⟩ := R.put q
      cases g : ds.getLast? with
      | none => simp only [g] at hf
      | some d =>
        simp only [g] at hf
        have hl := h4.length
        have gd : ds[ds.length - 1]? = some d := by rw [← List.getLast?_eq_getElem?]; exact g
        obtain ⟨y, y1, y2⟩ := h4.get gd
        rw [hl] at y1
        obtain ⟨e1, kp, R1⟩ := put xs.dropLast
        exact ⟨.ref a, h2, .inl ⟨rfl, xs, .inl (.inl h3)⟩, a, xs, y, rfl, rfl, h3, y1, hf _ _ ⟨Ow, e1, R1 _ h4.dropLast, y2.keep kp⟩⟩
    | _ => simp only [q] at hf
end
end MP
set_option linter.all false
set_option Elab.async false
set_option maxRecDepth 100000
set_option maxHeartbeats 1000000
/-! MP15: targets, what a loop walks. -/
namespace MP
open PySem PySem.Spec PyProof.Rows L2 PySem.SeqAt

section
variable {P : Par} {W : XW} {X : Cx} {a b c : Expr} {fa fb fc : Fe} {pos p p1 p2 : Pos} {σ : L2.St} {H H1 H' : Hp} {Ow Ow1 Ow' : Own} {Xb X1 X2 : Bs} {r r1 : Ro} {Q : VK}

/-! ### a slot stored to -/
def without (Ow : Own) (i : Nat) : Own := fun j => if j = i then none else Ow j
theorem without_sub {i j : Nat} {a : Addr} (h : without Ow i j = some a) : Ow j = some a := by
  unfold without at h
  split at h
  · cases h
  · exact h
theorem without_bs {i : Nat} : ∀ b, BsOf (without Ow i) Xb b → BsOf Ow Xb b := fun b z => z.elim (fun ⟨j, z⟩ => .inl ⟨j, without_sub z⟩) .inr
theorem Rho.setVal {i : Nat} {d : Dv} {v : V} (R : Rho P H Ow Xb r σ) (h : Rv P (BsOf Ow Xb) H d v) : ExtS [i] H Ow H (without Ow i) ∧ Rho P H (without Ow i) Xb (r.set i (.val d)) (σ.set i (some v)) := by
  refine ⟨⟨fun b o e n _ => e, fun j a e => .inl ⟨j, without_sub e⟩, fun j n => .inl ?_, fun b h => h⟩, ?_⟩
  · unfold without
    rw [if_neg (fun z => n (by simp [z]))]
  · refine ⟨by rw [List.length_set, List.length_set]; exact R.len, fun j s e => ?_, fun j k b e1 e2 => R.inj j k b (without_sub e1) (without_sub e2), fun j b e => R.ow j b (without_sub e), R.x, fun j b e => R.disj j b (without_sub e), R.j⟩
    by_cases hj : j = i
    · subst hj
      by_cases hlt : j < r.length
      · rw [List.getElem?_set_self hlt] at e
        cases e
        exact ⟨v, by rw [List.getElem?_set_self (by rw [← R.len]; exact hlt)], h.weak without_bs⟩
      · rw [List.getElem?_eq_none (by simpa using hlt)] at e
        cases e
    · rw [List.getElem?_set_ne (Ne.symm hj)] at e
      have z := R.sl j s e
      cases s with
      | none => trivial
      | val d' =>
        obtain ⟨v', z1, z2⟩ := z
        exact ⟨v', by rw [List.getElem?_set_ne (Ne.symm hj)]; exact z1, z2.weak without_bs⟩
      | own ds =>
        obtain ⟨a, xs, z1, z2, z3, z4⟩ := z
        exact ⟨a, xs, by unfold without; rw [if_neg hj]; exact z1, by rw [List.getElem?_set_ne (Ne.symm hj)]; exact z2, z3, z4.weak without_bs⟩
      | ownd ds => exact z
/-- a slot forgotten, the value behind it as it may be -/
theorem Rho.setNone {i : Nat} {o : Option V} (R : Rho P H Ow Xb r σ) : ExtS [i] H Ow H (without Ow i) ∧ Rho P H (without Ow i) Xb (r.set i .none) (σ.set i o) := by
  refine ⟨⟨fun b o e n _ => e, fun j a e => .inl ⟨j, without_sub e⟩, fun j n => .inl ?_, fun b h => h⟩, ?_⟩
  · unfold without
    rw [if_neg (fun z => n (by simp [z]))]
  · refine ⟨by rw [List.length_set, List.length_set]; exact R.len, fun j s e => ?_, fun j k b e1 e2 => R.inj j k b (without_sub e1) (without_sub e2), fun j b e => R.ow j b (without_sub e), R.x, fun j b e => R.disj j b (without_sub e), R.j⟩
    by_cases hj : j = i
    · subst hj
      by_cases hlt : j < r.length
      · rw [List.getElem?_set_self hlt] at e
        cases e
        trivial
      · rw [List.getElem?_eq_none (by simpa using hlt)] at e
        cases e
    · rw [List.getElem?_set_ne (Ne.symm hj)] at e
      have z := R.sl j s e
      cases s with
      | none => trivial
      | val d' =>
        obtain ⟨v', z1, z2⟩ := z
        exact ⟨v', by rw [List.getElem?_set_ne (Ne.symm hj)]; exact z1, z2.weak without_bs⟩
      | own ds =>
        obtain ⟨a, xs, z1, z2, z3, z4⟩ := z
        exact ⟨a, xs, by unfold without; rw [if_neg hj]; exact z1, by rw [List.getElem?_set_ne (Ne.symm hj)]; exact z2, z3, z4.weak without_bs⟩
      | ownd ds => exact z
/-- a slot takes a list that nobody else holds -/
theorem Rho.setOwn {i : Nat} {ds : List Dv} {xs : List V} {a : Addr} (R : Rho P H Ow X1 r σ) (hx : ∀ b, Xb b → X1 b) (hxa : X1 a) (hna : ¬ Xb a) (ha : H a = some (.lst xs)) (h : Rvs P (BsOf Ow X1) H ds xs) :
    ∃ Ow', (∀ j, j ≠ i → Ow' j = Ow j) ∧ (∀ b, Ow' i = some b → b = a) ∧ Rho P H Ow' Xb (r.set i (.own ds)) (σ.set i (some (.ref a))) := by
  refine ⟨fun j => if j = i then (if i < r.length then some a else none) else Ow j, fun j hj => by simp [hj], fun b e => ?_, ?_⟩
  · simp only [if_true] at e
    split at e
    · exact (Option.some.inj e).symm
    · cases e
  have sub : ∀ b, BsOf (fun j => if j = i then (if i < r.length then some a else none) else Ow j) Xb b → BsOf Ow X1 b := by
    rintro b (⟨j, z⟩ | z)
    · by_cases hj : j = i
      · simp only [hj, if_true] at z
        split at z
        · cases z; exact .inr hxa
        · cases z
      · simp only [hj, if_false] at z
        exact .inl ⟨j, z⟩
    · exact .inr (hx b z)
  have oa : ∀ j, Ow j ≠ some a := fun j z => R.disj j a z hxa
  refine ⟨by rw [List.length_set, List.length_set]; exact R.len, fun j s e => ?_, fun j k b e1 e2 => ?_, fun j b e => ?_, fun b z => R.x b (hx b z), fun j b e z => ?_, R.j⟩
  · by_cases hj : j = i
    · subst hj
      by_cases hlt : j < r.length
      · rw [List.getElem?_set_self hlt] at e
        cases e
        exact ⟨a, xs, by simp [hlt], by rw [List.getElem?_set_self (by rw [← R.len]; exact hlt)], ha, h.weak sub⟩
      · rw [List.getElem?_eq_none (by simpa using hlt)] at e
        cases e
    · rw [List.getElem?_set_ne (Ne.symm hj)] at e
      have z := R.sl j s e
      cases s with
      | none => trivial
      | val d' =>
        obtain ⟨v', z1, z2⟩ := z
        exact ⟨v', by rw [List.getElem?_set_ne (Ne.symm hj)]; exact z1, z2.weak sub⟩
      | own ds' =>
        obtain ⟨b, ys, z1, z2, z3, z4⟩ := z
        exact ⟨b, ys, by simp only [hj, if_false]; exact z1, by rw [List.getElem?_set_ne (Ne.symm hj)]; exact z2, z3, z4.weak sub⟩
      | ownd ds => exact z
  · by_cases hj : j = i <;> by_cases hk : k = i
    · rw [hj, hk]
    · simp only [hj, if_true, hk, if_false] at e1 e2
      split at e1
      · cases e1; exact absurd e2 (oa k)
      · cases e1
    · simp only [hj, if_false, hk, if_true] at e1 e2
      split at e2
      · cases e2; exact absurd e1 (oa j)
      · cases e2
    · simp only [hj, hk, if_false] at e1 e2
      exact R.inj j k b e1 e2
  · by_cases hj : j = i
    · simp only [hj, if_true] at e
      split at e
      · cases e; exact ⟨xs, ha⟩
      · cases e
    · simp only [hj, if_false] at e
      exact R.ow j b e
  · by_cases hj : j = i
    · simp only [hj, if_true] at e
      split at e
      · cases e; exact hna z
      · cases e
    · simp only [hj, if_false] at e
      exact R.disj j b e (hx b z)

/-! ### targets -/
def gNames : List Nat → TGs
  | [] => gNil
  | i :: is => gCons (gName i) (gNames is)
def gTg (K : PySem.W.Frag) : Tg → TG
  | .one i => gName i
  | .tup is => gTup K is.length (gNames is)
/-- what a target is given: data, or a pair that nobody keeps -/
def YR (P : Par) (B : Bs) (H : Hp) (pr : Bool) (d : Dv) (v : V) : Prop := if pr then ∃ a ds xs, d = .tup ds ∧ v = .ref a ∧ SqT P.K H a xs ∧ Rvs P B H ds xs else Rv P B H d v
theorem g_names : ∀ {is : List Nat} {ds : List Dv} {vs : List V} {Ow : Own} {r r' : Ro} {σ : L2.St} {Q : L2.St → Hp → Prop}, Rho P H Ow Xb r σ → Rvs P (BsOf Ow Xb) H ds vs → asgs is ds r = some r' →
    (∀ σ' Ow', ExtS is H Ow H Ow' → Rho P H Ow' Xb r' σ' → Q σ' H) → gNames is vs σ H Q
  | [], ds, vs, Ow, r, r', σ, Q, R, h, e, q => by
    cases ds with
    | nil =>
      cases h
      simp only [asgs, Option.some.injEq] at e
      subst e
      exact ⟨rfl, q σ Ow (Ext.refl.toS _) R⟩
    | cons d ds => simp [asgs] at e
  | i :: is, ds, vs, Ow, r, r', σ, Q, R, h, e, q => by
    cases h with
    | nil => simp [asgs] at e
    | cons h1 h2 =>
      simp only [asgs] at e
      obtain ⟨e1, R1⟩ := R.setVal (i := i) h1
      refine ⟨_, _, rfl, g_names R1 (h2.keep e1.kp) e fun σ' Ow' e2 R2 => q σ' Ow' ((e1.mono (by simp)).trans (e2.mono (by simp +contextual))) R2⟩
theorem g_tg {tg : Tg} {pr : Bool} {d : Dv} {v : V} {r' : Ro} {Q : L2.St → Hp → Prop} (R : Rho P H Ow Xb r σ) (h : YR P (BsOf Ow Xb) H pr d v) (hp : pr = true → ∃ is, tg = .tup is) (e : asgT tg d r = some r')
    (q : ∀ σ' Ow', ExtS (tgs tg) H Ow H Ow' → Rho P H Ow' Xb r' σ' → Q σ' H) : gTg P.K tg v σ H Q := by
  cases tg with
  | one i =>
    cases pr with
    | true => obtain ⟨is, z⟩ := hp rfl; cases z
    | false =>
      simp only [asgT, Option.some.injEq] at e
      subst e
      obtain ⟨e1, R1⟩ := R.setVal (i := i) (show Rv P (BsOf Ow Xb) H d v from h)
      exact q _ _ e1 R1
  | tup is =>
    cases d with
    | tup ds =>
      simp only [asgT] at e
      have hl : ∀ {is : List Nat} {ds : List Dv} {r r' : Ro}, asgs is ds r = some r' → ds.length = is.length := by
        intro is
        induction is with
        | nil => intro ds r r' e; cases ds with
          | nil => rfl
          | cons => simp [asgs] at e
        | cons i is ih => intro ds r r' e; cases ds with
          | nil => simp [asgs] at e
          | cons d ds => simp only [asgs] at e; simp [ih e]
      have core : ∃ a xs, v = .ref a ∧ SqT P.K H a xs ∧ Rvs P (BsOf Ow Xb) H ds xs := by
        cases pr with
        | true =>
          obtain ⟨a, ds', xs, z1, z2, z3, z4⟩ := (show ∃ a ds' xs, Dv.tup ds = .tup ds' ∧ v = .ref a ∧ SqT P.K H a xs ∧ Rvs P (BsOf Ow Xb) H ds' xs from h)
          cases z1
          exact ⟨a, xs, z2, z3, z4⟩
        | false =>
          have h : Rv P (BsOf Ow Xb) H (.tup ds) v := h
          cases h with
          | tup t rs => exact ⟨_, _, rfl, t.sq, rs⟩
      obtain ⟨a, xs, rfl, hs, rs⟩ := core
      exact ⟨a, xs, rfl, hs, by rw [← rs.length]; exact hl e, g_names R rs e q⟩
    | _ => simp [asgT] at e

/-! ### what is walked -/
structure Go (P : Par) (J : L2.It) (H1 : Hp) (Ow1 : Own) (X1 : Bs) (src : Src) (pr : Bool) : Prop where
  run : ∀ S H' Ow' X2 r' σ', ExtS S H1 Ow1 H' Ow' → (∀ a, X1 a → X2 a) → (∀ a, X2 a → X1 a ∨ H1 a = none) → Rho P H' Ow' X2 r' σ' → gOk src.guard r' = true → (∀ i xs, src.guard = some (i, xs) → Ow' i = Ow1 i) →
    (∀ i, i < src.items.length → J.go i H') ∧ J.stop src.items.length H' ∧
      ∀ i v H'', i < src.items.length → J.yld i H' v H'' → ∃ d, src.items[i]? = some d ∧ Ext H' Ow' H'' Ow' ∧ Rho P H'' Ow' X2 r' σ' ∧ YR P (BsOf Ow' X2) H'' pr d v
def FinI (P : Par) (W : XW) (pr : Bool) (Xb : Bs) (σ : L2.St) (H : Hp) (Ow : Own) (res : Re Src) (R : L2.It → Hp → Prop) : Prop := match res with
  | .ok src r1 => ∀ J H1 Ow1 X1, Ext H Ow H1 Ow1 → (∀ a, Xb a → X1 a) → (∀ a, X1 a → Xb a ∨ H a = none) → Rho P H1 Ow1 X1 r1 σ → (gOk src.guard r1 = true) → Go P J H1 Ow1 X1 src pr → R J H1
  | .exc c r' => ∀ H' Ow' d, Ext H Ow H' Ow' → Rho P H' Ow' Xb r' σ → W c d σ H'
  | .bad => False
def tI (P : Par) (W : XW) (pr : Bool) (fi : Ro → Re Src) : TI := fun σ H R => ∃ r Ow Xb, Rho P H Ow Xb r σ ∧ FinI P W pr Xb σ H Ow (fi r) R
theorem PI.imp {X : Cx} {tg e : Expr} {t t' : TI} (h : PI X tg e t) (k : ∀ σ H R, t' σ H R → t σ H R) : PI X tg e t' := ⟨fun pins s σ H R I q => h.run pins s σ H R I (k σ H R q)⟩
/-- a list or a tuple -/
def iAny (K : PySem.W.Frag) (tl : TE) : TI := fun σ H R => tl σ H fun x H1 => ∃ a, x = .ref a ∧ (((∃ xs, SqL K H1 a xs) ∧ R (Itl K a) H1) ∨ ((∃ xs, SqT K H1 a xs) ∧ R (Itt K a) H1))
theorem pi_any {tg l : Expr} {tl : TE} (hl : PE X l tl) : PI X tg l (iAny X.K tl) := by
  refine ⟨fun pins s σ H R I h => ?_⟩
  refine thn (hl.run pins s σ H _ I h) fun v s1 ⟨x, H1, I1, r1, q1⟩ => ?_
  obtain ⟨a, e, q1⟩ := q1
  subst e
  cases r1
  rcases q1 with ⟨⟨xs, hq⟩, q⟩ | ⟨⟨xs, hq⟩, q⟩
  · obtain ⟨its, rv, p, hz⟩ := I1.list hq
    refine wpAny_pyIter_list p.isList ?_
    refine ⟨s1.heap.objs.size, [s1.heap.objs.size], _, _, H1, rfl, I1.kept (t' := s1.toks) fun b o e => Heap.get?_push_of_some _ e, turn_list a _, ⟨_, Heap.get?_push_size _ rfl, rfl, rfl⟩, fun b hb => ?_, q⟩
    have e : b = s1.heap.objs.size := by simpa using hb
    subst e
    exact I1.fpOk (Nat.le_refl _) (I1.hok.fresh (Nat.le_refl _))
  · obtain ⟨its, rv, p, hz⟩ := I1.tuple hq
    refine wpAny_pyIter_tuple (show s1.heap.IsTuple a its.toArray from p) ?_
    refine ⟨s1.heap.objs.size, [s1.heap.objs.size], _, _, H1, rfl, I1.kept (t' := s1.toks) fun b o e => Heap.get?_push_of_some _ e, turn_tuple a _, ⟨_, Heap.get?_push_size _ rfl, rfl, rfl⟩, fun b hb => ?_, q⟩
    have e : b = s1.heap.objs.size := by simpa using hb
    subst e
    exact I1.fpOk (Nat.le_refl _) (I1.hok.fresh (Nat.le_refl _))

theorem ExtS.kp2 {S : List Nat} (h : ExtS S H1 Ow1 H' Ow') (hn : ∀ a, X2 a → X1 a ∨ H1 a = none) : Kp H1 (BsOf Ow1 X1) H' (BsOf Ow' X2) := fun b o e n t => by
  obtain ⟨h1, h2⟩ := h.kp (X := X1) b o e n t
  refine ⟨h1, fun z => ?_⟩
  rcases z with z | z
  · exact h2 (.inl z)
  · rcases hn b z with z | z
    · exact n (.inr z)
    · rw [e] at z; cases z
/-- the items stay there -/
def Stays (P : Par) (H1 : Hp) (Ow1 : Own) (X1 : Bs) (src : Src) (F : Hp → List V → Prop) : Prop :=
  ∀ S H' Ow' X2 r' σ', ExtS S H1 Ow1 H' Ow' → (∀ a, X1 a → X2 a) → (∀ a, X2 a → X1 a ∨ H1 a = none) → Rho P H' Ow' X2 r' σ' → gOk src.guard r' = true → (∀ i xs, src.guard = some (i, xs) → Ow' i = Ow1 i) →
    ∃ xs, F H' xs ∧ Rvs P (BsOf Ow' X2) H' src.items xs
theorem src_of {t : T} {v : V} {src : Src} (h : Hld P H1 Ow1 Xb X1 σ t v) (R : Rho P H1 Ow1 X1 r1 σ) (e : srcT r1 t = some src) :
    gOk src.guard r1 = true ∧ ∃ a xs, v = .ref a ∧ Rvs P (BsOf Ow1 X1) H1 src.items xs ∧ ((SqL P.K H1 a xs ∧ Stays P H1 Ow1 X1 src (fun H' => SqL P.K H' a)) ∨ (SqT P.K H1 a xs ∧ Stays P H1 Ow1 X1 src (fun H' => SqT P.K H' a))) := by
  cases t with
  | d x =>
    have h : Rv P (BsOf Ow1 X1) H1 x v := h
    simp only [srcT, Option.map_eq_some_iff] at e
    obtain ⟨ds, e, rfl⟩ := e
    refine ⟨rfl, ?_⟩
    cases h with
    | tup t rs =>
      simp only [seqT, Option.some.injEq] at e
      subst e
      refine ⟨_, _, rfl, rs, .inr ⟨t.sq, fun S H' Ow' X2 r' σ' ex x1 x2 R' _ _ => ⟨_, ?_, rs.keep (ex.kp2 x2)⟩⟩⟩
      have := Rv.keep (ex.kp2 x2) (Rv.tup t rs)
      rcases t with ⟨⟨o, e1, d⟩, n⟩ | t
      · exact .inl (.inr ⟨o, (ex.kp2 x2 _ _ e1 n (fun _ z => by cases z)).1⟩)
      · exact (TupAt.sq (B := fun _ => False) (.inr t))
    | lv t n rs =>
      simp only [seqT, Option.some.injEq] at e
      subst e
      exact ⟨_, _, rfl, rs, .inl ⟨.inl (.inl t), fun S H' Ow' X2 r' σ' ex x1 x2 R' _ _ => ⟨_, .inl (.inl (ex.kp2 x2 _ _ t n (fun _ z => by cases z)).1), rs.keep (ex.kp2 x2)⟩⟩⟩
    | scr t =>
      simp only [seqT, Option.some.injEq] at e
      subst e
      refine ⟨_, _, rfl, Rvs.ints _, .inl ⟨?_, fun S H' Ow' X2 r' σ' ex x1 x2 R' _ _ => ⟨_, ?_, Rvs.ints _⟩⟩⟩
      · rcases t with ⟨t, _⟩ | t
        · exact .inl t
        · exact t H1
      · rcases t with ⟨t, n⟩ | t
        · exact .inl ((ex.kp2 x2).rd t n (fun _ z => by cases z)).1
        · exact t H'
    | _ => simp [seqT] at e
  | fr ds =>
    simp only [srcT, seqT, Option.map_some, Option.some.injEq] at e
    subst e
    obtain ⟨a, xs, rfl, h2, h3, h4, h5, h6⟩ := h
    exact ⟨rfl, a, xs, rfl, h6, .inl ⟨.inl (.inl h5), fun S H' Ow' X2 r' σ' ex x1 x2 R' _ _ => ⟨xs, .inl (.inl (ex.keep a _ h5 h4 (fun _ z => by cases z))), h6.keep (ex.kp2 x2)⟩⟩⟩
  | rf i =>
    simp only [srcT] at e
    split at e
    · rename_i ds q
      simp only [Option.some.injEq] at e
      subst e
      obtain ⟨a, xs, h1, h2, h3, h4⟩ := R.sl i _ q
      have h : σ[i]? = some (some v) := h
      rw [h2] at h
      simp only [Option.some.injEq] at h
      subst h
      refine ⟨by simp [gOk, q, beqs_self], a, xs, rfl, h4, .inl ⟨.inl (.inl h3), fun S H' Ow' X2 r' σ' ex x1 x2 R' g gi => ?_⟩⟩
      simp only [gOk] at g
      split at g
      · rename_i ys q'
        have := beqs_eq _ _ g
        subst this
        obtain ⟨b, zs, z1, z2, z3, z4⟩ := R'.sl i _ q'
        rw [gi i _ rfl, h1] at z1
        cases z1
        exact ⟨zs, .inl (.inl z3), z4⟩
      · cases g
    · cases e
  | frd => exact h.elim
theorem go_list {a : Addr} {src : Src} (st : Stays P H1 Ow1 X1 src (fun H' => SqL P.K H' a)) : Go P (Itl P.K a) H1 Ow1 X1 src false := by
  refine ⟨fun S H' Ow' X2 r' σ' ex x1 x2 R' g gi => ?_⟩
  obtain ⟨xs, hs, rs⟩ := st S H' Ow' X2 r' σ' ex x1 x2 R' g gi
  have hl := rs.length
  refine ⟨fun i hi => ⟨xs, xs[i]'(by omega), hs, List.getElem?_eq_getElem _⟩, ⟨xs, hs, by omega⟩, fun i v H'' hi y => ?_⟩
  obtain ⟨rfl, y⟩ := y
  obtain ⟨d, d1, d2⟩ := rs.getV (y xs hs)
  exact ⟨d, d1, .refl, R', d2⟩
theorem go_tup {a : Addr} {src : Src} (st : Stays P H1 Ow1 X1 src (fun H' => SqT P.K H' a)) : Go P (Itt P.K a) H1 Ow1 X1 src false := by
  refine ⟨fun S H' Ow' X2 r' σ' ex x1 x2 R' g gi => ?_⟩
  obtain ⟨xs, hs, rs⟩ := st S H' Ow' X2 r' σ' ex x1 x2 R' g gi
  have hl := rs.length
  refine ⟨fun i hi => ⟨xs, xs[i]'(by omega), hs, List.getElem?_eq_getElem _⟩, ⟨xs, hs, by omega⟩, fun i v H'' hi y => ?_⟩
  obtain ⟨rfl, y⟩ := y
  obtain ⟨d, d1, d2⟩ := rs.getV (y xs hs)
  exact ⟨d, d1, .refl, R', d2⟩
theorem i_seq (C : Cok P X W) {tg : Expr} (ha : PE X a (tE P W fa)) : PI X tg a (tI P W false (seqI fa)) := by
  refine PI.imp (pi_any ha) fun σ H R ⟨r, Ow, Xb, Rh, hf⟩ => ?_
  unfold seqI at hf
  refine ⟨r, Ow, Xb, Rh, ?_⟩
  cases e : fa r with
  | ok x r1 =>
    simp only [e, Re.bind] at hf
    rintro v H1 ok
    obtain ⟨Ow1, X1, e1, x1, x2, R1, h1⟩ := ok.hld Rh
    cases q : srcT r1 x with
    | none => simp only [q] at hf; exact hf.elim
    | some src =>
      simp only [q] at hf
      obtain ⟨g0, a, xs, rfl, rs, hs⟩ := src_of h1 R1 q
      refine ⟨a, rfl, ?_⟩
      rw [C.K]
      rcases hs with ⟨hs, st⟩ | ⟨hs, st⟩
      · exact .inl ⟨⟨xs, hs⟩, hf _ H1 Ow1 X1 e1 x1 x2 R1 g0 (go_list st)⟩
      · exact .inr ⟨⟨xs, hs⟩, hf _ H1 Ow1 X1 e1 x1 x2 R1 g0 (go_tup st)⟩
  | exc c r1 => simp only [e, Re.bind] at hf; exact hf
  | bad => simp only [e, Re.bind] at hf; exact hf.elim
/-! ranges -/
theorem rngUp_len : ∀ (n : Nat) (lo : Int), (rngUp lo n).length = n
  | 0, _ => rfl
  | n + 1, lo => by simp [rngUp, rngUp_len n]
theorem rngUp_get : ∀ (n : Nat) (lo : Int) (i : Nat), i < n → (rngUp lo n)[i]? = some (.int (lo + i))
  | 0, _, _, h => absurd h (Nat.not_lt_zero _)
  | n + 1, lo, 0, _ => by simp [rngUp]
  | n + 1, lo, i + 1, h => by
    simp only [rngUp, List.getElem?_cons_succ]
    rw [rngUp_get n (lo + 1) i (by omega)]
    have : lo + 1 + (i : Int) = lo + ((i + 1 : Nat) : Int) := by omega
    rw [this]
theorem rngDown_len : ∀ (n : Nat) (lo : Int), (rngDown lo n).length = n
  | 0, _ => rfl
  | n + 1, lo => by simp [rngDown, rngDown_len n]
theorem rngDown_get : ∀ (n : Nat) (lo : Int) (i : Nat), i < n → (rngDown lo n)[i]? = some (.int (lo + (i : Nat) * (-1)))
  | 0, _, _, h => absurd h (Nat.not_lt_zero _)
  | n + 1, lo, 0, _ => by simp [rngDown]
  | n + 1, lo, i + 1, h => by
    simp only [rngDown, List.getElem?_cons_succ]
    rw [rngDown_get n (lo - 1) i (by omega)]
    have : lo - 1 + (i : Int) * (-1) = lo + ((i + 1 : Nat) : Int) * (-1) := by omega
    rw [this]
theorem go_rng {lo : Int} {n : Nat} : Go P (Itr lo n) H1 Ow1 X1 ⟨rngUp lo n, none⟩ false := by
  refine ⟨fun S H' Ow' X2 r' σ' ex x1 x2 R' g gi => ⟨fun i hi => ?_, ?_, fun i v H'' hi y => ?_⟩⟩
  · rw [rngUp_len] at hi; exact hi
  · show n ≤ (rngUp lo n).length
    rw [rngUp_len]; exact Nat.le_refl _
  · obtain ⟨rfl, rfl⟩ := y
    rw [rngUp_len] at hi
    exact ⟨_, rngUp_get n lo i hi, .refl, R', .int _⟩
theorem go_rngD {lo : Int} {n : Nat} : Go P (Itc lo (-1) n) H1 Ow1 X1 ⟨rngDown lo n, none⟩ false := by
  refine ⟨fun S H' Ow' X2 r' σ' ex x1 x2 R' g gi => ⟨fun i hi => ?_, ?_, fun i v H'' hi y => ?_⟩⟩
  · rw [rngDown_len] at hi; exact hi
  · show n ≤ (rngDown lo n).length
    rw [rngDown_len]; exact Nat.le_refl _
  · obtain ⟨rfl, rfl⟩ := y
    rw [rngDown_len] at hi
    exact ⟨_, rngDown_get n lo i hi, .refl, R', .int _⟩
/-- an argument list of one, of two, of three, looked at -/
def tA1 (t : TE) : TA := fun σ H Q => t σ H fun v H1 => Q [v] H1
theorem pa_1 {t : TE} (ha : PE X a t) (na : ∀ x p, a ≠ .Starred x p) : PA X [a] (tA1 t) := pa_cons ha pa_nil (starless na)
theorem int_of {Z : Bs} {i : Int} {v : V} (h : Hld P H1 Ow1 Xb Z σ (.d (.int i)) v) : v = .int i := by
  have h : Rv P (BsOf Ow1 Z) H1 (.int i) v := h
  cases h; rfl
theorem inR_b {i : Int} (h : inR i = true) : -1000000000 < i ∧ i < 1000000000 := by
  simpa [inR] using h
theorem FinI.lift {pr : Bool} {res : Re Src} {Rr : L2.It → Hp → Prop} (e : Ext H Ow H1 Ow1) (h : FinI P W pr Xb σ H Ow res Rr) : FinI P W pr Xb σ H1 Ow1 res Rr := by
  cases res with
  | ok src r' =>
    exact fun J H' Ow' X1 e' x1 x2 R g G => h J H' Ow' X1 (e.trans e') x1 (fun a z => (x2 a z).elim .inl fun z => .inr (by
      cases q : H a with
      | none => rfl
      | some o => exact absurd z (e.al a (by rw [q]; simp)))) R g G
  | exc c r' => exact fun H' Ow' d k R => h H' Ow' d (e.trans k) R
  | bad => exact h
theorem intoI {pr : Bool} {k : T → Ro → Re Src} {Rr : L2.It → Hp → Prop} {Q' : VK} (R : Rho P H Ow Xb r σ) (hf : FinI P W pr Xb σ H Ow ((fa r).bind k) Rr)
    (hc : ∀ x r1 v H1 Ow1 X1, fa r = .ok x r1 → Ext H Ow H1 Ow1 → (∀ a, Xb a → X1 a) → (∀ a, X1 a → Xb a ∨ H a = none) → Rho P H1 Ow1 X1 r1 σ → Hld P H1 Ow1 Xb X1 σ x v → FinI P W pr Xb σ H Ow (k x r1) Rr → FinI P W pr Xb σ H1 Ow1 (k x r1) Rr → Q' v H1) : tE P W fa σ H Q' := by
  refine ⟨r, Ow, Xb, R, ?_⟩
  cases e : fa r with
  | ok x r1 =>
    rw [e] at hf
    rintro v H1 ok
    obtain ⟨Ow1, X1, e1, x1, x2, R1, h1⟩ := ok.hld R
    exact hc x r1 v H1 Ow1 X1 e e1 x1 x2 R1 h1 hf (hf.lift e1)
  | exc c r1 => rw [e] at hf; exact hf
  | bad => rw [e] at hf; exact hf.elim
theorem i_rng1 {tg : Expr} (hg : Gl X "range") (hm : X.mg "range" = none) (ha : PE X a (tE P W fa)) (na : ∀ x p, a ≠ .Starred x p) : PI X tg (.Call (.Name "range" p) [a] [] pos) (tI P W false (rng1I fa)) := by
  refine PI.imp (pi_range1 hg hm (pa_1 ha na) (by rw [starless na]; rfl)) fun σ H R ⟨r, Ow, Xb, Rh, hf⟩ => ?_
  unfold rng1I at hf
  refine intoI Rh hf fun x r1 v H1 Ow1 X1 _ e1 x1 x2 R1 h1 f0 _ => ?_
  cases x with
  | d z =>
    cases z with
    | int n =>
      simp only at f0
      split at f0
      · rename_i hb
        cases int_of h1
        have hb := inR_b hb
        exact ⟨n, rfl, by omega, by omega, f0 _ H1 Ow1 X1 e1 x1 x2 R1 rfl go_rng⟩
      · exact f0.elim
    | _ => exact f0.elim
  | _ => exact f0.elim
theorem pa_2 {t u : TE} (ha : PE X a t) (na : ∀ x p, a ≠ .Starred x p) (hb : PE X b u) (nb : ∀ x p, b ≠ .Starred x p) : PA X [a, b] (fun σ H Q => t σ H fun v H1 => u σ H1 fun w H2 => Q [v, w] H2) := pa_cons ha (pa_cons hb pa_nil (starless nb)) (starless na)
theorem i_rng2 {tg : Expr} (hg : Gl X "range") (hm : X.mg "range" = none) (ha : PE X a (tE P W fa)) (na : ∀ x p, a ≠ .Starred x p) (hb : PE X b (tE P W fb)) (nb : ∀ x p, b ≠ .Starred x p) : PI X tg (.Call (.Name "range" p) [a, b] [] pos) (tI P W false (rng2I fa fb)) := by
  refine PI.imp (pi_range2 hg hm (pa_2 ha na hb nb) (by rw [starless na, starless nb]; rfl) (by rw [starless nb]; rfl)) fun σ H R ⟨r, Ow, Xb, Rh, hf⟩ => ?_
  unfold rng2I at hf
  refine intoI Rh hf fun x r1 v H1 Ow1 X1 _ e1 x1 x2 R1 h1 f0 f1 => ?_
  cases x with
  | d z =>
    cases z with
    | int m =>
      cases int_of h1
      simp only at f1
      refine intoI (R1.weak x1) f1 fun y r2 w H2 Ow2 X2 _ e2 y1 y2 R2 h2 g0 _ => ?_
      cases y with
      | d z =>
        cases z with
        | int n =>
          cases int_of h2
          simp only at g0
          split at g0
          · rename_i hb
            rw [Bool.and_eq_true] at hb
            have hb1 := inR_b hb.1
            have hb2 := inR_b hb.2
            exact ⟨m, n, rfl, ⟨by omega, by omega, by omega, by omega⟩, g0 _ H2 Ow2 X2 e2 y1 y2 R2 rfl go_rng⟩
          · exact g0.elim
        | _ => exact g0.elim
      | _ => exact g0.elim
    | _ => exact f0.elim
  | _ => exact f0.elim
theorem i_rng3 {tg : Expr} (hg : Gl X "range") (hm : X.mg "range" = none) (ha : PE X a (tE P W fa)) (na : ∀ x p, a ≠ .Starred x p) (hb : PE X b (tE P W fb)) (nb : ∀ x p, b ≠ .Starred x p) (hc : PE X c (tE P W fc)) (nc : ∀ x p, c ≠ .Starred x p) :
    PI X tg (.Call (.Name "range" p) [a, b, c] [] pos) (tI P W false (rng3I fa fb fc)) := by
  refine PI.imp (pi_range3 hg hm (pa_cons ha (pa_2 hb nb hc nc) (starless na)) (starless na) (by rw [starless nb, starless nc]; rfl)) fun σ H R ⟨r, Ow, Xb, Rh, hf⟩ => ?_
  unfold rng3I at hf
  refine intoI Rh hf fun x r1 v H1 Ow1 X1 _ e1 x1 x2 R1 h1 f0 f1 => ?_
  cases x with
  | d z =>
    cases z with
    | int m =>
      cases int_of h1
      simp only at f1
      refine intoI (R1.weak x1) f1 fun y r2 w H2 Ow2 X2 _ e2 y1 y2 R2 h2 g0 g1 => ?_
      cases y with
      | d z =>
        cases z with
        | int n =>
          cases int_of h2
          simp only at g1
          refine intoI (R2.weak y1) g1 fun y r3 w H3 Ow3 X3 _ e3 z1 z2 R3 h3 k0 _ => ?_
          cases y with
          | d z =>
            cases z with
            | int k =>
              cases int_of h3
              simp only at k0
              split at k0
              · rename_i hb
                rw [Bool.and_eq_true, Bool.and_eq_true, decide_eq_true_eq] at hb
                have hb1 := inR_b hb.1.1
                have hb2 := inR_b hb.1.2
                obtain ⟨_, rfl⟩ := hb
                exact ⟨m, n, -1, (m - n).toNat, rfl, .neg (by omega) (by omega) (by omega) (by omega), k0 _ H3 Ow3 X3 e3 z1 z2 R3 rfl go_rngD⟩
              · exact k0.elim
            | _ => exact k0.elim
          | _ => exact k0.elim
        | _ => exact g0.elim
      | _ => exact g0.elim
    | _ => exact f0.elim
  | _ => exact f0.elim
end
end MP
set_option linter.all false
set_option Elab.async false
set_option maxRecDepth 100000
set_option maxHeartbeats 1000000
/-! MP16: statements. -/
namespace MP
open PySem PySem.Spec PyProof.Rows L2 PySem.SeqAt

theorem PS.imp {X : Cx} {st : Stmt} {t t' : TS} (h : PS X st t) (k : ∀ D σ H, t' D σ H → t D σ H) : PS X st t' := ⟨fun pins s σ H D I q => h.run pins s σ H D I (k D σ H q)⟩
theorem PSs.imp {X : Cx} {st : List Stmt} {t t' : TS} (h : PSs X st t) (k : ∀ D σ H, t' D σ H → t D σ H) : PSs X st t' := ⟨fun pins s σ H D I q => h.run pins s σ H D I (k D σ H q)⟩

/-- what is handed back -/
def Okr (P : Par) (S : List Nat) (H : Hp) (Ow : Own) (Xb : Bs) (t : T) (r' : Ro) (σ' : L2.St) (v : V) (H' : Hp) : Prop := ∃ Ow', ExtS S H Ow H' Ow' ∧ match t with
  | .d x => Rho P H' Ow' Xb r' σ' ∧ Rv P (BsOf Ow' Xb) H' x v
  | .fr ds => ∃ a xs, v = .ref a ∧ H a = none ∧ H' a = some (.lst xs) ∧ Rho P H' Ow' (addX Xb a) r' σ' ∧ Rvs P (BsOf Ow' (addX Xb a)) H' ds xs
  | .rf i => Rho P H' Ow' Xb r' σ' ∧ σ'[i]? = some (some v)
  | .frd => False
def FinS (P : Par) (W : XW) (S : List Nat) (Xb : Bs) (H : Hp) (Ow : Own) (res : RS) (D : Ends) : Prop := match res with
  | .nx r' => ∀ σ' H' Ow', ExtS S H Ow H' Ow' → Rho P H' Ow' Xb r' σ' → D.nx σ' H'
  | .ret t r' => ∀ σ' v H', Okr P S H Ow Xb t r' σ' v H' → D.rt v H'
  | .exc c r' => ∀ σ' H' Ow' d, ExtS S H Ow H' Ow' → Rho P H' Ow' Xb r' σ' → W c d σ' H'
  | .bad => False
def tS (P : Par) (W : XW) (S : List Nat) (f : Fs) : TS := fun D σ H => ∃ r Ow Xb, Rho P H Ow Xb r σ ∧ FinS P W S Xb H Ow (f r) D

section
variable {P : Par} {W : XW} {X : Cx} {S : List Nat} {a b c : Expr} {fa fb fc : Fe} {f g : Fs} {pos p p1 p2 : Pos} {σ σ1 : L2.St} {H H1 H' : Hp} {Ow Ow1 Ow' : Own} {Xb X1 X2 : Bs} {r r1 : Ro} {D : Ends}
theorem Okr.lift {t : T} {v : V} {σ' : L2.St} {r' : Ro} (e : ExtS S H Ow H1 Ow1) (h : Okr P S H1 Ow1 Xb t r' σ' v H') : Okr P S H Ow Xb t r' σ' v H' := by
  obtain ⟨Ow', e', h⟩ := h
  refine ⟨Ow', e.trans e', ?_⟩
  cases t with
  | fr ds =>
    obtain ⟨a, xs, h1, h2, h3⟩ := h
    refine ⟨a, xs, h1, ?_, h3⟩
    cases q : H a with
    | none => rfl
    | some o => exact absurd h2 (e.al a (by rw [q]; simp))
  | _ => exact h
theorem FinS.lift {res : RS} (e : ExtS S H Ow H1 Ow1) (h : FinS P W S Xb H Ow res D) : FinS P W S Xb H1 Ow1 res D := by
  cases res with
  | nx r' => exact fun σ' H' Ow' k R => h σ' H' Ow' (e.trans k) R
  | ret t r' => exact fun σ' v H' k => h σ' v H' (k.lift e)
  | exc c r' => exact fun σ' H' Ow' d k R => h σ' H' Ow' d (e.trans k) R
  | bad => exact h
/-- an expression first -/
theorem intoS {k : T → Ro → RS} {Q' : VK} (R : Rho P H Ow Xb r σ) (hf : FinS P W S Xb H Ow ((fa r).andS k) D)
    (hc : ∀ x r1 v H1, fa r = .ok x r1 → Okp P H Ow Xb σ x r1 v H1 → FinS P W S Xb H Ow (k x r1) D → Q' v H1) : tE P W fa σ H Q' := by
  refine ⟨r, Ow, Xb, R, ?_⟩
  cases e : fa r with
  | ok x r1 =>
    rw [e] at hf
    exact fun v H1 ok => hc x r1 v H1 e ok hf
  | exc c r1 => rw [e] at hf; exact fun H' Ow' d e' R' => hf σ H' Ow' d (e'.toS S) R'
  | bad => rw [e] at hf; exact hf.elim
theorem intoST {ga : Ro → Re Bool} {k : Bool → Ro → RS} {Q' : Bool → Hp → Prop} (R : Rho P H Ow Xb r σ) (hf : FinS P W S Xb H Ow ((ga r).andS k) D)
    (hc : ∀ x r1 H1 Ow1, ga r = .ok x r1 → Ext H Ow H1 Ow1 → Rho P H1 Ow1 Xb r1 σ → FinS P W S Xb H1 Ow1 (k x r1) D → Q' x H1) : tT P W ga σ H Q' := by
  refine ⟨r, Ow, Xb, R, ?_⟩
  cases e : ga r with
  | ok x r1 =>
    rw [e] at hf
    exact fun H1 Ow1 e1 R1 => hc x r1 H1 Ow1 e e1 R1 (hf.lift (e1.toS S))
  | exc c r1 => rw [e] at hf; exact fun H' Ow' d e' R' => hf σ H' Ow' d (e'.toS S) R'
  | bad => rw [e] at hf; exact hf.elim

/-! ### blocks -/
theorem ss_nil : PSs X [] (tS P W S fun r => .nx r) := PSs.imp pss_nil fun D σ H ⟨r, Ow, Xb, R, hf⟩ => hf σ H Ow (Ext.refl.toS S) R
theorem ss_cons {st : Stmt} {rest : List Stmt} (h1 : PS X st (tS P W S f)) (h2 : PSs X rest (tS P W S g)) : PSs X (st :: rest) (tS P W S (seqF f g)) := by
  refine PSs.imp (pss_cons h1 h2) fun D σ H ⟨r, Ow, Xb, R, hf⟩ => ?_
  unfold seqF at hf
  refine ⟨r, Ow, Xb, R, ?_⟩
  cases e : f r with
  | nx r1 =>
    simp only [e] at hf
    exact fun σ1 H1 Ow1 e1 R1 => ⟨r1, Ow1, Xb, R1, hf.lift e1⟩
  | ret t r1 => simp only [e] at hf; exact hf
  | exc c r1 => simp only [e] at hf; exact hf
  | bad => simp only [e] at hf; exact hf.elim
theorem ss_one {st : Stmt} (h1 : PS X st (tS P W S f)) : PSs X [st] (tS P W S f) := pss_one h1
theorem ps_passM : PS X (.Pass pos) (tS P W S fun r => .nx r) := PS.imp ps_pass fun D σ H ⟨r, Ow, Xb, R, hf⟩ => hf σ H Ow (Ext.refl.toS S) R
theorem ps_docM {x : Str} {j : Nat} {pos' : Pos} : PS X (.Expr (.Constant (.str x) j pos) pos') (tS P W S fun r => .nx r) := PS.imp ps_doc fun D σ H ⟨r, Ow, Xb, R, hf⟩ => hf σ H Ow (Ext.refl.toS S) R

/-! ### small statements -/
theorem ps_exprM (ha : PE X a (tE P W fa)) (hs : swapsWith a none pos.line X.env = pure false) : PS X (.Expr a pos) (tS P W S (exprF fa)) := by
  refine PS.imp (ps_expr ha hs) fun D σ H ⟨r, Ow, Xb, R, hf⟩ => ?_
  unfold exprF at hf
  refine intoS R hf fun x r1 v H1 _ ok hk => ?_
  obtain ⟨Ow1, X1, e1, x1, x2, R1, h1⟩ := ok.hld R
  exact hk σ H1 Ow1 (e1.toS S) (R1.weak x1)
theorem ps_retM (ha : PE X a (tE P W fa)) : PS X (.Return (some a) pos) (tS P W S (retF fa)) := by
  refine PS.imp (ps_ret ha) fun D σ H ⟨r, Ow, Xb, R, hf⟩ => ?_
  unfold retF at hf
  refine intoS R hf fun x r1 v H1 _ ok hk => hk σ v H1 ?_
  obtain ⟨Ow1, e1, ok⟩ := ok
  refine ⟨Ow1, e1.toS S, ?_⟩
  cases x <;> exact ok
theorem ps_retNM : PS X (.Return none pos) (tS P W S fun r => .ret (.d .non) r) := PS.imp ps_retN fun D σ H ⟨r, Ow, Xb, R, hf⟩ => hf σ .non H ⟨Ow, Ext.refl.toS S, R, .non⟩
theorem ps_ifM {ga : Ro → Re Bool} {c : Expr} {A B : List Stmt} (hc : PT X c (tT P W ga)) (hA : PSs X A (tS P W S f)) (hB : PSs X B (tS P W S g)) : PS X (.If c A B pos) (tS P W S (ifsF ga f g)) := by
  refine PS.imp (ps_if hc hA hB) fun D σ H ⟨r, Ow, Xb, R, hf⟩ => ?_
  unfold ifsF at hf
  refine intoST R hf fun x r1 H1 Ow1 _ e1 R1 f1 => ?_
  cases x with
  | true => rw [if_pos rfl]; exact ⟨r1, Ow1, Xb, R1, f1⟩
  | false => rw [if_neg Bool.false_ne_true]; exact ⟨r1, Ow1, Xb, R1, f1⟩

/-! ### name = value -/
theorem asg_core {i : Nat} {t : T} {v : V} (hi : i ∈ S) (R : Rho P H Ow Xb r σ) (ok : Okp P H Ow Xb σ t r1 v H1) (hf : FinS P W S Xb H Ow (asgS i t r1) D) : gName i v σ H1 D.nx := by
  obtain ⟨Ow1, e1, ok⟩ := ok
  have mem : ∀ j, j ∈ [i] → j ∈ S := fun j h => by simp at h; subst h; exact hi
  cases t with
  | d x =>
    obtain ⟨R1, rv⟩ := ok
    obtain ⟨e2, R2⟩ := R1.setVal (i := i) rv
    exact hf _ H1 _ ((e1.toS S).trans (e2.mono mem)) R2
  | fr ds =>
    obtain ⟨ad, xs, rfl, na, ha, R1, rs⟩ := ok
    obtain ⟨Ow2, s1, s2, R2⟩ := R1.setOwn (i := i) addX_of (.inr rfl) (fun z => R.x ad z na) ha rs
    refine hf _ H1 Ow2 ⟨e1.keep, fun j b e => ?_, fun j hj => ?_, e1.al⟩ R2
    · by_cases hji : j = i
      · subst hji; rw [s2 b e]; exact .inr na
      · rw [s1 j hji] at e; exact .inl ⟨j, e1.ow e⟩
    · rw [s1 j (fun z => hj (by rw [z]; exact hi))]
      exact e1.st j
  | rf j =>
    obtain ⟨R1, hv⟩ := ok
    unfold asgS at hf
    cases m : mat r1 (.rf j) with
    | none => simp only [m] at hf; exact hf.elim
    | some dr =>
      obtain ⟨d, r2⟩ := dr
      simp only [m] at hf
      obtain ⟨Ow2, e2, R2, rv⟩ := Hld.mat (X := Xb) (X1 := Xb) (t := .rf j) hv R1 (fun _ z => z) m
      obtain ⟨e3, R3⟩ := R2.setVal (i := i) rv
      exact hf _ H1 _ (((e1.trans e2).toS S).trans (e3.mono mem)) R3
  | frd => exact ok.elim
theorem ps_setM {i : Nat} {x : Str} {pos' : Pos} (hN : X.N.Nodup) (hi : X.N[i]? = some x) (hx : Loc X.env.scope x) (hS : i ∈ S) (ha : PE X a (tE P W fa)) (hs : swapsWith a (some (.Name x pos')) pos.line X.env = pure false) (hfn : X.fn x = true ∨ X.env.scope.names.lookup x = some .local) :
    PS X (.Assign [.Name x pos'] a pos) (tS P W S (asgF i fa)) := by
  refine PS.imp (ps_set hN hi hx ha hs hfn) fun D σ H ⟨r, Ow, Xb, R, hf⟩ => ?_
  unfold asgF at hf
  exact intoS R hf fun x r1 v H1 _ ok hk => asg_core hS R ok hk
/-- a, b = a tuple -/
theorem ps_atupM (C : Cok P X W) {is : List Nat} {es : List Expr} {k : Nat} {tpos : Pos} (hS : ∀ i, i ∈ is → i ∈ S) (ha : PE X a (tE P W fa)) (hg : PG X (.Tuple es k tpos) (gTg P.K (.tup is))) (hs : swapsWithSole [.Tuple es k tpos] a pos.line X.env = pure false)
    (hw : swappedStores [.Tuple es k tpos] a X.env = pure none) : PS X (.Assign [.Tuple es k tpos] a pos) (tS P W S (atupF is fa)) := by
  refine PS.imp (ps_asg ha hg hs hw) fun D σ H ⟨r, Ow, Xb, R, hf⟩ => ?_
  unfold atupF at hf
  refine intoS R hf fun x r1 v H1 _ ok hk => ?_
  cases x with
  | d z =>
    obtain ⟨Ow1, e1, R1, rv⟩ := ok
    cases z with
    | tup xs =>
      simp only at hk
      cases q : asgs is xs r1 with
      | none => simp only [q] at hk; exact hk.elim
      | some r2 =>
        simp only [q] at hk
        exact g_tg (pr := false) (d := .tup xs) R1 rv (fun z => by cases z) q fun σ' Ow' e2 R2 => hk σ' H1 Ow' ((e1.toS S).trans (e2.mono hS)) R2
    | _ => exact hk.elim
  | _ => exact hk.elim

/-! ### for -/
theorem gFree_of {S : List Nat} {i : Nat} {xs : List Dv} (h : gFree S (some (i, xs)) = true) : i ∉ S := fun z => by
  simp only [gFree, Bool.not_eq_true', List.any_eq_false] at h
  exact h i z (Nat.beq_refl i)
theorem for_core {pr : Bool} {S0 : List Nat} {tg : Tg} {body : Fs} {J : L2.It} {src : Src} (G : Go P J H1 Ow1 X1 src pr) (R1 : Rho P H1 Ow1 X1 r1 σ1) (hx : ∀ a, Xb a → X1 a) (g0 : gOk src.guard r1 = true)
    (hp : pr = true → ∃ is, tg = .tup is) (hT : ∀ i, i ∈ tgs tg → i ∈ S0) (hfree : gFree S0 src.guard = true) (hS : ∀ i, i ∈ S0 → i ∈ S) (hf : FinS P W S Xb H1 Ow1 (forL tg src.guard body src.items r1) D) :
    ∃ Wm : Nat → Nat → L2.St → Hp → Prop, (∃ m, Wm 0 m σ1 H1) ∧ ∀ i m σ H, Wm i m σ H →
      (J.stop i H ∧ D.nx σ H) ∨ (J.go i H ∧ ∃ N : L2.St → Hp → Prop, (∀ σ' H', N σ' H' → ∃ m', m' < m ∧ Wm (i + 1) m' σ' H') ∧ ∀ x H', J.yld i H x H' → gTg P.K tg x σ H' fun σ2 H2 => tS P W S0 body { D with nx := N, ct := N, bk := D.nx } σ2 H2) := by
  -- the state at the i-th turn
  let Inv : Nat → L2.St → Hp → Prop := fun i σ H => ∃ r Ow, ExtS S0 H1 Ow1 H Ow ∧ Rho P H Ow X1 r σ ∧ gOk src.guard r = true ∧ (∀ k xs, src.guard = some (k, xs) → Ow k = Ow1 k) ∧
    FinS P W S Xb H1 Ow1 (forL tg src.guard body (src.items.drop i) r) D
  refine ⟨fun i m σ H => m = src.items.length - i ∧ i ≤ src.items.length ∧ Inv i σ H, ⟨_, rfl, Nat.zero_le _, r1, Ow1, Ext.refl.toS S0, R1, g0, fun _ _ _ => rfl, by simpa using hf⟩, ?_⟩
  rintro i m σ H ⟨rfl, hi, r, Ow, ex, R, g, gi, hk⟩
  obtain ⟨go, st, yl⟩ := G.run S0 H Ow X1 r σ ex (fun _ z => z) (fun _ z => .inl z) R g gi
  by_cases hlt : i < src.items.length
  · refine .inr ⟨go i hlt, fun σ' H' => Inv (i + 1) σ' H', fun σ' H' n' => ⟨_, by omega, rfl, hlt, n'⟩, fun x H' y => ?_⟩
    obtain ⟨d, d1, e1, R', yr⟩ := yl i x H' hlt y
    have hd : src.items.drop i = d :: src.items.drop (i + 1) := by
      rw [List.getElem?_eq_getElem hlt] at d1
      cases d1
      exact List.drop_eq_getElem_cons hlt
    rw [hd] at hk
    simp only [forL] at hk
    cases q : asgT tg d r with
    | none => simp only [q] at hk; exact hk.elim
    | some r2 =>
      simp only [q] at hk
      refine g_tg R' yr hp q fun σ2 Ow2 e2 R2 => ⟨r2, Ow2, X1, R2, ?_⟩
      have ex2 : ExtS S0 H1 Ow1 H' Ow2 := (ex.trans (e1.toS S0)).trans (e2.mono hT)
      cases qb : body r2 with
      | nx r3 =>
        simp only [qb] at hk
        intro σ3 H3 Ow3 e3 R3
        split at hk
        · rename_i hg
          have ex3 := ex2.trans e3
          refine ⟨r3, Ow3, ex3, R3, hg, fun k xs hgk => ?_, hk⟩
          -- the guarded slot has its list still
          have hk3 : k ∉ S0 := gFree_of (by rw [hgk] at hfree; exact hfree)
          rcases ex3.st k hk3 with z | z
          · exact z
          · exfalso
            rw [hgk] at hg
            simp only [gOk] at hg
            split at hg
            · rename_i ys q'
              obtain ⟨b, zs, z1, _⟩ := R3.sl k _ q'
              rw [z] at z1; cases z1
            · cases hg
        · exact hk.elim
      | ret t r3 =>
        simp only [qb] at hk
        rintro σ3 v H3 ⟨Ow3, e3, ok⟩
        refine hk σ3 v H3 ⟨Ow3, (ex2.trans e3).mono hS, ?_⟩
        cases t with
        | d x => exact ⟨ok.1.weak hx, ok.2.weak (BsOf.mono hx)⟩
        | fr ds =>
          obtain ⟨a, xs, h1, h2, h3, h4, h5⟩ := ok
          have mo : ∀ b, addX Xb a b → addX X1 a b := fun b z => z.elim (fun z => .inl (hx b z)) .inr
          refine ⟨a, xs, h1, ?_, h3, h4.weak mo, h5.weak (BsOf.mono mo)⟩
          cases q : H1 a with
          | none => rfl
          | some o => exact absurd h2 (ex2.al a (by rw [q]; simp))
        | rf j => exact ⟨ok.1.weak hx, ok.2⟩
        | frd => exact ok.elim
      | exc c r3 =>
        simp only [qb] at hk
        exact fun σ3 H3 Ow3 d' e3 R3 => hk σ3 H3 Ow3 d' ((ex2.trans e3).mono hS) (R3.weak hx)
      | bad => simp only [qb] at hk; exact hk.elim
  · have e : i = src.items.length := by omega
    subst e
    simp only [List.drop_length, forL] at hk
    exact .inl ⟨st, hk σ H Ow (ex.mono hS) (R.weak hx)⟩
theorem ps_forM (C : Cok P X W) (po : PassesOwn (model X.prog X.w) X.A X.env X.xe) {pr : Bool} {S0 : List Nat} {tg : Tg} {tge iter : Expr} {fi : Ro → Re Src} {body : Fs} {bs : List Stmt} (hi : PI X tge iter (tI P W pr fi)) (hg : PG X tge (gTg P.K tg)) (hb : PSs X bs (tS P W (tgs tg ++ S0) body))
    (hp : pr = true → ∃ is, tg = .tup is) (hS : ∀ i, i ∈ tgs tg ++ S0 → i ∈ S) (hs : ∀ x, foldedSetIterable iter X.env x = pure x) : PS X (.For tge iter bs [] pos) (tS P W S (forF S0 tg fi body)) := by
  refine PS.imp (ps_for po C.calm hi hg hb hs) fun D σ H ⟨r, Ow, Xb, R, hf⟩ => ?_
  unfold forF at hf
  refine ⟨r, Ow, Xb, R, ?_⟩
  cases e : fi r with
  | ok src r1 =>
    simp only [e, Re.andS] at hf
    intro J H1 Ow1 X1 e1 x1 x2 R1 g0 G
    split at hf
    · rename_i hfr
      exact for_core G R1 x1 g0 hp (fun i hi => List.mem_append_left _ hi) hfr hS (hf.lift (e1.toS S))
    · exact hf.elim
  | exc c r1 => simp only [e, Re.andS] at hf; exact fun H' Ow' d e' R' => hf σ H' Ow' d (e'.toS S) R'
  | bad => simp only [e, Re.andS] at hf; exact hf.elim
end
end MP
set_option linter.all false
set_option Elab.async false
set_option maxRecDepth 100000
set_option maxHeartbeats 4000000
/-! MP17: enumerate, zip; targets of names. -/
namespace MP
open PySem PySem.Spec PyProof.Rows L2 PySem.SeqAt
open AutoSeq1 (wpAny_loadPart')

/-! ### enumerate of a tuple -/
theorem meets_enumerate_newT (l : Addr) (items : Array Value) (n : Nat) (dct : Option Addr) (sl : Array (Option Value)) :
    Meets (Builtin.«enumerate.__new__» ⟨[.type "enumerate", .ref l], []⟩) (fun _ R s => s.heap.get? l = some { cls := .type "tuple", dict := dct, data := .seq items n, slots := sl } ∧
      R (.ok (.ret (.ref (s.heap.push { cls := .type "tuple_iterator", data := .fields #[.ref l, .int 0 0] }).objs.size)))
        { s with heap := (s.heap.push { cls := .type "tuple_iterator", data := .fields #[.ref l, .int 0 0] }).push { cls := .type "enumerate", data := .fields #[.none, .bool false, .ref s.heap.objs.size, rawInt 0, .none, .none] } }) :=
  .of_wp fun prog w A R s h => by
    obtain ⟨hp, g, d, tk, os⟩ := s; obtain ⟨hl, h⟩ := h
    have hsub := sub_enumerate
    have hL : Heap.IsTuple (Shared.heap ⟨hp, g, d, tk, os⟩) l items := ⟨_, hl, rfl, n, rfl⟩
    wp_walk using wpAny_loadPart' hl
    refine wpAny_stack_any fun st => wpAny_pure ?_
    split
    · rename_i c _ _ _ _ _
      cases (c == Value.type "enumerate")
      · wp_walk using wpAny_loadPart' hl, wpAny_pyIter_tuple hL
        exact ⟨_, rfl, h⟩
      · wp_walk using wpAny_loadPart' hl, wpAny_pyIter_tuple hL
        exact ⟨_, rfl, h⟩
    · wp_walk using wpAny_loadPart' hl, wpAny_pyIter_tuple hL
      exact ⟨_, rfl, h⟩
section
variable {prog : Program} {w : World} {A : Around} {E : Value → Shared → Prop} {s : Shared}
theorem call_enumerate_tuple {l : Addr} {items : Array Value} {Q : Value → Shared → Prop} (hL : s.heap.IsTuple l items)
    (h : ∀ h', IsEnum h' (s.heap.objs.size + 1) s.heap.objs.size 0 .none → h'.IsTupleIter s.heap.objs.size l 0 → h'.objs.size = s.heap.objs.size + 2 →
      (∀ b o, s.heap.get? b = some o → h'.get? b = some o) → Q (.ref (s.heap.objs.size + 1)) { s with heap := h' }) :
    wpAny (model prog w) A (call (.type "enumerate") [.ref l]) Q E s := by
  obtain ⟨⟨c, dct, dt, sl⟩, hl, hc, n, hd⟩ := hL
  replace hc : c = .type "tuple" := hc
  replace hd : dt = .seq items n := hd
  subst hc hd
  refine callType_new F.called_enumerate (by decide) (F.typeCall_enumerate_1 _) (F.newCall_enumerate_1 _) (fun obj => F.args_object_init_2 obj _) F.entry_enumerate_new
    (meets_enumerate_newT l items n dct sl) ⟨hl, ?_⟩
  have hz : (s.heap.push { cls := .type "tuple_iterator", data := .fields #[.ref l, .int 0 0] }).objs.size = s.heap.objs.size + 1 := Heap.size_push ..
  show _ ∧ _
  rw [hz]
  have he : IsEnum ((s.heap.push { cls := .type "tuple_iterator", data := .fields #[.ref l, .int 0 0] }).push
      { cls := .type "enumerate", data := .fields #[.none, .bool false, .ref s.heap.objs.size, rawInt 0, .none, .none] }) (s.heap.objs.size + 1) s.heap.objs.size 0 .none := by
    have := Heap.get?_push_size (s.heap.push { cls := .type "tuple_iterator", data := .fields #[.ref l, .int 0 0] })
      (o := { cls := .type "enumerate", data := .fields #[.none, .bool false, .ref s.heap.objs.size, rawInt 0, .none, .none] }) rfl
    rw [hz] at this; exact this
  refine ⟨⟨_, he, rfl⟩, h _ he ⟨_, Heap.get?_push_of_some _ (Heap.get?_push_size _ rfl), rfl, rfl⟩ (by rw [Heap.size_push, hz]) fun b o x => Heap.get?_push_of_some _ (Heap.get?_push_of_some _ x)⟩
end
/-- the tuple at a, each item in a new pair -/
def IteT (K : PySem.W.Frag) (a : Addr) : L2.It :=
  ⟨fun i H => ∃ (xs : List V) (x : V), SqT K H a xs ∧ xs[i]? = some x, fun i H v H' => ∃ T x, v = .ref T ∧ H T = none ∧ H' = upd H T (.tup [.int (i : Nat), x]) ∧ ∀ xs, SqT K H a xs → xs[i]? = some x, fun i H => ∃ xs : List V, SqT K H a xs ∧ xs.length = i⟩
theorem turn_enumT {P : Program} {w : World} {K : PySem.W.Frag} {elts : List Expr} {kk : Nat} {tpos : Pos} (a e it : Addr) :
    Turn P w K (.Tuple elts kk tpos) (IteT K a) [e, it] e (fun i h => (∃ old, IsEnum h e it ((i : Nat) : Int) old) ∧ h.IsTupleIter it a i ∧ e ≠ it) where
  mem := by simp
  obj := fun i h st b hb => by
    obtain ⟨⟨old, he⟩, ⟨o, ho, hc, hd⟩, _⟩ := st
    have e' : b = e ∨ b = it := by simpa using hb
    rcases e' with z | z
    · rw [z]; exact ⟨_, he, fun v q => nomatch q⟩
    · rw [z]; exact ⟨o, ho, fun v q => by rw [hd] at q; cases q⟩
  keep := fun i h h' st k => let ⟨⟨old, he⟩, hi, hne⟩ := st; ⟨⟨old, k e (by simp) _ he⟩, hi.at fun o q => k it (by simp) o q, hne⟩
  item := by
    intro X hP hw hK hc i pins s σ H E I hf st hg
    subst hP hw hK
    obtain ⟨⟨old, he⟩, hit, hne⟩ := st
    obtain ⟨xs, x, hq, hx⟩ := hg
    obtain ⟨its, rv, p, hz⟩ := I.tuple hq
    obtain ⟨u, hu, ru⟩ := rv.get hx
    have hel : e < s.heap.objs.size := Heap.lt_size he
    have hil : it < s.heap.objs.size := by obtain ⟨_, q, _⟩ := hit; exact Heap.lt_size q
    have hae : a ≠ e := fun z => by
      obtain ⟨o, ho, hc, _⟩ := p
      subst z
      rw [he] at ho; cases ho
      simp at hc
    have hai : a ≠ it := fun z => by
      obtain ⟨o, ho, hc, _⟩ := p
      obtain ⟨o', ho', hc', _⟩ := hit
      subst z
      rw [ho] at ho'; cases ho'
      rw [hc] at hc'; simp at hc'
    have hlt : i < its.toArray.size := by
      have := (List.getElem?_eq_some_iff.mp hu).1
      simpa using this
    refine wpAny_pyNext_enum_itemD (Draws.tuple (A := X.A.in1) (I.ok.hd hc) it a hai its.toArray) he ⟨hit, p⟩ hlt hne (by simp [hne, Ne.symm hae]) fun x' h' tk hP ho hS hT hsz hk => ?_
    have ex : x' = u := by
      have hP' : its[i]? = some x' := by simpa using hP
      rw [hu] at hP'; exact (Option.some.inj hP').symm
    subst ex
    refine ⟨_, rfl, wpAny_letOwnedTupleGo_enum (s := { s with heap := h', toks := tk + 1 }) ho fun h'' he' sb => ?_⟩
    have hT2 : h''.get? s.heap.objs.size = some { cls := .type "tuple", data := .seq #[.int i tk, x'] } := (sb.2 _ (Nat.ne_of_gt hel)).trans hT
    have new : ObjOk X.prog X.w (upd H s.heap.objs.size (.tup [.int (i : Nat), x])) h'' s.heap.objs.size (.tup [.int (i : Nat), x]) :=
      ⟨by show 2 ≤ sizeLine; decide, [.int i tk, x'], .cons ⟨_, rfl⟩ (.cons ru .nil), ⟨_, hT2, rfl, _, rfl⟩⟩
    have I1 : Inv X pins σ (upd H s.heap.objs.size (.tup [.int (i : Nat), x])) { s with heap := h'', toks := tk + 1 } :=
      I.turnedNew (ch := [e, it]) (fun b ob hb q => (sb.2 b (fun z => hb (by simp [z]))).trans (hk b ob (fun z => hb (by simp [z])) (fun z => hb (by simp [z])) q)) hf (Nat.le_refl _) new
    refine ⟨.ref s.heap.objs.size, _, I1, rfl, ⟨_, x, rfl, I.hok.fresh (Nat.le_refl _), rfl, fun ys hy => by rw [I.tuple_inj hy hq]; exact hx⟩, ⟨⟨x', ?_⟩, hS.1.at fun o q => (sb.2 it (Ne.symm hne)).trans q, hne⟩, fun b hb => ?_⟩
    · have e1 : ((i + 1 : Nat) : Int) = (i : Int) + 1 := by omega
      rw [e1]; exact he'
    · have hb' : b < s.heap.objs.size := by
        have e' : b = e ∨ b = it := by simpa using hb
        rcases e' with z | z
        · rw [z]; exact hel
        · rw [z]; exact hil
      rw [upd_ne (Nat.ne_of_lt hb')]
      exact (hf b hb).1
  done := by
    intro X hP hw hK hc i pins s σ H E I hf st hg
    subst hP hw hK
    obtain ⟨⟨old, he⟩, hit, hne⟩ := st
    obtain ⟨xs, hq, hx⟩ := hg
    obtain ⟨its, rv, p, hz⟩ := I.tuple hq
    obtain ⟨f0, f1, f2, f3, f4, f5⟩ := hf it (by simp)
    have hl := rv.length
    have hai : a ≠ it := fun z => by
      obtain ⟨o, ho, hc, _⟩ := p
      obtain ⟨o', ho', hc', _⟩ := hit
      subst z
      rw [ho] at ho'; cases ho'
      rw [hc] at hc'; simp at hc'
    have en : its.toArray.size = i := by rw [List.size_toArray]; omega
    exact wpAny_pyNext_enum_endD (Draws.tuple (A := X.A.in1) (I.ok.hd hc) it a hai its.toArray) he (by rw [en]; exact ⟨hit, p⟩) fun h' eb => ⟨rfl, I.turned (t' := s.toks) (fun b o hb q => eb b o hb q) f0 f1 f3 f4 f5⟩
  self := fun A i s Q E st h => let ⟨⟨_, he⟩, _⟩ := st; wpAny_pyIter_enum he h
def iEnumA (K : PySem.W.Frag) (ta : TE) : TI := fun σ H R => ta σ H fun v H1 => ∃ a, v = .ref a ∧ (((∃ xs, SqL K H1 a xs) ∧ R (Ite K a) H1) ∨ ((∃ xs, SqT K H1 a xs) ∧ R (IteT K a) H1))
theorem pi_enumA {X : Cx} {e : Expr} {ta : TE} {p pos tpos : Pos} {elts : List Expr} {kk : Nat} (hg : Gl X "enumerate") (hm : X.mg "enumerate" = none) (ha : PE X e ta) (hs : starEach [e] X.env = (false, eval e X.env) :: starEach [] X.env) :
    PI X (.Tuple elts kk tpos) (.Call (.Name "enumerate" p) [e] [] pos) (iEnumA X.K ta) := by
  refine ⟨fun pins s σ H R I h => ?_⟩
  refine Call_ (ld_blt I hg hm boot_enumerate (PyProof.Rows.callWith_type1 (PyProof.Rows.args_cons (thn (ha.run pins s σ H _ I h) fun v s1 ⟨x, H1, I1, r1, q1⟩ => PyProof.Rows.args_nil ?_) hs) hs rfl))
  obtain ⟨a, rfl, q1⟩ := q1
  cases r1
  have fresh2 : ∀ b, b ∈ [s1.heap.objs.size + 1, s1.heap.objs.size] → FpOk X pins H1 b := fun b hb => by
    have e' : b = s1.heap.objs.size + 1 ∨ b = s1.heap.objs.size := by simpa using hb
    have hle : s1.heap.objs.size ≤ b := by
      rcases e' with z | z
      · rw [z]; exact Nat.le_add_right _ _
      · rw [z]; exact Nat.le_refl _
    exact I1.fpOk hle (I1.hok.fresh hle)
  rcases q1 with ⟨⟨xs, hq⟩, q⟩ | ⟨⟨xs, hq⟩, q⟩
  · obtain ⟨its, rv, p', hz⟩ := I1.list hq
    refine call_enumerate_list p'.isList fun h' he hit hsz hk => wpAny_pyIter_enum he ?_
    have I2 : Inv X pins σ H1 { s1 with heap := h' } := I1.kept (t' := s1.toks) hk
    exact ⟨s1.heap.objs.size + 1, [s1.heap.objs.size + 1, s1.heap.objs.size], _, _, H1, rfl, I2, turn_enum a (s1.heap.objs.size + 1) s1.heap.objs.size, ⟨⟨.none, he⟩, hit, Nat.succ_ne_self _⟩, fresh2, q⟩
  · obtain ⟨its, rv, p', hz⟩ := I1.tuple hq
    refine call_enumerate_tuple (show s1.heap.IsTuple a its.toArray from p') fun h' he hit hsz hk => wpAny_pyIter_enum he ?_
    have I2 : Inv X pins σ H1 { s1 with heap := h' } := I1.kept (t' := s1.toks) hk
    exact ⟨s1.heap.objs.size + 1, [s1.heap.objs.size + 1, s1.heap.objs.size], _, _, H1, rfl, I2, turn_enumT a (s1.heap.objs.size + 1) s1.heap.objs.size, ⟨⟨.none, he⟩, hit, Nat.succ_ne_self _⟩, fresh2, q⟩
end MP
set_option linter.all false
set_option Elab.async false
set_option maxRecDepth 100000
set_option maxHeartbeats 1000000
/-! MP18: enumerate, zip as sources; targets of names; lists written. -/
namespace MP
open PySem PySem.Spec PyProof.Rows L2 PySem.SeqAt

section
variable {P : Par} {W : XW} {X : Cx} {S : List Nat} {a b c : Expr} {fa fb fc : Fe} {pos p p1 p2 : Pos} {σ : L2.St} {H H1 H' : Hp} {Ow Ow1 Ow' : Own} {Xb X1 X2 : Bs} {r r1 : Ro} {D : Ends}

theorem enumD_len : ∀ (ds : List Dv) (k : Int), (enumD k ds).length = ds.length
  | [], _ => rfl
  | d :: ds, k => by simp [enumD, enumD_len ds]
theorem enumD_get : ∀ (ds : List Dv) (k : Int) (i : Nat) (d : Dv), ds[i]? = some d → (enumD k ds)[i]? = some (.tup [.int (k + i), d])
  | [], _, _, _, h => by simp at h
  | d :: ds, k, 0, d', h => by simp at h; subst h; simp [enumD]
  | d :: ds, k, i + 1, d', h => by
    simp only [enumD, List.getElem?_cons_succ] at h ⊢
    rw [enumD_get ds (k + 1) i d' h]
    have : k + 1 + (i : Int) = k + ((i + 1 : Nat) : Int) := by omega
    rw [this]
theorem zipD_len : ∀ (xs ys : List Dv), (zipD xs ys).length = min xs.length ys.length
  | [], _ => by simp [zipD]
  | _ :: _, [] => by simp [zipD]
  | x :: xs, y :: ys => by simp [zipD, zipD_len xs ys]
theorem zipD_get : ∀ (xs ys : List Dv) (i : Nat) (x y : Dv), xs[i]? = some x → ys[i]? = some y → (zipD xs ys)[i]? = some (.tup [x, y])
  | [], _, _, _, _, h, _ => by simp at h
  | _ :: _, [], _, _, _, _, h => by simp at h
  | x :: xs, y :: ys, 0, x', y', h, k => by simp at h k; subst h k; simp [zipD]
  | x :: xs, y :: ys, i + 1, x', y', h, k => by
    simp only [zipD, List.getElem?_cons_succ] at h k ⊢
    exact zipD_get xs ys i x' y' h k
/-- a pair that a walk makes -/
theorem pair_yr {T : Addr} {x y : V} {dx dy : Dv} (R : Rho P H Ow X2 r σ) (hn : H T = none) (hx : Rv P (BsOf Ow X2) H dx x) (hy : Rv P (BsOf Ow X2) H dy y) :
    Ext H Ow (upd H T (.tup [x, y])) Ow ∧ Rho P (upd H T (.tup [x, y])) Ow X2 r σ ∧ YR P (BsOf Ow X2) (upd H T (.tup [x, y])) true (.tup [dx, dy]) (.ref T) := by
  have e : Ext H Ow (upd H T (.tup [x, y])) Ow := .new hn
  refine ⟨e, (R.new hn).weak addX_of, ?_⟩
  exact ⟨T, [dx, dy], [x, y], rfl, rfl, .inl (.inl upd_same), .cons (hx.keep e.kp) (.cons (hy.keep e.kp) .nil)⟩
theorem go_enumL {ad : Addr} {src : Src} (st : Stays P H1 Ow1 X1 src (fun H' => SqL P.K H' ad)) : Go P (Ite P.K ad) H1 Ow1 X1 ⟨enumD 0 src.items, src.guard⟩ true := by
  refine ⟨fun S H' Ow' X2 r' σ' ex x1 x2 R' g gi => ?_⟩
  obtain ⟨xs, hs, rs⟩ := st S H' Ow' X2 r' σ' ex x1 x2 R' g gi
  have hl := rs.length
  simp only [enumD_len]
  refine ⟨fun i hi => ⟨xs, xs[i]'(by omega), hs, List.getElem?_eq_getElem _⟩, ⟨xs, hs, by omega⟩, fun i v H'' hi y => ?_⟩
  obtain ⟨T, x, rfl, hn, rfl, y⟩ := y
  obtain ⟨d, d1, d2⟩ := rs.getV (y xs hs)
  obtain ⟨z1, z2, z3⟩ := pair_yr (x := .int (i : Nat)) (dx := .int (i : Nat)) R' hn (.int _) d2
  refine ⟨_, enumD_get src.items 0 i d d1, z1, z2, ?_⟩
  have : (0 : Int) + (i : Int) = (i : Int) := by omega
  rw [this]; exact z3
theorem go_enumT {ad : Addr} {src : Src} (st : Stays P H1 Ow1 X1 src (fun H' => SqT P.K H' ad)) (hinj : ∀ H' xs ys, SqT P.K H' ad xs → SqT P.K H' ad ys → xs = ys ∨ True) : Go P (IteT P.K ad) H1 Ow1 X1 ⟨enumD 0 src.items, src.guard⟩ true := by
  refine ⟨fun S H' Ow' X2 r' σ' ex x1 x2 R' g gi => ?_⟩
  obtain ⟨xs, hs, rs⟩ := st S H' Ow' X2 r' σ' ex x1 x2 R' g gi
  have hl := rs.length
  simp only [enumD_len]
  refine ⟨fun i hi => ⟨xs, xs[i]'(by omega), hs, List.getElem?_eq_getElem _⟩, ⟨xs, hs, by omega⟩, fun i v H'' hi y => ?_⟩
  obtain ⟨T, x, rfl, hn, rfl, y⟩ := y
  obtain ⟨d, d1, d2⟩ := rs.getV (y xs hs)
  obtain ⟨z1, z2, z3⟩ := pair_yr (x := .int (i : Nat)) (dx := .int (i : Nat)) R' hn (.int _) d2
  refine ⟨_, enumD_get src.items 0 i d d1, z1, z2, ?_⟩
  have : (0 : Int) + (i : Int) = (i : Int) := by omega
  rw [this]; exact z3
theorem i_enum (C : Cok P X W) {elts : List Expr} {kk : Nat} {tpos : Pos} (hg : Gl X "enumerate") (hm : X.mg "enumerate" = none) (ha : PE X a (tE P W fa)) (na : ∀ x p, a ≠ .Starred x p) :
    PI X (.Tuple elts kk tpos) (.Call (.Name "enumerate" p) [a] [] pos) (tI P W true (enumI fa)) := by
  refine PI.imp (pi_enumA hg hm ha (starless na)) fun σ H R ⟨r, Ow, Xb, Rh, hf⟩ => ?_
  unfold enumI at hf
  refine intoI Rh hf fun x r1 v H1 Ow1 X1 _ e1 x1 x2 R1 h1 f0 _ => ?_
  cases q : srcT r1 x with
  | none => simp only [q] at f0; exact f0.elim
  | some src =>
    simp only [q] at f0
    obtain ⟨g0, ad, xs, rfl, rs, hs⟩ := src_of h1 R1 q
    refine ⟨ad, rfl, ?_⟩
    rw [C.K]
    rcases hs with ⟨hs, st⟩ | ⟨hs, st⟩
    · exact .inl ⟨⟨xs, hs⟩, f0 _ H1 Ow1 X1 e1 x1 x2 R1 g0 (go_enumL st)⟩
    · exact .inr ⟨⟨xs, hs⟩, f0 _ H1 Ow1 X1 e1 x1 x2 R1 g0 (go_enumT st fun _ _ _ _ _ => .inr trivial)⟩

/-! zip: two lists, two tuples -/
theorem i_zip (C : Cok P X W) {elts : List Expr} {kk : Nat} {tpos : Pos} (hg : Gl X "zip") (hm : X.mg "zip" = none) (ha : PE X a (tE P W fa)) (na : ∀ x p, a ≠ .Starred x p) (hb : PE X b (tE P W fb)) (nb : ∀ x p, b ≠ .Starred x p) :
    PI X (.Tuple elts kk tpos) (.Call (.Name "zip" p) [a, b] [] pos) (tI P W true (zipI fa fb)) := by
  refine PI.imp (RZ.pi_zipA hg hm (pa_2 ha na hb nb) (starless na) (by rw [starless nb]; rfl)) fun σ H R ⟨r, Ow, Xb, Rh, hf⟩ => ?_
  unfold zipI at hf
  refine intoI Rh hf fun x r1 v H1 Ow1 X1 _ e1 x1 x2 R1 h1 f0 f1 => ?_
  cases m : mat r1 x with
  | none => simp only [m] at f1; exact f1.elim
  | some dr =>
    obtain ⟨dx, r2⟩ := dr
    simp only [m] at f1
    obtain ⟨Ow2, e2, R2, rvx⟩ := h1.mat R1 x1 m
    refine intoI R2 (f1.lift e2) fun y r3 w H3 Ow3 X3 _ e3 y1 y2 R3 h3 g0 g1 => ?_
    cases m2 : mat r3 y with
    | none => simp only [m2] at g1; exact g1.elim
    | some dr =>
      obtain ⟨dy, r4⟩ := dr
      simp only [m2] at g1
      obtain ⟨Ow4, e4, R4, rvy⟩ := h3.mat R3 y1 m2
      have rvx4 : Rv P (BsOf Ow4 Xb) H3 dx v := rvx.keep ((e3.trans e4).kp)
      cases q : zipT dx dy with
      | none => simp only [q] at g1; exact g1.elim
      | some zs =>
        simp only [q] at g1
        have gg := g1.lift e4
        cases rvx4 with
        | @lv pa xs ds t1 n1 rs1 =>
          cases rvy with
          | @lv pb ys es t2 n2 rs2 =>
            simp only [zipT, Option.some.injEq] at q
            subst q
            refine ⟨pa, pb, xs, ys, rfl, .inl ⟨.inl (.inl t1), .inl (.inl t2), ?_⟩⟩
            rw [C.K]
            refine gg _ H3 Ow4 Xb .refl (fun _ z => z) (fun _ z => .inl z) R4 rfl ⟨fun S H' Ow' X2 r' σ' ex x1 x2 R' g gi => ?_⟩
            have k1 := ex.kp2 x2 _ _ t1 n1 (fun _ z => by cases z)
            have k2 := ex.kp2 x2 _ _ t2 n2 (fun _ z => by cases z)
            have q1 := rs1.keep (ex.kp2 x2)
            have q2 := rs2.keep (ex.kp2 x2)
            have l1 := q1.length
            have l2 := q2.length
            simp only [zipD_len]
            refine ⟨fun i hi => ⟨xs, ys, xs[i]'(by omega), ys[i]'(by omega), .inl (.inl k1.1), .inl (.inl k2.1), List.getElem?_eq_getElem _, List.getElem?_eq_getElem _⟩, ⟨xs, ys, .inl (.inl k1.1), .inl (.inl k2.1), by omega⟩, fun i v H'' hi y => ?_⟩
            obtain ⟨T, x, z, rfl, hn, rfl, y1, y2⟩ := y
            obtain ⟨d1, d2, d3⟩ := q1.getV (y1 xs (.inl (.inl k1.1)))
            obtain ⟨d4, d5, d6⟩ := q2.getV (y2 ys (.inl (.inl k2.1)))
            obtain ⟨z1, z2, z3⟩ := pair_yr R' hn d3 d6
            exact ⟨_, zipD_get _ _ i _ _ d2 d5, z1, z2, z3⟩
          | _ => simp [zipT] at q
        | @tup pa xs ds t1 rs1 =>
          cases rvy with
          | @tup pb ys es t2 rs2 =>
            simp only [zipT, Option.some.injEq] at q
            subst q
            refine ⟨pa, pb, xs, ys, rfl, .inr ⟨by rw [C.K]; exact t1.sq, by rw [C.K]; exact t2.sq, ?_⟩⟩
            rw [C.K]
            refine gg _ H3 Ow4 Xb .refl (fun _ z => z) (fun _ z => .inl z) R4 rfl ⟨fun S H' Ow' X2 r' σ' ex x1 x2 R' g gi => ?_⟩
            have tk : ∀ {p : Addr} {zs : List V}, TupAt P.K (BsOf Ow4 Xb) H3 p zs → SqT P.K H' p zs := fun {p zs} t => by
              rcases t with ⟨⟨o, e1, d⟩, n⟩ | t
              · exact .inl (.inr ⟨o, (ex.kp2 x2 _ _ e1 n (fun _ z => by cases z)).1⟩)
              · exact (TupAt.sq (B := fun _ => False) (.inr t))
            have q1 := rs1.keep (ex.kp2 x2)
            have q2 := rs2.keep (ex.kp2 x2)
            have l1 := q1.length
            have l2 := q2.length
            simp only [zipD_len]
            refine ⟨fun i hi => ⟨xs, ys, xs[i]'(by omega), ys[i]'(by omega), tk t1, tk t2, List.getElem?_eq_getElem _, List.getElem?_eq_getElem _⟩, ⟨xs, ys, tk t1, tk t2, by omega⟩, fun i v H'' hi y => ?_⟩
            obtain ⟨T, x, z, rfl, hn, rfl, y1, y2⟩ := y
            obtain ⟨d1, d2, d3⟩ := q1.getV (y1 xs (tk t1))
            obtain ⟨d4, d5, d6⟩ := q2.getV (y2 ys (tk t2))
            obtain ⟨z1, z2, z3⟩ := pair_yr R' hn d3 d6
            exact ⟨_, zipD_get _ _ i _ _ d2 d5, z1, z2, z3⟩
          | _ => simp [zipT] at q
        | _ => simp [zipT] at q

/-! ### targets of names -/
def isNames : List Expr → Bool
  | [] => true
  | .Name _ _ :: r => isNames r
  | _ => false
theorem each_name {x : Str} {q : Pos} {es : List Expr} {env : Env} : assignEach (.Name x q :: es) env = (false, assign (.Name x q) env) :: assignEach es env := rfl
theorem names_each : ∀ {es : List Expr} {env : Env}, isNames es = true → (assignEach es env).length = es.length ∧ (assignEach es env).findIdx? (·.1) = none
  | [], _, _ => ⟨rfl, rfl⟩
  | e :: es, env, h => by
    cases e with
    | Name x q =>
      obtain ⟨h1, h2⟩ := names_each (es := es) (env := env) (by simpa [isNames] using h)
      rw [each_name, List.length_cons, h1, List.findIdx?_cons, h2]
      exact ⟨rfl, rfl⟩
    | _ => simp [isNames] at h
/-- each a local name, with its slot -/
inductive Locs (X : Cx) : List Expr → List Nat → Prop
  | nil : Locs X [] []
  | cons {x : Str} {q : Pos} {i : Nat} {es : List Expr} {is : List Nat} : X.N[i]? = some x → Loc X.env.scope x → (X.fn x = true ∨ X.env.scope.names.lookup x = some .local) → Locs X es is → Locs X (.Name x q :: es) (i :: is)
theorem Locs.names {es : List Expr} {is : List Nat} (h : Locs X es is) : isNames es = true ∧ es.length = is.length := by
  induction h with
  | nil => exact ⟨rfl, rfl⟩
  | cons _ _ _ _ ih => exact ⟨by simpa [isNames] using ih.1, by simp [ih.2]⟩
theorem Locs.pgs (hN : X.N.Nodup) {es : List Expr} {is : List Nat} (h : Locs X es is) : PGs X es (gNames is) := by
  induction h with
  | nil => exact pgs_nil
  | cons h1 h2 h3 _ ih => exact pgs_cons (pg_name hN h1 h2 h3) ih (by rw [each_name]; rfl)
theorem pg_one (hN : X.N.Nodup) {x : Str} {q : Pos} {i : Nat} (h1 : X.N[i]? = some x) (h2 : Loc X.env.scope x) (h3 : X.fn x = true ∨ X.env.scope.names.lookup x = some .local) : PG X (.Name x q) (gTg P.K (.one i)) := pg_name hN h1 h2 h3
theorem pg_many (C : Cok P X W) {es : List Expr} {is : List Nat} {k : Nat} {q : Pos} (h : Locs X es is) : PG X (.Tuple es k q) (gTg P.K (.tup is)) := by
  obtain ⟨n1, n2⟩ := h.names
  obtain ⟨m1, m2⟩ := names_each (env := X.env) n1
  have := pg_tup (k := k) (pos := q) C.calm (h.pgs C.nd) (n := is.length) (by rw [m1, n2]) m2
  rw [C.K] at this
  exact this
end
end MP
set_option linter.all false
set_option Elab.async false
set_option maxRecDepth 100000
set_option maxHeartbeats 1000000
/-! MP19: lists that a slot owns, written by statements. -/
namespace MP
open PySem PySem.Spec PyProof.Rows L2 PySem.SeqAt

section
variable {P : Par} {W : XW} {X : Cx} {S : List Nat} {a b c : Expr} {fa fb fc : Fe} {pos p p1 p2 np : Pos} {σ : L2.St} {H H1 H' : Hp} {Ow Ow1 Ow' : Own} {Xb X1 X2 : Bs} {r r1 : Ro} {D : Ends}

/-- a slot's list stands where it stood -/
theorem Rho.same {i : Nat} {ds ds1 : List Dv} (R : Rho P H Ow Xb r σ) (R1 : Rho P H1 Ow1 X1 r1 σ) (e : Ext H Ow H1 Ow1) (q : r[i]? = some (.own ds)) (q1 : r1[i]? = some (.own ds1)) : ∃ ad, σ[i]? = some (some (.ref ad)) ∧ Ow i = some ad ∧ Ow1 i = some ad := by
  obtain ⟨ad, xs, h1, h2, _⟩ := R.sl i _ q
  obtain ⟨ad1, xs1, k1, k2, _⟩ := R1.sl i _ q1
  rw [h2] at k2
  simp only [Option.some.injEq, V.ref.injEq] at k2
  subst k2
  exact ⟨ad, h2, h1, k1⟩
theorem name_plain {x : Str} {q : Pos} : ∀ y z, Expr.Name x q ≠ .Starred y z := fun _ _ z => by cases z

/-! ### name[i] = value -/
theorem ps_setixM (C : Cok P X W) {i : Nat} {x : Str} {ixe : Expr} {k : Pos} (hN : X.N[i]? = some x) (hv : Vis X.env.scope x) (hd : (x == ("__debug__" : Str)) = false) (hcd : (x == ("__classdict__" : Str)) = false)
    (hb : PE X ixe (tE P W fb)) (ha : PE X a (tE P W fa)) (hs : swapsWithSole [.Subscript (.Name x np) ixe k] a pos.line X.env = pure false) (hw : swappedStores [.Subscript (.Name x np) ixe k] a X.env = pure none)
    (h1 : (assignEach [.Subscript (.Name x np) ixe k] X.env).map (·.2) = [assign (.Subscript (.Name x np) ixe k) X.env])
    (hga : ∀ v, assign (.Subscript (.Name x np) ixe k) X.env v = (do
      let ov ← holding [v] (eval (.Name x np) X.env)
      let iv ← holding [v, ov] (eval ixe X.env)
      standAt k
      holding [v, ov, iv] (setItem ov iv v)
      release [v, ov, iv] [])) : PS X (.Assign [.Subscript (.Name x np) ixe k] a pos) (tS P W S (setixF i fb fa)) := by
  refine PS.imp (ps_asg ha (pg_sub (pe_var hN hv hd hcd) hb set_list hga) hs hw h1) fun D σ H ⟨r, Ow, Xb, R, hf⟩ => ?_
  unfold setixF at hf
  refine intoS R hf fun x r1 v H1 _ ok hk => ?_
  obtain ⟨Ow1, X1, e1, x1, x2, R1, h1⟩ := ok.hld R
  cases m : mat r1 x with
  | none => simp only [m] at hk; exact hk.elim
  | some dr =>
    obtain ⟨d, r2⟩ := dr
    simp only [m] at hk
    obtain ⟨Ow2, e2, R2, rv⟩ := h1.mat R1 x1 m
    cases q : r2[i]? with
    | none => simp only [q] at hk; exact hk.elim
    | some sl =>
      cases sl with
      | own ds =>
        simp only [q] at hk
        obtain ⟨ad, xs, o1, o2, o3, o4⟩ := R2.sl i _ q
        refine ⟨.ref ad, o2, ?_⟩
        refine intoS R2 (hk.lift ((e1.trans e2).toS S)) fun y r3 w H3 _ ok3 hk3 => ?_
        obtain ⟨Ow3, X3, e3, y1, y2, R3, h3⟩ := ok3.hld R2
        cases y with
        | d z =>
          cases z with
          | int n =>
            simp only at hk3
            cases int_of h3
            cases q3 : r3[i]? with
            | none => simp only [q3] at hk3; exact hk3.elim
            | some sl =>
              cases sl with
              | own es =>
                simp only [q3] at hk3
                cases qn : ixN es.length n with
                | none => simp only [qn] at hk3; exact hk3.elim
                | some j =>
                  simp only [qn] at hk3
                  obtain ⟨ad', z1, z2, z3⟩ := R2.same R3 e3 q q3
                  rw [o2] at z1
                  simp only [Option.some.injEq, V.ref.injEq] at z1
                  subst z1
                  have R3b := R3.weak y1
                  obtain ⟨ad', ys, w1, w2, w3, w4, put⟩ := R3b.put q3
                  rw [o2] at w2
                  simp only [Option.some.injEq, V.ref.injEq] at w2
                  subst w2
                  have hl := w4.length
                  obtain ⟨pe, kp, pr⟩ := put (ys.set j v)
                  have rv3 : Rv P (BsOf Ow3 Xb) H3 d v := rv.keep (e3.kp)
                  exact ⟨ad, ys, n, j, rfl, rfl, w3, by rw [← hl]; exact qn, hk3 σ _ Ow3 ((e3.trans pe).toS S) (pr _ (w4.set j rv3))⟩
              | _ => simp only [q3] at hk3; exact hk3.elim
          | _ => exact hk3.elim
        | _ => exact hk3.elim
      | _ => simp only [q] at hk; exact hk.elim

/-! ### name.append(value) -/
theorem ps_appM (C : Cok P X W) {i : Nat} {x : Str} {apos cpos : Pos} (hN : X.N[i]? = some x) (hv : Vis X.env.scope x) (hd : (x == ("__debug__" : Str)) = false) (hcd : (x == ("__classdict__" : Str)) = false)
    (hbase : attributeBase (.Name x np) "append" X.env (eval (.Name x np) X.env) = eval (.Name x np) X.env) (hline : (apos.endLine == cpos.line) = true) (ha : PE X a (tE P W fa)) (na : ∀ x p, a ≠ .Starred x p)
    (hs : swapsWith (.Call (.Attribute (.Name x np) "append" apos) [a] [] cpos) none pos.line X.env = pure false) :
    PS X (.Expr (.Call (.Attribute (.Name x np) "append" apos) [a] [] cpos) pos) (tS P W S (appF i fa)) := by
  refine PS.imp (ps_expr (pe_bm (T := "list") PySem.F.plainAttrs_list PySem.F.slot_list_append PySem.F.type_list_append mt_append (pe_var hN hv hd hcd) (pa_1 ha na) hbase (few1 na) hline (starless na) rfl) hs) fun D σ H ⟨r, Ow, Xb, R, hf⟩ => ?_
  unfold appF at hf
  cases q : r[i]? with
  | none => simp only [q] at hf; exact hf.elim
  | some sl =>
    cases sl with
    | own ds =>
      simp only [q] at hf
      obtain ⟨ad, xs, o1, o2, o3, o4⟩ := R.sl i _ q
      refine ⟨.ref ad, o2, .inl ⟨rfl, xs, .inl (.inl o3)⟩, ?_⟩
      refine intoS R hf fun x r1 v H1 _ ok hk => ?_
      obtain ⟨Ow1, X1, e1, x1, x2, R1, h1⟩ := ok.hld R
      cases m : mat r1 x with
      | none => simp only [m] at hk; exact hk.elim
      | some dr =>
        obtain ⟨d, r2⟩ := dr
        simp only [m] at hk
        obtain ⟨Ow2, e2, R2, rv⟩ := h1.mat R1 x1 m
        cases q3 : r2[i]? with
        | none => simp only [q3] at hk; exact hk.elim
        | some sl =>
          cases sl with
          | own es =>
            simp only [q3] at hk
            split at hk
            · rename_i hlt
              obtain ⟨ad', z1, z2, z3⟩ := R.same R2 (e1.trans e2) q q3
              rw [o2] at z1
              simp only [Option.some.injEq, V.ref.injEq] at z1
              subst z1
              obtain ⟨ad', ys, w1, w2, w3, w4, put⟩ := R2.put q3
              rw [o2] at w2
              simp only [Option.some.injEq, V.ref.injEq] at w2
              subst w2
              have hl := w4.length
              obtain ⟨pe, kp, pr⟩ := put (ys ++ [v])
              exact ⟨ad, ys, v, rfl, rfl, w3, by rw [← hl, sizeLine_eq]; exact hlt, hk σ _ Ow2 (((e1.trans e2).trans pe).toS S) (pr _ (w4.snoc rv))⟩
            · exact hk.elim
          | _ => simp only [q3] at hk; exact hk.elim
    | _ => simp only [q] at hf; exact hf.elim

/-! ### in place -/
def PI2 (op : Bop) : TIp := fun x y H Q => ∃ i j k, x = .int i ∧ y = .int j ∧ binI op i j = some k ∧ Q (.int k) H
theorem ip_binI {op : Bop} (ho : op = .add ∨ op = .sub ∨ op = .mul) : PIp X (opOf op) (PI2 op) := by
  intro pins s σ H x y v u Q I r1 r2 h
  obtain ⟨i, j, k, rfl, rfl, e, q⟩ := h
  obtain ⟨t, rfl⟩ := r1
  obtain ⟨t', rfl⟩ := r2
  rcases ho with rfl | rfl | rfl
  · simp only [binI, Option.some.injEq] at e; subst e
    exact iadd_int ⟨.int _, H, I.tok _, ⟨_, rfl⟩, q⟩
  · simp only [binI, Option.some.injEq] at e; subst e
    exact isub_int ⟨.int _, H, I.tok _, ⟨_, rfl⟩, q⟩
  · simp only [binI] at e
    split at e
    · rename_i hc
      have hc' : CMulW i j := by simp only [okMul, decide_eq_true_eq] at hc; exact hc
      simp only [Option.some.injEq] at e; subst e
      exact imul_int ⟨.int _, H, I.tok _, ⟨_, rfl⟩, q⟩ hc'.ok
    · cases e
theorem ps_augM (C : Cok P X W) {op : Bop} (ho : op = .add ∨ op = .sub ∨ op = .mul) {i : Nat} {x : Str} (hi : X.N[i]? = some x) (hx : Loc X.env.scope x) (hS : i ∈ S) (ha : PE X a (tE P W fa)) (hfn : X.fn x = true ∨ X.env.scope.names.lookup x = some .local) :
    PS X (.AugAssign (.Name x np) (opOf op) a pos) (tS P W S (augF i op fa)) := by
  refine PS.imp (ps_aug C.nd hi hx ha (ip_binI ho) hfn) fun D σ H ⟨r, Ow, Xb, R, hf⟩ => ?_
  unfold augF at hf
  split at hf
  · rename_i n q
    obtain ⟨v, o1, o2⟩ := R.sl i _ q
    cases o2
    refine ⟨.int n, o1, ?_⟩
    refine intoS R hf fun x r1 v H1 _ ok hk => ?_
    obtain ⟨Ow1, X1, e1, x1, x2, R1, h1⟩ := ok.hld R
    cases x with
    | d z =>
      cases z with
      | int m =>
        simp only at hk
        cases int_of h1
        cases qb : binI op n m with
        | none => simp only [qb] at hk; exact hk.elim
        | some k =>
          simp only [qb] at hk
          obtain ⟨e2, R2⟩ := (R1.weak x1).setVal (i := i) (.int k)
          exact ⟨n, m, k, rfl, rfl, qb, hk _ H1 _ ((e1.toS S).trans (e2.mono (by simp; exact hS))) R2⟩
      | _ => exact hk.elim
    | _ => exact hk.elim
  · exact hf.elim
end
end MP
set_option linter.all false
set_option Elab.async false
set_option maxRecDepth 100000
set_option maxHeartbeats 1000000
/-! MP20: comprehensions. -/
namespace MP
open PySem PySem.Spec PyProof.Rows L2 PySem.SeqAt

/-- no exception leaves a comprehension's block -/
def W0 : XW := fun _ _ _ _ => False
section
variable {P : Par} {W : XW} {X : Cx} {S : List Nat} {a b c : Expr} {fa fb fc : Fe} {pos p p1 p2 np : Pos} {σ σ1 : L2.St} {H H1 H' : Hp} {Ow Ow1 Ow' : Own} {Xb X1 X2 : Bs} {r r1 r2 : Ro} {D : Addr} {Q : VK}

theorem blk_cok (C : Cok P X W) {s : Shared} {H : Hp} {scope : Scope} {cenv : Env} {fp : List Addr} : Cok P (X.blk s H scope cenv fp) W0 where
  K := C.K
  calm := C.calm
  nd := C.nd
  un := C.un
  tk := takes0.imp fun _ _ _ _ ⟨_, _, _, _, z⟩ => z
theorem Rho.putX {acc acc' : List V} (R : Rho P H Ow Xb r σ) (hD : Xb D) (hl : H D = some (.lst acc)) : Kp H (BsOf Ow Xb) (upd H D (.lst acc')) (BsOf Ow Xb) ∧ Rho P (upd H D (.lst acc')) Ow Xb r σ := by
  have kp : Kp H (BsOf Ow Xb) (upd H D (.lst acc')) (BsOf Ow Xb) := fun b o e n _ => ⟨by rw [upd_ne (fun z => n (.inr (by rw [z]; exact hD)))]; exact e, n⟩
  have al : ∀ b, H b ≠ none → upd H D (.lst acc') b ≠ none := fun b hb => by
    by_cases z : b = D
    · subst z; rw [upd_same]; simp
    · rw [upd_ne z]; exact hb
  refine ⟨kp, R.len, fun i s e => ?_, R.inj, fun i b e => ?_, fun b z => al b (R.x b z), R.disj, ?_⟩
  · have q := R.sl i s e
    cases s with
    | none => trivial
    | val d => obtain ⟨v, h1, h2⟩ := q; exact ⟨v, h1, h2.keep kp⟩
    | own ds =>
      obtain ⟨b, xs, h1, h2, h3, h4⟩ := q
      exact ⟨b, xs, h1, h2, by rw [upd_ne (fun z => R.disj i b h1 (by rw [z]; exact hD))]; exact h3, h4.keep kp⟩
    | ownd kvs => exact q
  · obtain ⟨xs, h⟩ := R.ow i b e
    by_cases z : b = D
    · subst z; exact ⟨_, upd_same⟩
    · exact ⟨xs, by rw [upd_ne z]; exact h⟩
  · refine P.Jk _ _ R.j (fun b ps e => ?_) fun b φ e => ?_
    · rw [upd_ne (fun z => by rw [z, hl] at e; cases e)]; exact e
    · rw [upd_ne (fun z => by rw [z, hl] at e; cases e)]; exact e
/-- an own change of slots alone, as an expression's end -/
theorem without_ext {i : Nat} : Ext H Ow H (without Ow i) := ⟨fun _ _ e _ _ => e, fun j => by
  unfold without
  by_cases h : j = i
  · rw [if_pos h]; exact .inr rfl
  · rw [if_neg h]; exact .inl rfl, fun _ h => h⟩
theorem Rho.wipeL (R : Rho P H Ow Xb r σ) : ∀ vs : List Nat, ∃ Ow', Ext H Ow H Ow' ∧ Rho P H Ow' Xb (MP.wipe vs r) (L2.wipe σ vs)
  | [] => ⟨Ow, .refl, R⟩
  | v :: vs => by
    obtain ⟨Ow', e, R'⟩ := R.wipeL vs
    exact ⟨_, e.trans without_ext, (R'.setNone (i := v) (o := none)).2⟩
theorem g_namesE : ∀ {is : List Nat} {ds : List Dv} {vs : List V} {Ow : Own} {r r' : Ro} {σ : L2.St} {Q : L2.St → Hp → Prop}, Rho P H Ow Xb r σ → Rvs P (BsOf Ow Xb) H ds vs → asgs is ds r = some r' →
    (∀ σ' Ow', Ext H Ow H Ow' → (∀ j, j ∉ is → σ'[j]? = σ[j]?) → σ'.length = σ.length → Rho P H Ow' Xb r' σ' → Q σ' H) → gNames is vs σ H Q
  | [], ds, vs, Ow, r, r', σ, Q, R, h, e, q => by
    cases ds with
    | nil =>
      cases h
      simp only [asgs, Option.some.injEq] at e
      subst e
      exact ⟨rfl, q σ Ow .refl (fun _ _ => rfl) rfl R⟩
    | cons d ds => simp [asgs] at e
  | i :: is, ds, vs, Ow, r, r', σ, Q, R, h, e, q => by
    cases h with
    | nil => simp [asgs] at e
    | cons h1 h2 =>
      simp only [asgs] at e
      obtain ⟨_, R1⟩ := R.setVal (i := i) h1
      refine ⟨_, _, rfl, g_namesE R1 (h2.keep without_ext.kp) e fun σ' Ow' e2 k l R2 => q σ' Ow' (without_ext.trans e2) (fun j hj => ?_) (by rw [l, List.length_set]) R2⟩
      rw [k j (fun z => hj (List.mem_cons_of_mem _ z)), List.getElem?_set_ne (fun z => hj (by rw [z]; exact List.mem_cons_self))]
theorem g_tgE {tg : Tg} {pr : Bool} {d : Dv} {v : V} {r' : Ro} {Q : L2.St → Hp → Prop} (R : Rho P H Ow Xb r σ) (h : YR P (BsOf Ow Xb) H pr d v) (hp : pr = true → ∃ is, tg = .tup is) (e : asgT tg d r = some r')
    (q : ∀ σ' Ow', Ext H Ow H Ow' → (∀ j, j ∉ tgs tg → σ'[j]? = σ[j]?) → σ'.length = σ.length → Rho P H Ow' Xb r' σ' → Q σ' H) : gTg P.K tg v σ H Q := by
  cases tg with
  | one i =>
    cases pr with
    | true => obtain ⟨is, z⟩ := hp rfl; cases z
    | false =>
      simp only [asgT, Option.some.injEq] at e
      subst e
      obtain ⟨_, R1⟩ := R.setVal (i := i) (show Rv P (BsOf Ow Xb) H d v from h)
      exact q _ _ without_ext (fun j hj => List.getElem?_set_ne (fun z => hj (by rw [z]; exact List.mem_singleton.mpr rfl))) (by rw [List.length_set]) R1
  | tup is =>
    cases d with
    | tup ds =>
      simp only [asgT] at e
      have hl : ∀ {is : List Nat} {ds : List Dv} {r r' : Ro}, asgs is ds r = some r' → ds.length = is.length := by
        intro is
        induction is with
        | nil => intro ds r r' e; cases ds with
          | nil => rfl
          | cons => simp [asgs] at e
        | cons i is ih => intro ds r r' e; cases ds with
          | nil => simp [asgs] at e
          | cons d ds => simp only [asgs] at e; simp [ih e]
      have core : ∃ a xs, v = .ref a ∧ SqT P.K H a xs ∧ Rvs P (BsOf Ow Xb) H ds xs := by
        cases pr with
        | true =>
          obtain ⟨a, ds', xs, z1, z2, z3, z4⟩ := (show ∃ a ds' xs, Dv.tup ds = .tup ds' ∧ v = .ref a ∧ SqT P.K H a xs ∧ Rvs P (BsOf Ow Xb) H ds' xs from h)
          cases z1
          exact ⟨a, xs, z2, z3, z4⟩
        | false =>
          have h : Rv P (BsOf Ow Xb) H (.tup ds) v := h
          cases h with
          | tup t rs => exact ⟨_, _, rfl, t.sq, rs⟩
      obtain ⟨a, xs, rfl, hs, rs⟩ := core
      exact ⟨a, xs, rfl, hs, by rw [← rs.length]; exact hl e, g_namesE R rs e q⟩
    | _ => simp [asgT] at e
theorem wipe_get {vs : List Nat} : ∀ {σ : L2.St} {j : Nat}, j ∉ vs → (L2.wipe σ vs)[j]? = σ[j]? := by
  induction vs with
  | nil => intro σ j _; rfl
  | cons v vs ih =>
    intro σ j h
    show ((L2.wipe σ vs).set v none)[j]? = σ[j]?
    rw [List.getElem?_set_ne (fun z => h (by rw [z]; exact List.mem_cons_self)), ih (fun z => h (List.mem_cons_of_mem _ z))]
theorem wipe_in {vs : List Nat} : ∀ {σ : L2.St} {j : Nat}, j ∈ vs → j < σ.length → (L2.wipe σ vs)[j]? = some none := by
  induction vs with
  | nil => intro σ j h; cases h
  | cons v vs ih =>
    intro σ j h hl
    show ((L2.wipe σ vs).set v none)[j]? = some none
    by_cases hv : v = j
    · subst hv
      rw [List.getElem?_set_self (by rw [L2.wipe_length]; exact hl)]
    · rw [List.getElem?_set_ne hv]
      rcases List.mem_cons.mp h with z | z
      · exact absurd z.symm hv
      · exact ih z hl
/-- the same but for the block's own slots -/
theorem wipe_eq {vs : List Nat} {σ σ' : L2.St} (hl : σ'.length = σ.length) (h : ∀ j, j ∉ vs → σ'[j]? = σ[j]?) : L2.wipe σ' vs = L2.wipe σ vs := by
  apply List.ext_getElem?
  intro j
  by_cases hj : j ∈ vs
  · by_cases hlt : j < σ.length
    · rw [wipe_in hj (by rw [hl]; exact hlt), wipe_in hj hlt]
    · rw [List.getElem?_eq_none (by rw [L2.wipe_length, hl]; omega), List.getElem?_eq_none (by rw [L2.wipe_length]; omega)]
  · rw [wipe_get hj, wipe_get hj, h j hj]
theorem L2_wipe_twice {σ : L2.St} {vs : List Nat} : L2.wipe (L2.wipe σ vs) vs = L2.wipe σ vs := wipe_eq (by rw [L2.wipe_length]) fun j hj => wipe_get hj
theorem restore_len {r0 r : Ro} : ∀ vs : List Nat, (restore r0 vs r).length = r.length
  | [] => rfl
  | v :: vs => by show ((restore r0 vs r).set v _).length = _; rw [List.length_set, restore_len vs]
theorem restore_get {r0 r : Ro} {vs : List Nat} : ∀ {j : Nat}, j ∉ vs → (restore r0 vs r)[j]? = r[j]? := by
  induction vs with
  | nil => intro j _; rfl
  | cons v vs ih =>
    intro j h
    show ((restore r0 vs r).set v _)[j]? = r[j]?
    rw [List.getElem?_set_ne (fun z => h (by rw [z]; exact List.mem_cons_self)), ih (fun z => h (List.mem_cons_of_mem _ z))]
theorem restore_in {r0 r : Ro} {vs : List Nat} : ∀ {j : Nat}, j ∈ vs → j < r.length → (restore r0 vs r)[j]? = some (keepV r0 j) := by
  induction vs with
  | nil => intro j h; cases h
  | cons v vs ih =>
    intro j h hl
    show ((restore r0 vs r).set v _)[j]? = some (keepV r0 j)
    by_cases hv : v = j
    · subst hv
      rw [List.getElem?_set_self (by rw [restore_len]; exact hl)]
    · rw [List.getElem?_set_ne hv]
      rcases List.mem_cons.mp h with z | z
      · exact absurd z.symm hv
      · exact ih z hl
/-- behind the block: its own slots are as they were ahead -/
theorem mwipe_len {r : Ro} : ∀ vs : List Nat, (MP.wipe vs r).length = r.length
  | [] => rfl
  | v :: vs => by show ((MP.wipe vs r).set v _).length = _; rw [List.length_set, mwipe_len vs]
theorem mwipe_get {r : Ro} {vs : List Nat} : ∀ {j : Nat}, j ∉ vs → (MP.wipe vs r)[j]? = r[j]? := by
  induction vs with
  | nil => intro j _; rfl
  | cons v vs ih =>
    intro j h
    show ((MP.wipe vs r).set v _)[j]? = r[j]?
    rw [List.getElem?_set_ne (fun z => h (by rw [z]; exact List.mem_cons_self)), ih (fun z => h (List.mem_cons_of_mem _ z))]
theorem Rho.back {vs : List Nat} (R1 : Rho P H1 Ow1 X1 r1 σ) (e : Ext H1 Ow1 H Ow) (hn : ∀ a, X2 a → X1 a ∨ H1 a = none) (R : Rho P H Ow X2 (MP.wipe vs r) (L2.wipe σ vs)) : Rho P H Ow X2 (restore r1 vs r) σ := by
  have len : r.length = σ.length := by have := R.len; rw [L2.wipe_length, mwipe_len] at this; exact this
  refine ⟨by rw [restore_len]; exact len, fun i s q => ?_, R.inj, R.ow, R.x, R.disj, R.j⟩
  by_cases hi : i ∈ vs
  · have hlt : i < r.length := by
      have := (List.getElem?_eq_some_iff.mp q).1
      rw [restore_len] at this; exact this
    rw [restore_in hi hlt] at q
    simp only [Option.some.injEq] at q
    subst q
    unfold keepV
    split
    · rename_i x q'
      obtain ⟨v, h1, h2⟩ := R1.sl i _ q'
      exact ⟨v, h1, h2.keep ((e.toS []).kp2 hn)⟩
    · trivial
  · rw [restore_get hi] at q
    have z := R.sl i s (by rw [mwipe_get hi]; exact q)
    cases s with
    | none => trivial
    | val d =>
      obtain ⟨v, h1, h2⟩ := z
      rw [wipe_get hi] at h1
      exact ⟨v, h1, h2⟩
    | own ds =>
      obtain ⟨a, xs, h1, h2, h3, h4⟩ := z
      rw [wipe_get hi] at h2
      exact ⟨a, xs, h1, h2, h3, h4⟩
    | ownd kvs => exact z
theorem compL_go {tg : Tg} {own : List Nat} {g : Option (Nat × List Dv)} {cond : Ro → Re Bool} {elt : Ro → Re T} {xs : List Dv} {ds : List Dv} {r' : Ro} (h : compL tg own g cond elt xs r = .ok ds r') : gOk g (MP.wipe own r) = true := by
  cases xs with
  | nil => simp only [compL] at h; split at h; · assumption
           · cases h
  | cons x xs => simp only [compL] at h; split at h; · assumption
                 · cases h
theorem ext_upd {acc : List V} (e : Ext H1 Ow1 H Ow) (hD : H1 D = none) : Ext H1 Ow1 (upd H D (.lst acc)) Ow := by
  refine ⟨fun b o q n t => by rw [upd_ne (ne_of_none q hD)]; exact e.keep b o q n t, e.st, fun b hb => ?_⟩
  by_cases z : b = D
  · subst z; rw [upd_same]; simp
  · rw [upd_ne z]; exact e.al b hb
theorem comp_core {pr : Bool} {tg : Tg} {g : Option (Ro → Re Bool)} {fe : Fe} {J : L2.It} {src : Src} {own : List Nat} {tt : TT} {ds : List Dv} {rE : Ro} (G : Go P J H1 Ow1 X1 src pr) (R1 : Rho P H1 Ow1 X1 r1 σ)
    (hp : pr = true → ∃ is, tg = .tup is) (hT : ∀ i, i ∈ tgs tg → i ∈ own)
    (htt : ∀ σ H (Q : Bool → Hp → Prop), tT P W0 (condF g) σ H Q → tt σ H Q)
    (hlen : src.items.length ≤ line) (hf : compL tg own src.guard (condF g) fe src.items r1 = .ok ds rE) (hD : H1 D = none)
    (hQ : ∀ H' Ow' acc, Ext H1 Ow1 H' Ow' → Rho P H' Ow' (addX X1 D) (restore r1 own rE) σ → H' D = some (.lst acc) → Rvs P (BsOf Ow' (addX X1 D)) H' ds acc → Q (.ref D) H') :
    ∃ Wm : Nat → Nat → Hp → Prop, (∃ m, Wm 0 m (upd H1 D (.lst []))) ∧ ∀ i m H, Wm i m H →
      (J.stop i H ∧ Q (.ref D) H) ∨ (J.go i H ∧ ∃ Nx : Hp → Prop, (∀ H', Nx H' → ∃ m', m' < m ∧ Wm (i + 1) m' H') ∧ ∀ x H', J.yld i H x H' → gTg P.K tg x (L2.wipe σ own) H' fun σ2 H2 => L2.wipe σ2 own = L2.wipe σ own ∧ tt σ2 H2 fun b H3 =>
        if b = true then tE P W0 fe σ2 H3 fun y H4 => ∃ acc, H4 D = some (.lst acc) ∧ acc.length < sizeLine ∧ Nx (upd H4 D (.lst (acc ++ [y]))) else Nx H3) := by
  have hx1 : ∀ a, X1 a → addX X1 D a := addX_of
  have hx2 : ∀ a, addX X1 D a → X1 a ∨ H1 a = none := fun a z => z.elim .inl fun z => .inr (by rw [z]; exact hD)
  -- ahead of the i-th turn
  let Inv : Nat → Hp → Prop := fun i H => ∃ r Ow acc done rest, Ext H1 Ow1 H Ow ∧ Rho P H Ow (addX X1 D) (MP.wipe own r) (L2.wipe σ own) ∧ H D = some (.lst acc) ∧ acc.length ≤ i ∧ Rvs P (BsOf Ow (addX X1 D)) H done acc ∧
    ds = done ++ rest ∧ compL tg own src.guard (condF g) fe (src.items.drop i) r = .ok rest rE
  refine ⟨fun i m H => m = src.items.length - i ∧ i ≤ src.items.length ∧ Inv i H, ⟨_, rfl, Nat.zero_le _, ?_⟩, ?_⟩
  · obtain ⟨Ow2, e2, R2⟩ := R1.wipeL own
    refine ⟨r1, Ow2, [], [], ds, ext_upd e2 hD, R2.new (o := .lst []) hD, upd_same, Nat.zero_le _, .nil, rfl, by simpa using hf⟩
  rintro i m H ⟨rfl, hi, r, Ow, acc, done, rest, ex, R, hacc, hal, rs, eds, hk⟩
  have g0 := compL_go hk
  have gi : ∀ k xs, src.guard = some (k, xs) → Ow k = Ow1 k := fun k xs hg => by
    rcases ex.st k with z | z
    · exact z
    · exfalso
      rw [hg] at g0
      simp only [gOk] at g0
      split at g0
      · rename_i ys q'
        obtain ⟨b, zs, z1, _⟩ := R.sl k _ q'
        rw [z] at z1; cases z1
      · cases g0
  obtain ⟨go, st, yl⟩ := G.run [] H Ow (addX X1 D) (MP.wipe own r) (L2.wipe σ own) (ex.toS []) hx1 hx2 R g0 gi
  by_cases hlt : i < src.items.length
  · refine .inr ⟨go i hlt, fun H' => Inv (i + 1) H', fun H' n' => ⟨_, by omega, rfl, hlt, n'⟩, fun x H' y => ?_⟩
    obtain ⟨d, d1, e1, R', yr⟩ := yl i x H' hlt y
    have hd : src.items.drop i = d :: src.items.drop (i + 1) := by
      rw [List.getElem?_eq_getElem hlt] at d1
      cases d1
      exact List.drop_eq_getElem_cons hlt
    rw [hd] at hk
    simp only [compL, g0, if_true] at hk
    have hDo : ∀ j, Ow j ≠ some D := fun j z => R.disj j D z (.inr rfl)
    cases q : asgT tg d (MP.wipe own r) with
    | none => simp only [q] at hk; cases hk
    | some r2 =>
      simp only [q] at hk
      refine g_tgE R' yr hp q fun σ2 Ow2 e2 k2 l2 R2 => ⟨?_, ?_⟩
      · rw [← L2_wipe_twice (σ := σ) (vs := own)]
        exact wipe_eq (by rw [l2, L2.wipe_length]) (fun j hj => k2 j (fun z => hj (hT j z)))
      have ex2 : Ext H1 Ow1 H' Ow2 := (ex.trans e1).trans e2
      refine htt σ2 H' _ ⟨r2, Ow2, addX X1 D, R2, ?_⟩
      have eA : Ext H Ow H' Ow2 := e1.trans e2
      cases qc : condF g r2 with
      | ok kk r3 =>
        simp only [qc] at hk
        intro H3 Ow3 e3 R3
        have eB : Ext H Ow H3 Ow3 := eA.trans e3
        have hw : L2.wipe σ2 own = L2.wipe σ own := by
          rw [← L2_wipe_twice (σ := σ) (vs := own)]
          exact wipe_eq (by rw [l2, L2.wipe_length]) (fun j hj => k2 j (fun z => hj (hT j z)))
        cases kk with
        | false =>
          rw [if_neg Bool.false_ne_true]
          obtain ⟨Ow4, e4, R4⟩ := R3.wipeL own
          rw [hw] at R4
          have eC := eB.trans e4
          exact ⟨r3, Ow4, acc, done, rest, ex.trans eC, R4, eC.keep D _ hacc hDo (fun _ z => by cases z), by omega, rs.keep eC.kp, eds, hk⟩
        | true =>
          rw [if_pos rfl]
          simp only at hk
          refine ⟨r3, Ow3, addX X1 D, R3, ?_⟩
          cases qe : fe r3 with
          | ok t r4 =>
            simp only [qe] at hk
            intro y H4 ok
            obtain ⟨Ow4, X4, e4, y1, y2, R4, h4⟩ := ok.hld R3
            cases m : mat r4 t with
            | none => simp only [m] at hk; cases hk
            | some dr =>
              obtain ⟨dd, r5⟩ := dr
              simp only [m] at hk
              obtain ⟨Ow5, e5, R5, rv⟩ := h4.mat R4 y1 m
              have eD : Ext H Ow H4 Ow5 := (eB.trans e4).trans e5
              have hD4 : H4 D = some (.lst acc) := eD.keep D _ hacc hDo (fun _ z => by cases z)
              refine ⟨acc, hD4, by rw [sizeLine_eq]; unfold line at hlen; omega, ?_⟩
              cases qr : compL tg own src.guard (condF g) fe (src.items.drop (i + 1)) r5 with
              | ok rest' r6 =>
                simp only [qr, Re.ok.injEq] at hk
                obtain ⟨rfl, rfl⟩ := hk
                obtain ⟨kpx, R6⟩ := R5.putX (acc' := acc ++ [y]) (.inr rfl) hD4
                obtain ⟨Ow7, e7, R7⟩ := R6.wipeL own
                rw [hw] at R7
                have eE : Ext H1 Ow1 (upd H4 D (.lst (acc ++ [y]))) Ow7 := (ext_upd (ex.trans eD) hD).trans e7
                refine ⟨r5, Ow7, acc ++ [y], done ++ [dd], rest', eE, R7, upd_same, by rw [List.length_append, List.length_singleton]; omega, ?_, by rw [eds, List.append_assoc]; rfl, qr⟩
                exact (((rs.keep eD.kp).snoc rv).keep kpx).keep e7.kp
              | exc c r6 => simp only [qr] at hk; cases hk
              | bad => simp only [qr] at hk; cases hk
          | exc c r4 => simp only [qe] at hk; cases hk
          | bad => simp only [qe] at hk; cases hk
      | exc c r3 => simp only [qc] at hk; cases hk
      | bad => simp only [qc] at hk; cases hk
  · have e : i = src.items.length := by omega
    subst e
    simp only [List.drop_length, compL, g0, if_true, Re.ok.injEq] at hk
    obtain ⟨rfl, rfl⟩ := hk
    rw [List.append_nil] at eds
    subst eds
    exact .inl ⟨st, hQ H Ow acc ex (R1.back ex hx2 R) hacc rs⟩

theorem comp_read {pr : Bool} {tg : Tg} {g : Option (Ro → Re Bool)} {fe : Fe} {fi : Ro → Re Src} {own : List Nat} {tt : TT} (hp : pr = true → ∃ is, tg = .tup is) (hT : ∀ i, i ∈ tgs tg → i ∈ own)
    (htt : ∀ σ H (Q : Bool → Hp → Prop), tT P W0 (condF g) σ H Q → tt σ H Q) {σ : L2.St} {H : Hp} {Q : VK} (h : tE P W (compF fe tg fi g own) σ H Q) : tLc (tI P W pr fi) (gTg P.K tg) tt (tE P W0 fe) own σ H Q := by
  obtain ⟨r, Ow, Xb, R, hf⟩ := h
  unfold compF at hf
  refine ⟨r, Ow, Xb, R, ?_⟩
  cases e : fi r with
  | ok src r1 =>
    simp only [e] at hf
    intro J H1 Ow1 X1 e1 x1 x2 R1 g0 G D hD
    split at hf
    · rename_i t r2 q
      split at q
      · rename_i hlen
        cases qc : compL tg own src.guard (condF g) fe src.items r1 with
        | ok ds rE =>
          simp only [qc, Re.ok.injEq] at q
          obtain ⟨rfl, rfl⟩ := q
          refine comp_core (Q := Q) G R1 hp hT htt hlen qc hD fun H' Ow' acc ex R' hacc rs => hf _ _ ⟨Ow', e1.trans ex, D, acc, rfl, ?_, hacc, R'.weak fun a z => z.elim (fun z => .inl (x1 a z)) .inr, ?_⟩
          · cases q : H D with
            | none => rfl
            | some o => exact absurd hD (e1.al D (by rw [q]; simp))
          · exact rs.weak (BsOf.mono fun a z => z.elim (fun z => .inl (x1 a z)) .inr)
        | exc c r2 => simp only [qc] at q; cases q
        | bad => simp only [qc] at q; cases q
      · cases q
    · rename_i q
      exfalso
      split at q
      · split at q <;> cases q
      · cases q
    · exact hf.elim
  | exc c r1 => simp only [e] at hf; exact hf
  | bad => simp only [e] at hf
theorem s_comp (C : Cok P X W) {pr : Bool} {tg : Tg} {g : Option (Ro → Re Bool)} {fe : Fe} {fi : Ro → Re Src} {own : List (Str × Nat)} {tt : TT} {elt tge iter : Expr} {ifs : List Expr} {scope : Scope} (hp : pr = true → ∃ is, tg = .tup is) (hT : ∀ i, i ∈ tgs tg → i ∈ own.map (·.2))
    (htt : ∀ σ H (Q : Bool → Hp → Prop), tT P W0 (condF g) σ H Q → tt σ H Q) (hi : PI X tge iter (tI P W pr fi)) (ok : BlkOk X.N X.env.scope scope own)
    (hg : ∀ (s : Shared) (H : Hp) (C : Addr) (cl : List (Str × Addr)) (fp : List Addr), PG (X.blk s H scope (compEnvC scope cl C X.env) fp) tge (gTg P.K tg)) (ht : ∀ (s : Shared) (H : Hp) (C : Addr) (cl : List (Str × Addr)) (fp : List Addr), PTs (X.blk s H scope (compEnvC scope cl C X.env) fp) ifs tt)
    (he : ∀ (s : Shared) (H : Hp) (C : Addr) (cl : List (Str × Addr)) (fp : List Addr), PE (X.blk s H scope (compEnvC scope cl C X.env) fp) elt (tE P W0 fe)) (hs : ∀ x, foldedSetIterable iter X.env x = pure x) :
    PE X (.ListComp elt [⟨tge, iter, ifs, 0⟩] scope pos) (tE P W (compF fe tg fi g (own.map (·.2)))) :=
  PE.imp (pe_lc C.calm C.nd hi ok hg ht he hs) fun _ _ _ h => comp_read hp hT htt h
theorem ps_setLcM (C : Cok P X W) {pr : Bool} {tg : Tg} {g : Option (Ro → Re Bool)} {fe : Fe} {fi : Ro → Re Src} {own : List (Str × Nat)} {tt : TT} {elt tge iter : Expr} {ifs : List Expr} {scope : Scope} {i : Nat} {y : Str} {py spos : Pos} (hp : pr = true → ∃ is, tg = .tup is) (hT : ∀ i, i ∈ tgs tg → i ∈ own.map (·.2))
    (htt : ∀ σ H (Q : Bool → Hp → Prop), tT P W0 (condF g) σ H Q → tt σ H Q) (hi : PI X tge iter (tI P W pr fi)) (ok : BlkOk X.N X.env.scope scope own) (hy : X.N[i]? = some y) (hyl : X.env.scope.names.lookup y = some .local) (hS : i ∈ S)
    (hsw : swapsWith (.ListComp elt [⟨tge, iter, ifs, 0⟩] scope pos) (some (.Name y py)) spos.line X.env = pure true)
    (hg : ∀ (s : Shared) (H : Hp) (C : Addr) (cl : List (Str × Addr)) (fp : List Addr), PG (X.blk s H scope (compEnvC scope cl C X.env) fp) tge (gTg P.K tg)) (ht : ∀ (s : Shared) (H : Hp) (C : Addr) (cl : List (Str × Addr)) (fp : List Addr), PTs (X.blk s H scope (compEnvC scope cl C X.env) fp) ifs tt)
    (he : ∀ (s : Shared) (H : Hp) (C : Addr) (cl : List (Str × Addr)) (fp : List Addr), PE (X.blk s H scope (compEnvC scope cl C X.env) fp) elt (tE P W0 fe)) (hs : ∀ x, foldedSetIterable iter X.env x = pure x) :
    PS X (.Assign [.Name y py] (.ListComp elt [⟨tge, iter, ifs, 0⟩] scope pos) spos) (tS P W S (asgF i (compF fe tg fi g (own.map (·.2))))) := by
  refine PS.imp (ps_setLc C.calm C.nd hy hyl hsw hi ok hg ht he hs) fun D σ H ⟨r, Ow, Xb, R, hf⟩ => ?_
  unfold asgF at hf
  exact comp_read hp hT htt (intoS R hf fun x r1 v H1 _ ok hk => asg_core hS R ok hk)
end
end MP
set_option linter.all false
set_option Elab.async false
set_option maxRecDepth 100000
set_option maxHeartbeats 1000000
/-! MP21: what a def promises; calls. -/
namespace MP
open PySem PySem.Spec PyProof.Rows L2 PySem.SeqAt

/-- the lists that were lent, as they are behind the call -/
inductive Outs (P : Par) (B : Bs) (H' : Hp) (Ow : Own) : List Nat → List Sl → Prop
  | nil : Outs P B H' Ow [] []
  | own {k ks a xs ds outs} : Ow k = some a → H' a = some (.lst xs) → Rvs P B H' ds xs → Outs P B H' Ow ks outs → Outs P B H' Ow (k :: ks) (.own ds :: outs)
/-- what a call leaves: nothing changed but the lists lent -/
structure Left (P : Par) (H : Hp) (Ow : Own) (H' : Hp) : Prop where
  keep : ∀ b o, H b = some o → (∀ i, Ow i ≠ some b) → (∀ ps, o ≠ .tbl ps) → H' b = some o
  al : ∀ b, H b ≠ none → H' b ≠ none
  j : P.J H'
def OutP (P : Par) (H : Hp) (Ow : Own) (Xb : Bs) (ps : List Nat) (t : T) (outs : List Sl) (v : V) (H' : Hp) : Prop := Left P H Ow H' ∧ match t with
  | .d x => Rv P (BsOf Ow Xb) H' x v ∧ Outs P (BsOf Ow Xb) H' Ow ps outs
  | .fr ds => ∃ a xs, v = .ref a ∧ H a = none ∧ H' a = some (.lst xs) ∧ Rvs P (BsOf Ow (addX Xb a)) H' ds xs ∧ Outs P (BsOf Ow (addX Xb a)) H' Ow ps outs
  | _ => False
/-- a def's promise: the interpreter's answer -/
def SpecOf (P : Par) (F : CallF) (f n : Nat) : Sp := fun vs H Q E => vs.length = n ∧ ∃ (ss : List Sl) (Ow : Own) (Xb : Bs), Rho P H Ow Xb ss (vs.map some) ∧ (∀ i a, Ow i = some a → ∃ ds, ss[i]? = some (.own ds)) ∧ match F f ss with
  | .ok t outs => ∀ v H', OutP P H Ow Xb (lentPos 0 ss) t outs v H' → Q v H'
  | .exc c outs => ∀ d H' a, P.ca c = some a → Left P H Ow H' → Outs P (BsOf Ow Xb) H' Ow (lentPos 0 ss) outs → E (.ref a) d H'
  | .bad => False

section
variable {P : Par} {W : XW} {X : Cx} {S : List Nat} {a b c : Expr} {fa fb fc : Fe} {pos p p1 p2 np : Pos} {σ σ1 : L2.St} {H H1 H' : Hp} {Ow Ow1 Ow' : Own} {Xb X1 X2 : Bs} {r r1 r2 : Ro} {es : List Expr} {Q : VK}

/-! ### a def's arguments -/
inductive AtA (P : Par) (B : Bs) (H : Hp) (σ : L2.St) : List Ar → List V → Prop
  | nil : AtA P B H σ [] []
  | v {x v as vs} : Rv P B H x v → AtA P B H σ as vs → AtA P B H σ (.v x :: as) (v :: vs)
  | io {i v as vs} : σ[i]? = some (some v) → AtA P B H σ as vs → AtA P B H σ (.io i :: as) (v :: vs)
theorem AtA.keep {B B' : Bs} (k : Kp H B H' B') : ∀ {as : List Ar} {vs : List V}, AtA P B H σ as vs → AtA P B' H' σ as vs
  | _, _, .nil => .nil
  | _, _, .v h t => .v (h.keep k) (t.keep k)
  | _, _, .io h t => .io h (t.keep k)
def FinAr (P : Par) (W : XW) (Xb : Bs) (σ : L2.St) (H : Hp) (Ow : Own) (res : Re (List Ar)) (Q : List V → Hp → Prop) : Prop := match res with
  | .ok as r' => ∀ vs H' Ow', Ext H Ow H' Ow' → Rho P H' Ow' Xb r' σ → AtA P (BsOf Ow' Xb) H' σ as vs → Q vs H'
  | .exc c r' => ∀ H' Ow' d, Ext H Ow H' Ow' → Rho P H' Ow' Xb r' σ → W c d σ H'
  | .bad => False
def tAA (P : Par) (W : XW) (fs : Ro → Re (List Ar)) : TA := fun σ H Q => ∃ r Ow X, Rho P H Ow X r σ ∧ FinAr P W X σ H Ow (fs r) Q
theorem ar_nil : PA X [] (tAA P W fun r => .ok [] r) := PA.imp pa_nil fun σ H Q ⟨r, Ow, Xb, R, hf⟩ => hf [] H Ow .refl R .nil
theorem ar_cons {fs : Ro → Re (List Ar)} (ha : PE X a (tE P W fa)) (hr : PA X es (tAA P W fs)) (hn : ∀ x p, a ≠ .Starred x p) : PA X (a :: es) (tAA P W (consA fa fs)) := by
  refine PA.imp (pa_cons ha hr (starless hn)) fun σ H Q ⟨r, Ow, Xb, R, hf⟩ => ?_
  unfold consA at hf
  refine ⟨r, Ow, Xb, R, ?_⟩
  cases e : fa r with
  | ok x r1 =>
    simp only [e, Re.bind] at hf
    rintro v H1 ok
    obtain ⟨Ow1, X1, e1, x1, x2, R1, h1⟩ := ok.hld R
    cases m : mat r1 x with
    | none => simp only [m, Re.bind] at hf; exact hf.elim
    | some dr =>
      obtain ⟨d, r2⟩ := dr
      simp only [m, Re.bind] at hf
      obtain ⟨Ow2, e2, R2, hv⟩ := h1.mat R1 x1 m
      refine ⟨r2, Ow2, Xb, R2, ?_⟩
      cases e' : fs r2 with
      | ok ts r3 =>
        simp only [e', Re.bind] at hf
        intro vs H3 Ow3 e3 R3 h3
        exact hf (v :: vs) H3 Ow3 ((e1.trans e2).trans e3) R3 (.v (hv.keep e3.kp) h3)
      | exc c r3 =>
        simp only [e', Re.bind] at hf
        exact fun H' Ow' d e' R' => hf H' Ow' d ((e1.trans e2).trans e') R'
      | bad => simp only [e', Re.bind] at hf; exact hf.elim
  | exc c r1 => simp only [e, Re.bind] at hf; exact hf
  | bad => simp only [e, Re.bind] at hf; exact hf.elim
theorem ar_io {fs : Ro → Re (List Ar)} {i : Nat} {x : Str} (hN : X.N[i]? = some x) (hv : Vis X.env.scope x) (hd : (x == ("__debug__" : Str)) = false) (hcd : (x == ("__classdict__" : Str)) = false) (hr : PA X es (tAA P W fs)) :
    PA X (.Name x np :: es) (tAA P W (ioA i fs)) := by
  refine PA.imp (pa_cons (pe_var hN hv hd hcd) hr (starless name_plain)) fun σ H Q ⟨r, Ow, Xb, R, hf⟩ => ?_
  unfold ioA at hf
  cases q : r[i]? with
  | none => simp only [q] at hf; exact hf.elim
  | some sl =>
    cases sl with
    | own ds =>
      simp only [q] at hf
      obtain ⟨ad, xs, h1, h2, h3, h4⟩ := R.sl i _ q
      refine ⟨.ref ad, h2, r, Ow, Xb, R, ?_⟩
      cases e' : fs r with
      | ok ts r3 =>
        simp only [e', Re.bind] at hf
        intro vs H3 Ow3 e3 R3 h4
        exact hf _ H3 Ow3 e3 R3 (.io h2 h4)
      | exc c r3 => simp only [e', Re.bind] at hf; exact hf
      | bad => simp only [e', Re.bind] at hf; exact hf.elim
    | ownd ds => exact (R.sl i _ q).elim
    | none => simp only [q] at hf; exact hf.elim
    | val d => simp only [q] at hf; exact hf.elim

/-! ### lent, and back -/
/-- the callee's places of the lists lent -/
def lentOw (Ow : Own) : List Ar → Nat → Option Addr
  | [], _ => none
  | .v _ :: _, 0 => none
  | .io i :: _, 0 => Ow i
  | _ :: as, k + 1 => lentOw Ow as k
theorem lentOw_of : ∀ {as : List Ar} {k : Nat} {ad : Addr}, lentOw Ow as k = some ad → ∃ i, as[k]? = some (.io i) ∧ Ow i = some ad
  | [], _, _, h => by cases h
  | .v _ :: _, 0, _, h => by cases h
  | .io i :: _, 0, _, h => ⟨i, rfl, h⟩
  | .v _ :: as, k + 1, _, h => by
    obtain ⟨i, h1, h2⟩ := lentOw_of (as := as) h
    exact ⟨i, by simpa using h1, h2⟩
  | .io _ :: as, k + 1, _, h => by
    obtain ⟨i, h1, h2⟩ := lentOw_of (as := as) h
    exact ⟨i, by simpa using h1, h2⟩
theorem lentOw_at : ∀ {as : List Ar} {k i : Nat}, as[k]? = some (.io i) → lentOw Ow as k = Ow i
  | [], _, _, h => by simp at h
  | .v _ :: _, 0, _, h => by simp at h
  | .io _ :: _, 0, _, h => by simp at h; subst h; rfl
  | .v _ :: as, k + 1, _, h => lentOw_at (as := as) (by simpa using h)
  | .io _ :: as, k + 1, _, h => lentOw_at (as := as) (by simpa using h)
theorem mem_lentIx : ∀ {as : List Ar} {k i : Nat}, as[k]? = some (.io i) → i ∈ lentIx as
  | [], _, _, h => by simp at h
  | .v _ :: as, 0, _, h => by simp at h
  | .io j :: as, 0, _, h => by simp at h; subst h; simp [lentIx]
  | .v _ :: as, k + 1, _, h => by simpa [lentIx] using mem_lentIx (as := as) (by simpa using h)
  | .io _ :: as, k + 1, _, h => by simp [lentIx, mem_lentIx (as := as) (by simpa using h)]
theorem nodup_not {i : Nat} {is : List Nat} (h : nodupN (i :: is) = true) : i ∉ is ∧ nodupN is = true := by
  simp only [nodupN, Bool.and_eq_true, Bool.not_eq_true', List.any_eq_false] at h
  exact ⟨fun z => h.1 i z (Nat.beq_refl i), h.2⟩
theorem lent_once : ∀ {as : List Ar} {k l i : Nat}, nodupN (lentIx as) = true → as[k]? = some (.io i) → as[l]? = some (.io i) → k = l
  | [], _, _, _, _, h, _ => by simp at h
  | .v _ :: as, 0, _, _, _, h, _ => by simp at h
  | .v _ :: as, _ + 1, 0, _, _, _, h => by simp at h
  | .v _ :: as, k + 1, l + 1, i, n, h1, h2 => congrArg (· + 1) (lent_once (as := as) (i := i) (by simpa [lentIx] using n) (by simpa using h1) (by simpa using h2))
  | .io j :: as, 0, 0, _, _, _, _ => rfl
  | .io j :: as, 0, l + 1, i, n, h1, h2 => by
    simp at h1; subst h1
    exact absurd (mem_lentIx (as := as) (by simpa using h2)) (nodup_not (by simpa [lentIx] using n)).1
  | .io j :: as, k + 1, 0, i, n, h1, h2 => by
    simp at h2; subst h2
    exact absurd (mem_lentIx (as := as) (by simpa using h1)) (nodup_not (by simpa [lentIx] using n)).1
  | .io j :: as, k + 1, l + 1, i, n, h1, h2 => congrArg (· + 1) (lent_once (as := as) (i := i) (nodup_not (by simpa [lentIx] using n)).2 (by simpa using h1) (by simpa using h2))
/-- what the callee sees -/
theorem lend_at : ∀ {as : List Ar} {vs : List V} {ss : List Sl}, AtA P (BsOf Ow Xb) H σ as vs → lend r as = some ss → ss.length = as.length ∧ vs.length = as.length ∧ ∀ (k : Nat) (s : Sl), ss[k]? = some s →
    (∃ x, as[k]? = some (Ar.v x) ∧ s = Sl.val x ∧ ∃ v, vs[k]? = some v ∧ Rv P (BsOf Ow Xb) H x v) ∨ (∃ i ds, as[k]? = some (Ar.io i) ∧ s = Sl.own ds ∧ r[i]? = some (Sl.own ds) ∧ ∃ v, vs[k]? = some v ∧ σ[i]? = some (some v)) ∨ ∃ i kvs, as[k]? = some (Ar.io i) ∧ r[i]? = some (Sl.ownd kvs)
  | _, _, ss, .nil, e => by
    simp only [lend, Option.some.injEq] at e
    subst e
    exact ⟨rfl, rfl, fun k s h => by simp at h⟩
  | _, _, ss, .v (as := as) h t, e => by
    simp only [lend, Option.map_eq_some_iff] at e
    obtain ⟨ss', e1, rfl⟩ := e
    obtain ⟨l1, l2, l3⟩ := lend_at t e1
    refine ⟨by simp [l1], by simp [l2], fun k s hk => ?_⟩
    cases k with
    | zero => simp at hk; subst hk; exact .inl ⟨_, rfl, rfl, _, rfl, h⟩
    | succ k => simpa using l3 k s (by simpa using hk)
  | _, _, ss, .io (i := i) (as := as) h t, e => by
    simp only [lend] at e
    split at e
    · rename_i xs q
      simp only [Option.map_eq_some_iff] at e
      obtain ⟨ss', e1, rfl⟩ := e
      obtain ⟨l1, l2, l3⟩ := lend_at t e1
      refine ⟨by simp [l1], by simp [l2], fun k s hk => ?_⟩
      cases k with
      | zero => simp at hk; subst hk; exact .inr (.inl ⟨_, _, rfl, rfl, q, _, rfl, h⟩)
      | succ k => simpa using l3 k s (by simpa using hk)
    · rename_i kvs q
      simp only [Option.map_eq_some_iff] at e
      obtain ⟨ss', e1, rfl⟩ := e
      obtain ⟨l1, l2, l3⟩ := lend_at t e1
      refine ⟨by simp [l1], by simp [l2], fun k s hk => ?_⟩
      cases k with
      | zero => exact .inr (.inr ⟨_, kvs, rfl, q⟩)
      | succ k => simpa using l3 k s (by simpa using hk)
    · cases e
/-- what is protected from the callee -/
def XbC (Ow : Own) (Xb : Bs) (as : List Ar) : Bs := fun ad => (∃ j, Ow j = some ad ∧ j ∉ lentIx as) ∨ Xb ad
theorem lentIx_at : ∀ {as : List Ar} {i : Nat}, i ∈ lentIx as → ∃ k : Nat, as[k]? = some (Ar.io i)
  | [], _, h => by cases h
  | .v _ :: as, i, h => by
    obtain ⟨k, hk⟩ := lentIx_at (as := as) (by simpa [lentIx] using h)
    exact ⟨k + 1, by simpa using hk⟩
  | .io j :: as, i, h => by
    simp only [lentIx, List.mem_cons] at h
    rcases h with rfl | h
    · exact ⟨0, rfl⟩
    · obtain ⟨k, hk⟩ := lentIx_at (as := as) h
      exact ⟨k + 1, by simpa using hk⟩
theorem bs_callee {as : List Ar} (ad : Addr) : BsOf (lentOw Ow as) (XbC Ow Xb as) ad ↔ BsOf Ow Xb ad := by
  constructor
  · rintro (⟨k, z⟩ | ⟨j, z, _⟩ | z)
    · obtain ⟨i, _, h2⟩ := lentOw_of z
      exact .inl ⟨i, h2⟩
    · exact .inl ⟨j, z⟩
    · exact .inr z
  · rintro (⟨j, z⟩ | z)
    · by_cases hj : j ∈ lentIx as
      · obtain ⟨k, hk⟩ := lentIx_at hj
        exact .inl ⟨k, by rw [lentOw_at hk]; exact z⟩
      · exact .inr (.inl ⟨j, z, hj⟩)
    · exact .inr (.inr z)
theorem rho_callee {as : List Ar} {ss : List Sl} {vs : List V} {ds : List Dv} {dvs : List V} (R : Rho P H Ow Xb r σ) (h : AtA P (BsOf Ow Xb) H σ as vs) (hl : lend r as = some ss) (nd : nodupN (lentIx as) = true) (hd : ∀ B H, Rvs P B H ds dvs) :
    Rho P H (lentOw Ow as) (XbC Ow Xb as) (ss ++ ds.map .val) ((vs ++ dvs).map some) ∧ (∀ k ad, lentOw Ow as k = some ad → ∃ es, (ss ++ ds.map .val)[k]? = some (.own es)) := by
  obtain ⟨l1, l2, l3⟩ := lend_at h hl
  have hdl := (hd (fun _ => False) H).length
  have sub : ∀ ad, BsOf (lentOw Ow as) (XbC Ow Xb as) ad → BsOf Ow Xb ad := fun ad => (bs_callee ad).mp
  refine ⟨⟨by simp [l1, l2, hdl], fun k s hk => ?_, fun k l ad h1 h2 => ?_, fun k ad h1 => ?_, fun ad z => ?_, fun k ad h1 z => ?_, R.j⟩, fun k ad h1 => ?_⟩
  · by_cases hlt : k < ss.length
    · rw [List.getElem?_append_left hlt] at hk
      have vk : ∀ {v : V}, vs[k]? = some v → ((vs ++ dvs).map some)[k]? = some (some v) := fun {v} hv => by
        rw [List.getElem?_map, List.getElem?_append_left (by rw [l2, ← l1]; exact hlt), hv]; rfl
      rcases l3 k s hk with ⟨x, h1, rfl, v, h2, h3⟩ | ⟨i, es, h1, rfl, h2, v, h3, h4⟩ | ⟨i, kvs, h1, h2⟩
      · exact ⟨v, vk h2, h3.weak sub⟩
      · obtain ⟨ad, xs, k1, k2, k3, k4⟩ := R.sl i _ h2
        rw [k2] at h4
        simp only [Option.some.injEq] at h4
        subst h4
        exact ⟨ad, xs, by rw [lentOw_at h1]; exact k1, vk h3, k3, k4.weak sub⟩
      · exact (R.sl i _ h2).elim
    · rw [List.getElem?_append_right (by omega), List.getElem?_map, Option.map_eq_some_iff] at hk
      obtain ⟨d, hd1, rfl⟩ := hk
      obtain ⟨v, v1, v2⟩ := (hd (BsOf (lentOw Ow as) (XbC Ow Xb as)) H).get hd1
      refine ⟨v, ?_, v2⟩
      rw [List.getElem?_map, List.getElem?_append_right (by rw [l2, ← l1]; omega), l2, ← l1, v1]; rfl
  · obtain ⟨i, a1, a2⟩ := lentOw_of h1
    obtain ⟨j, b1, b2⟩ := lentOw_of h2
    have := R.inj i j ad a2 b2
    subst this
    exact lent_once nd a1 b1
  · obtain ⟨i, a1, a2⟩ := lentOw_of h1
    exact R.ow i ad a2
  · rcases z with ⟨j, z, _⟩ | z
    · obtain ⟨xs, q⟩ := R.ow j ad z
      rw [q]; simp
    · exact R.x ad z
  · obtain ⟨i, a1, a2⟩ := lentOw_of h1
    rcases z with ⟨j, z, hj⟩ | z
    · have := R.inj i j ad a2 z
      subst this
      exact hj (mem_lentIx a1)
    · exact R.disj i ad a2 z
  · obtain ⟨i, a1, a2⟩ := lentOw_of h1
    have hk : k < ss.length := by rw [l1]; exact (List.getElem?_eq_some_iff.mp a1).1
    rw [List.getElem?_append_left hk]
    have hs : ss[k]? = some ss[k] := List.getElem?_eq_getElem hk
    rcases l3 k _ hs with ⟨x, h1', _⟩ | ⟨i', es, h1', h2', _⟩ | ⟨i', kvs, h1', h2'⟩
    · rw [a1] at h1'; cases h1'
    · exact ⟨es, by rw [hs, h2']⟩
    · exact (R.sl i' _ h2').elim

/-! ### behind a call -/
theorem lentPos_ge : ∀ {ss : List Sl} {n k : Nat}, k ∈ lentPos n ss → n ≤ k
  | [], _, _, h => by cases h
  | s :: ss, n, k, h => by
    cases s <;> simp only [lentPos, List.mem_cons] at h
    · exact Nat.le_of_succ_le (lentPos_ge h)
    · exact Nat.le_of_succ_le (lentPos_ge h)
    · rcases h with rfl | h
      · exact Nat.le_refl _
      · exact Nat.le_of_succ_le (lentPos_ge h)
    · rcases h with rfl | h
      · exact Nat.le_refl _
      · exact Nat.le_of_succ_le (lentPos_ge h)
theorem lentPos_vals : ∀ {ds : List Dv} {n : Nat}, lentPos n (ds.map Sl.val) = []
  | [], _ => rfl
  | d :: ds, n => by simp only [List.map_cons, lentPos]; exact lentPos_vals
theorem lentPos_app : ∀ {ss : List Sl} {ds : List Dv} {n : Nat}, lentPos n (ss ++ ds.map Sl.val) = lentPos n ss
  | [], _, _ => lentPos_vals
  | s :: ss, ds, n => by cases s <;> simp only [List.cons_append, lentPos, lentPos_app]
theorem Rho.mono {Y : Bs} (k : Kp H (BsOf Ow Xb) H' (BsOf Ow Y)) (R : Rho P H Ow Xb r σ) (ho : ∀ i ds, r[i]? = some (.own ds) → ∀ ad, Ow i = some ad → ∃ xs, H' ad = some (.lst xs) ∧ Rvs P (BsOf Ow Y) H' ds xs) (hw : ∀ i ad, Ow i = some ad → ∃ xs, H' ad = some (.lst xs)) (hx : ∀ ad, Y ad → H' ad ≠ none) (hd : ∀ i ad, Ow i = some ad → ¬ Y ad) (hj : P.J H') : Rho P H' Ow Y r σ := by
  refine ⟨R.len, fun i s e => ?_, R.inj, hw, hx, hd, hj⟩
  have q := R.sl i s e
  cases s with
  | none => trivial
  | val d => obtain ⟨v, h1, h2⟩ := q; exact ⟨v, h1, h2.keep k⟩
  | own ds =>
    obtain ⟨b, xs, h1, h2, h3, h4⟩ := q
    obtain ⟨ys, k1, k2⟩ := ho i ds e b h1
    exact ⟨b, ys, h1, h2, k1, k2⟩
  | ownd kvs => exact q
/-- the lists lent are the slots' own again, with what they hold now -/
theorem unlend_ok {Y : Bs} : ∀ {as all : List Ar} {n : Nat} {ss : List Sl} {outs : List Sl} {r r' : Ro}, lend r1 as = some ss → (∀ k i, as[k]? = some (Ar.io i) → lentOw Ow all (n + k) = Ow i) → Outs P (BsOf Ow Y) H' (lentOw Ow all) (lentPos n ss) outs → unlend (lentIx as) outs r = some r' →
    r'.length = r.length ∧ (∀ i, i ∉ lentIx as → r'[i]? = r[i]?) ∧ ∀ i, i ∈ lentIx as → i < r.length → ∃ ds xs ad, r'[i]? = some (.own ds) ∧ Ow i = some ad ∧ H' ad = some (.lst xs) ∧ Rvs P (BsOf Ow Y) H' ds xs
  | [], all, n, ss, outs, r, r', hl, hn, ho, hu => by
    simp only [lend, Option.some.injEq] at hl
    subst hl
    cases ho
    simp only [lentIx, unlend, Option.some.injEq] at hu
    subst hu
    exact ⟨rfl, fun _ _ => rfl, fun i h => by cases h⟩
  | .v x :: as, all, n, ss, outs, r, r', hl, hn, ho, hu => by
    simp only [lend, Option.map_eq_some_iff] at hl
    obtain ⟨ss', e1, rfl⟩ := hl
    simp only [lentPos] at ho
    simp only [lentIx] at hu ⊢
    exact unlend_ok e1 (fun k i h => by have := hn (k + 1) i (by simpa using h); rw [← this]; congr 1; omega) ho hu
  | .io j :: as, all, n, ss, outs, r, r', hl, hn, ho, hu => by
    simp only [lend] at hl
    have h0 : lentOw Ow all n = Ow j := hn 0 j rfl
    split at hl
    · simp only [Option.map_eq_some_iff] at hl
      obtain ⟨ss', e1, rfl⟩ := hl
      simp only [lentPos] at ho
      cases ho with
      | own k1 k2 k3 k4 =>
        rename_i ad xs ds outs'
        simp only [lentIx, unlend] at hu
        obtain ⟨u1, u2, u3⟩ := unlend_ok e1 (fun k i h => by have := hn (k + 1) i (by simpa using h); rw [← this]; congr 1; omega) k4 hu
        refine ⟨by rw [u1, List.length_set], fun i hi => ?_, fun i hi hlt => ?_⟩
        · simp only [lentIx, List.mem_cons, not_or] at hi
          rw [u2 i hi.2, List.getElem?_set_ne (Ne.symm hi.1)]
        · by_cases hm : i ∈ lentIx as
          · exact u3 i hm (by rw [List.length_set]; exact hlt)
          · simp only [lentIx, List.mem_cons] at hi
            rcases hi with rfl | hi
            · exact ⟨ds, xs, ad, by rw [u2 i hm, List.getElem?_set_self hlt], by rw [← h0]; exact k1, k2, k3⟩
            · exact absurd hi hm
    · simp only [Option.map_eq_some_iff] at hl
      obtain ⟨ss', e1, rfl⟩ := hl
      simp only [lentPos] at ho
      cases ho with
      | own k1 k2 k3 k4 =>
        rename_i ad xs ds outs'
        simp only [lentIx, unlend] at hu
        obtain ⟨u1, u2, u3⟩ := unlend_ok e1 (fun k i h => by have := hn (k + 1) i (by simpa using h); rw [← this]; congr 1; omega) k4 hu
        refine ⟨by rw [u1, List.length_set], fun i hi => ?_, fun i hi hlt => ?_⟩
        · simp only [lentIx, List.mem_cons, not_or] at hi
          rw [u2 i hi.2, List.getElem?_set_ne (Ne.symm hi.1)]
        · by_cases hm : i ∈ lentIx as
          · exact u3 i hm (by rw [List.length_set]; exact hlt)
          · simp only [lentIx, List.mem_cons] at hi
            rcases hi with rfl | hi
            · exact ⟨ds, xs, ad, by rw [u2 i hm, List.getElem?_set_self hlt], by rw [← h0]; exact k1, k2, k3⟩
            · exact absurd hi hm
    · cases hl
theorem lend_own : ∀ {as : List Ar} {ss : List Sl} {i : Nat}, lend r as = some ss → i ∈ lentIx as → (∃ es, r[i]? = some (.own es)) ∨ ∃ kvs, r[i]? = some (.ownd kvs)
  | [], _, _, _, h => by cases h
  | .v _ :: as, _, i, hl, h => by
    simp only [lend, Option.map_eq_some_iff] at hl
    obtain ⟨ss', e1, rfl⟩ := hl
    exact lend_own e1 (by simpa [lentIx] using h)
  | .io j :: as, _, i, hl, h => by
    simp only [lentIx, List.mem_cons] at h
    simp only [lend] at hl
    split at hl
    · rename_i xs q
      simp only [Option.map_eq_some_iff] at hl
      obtain ⟨ss', e1, rfl⟩ := hl
      rcases h with rfl | h
      · exact .inl ⟨xs, q⟩
      · exact lend_own e1 h
    · rename_i kvs q
      simp only [Option.map_eq_some_iff] at hl
      obtain ⟨ss', e1, rfl⟩ := hl
      rcases h with rfl | h
      · exact .inr ⟨kvs, q⟩
      · exact lend_own e1 h
    · cases hl
theorem lend_lt {as : List Ar} {ss : List Sl} (hl : lend r as = some ss) : ∀ i, i ∈ lentIx as → i < r.length := fun i hi => by
  rcases lend_own hl hi with ⟨_, q⟩ | ⟨_, q⟩ <;> exact (List.getElem?_eq_some_iff.mp q).1
/-- the caller's state behind a call; Y: what is protected then -/
theorem back_ok {as : List Ar} {ss : List Sl} {outs : List Sl} {r' : Ro} {Y : Bs} (R : Rho P H Ow Xb r σ) (hl : lend r as = some ss) (left : Left P H (lentOw Ow as) H') (hO : Outs P (BsOf Ow Y) H' (lentOw Ow as) (lentPos 0 ss) outs) (hu : unlend (lentIx as) outs r = some r')
    (hy : ∀ ad, Xb ad → Y ad) (hyn : ∀ ad, Y ad → Xb ad ∨ H ad = none) (hya : ∀ ad, Y ad → H' ad ≠ none) (hlt : ∀ i, i ∈ lentIx as → i < r.length) : Ext H Ow H' Ow ∧ Rho P H' Ow Y r' σ := by
  have keepN : ∀ b o, H b = some o → (∀ i, Ow i ≠ some b) → (∀ ps, o ≠ .tbl ps) → H' b = some o := fun b o q n t => left.keep b o q (fun k z => by obtain ⟨i, _, z2⟩ := lentOw_of z; exact n i z2) t
  have ex : Ext H Ow H' Ow := ⟨keepN, fun i => .inl rfl, left.al⟩
  have kp : Kp H (BsOf Ow Xb) H' (BsOf Ow Y) := (ex.toS []).kp2 hyn
  obtain ⟨u1, u2, u3⟩ := unlend_ok (r1 := r) (all := as) (n := 0) hl (fun k i h => by rw [Nat.zero_add]; exact lentOw_at h) hO hu
  have other : ∀ j ad, Ow j = some ad → j ∉ lentIx as → ∀ xs, H ad = some (.lst xs) → H' ad = some (.lst xs) := fun j ad h1 h2 xs h3 => left.keep ad _ h3 (fun k z => by
    obtain ⟨i, z1, z2⟩ := lentOw_of z
    have := R.inj i j ad z2 h1
    subst this
    exact h2 (mem_lentIx z1)) (fun _ z => by cases z)
  have nY : ∀ j ad, Ow j = some ad → ¬ Y ad := fun j ad h1 z => by
    obtain ⟨xs, h⟩ := R.ow j ad h1
    rcases hyn ad z with z | z
    · exact R.disj j ad h1 z
    · rw [h] at z; cases z
  refine ⟨ex, ⟨by rw [u1]; exact R.len, fun i s e => ?_, R.inj, fun j ad h1 => ?_, hya, nY, left.j⟩⟩
  · by_cases hi : i ∈ lentIx as
    · obtain ⟨ds, xs, ad, v1, v2, v3, v4⟩ := u3 i hi (hlt i hi)
      rw [v1] at e; cases e
      -- the slot held this list ahead
      have hs : σ[i]? = some (some (.ref ad)) := by
        have : ∃ es, r[i]? = some (.own es) := by
          rcases lend_own hl hi with q | ⟨kvs, q⟩
          · exact q
          · exact (R.sl i _ q).elim
        obtain ⟨es, q⟩ := this
        obtain ⟨b, ys, w1, w2, _⟩ := R.sl i _ q
        rw [v2] at w1; cases w1
        exact w2
      exact ⟨ad, xs, v2, hs, v3, v4⟩
    · rw [u2 i hi] at e
      have q := R.sl i s e
      cases s with
      | none => trivial
      | val d => obtain ⟨v, h1, h2⟩ := q; exact ⟨v, h1, h2.keep kp⟩
      | own ds =>
        obtain ⟨b, xs, h1, h2, h3, h4⟩ := q
        exact ⟨b, xs, h1, h2, other i b h1 hi xs h3, h4.keep kp⟩
      | ownd kvs => exact q
  · by_cases hj : j ∈ lentIx as
    · obtain ⟨ds, xs, ad', v1, v2, v3, v4⟩ := u3 j hj (hlt j hj)
      rw [h1] at v2; cases v2
      exact ⟨xs, v3⟩
    · obtain ⟨xs, h⟩ := R.ow j ad h1
      exact ⟨xs, other j ad h1 hj xs h⟩

theorem rvs_bs {B B' : Bs} {ds : List Dv} {xs : List V} (h : ∀ a, B' a ↔ B a) (r : Rvs P B H ds xs) : Rvs P B' H ds xs := r.weak fun a z => (h a).mp z
theorem outs_bs {B B' : Bs} {Ow : Own} {ks : List Nat} {outs : List Sl} (h : ∀ a, B' a ↔ B a) (o : Outs P B H Ow ks outs) : Outs P B' H Ow ks outs := by
  induction o with
  | nil => exact .nil
  | own h1 h2 h3 _ ih => exact .own h1 h2 (rvs_bs h h3) ih
theorem bs_calleeX {as : List Ar} (z ad : Addr) : BsOf (lentOw Ow as) (addX (XbC Ow Xb as) z) ad ↔ BsOf Ow (addX Xb z) ad := by
  have := bs_callee (Ow := Ow) (Xb := Xb) (as := as) ad
  constructor
  · rintro (q | q | q)
    · exact (this.mp (.inl q)).elim .inl fun w => .inr (.inl w)
    · exact (this.mp (.inr q)).elim .inl fun w => .inr (.inl w)
    · exact .inr (.inr q)
  · rintro (q | q | q)
    · exact (this.mpr (.inl q)).elim .inl fun w => .inr (.inl w)
    · exact (this.mpr (.inr q)).elim .inl fun w => .inr (.inl w)
    · exact .inr (.inr q)
/-- a call of a def of the text -/
theorem call_read (C : Cok P X W) {FF : CallF} {f n : Nat} {ds : List Dv} {dvs : List V} {fs : Ro → Re (List Ar)} (hdv : ∀ B H, Rvs P B H ds dvs) (hlen : ∀ r as r1, fs r = .ok as r1 → as.length + ds.length = n) {σ : L2.St} {H : Hp} {Q : VK}
    (h : tE P W (callF FF f ds fs) σ H Q) : tCallSD (SpecOf P FF f n) dvs (WE (WXof P W)) (tAA P W fs) σ H Q := by
  obtain ⟨r, Ow, Xb, R, hf⟩ := h
  unfold callF at hf
  refine ⟨r, Ow, Xb, R, ?_⟩
  cases e : fs r with
  | ok as r1 =>
    simp only [e, Re.bind] at hf
    intro vs H1 Ow1 e1 R1 hA
    cases q : lend r1 as with
    | none => simp only [q] at hf
    | some ss =>
      simp only [q] at hf
      by_cases hn : nodupN (lentIx as) = true
      · rw [if_pos hn] at hf
        obtain ⟨RC, hO⟩ := rho_callee R1 hA q hn hdv
        obtain ⟨l1, l2, _⟩ := lend_at hA q
        have hdl := (hdv (fun _ => False) H1).length
        refine ⟨by rw [List.length_append, l2, ← hdl]; exact hlen r as r1 e, ss ++ ds.map .val, lentOw Ow1 as, XbC Ow1 Xb as, RC, hO, ?_⟩
        cases qf : FF f (ss ++ ds.map .val) with
        | ok t outs =>
          simp only [qf, callT] at hf
          intro v H' hout
          rw [lentPos_app] at hout
          cases qu : unlend (lentIx as) outs r1 with
          | none => simp only [qu] at hf
          | some r2 =>
            simp only [qu] at hf
            obtain ⟨left, hout⟩ := hout
            cases t with
            | d x =>
              simp only at hf hout
              obtain ⟨rv, ho⟩ := hout
              have ho' := outs_bs (B' := BsOf Ow1 Xb) (fun a => (bs_callee a).symm) ho
              obtain ⟨ex, R2⟩ := back_ok R1 q left ho' qu (fun _ z => z) (fun _ z => .inl z) (fun ad z => left.al ad (R1.x ad z)) (lend_lt q)
              exact hf v H' ⟨Ow1, e1.trans ex, R2, rv.weak fun a z => (bs_callee a).mpr z⟩
            | fr es =>
              simp only at hf hout
              obtain ⟨ad, xs, rfl, na, ha, rs, ho⟩ := hout
              have ho' := outs_bs (B' := BsOf Ow1 (addX Xb ad)) (fun a => (bs_calleeX ad a).symm) ho
              obtain ⟨ex, R2⟩ := back_ok R1 q left ho' qu addX_of (fun b z => z.elim .inl fun z => .inr (by rw [z]; exact na)) (fun b z => z.elim (fun z => left.al b (R1.x b z)) fun z => by rw [z, ha]; simp) (lend_lt q)
              refine hf _ H' ⟨Ow1, e1.trans ex, ad, xs, rfl, ?_, ha, R2, rs.weak fun a z => (bs_calleeX ad a).mpr z⟩
              cases q : H ad with
              | none => rfl
              | some o => exact absurd na (e1.al ad (by rw [q]; simp))
            | rf i => exact hf.elim
            | frd => exact hf.elim
        | exc c outs =>
          simp only [qf, callT] at hf
          intro d H' ca hca left ho
          rw [lentPos_app] at ho
          cases qu : unlend (lentIx as) outs r1 with
          | none => simp only [qu] at hf
          | some r2 =>
            simp only [qu] at hf
            have ho' := outs_bs (B' := BsOf Ow1 Xb) (fun a => (bs_callee a).symm) ho
            obtain ⟨ex, R2⟩ := back_ok R1 q left ho' qu (fun _ z => z) (fun _ z => .inl z) (fun ad z => left.al ad (R1.x ad z)) (lend_lt q)
            exact ⟨c, ca, hca, rfl, hf H' Ow1 d (e1.trans ex) R2⟩
        | bad => simp only [qf, callT] at hf
      · rw [if_neg hn] at hf; exact hf.elim
  | exc c r1 => simp only [e, Re.bind] at hf; exact hf
  | bad => simp only [e, Re.bind] at hf

theorem s_call (C : Cok P X W) {FF : CallF} {f n k : Nat} {fad : Addr} {fd : FuncData} {ps : List Str} {x : Str} {ds : List Dv} {dvs : List V} {dus : List Value} {fs : Ro → Re (List Ar)} (F : FnOk X.prog X.w X.K X.mg X.base (L2.CX X.prog X.w) k fad fd ps (SpecOf P FF f n)) (hr : Room k X.A)
    (hg : Gl X x) (hm : X.mg x = some (.ref fad)) (hk : PySem.W.keepIn X.K (.ref fad) = true) (hb : Binds X.K fd ps dus) (hd : Vals dvs dus) (hdv : ∀ B H, Rvs P B H ds dvs) (hlen : ∀ r as r1, fs r = .ok as r1 → as.length + ds.length = n) (ha : PA X (a :: es) (tAA P W fs))
    (hdb : (x == ("__debug__" : Str)) = false) (he : ∀ x p, a ≠ .Starred x p) (hpl : (backTo pos (starEach es X.env)).any (·.1) = false) : PE X (.Call (.Name x p) (a :: es) [] pos) (tE P W (callF FF f ds fs)) :=
  PE.imp (pe_callSD F hr hg hm hk hb hd (passAt C.tk) ha hdb (starless he) hpl) fun _ _ _ h => call_read C hdv hlen h
end
end MP
set_option linter.all false
set_option Elab.async false
set_option maxRecDepth 100000
set_option maxHeartbeats 1000000
/-! MP22: a def's promise from its body. -/
namespace MP
open PySem PySem.Spec PyProof.Rows L2 PySem.SeqAt

section
variable {P : Par} {W : XW} {S : List Nat} {H H1 H' : Hp} {Ow Ow1 Ow' : Own} {Xb X1 X2 : Bs} {r r' : Ro} {σ σ' : L2.St}
theorem lentPos_mem : ∀ {ss : List Sl} {n k : Nat} {ds : List Dv}, ss[k]? = some (.own ds) → n + k ∈ lentPos n ss
  | [], _, _, _, h => by simp at h
  | s :: ss, n, 0, ds, h => by
    simp at h; subst h
    simp [lentPos]
  | s :: ss, n, k + 1, ds, h => by
    have := lentPos_mem (ss := ss) (n := n + 1) (k := k) (by simpa using h)
    have e : n + 1 + k = n + (k + 1) := by omega
    rw [e] at this
    cases s <;> simp only [lentPos, List.mem_cons] <;> first | exact this | exact .inr this
theorem outs_of (R : Rho P H' Ow' Xb r' σ') : ∀ {ps : List Nat} {o : List Sl}, (∀ k, k ∈ ps → Ow' k = Ow k ∨ Ow' k = none) → outsAt r' ps = some o → Outs P (BsOf Ow' Xb) H' Ow ps o ∧ ∀ k, k ∈ ps → ∃ a, Ow' k = some a ∧ Ow k = some a
  | [], o, _, e => by
    simp only [outsAt, Option.some.injEq] at e
    subst e
    exact ⟨.nil, fun k h => by cases h⟩
  | k :: ks, o, hs, e => by
    simp only [outsAt] at e
    split at e
    · rename_i xs q
      simp only [Option.map_eq_some_iff] at e
      obtain ⟨o', e1, rfl⟩ := e
      obtain ⟨z1, z2⟩ := outs_of R (fun k hk => hs k (List.mem_cons_of_mem _ hk)) e1
      obtain ⟨a, ys, h1, h2, h3, h4⟩ := R.sl k _ q
      have ok : Ow k = some a := by
        rcases hs k List.mem_cons_self with z | z
        · rw [← z]; exact h1
        · rw [z] at h1; cases h1
      refine ⟨.own ok h3 h4 z1, fun j hj => ?_⟩
      rcases List.mem_cons.mp hj with rfl | hj
      · exact ⟨a, h1, ok⟩
      · exact z2 j hj
    · rename_i kvs q
      exact (R.sl k _ q).elim
    · cases e
theorem Outs.weak {B B' : Bs} (h : ∀ a, B' a → B a) {ks : List Nat} {o : List Sl} (x : Outs P B H' Ow ks o) : Outs P B' H' Ow ks o := by
  induction x with
  | nil => exact .nil
  | own h1 h2 h3 _ ih => exact .own h1 h2 (h3.weak h) ih
theorem any_beq {i : Nat} {l : List Nat} (h : (l.any fun j => Nat.beq i j) = false) : i ∉ l := fun z => by
  rw [List.any_eq_false] at h
  exact h i z (Nat.beq_refl i)
theorem Rho.pad {ss : List Sl} {vs : List V} {N : List Str} {m : Nat} (R : Rho P H Ow Xb ss (vs.map some)) (hm : m = N.length - vs.length) : Rho P H Ow Xb (ss ++ List.replicate m .none) (L2.start N vs) := by
  have hl : ss.length = vs.length := by have := R.len; simpa using this
  refine ⟨by unfold L2.start; simp [hl, hm], fun i s e => ?_, R.inj, R.ow, R.x, R.disj, R.j⟩
  by_cases hi : i < ss.length
  · rw [List.getElem?_append_left hi] at e
    have q := R.sl i s e
    have hs : ∀ o, (vs.map some)[i]? = some o → (L2.start N vs)[i]? = some o := fun o h => by
      unfold L2.start
      rw [List.getElem?_append_left (by simp; omega)]; exact h
    cases s with
    | none => trivial
    | val d => obtain ⟨v, h1, h2⟩ := q; exact ⟨v, hs _ h1, h2⟩
    | own ds => obtain ⟨a, xs, h1, h2, h3⟩ := q; exact ⟨a, xs, h1, hs _ h2, h3⟩
    | ownd kvs => exact q
  · rw [List.getElem?_append_right (by omega), List.getElem?_replicate] at e
    split at e
    · cases e; trivial
    · cases e
/-- the body's end is the promise's -/
theorem body_fin {ss : List Sl} {Q : VK} {E : XK} {res : RS} {Wc : XW} (hO : ∀ i a, Ow i = some a → ∃ ds, ss[i]? = some (.own ds)) (hS : ∀ k, k ∈ lentPos 0 ss → k ∉ S) (hW : ∀ c d σ H, (∀ a, P.ca c = some a → E (.ref a) d H) → Wc c d σ H)
    (R0 : Rho P H Ow Xb r σ)
    (hq : match finish (lentPos 0 ss) res with
      | .ok t outs => ∀ v H', OutP P H Ow Xb (lentPos 0 ss) t outs v H' → Q v H'
      | .exc c outs => ∀ d H' a, P.ca c = some a → Left P H Ow H' → Outs P (BsOf Ow Xb) H' Ow (lentPos 0 ss) outs → E (.ref a) d H'
      | .bad => False) : FinS P Wc S Xb H Ow res { nx := fun _ H' => Q .non H', rt := Q } := by
  have stay : ∀ {H' : Hp} {Ow' : Own}, ExtS S H Ow H' Ow' → ∀ k, k ∈ lentPos 0 ss → Ow' k = Ow k ∨ Ow' k = none := fun ex k hk => ex.st k (hS k hk)
  have left : ∀ {H' : Hp} {Ow' : Own} {Y : Bs} {r' : Ro} {σ' : L2.St}, ExtS S H Ow H' Ow' → Rho P H' Ow' Y r' σ' → Left P H Ow H' := fun ex R => ⟨ex.keep, ex.al, R.j⟩
  -- the lists lent are known by the end, too
  have subs : ∀ {Ow' : Own}, (∀ k, k ∈ lentPos 0 ss → ∃ a, Ow' k = some a ∧ Ow k = some a) → ∀ i a, Ow i = some a → Ow' i = some a := fun hk i a h => by
    obtain ⟨ds, hd⟩ := hO i a h
    have := lentPos_mem (n := 0) hd
    rw [Nat.zero_add] at this
    obtain ⟨b, h1, h2⟩ := hk i this
    rw [h] at h2; cases h2
    exact h1
  have bsub : ∀ {Ow' : Own} {Y : Bs}, (∀ i a, Ow i = some a → Ow' i = some a) → ∀ a, BsOf Ow Y a → BsOf Ow' Y a := fun h a z => z.elim (fun ⟨i, z⟩ => .inl ⟨i, h i a z⟩) .inr
  cases res with
  | nx r' =>
    simp only [finish] at hq
    cases q : outsAt r' (lentPos 0 ss) with
    | none => simp only [q] at hq
    | some o =>
      simp only [q] at hq
      intro σ' H' Ow' ex R
      obtain ⟨z1, z2⟩ := outs_of R (stay ex) q
      exact hq .non H' ⟨left ex R, .non, z1.weak (bsub (subs z2))⟩
  | ret t r' =>
    simp only [finish] at hq
    cases qv : retV (lentPos 0 ss) t r' with
    | none => simp only [qv] at hq
    | some t' =>
      simp only [qv] at hq
      cases q : outsAt r' (lentPos 0 ss) with
      | none => simp only [q] at hq
      | some o =>
        simp only [q] at hq
        rintro σ' v H' ⟨Ow', ex, ok⟩
        cases t with
        | d x =>
          simp only [retV, Option.some.injEq] at qv
          subst qv
          obtain ⟨R, rv⟩ := ok
          obtain ⟨z1, z2⟩ := outs_of R (stay ex) q
          exact hq v H' ⟨left ex R, rv.weak (bsub (subs z2)), z1.weak (bsub (subs z2))⟩
        | fr es =>
          simp only [retV, Option.some.injEq] at qv
          subst qv
          obtain ⟨a, xs, rfl, na, ha, R, rs⟩ := ok
          obtain ⟨z1, z2⟩ := outs_of R (stay ex) q
          exact hq _ H' ⟨left ex R, a, xs, rfl, na, ha, rs.weak (bsub (subs z2)), z1.weak (bsub (subs z2))⟩
        | rf i =>
          simp only [retV] at qv
          obtain ⟨R, hv⟩ := ok
          obtain ⟨z1, z2⟩ := outs_of R (stay ex) q
          split at qv
          · cases qv
          · rename_i hni
            have hni : i ∉ lentPos 0 ss := any_beq (Bool.eq_false_iff.mpr hni)
            split at qv
            · rename_i es qr
              simp only [Option.some.injEq] at qv
              subst qv
              obtain ⟨a, xs, h1, h2, h3, h4⟩ := R.sl i _ qr
              have hv : σ'[i]? = some (some v) := hv
              rw [h2] at hv
              simp only [Option.some.injEq] at hv
              subst hv
              have na : H a = none := by
                rcases ex.ow i a h1 with ⟨j, z⟩ | z
                · exfalso
                  have := subs z2 j a z
                  have := R.inj i j a h1 this
                  subst this
                  obtain ⟨ds, hd⟩ := hO i a z
                  have hm := lentPos_mem (n := 0) hd
                  rw [Nat.zero_add] at hm
                  exact hni hm
                · exact z
              have bs : ∀ b, BsOf Ow (addX Xb a) b → BsOf Ow' Xb b := fun b z => by
                rcases z with z | z | z
                · obtain ⟨j, z⟩ := z; exact .inl ⟨j, subs z2 j b z⟩
                · exact .inr z
                · exact .inl ⟨i, by rw [z]; exact h1⟩
              exact hq _ H' ⟨left ex R, a, xs, rfl, na, h3, h4.weak bs, z1.weak bs⟩
            · cases qv
        | frd => exact ok.elim
  | exc c r' =>
    simp only [finish] at hq
    cases q : outsAt r' (lentPos 0 ss) with
    | none => simp only [q] at hq
    | some o =>
      simp only [q] at hq
      intro σ' H' Ow' d ex R
      obtain ⟨z1, z2⟩ := outs_of R (stay ex) q
      exact hW c d σ' H' fun a ha => hq d H' a ha (left ex R) (z1.weak (bsub (subs z2)))
  | bad => simp only [finish] at hq
end
/-- nothing is promised of no calls -/
theorem fn_zero {P : Par} {prog : Program} {w : World} {K : PySem.W.Frag} {mg : Str → Option Value} {base : Heap} {tb : Tbl} {Wf : WhileF} {f : Addr} {fd : FuncData} {ps : List Str} {fi k : Nat} : FnOk prog w K mg base (L2.CX prog w) k f fd ps (SpecOf P (callN tb Wf 0) fi ps.length) :=
  ⟨fun vs H Q E h => h.1, fun A outer s H args us vs Q E hr he hb hv hs => by
    obtain ⟨_, ss, Ow, Xb, R, _, h⟩ := hs
    simp only [callN] at h⟩
theorem fn_okM {P : Par} {prog : Program} {w : World} {K : PySem.W.Frag} {mg : Str → Option Value} {base : Heap} {tb : Tbl} {Wf : WhileF} {x qual : Str} {st : Stmt} {f : Addr} {fd : FuncData} {N ps : List Str} {fi n : Nat} {df : Df} (hK : K = P.K)
    (F : L2.Fun K x qual st f fd) (Sc : FnScope N ps (defScope st)) (htb : tb fi = some df) (ha : df.args = ps.length) (hs : df.slots = N.length)
    (hbody : ∀ (cdv : Value) (A : Around) (outer : List Env) (s : Shared) (H : Hp) (E : XK) (W : XW), Room n (A.deeper (envOfC qual (defScope st) s.heap.objs.size f cdv)) → Cok P (cxOf (L2.CX prog w) prog w K mg base N qual (defScope st) f cdv A outer s H E) W →
      PassesOwn (model prog w) (cxOf (L2.CX prog w) prog w K mg base N qual (defScope st) f cdv A outer s H E).A (cxOf (L2.CX prog w) prog w K mg base N qual (defScope st) f cdv A outer s H E).env (cxOf (L2.CX prog w) prog w K mg base N qual (defScope st) f cdv A outer s H E).xe →
      PSs (cxOf (L2.CX prog w) prog w K mg base N qual (defScope st) f cdv A outer s H E) (defBody st) (tS P W (sets df.body) (exec (callN tb Wf n) Wf df.body))) :
    FnOk prog w K mg base (L2.CX prog w) (n + 1) f fd ps (SpecOf P (callN tb Wf (n + 1)) fi ps.length) := by
  refine F.okX Sc (fun vs H Q E h => h.1) fun cdv A outer s H vs Q E hr hsp => ?_
  obtain ⟨hl, ss, Ow, Xb, R, hO, hq⟩ := hsp
  have hss : ss.length = vs.length := by have := R.len; simpa using this
  simp only [callN, htb] at hq
  by_cases hc : (decide (ss.length = df.args) && (lentPos 0 ss).all fun i => !((sets df.body).any fun j => Nat.beq i j)) = true
  · rw [if_pos hc] at hq
    rw [Bool.and_eq_true, decide_eq_true_eq, List.all_eq_true] at hc
    have hm : df.slots - df.args = N.length - vs.length := by rw [hs, ha, hl]
    have R1 := R.pad (N := N) hm
    refine ⟨_, hbody cdv A outer s H E (fun c d σ H => ∀ a, P.ca c = some a → E (.ref a) d H) hr ⟨hK, rfl, Sc.nd, by have := hr.un; show (A.deeper _).units + 150 < cLine; omega, (takes_of rfl rfl rfl rfl).imp ?_⟩ (passes_of rfl), ss ++ List.replicate (df.slots - df.args) .none, Ow, Xb, R1, ?_⟩
    · rintro cls d σ H ⟨c, a, h1, rfl, h2⟩
      exact h2 a h1
    · exact body_fin hO (fun k hk => by have := hc.2 k hk; rw [Bool.not_eq_true'] at this; exact any_beq this) (fun c d σ H h => h) R1 hq
  · rw [if_neg hc] at hq
    exact hq.elim
end MP
set_option linter.all false
set_option Elab.async false
set_option maxRecDepth 100000
set_option maxHeartbeats 1000000
/-! MP23: raise, while, try. -/
namespace MP
open PySem PySem.Spec PyProof.Rows L2 PySem.SeqAt

section
variable {P : Par} {W : XW} {X : Cx} {S : List Nat} {a b c : Expr} {fa fb fc : Fe} {f g : Fs} {pos p p1 p2 np : Pos} {σ σ1 : L2.St} {H H1 H' : Hp} {Ow Ow1 Ow' : Own} {Xb X1 X2 : Bs} {r r1 : Ro} {D : Ends}

/-! ### raise C() -/
theorem pmk_own0 {C : Addr} {bmB : List Value} {B newId initId : String} {x : Str} (F : ExcBaseFacts B newId initId bmB) (q : PySem.W.excIn X.K C bmB newId = true) (gC : X.mg x = some (.ref C)) (kC : PySem.W.keepIn X.K (.ref C) = true) (rs : Raises X (.ref C)) (hg : Gl X x)
    (hdb : (x == ("__debug__" : Str)) = false) : PMk X (.Call (.Name x p) [] [] pos) (fun _ H Q => Q (.ref C) none H) := by
  intro pins s σ H Q I h
  refine wpAny_Call_Name_kw (ld_glob I hg gC ?_ hdb)
  refine PySem.W.callWith_K0 I.kIn kC ?_
  show wpAny _ _ (call (.ref C) []) _ _ _
  obtain ⟨bm, N, nm, qn, bs, hdct, sn, sub, ab, col, dd, k0, k1, k2, k3, k5, mN, hC, hN, hni, T⟩ := exc_obj I.kIn q
  refine wpAny_call_exc_subT F T hC hN hni (fun h' e hm => ?_) (by show 0 ≤ sizeLine; exact Nat.zero_le _)
  exact mk_of I hm rs h (I.hok.gone hm.new)
theorem ps_raiseM (C : Cok P X W) {ci : Nat} {Ca : Addr} (hca : P.ca ci = some Ca) (hm : PMk X a (fun _ H Q => Q (.ref Ca) none H)) : PS X (.Raise (some a) none pos) (tS P W S fun r => .exc ci r) := by
  refine PS.imp (ps_raise C.calm C.tk hm) fun D σ H ⟨r, Ow, Xb, R, hf⟩ => ?_
  exact ⟨ci, Ca, hca, rfl, hf σ H Ow none (Ext.refl.toS S) R⟩

/-! ### while -/
/-- a while's meaning: so many turns, or nothing is said -/
def WOk (Wf : WhileF) : Prop := ∀ c b r, Wf c b r = .bad ∨ ∃ n, Wf c b r = whileB n c b r
theorem while_core {ga : Ro → Re Bool} {n : Nat} (R : Rho P H Ow Xb r σ) (hf : FinS P W S Xb H Ow (whileB n ga f r) D) : tWhile (tT P W ga) (tS P W S f) D σ H := by
  refine ⟨fun m σ' H' => ∃ r' Ow', ExtS S H Ow H' Ow' ∧ Rho P H' Ow' Xb r' σ' ∧ FinS P W S Xb H Ow (whileB m ga f r') D, ⟨n, r, Ow, Ext.refl.toS S, R, hf⟩, ?_⟩
  rintro m σ1 H1 ⟨r1, Ow1, ex, R1, hk⟩
  cases m with
  | zero => simp only [whileB] at hk; exact hk.elim
  | succ m =>
    simp only [whileB] at hk
    refine ⟨r1, Ow1, Xb, R1, ?_⟩
    cases qc : ga r1 with
    | ok k r2 =>
      simp only [qc] at hk
      intro H2 Ow2 e2 R2
      have ex2 := ex.trans (e2.toS S)
      cases k with
      | false => rw [if_neg Bool.false_ne_true]; exact hk σ1 H2 Ow2 ex2 R2
      | true =>
        rw [if_pos rfl]
        simp only at hk
        refine ⟨fun σ' H' => ∃ r' Ow', ExtS S H Ow H' Ow' ∧ Rho P H' Ow' Xb r' σ' ∧ FinS P W S Xb H Ow (whileB m ga f r') D, fun σ' H' n' => ⟨m, Nat.lt_succ_self m, n'⟩, r2, Ow2, Xb, R2, ?_⟩
        cases qb : f r2 with
        | nx r3 =>
          simp only [qb] at hk
          exact fun σ3 H3 Ow3 e3 R3 => ⟨r3, Ow3, ex2.trans e3, R3, hk⟩
        | ret t r3 => simp only [qb] at hk; exact fun σ' v H' ok => hk σ' v H' (ok.lift ex2)
        | exc c r3 => simp only [qb] at hk; exact fun σ' H' Ow' d e3 R3 => hk σ' H' Ow' d (ex2.trans e3) R3
        | bad => simp only [qb] at hk; exact hk.elim
    | exc c r2 => simp only [qc] at hk; exact fun H' Ow' d e' R' => hk σ1 H' Ow' d (ex.trans (e'.toS S)) R'
    | bad => simp only [qc] at hk; exact hk.elim
theorem ps_whileM {Wf : WhileF} (hW : WOk Wf) (po : PassesOwn (model X.prog X.w) X.A X.env X.xe) {ga : Ro → Re Bool} {c : Expr} {bs : List Stmt} (hc : PT X c (tT P W ga)) (hb : PSs X bs (tS P W S f)) : PS X (.While c bs [] pos) (tS P W S fun r => Wf ga f r) := by
  refine PS.imp (ps_while po hc hb) fun D σ H ⟨r, Ow, Xb, R, hf⟩ => ?_
  rcases hW ga f r with z | ⟨n, z⟩
  · have hf : FinS P W S Xb H Ow (Wf ga f r) D := hf
    rw [z] at hf; exact hf.elim
  · have hf : FinS P W S Xb H Ow (Wf ga f r) D := hf
    rw [z] at hf; exact while_core R hf

/-! ### try -/
def XWof (P : Par) (W : WX) : XW := fun c d σ H => ∀ a, P.ca c = some a → W (.ref a) d σ H
theorem hnd_ok {ci x : Nat} {h : Fs} {v : V} {D' : Ends} (hS : x ∈ S) (R : Rho P H Ow Xb r σ) (hf : FinS P W S Xb H Ow (hndF x h ci r) D) (hn : ∀ σ' H', D.nx (σ'.set x none) H' → D'.nx σ' H') (hr : ∀ v H', D.rt v H' → D'.rt v H') : tS P W0 S h D' (σ.set x (some v)) H := by
  obtain ⟨e1, R1⟩ := R.setVal (i := x) (.exc ci v)
  have mem : ∀ j, j ∈ [x] → j ∈ S := fun j h => by simp at h; subst h; exact hS
  have e1 := e1.mono mem
  refine ⟨_, _, Xb, R1, ?_⟩
  unfold hndF at hf
  cases q : h (r.set x (.val (.exc ci))) with
  | nx r2 =>
    simp only [q] at hf
    intro σ2 H2 Ow2 e2 R2
    obtain ⟨e3, R3⟩ := R2.setNone (i := x) (o := none)
    exact hn σ2 H2 (hf _ H2 _ ((e1.trans e2).trans (e3.mono mem)) R3)
  | ret t r2 =>
    simp only [q] at hf
    cases t with
    | d z => simp only at hf; exact fun σ' v' H' ok => hr v' H' (hf σ' v' H' (ok.lift e1))
    | _ => exact hf.elim
  | exc c r2 => simp only [q] at hf; exact hf.elim
  | bad => simp only [q] at hf; exact hf.elim
theorem tr_cok (C : Cok P X W) {pn : List (Addr × Obj)} {xe : Value → Shared → Prop} {W' : WX} (tk : Takes (X.tr pn xe) W') : Cok P (X.tr pn xe) (XWof P W') where
  K := C.K
  calm := C.calm
  nd := C.nd
  un := C.un
  tk := tk.imp fun cls d σ H ⟨c, a, h1, h2, h3⟩ => by rw [h2]; exact h3 a h1
theorem ps_try1M (C : Cok P X W) (hs : X.stack = X.env :: X.outer) (hf0 : X.env.frame = some X.env.locals) {i ci : Nat} {n x : Str} {Cc : Addr} {body suite : List Stmt} {b₀ : Stmt} {pos' : Pos} (hi : X.N[i]? = some n) (hln : X.env.kindOf n = some .local) (hS : i ∈ S)
    (hc : Names X x (.ref Cc)) (hcc : P.ca ci = some Cc) (hsub : ∀ a A, P.ca a = some A → PySem.W.exmOne X.K (.ref A) (.ref Cc) = some (isSub a ci))
    (hb : ∀ (W' : XW) (pn : List (Addr × Obj)) (xe : Value → Shared → Prop), Cok P (X.tr pn xe) W' → PassesOwn (model X.prog X.w) X.A X.env xe → PSs (X.tr pn xe) body (tS P W' S f))
    (hh : ∀ (a : Addr) (oe : Obj) (cls : Value) (d : Option Addr) (pn : List (Addr × Obj)), Zc cls d oe → (∃ vs, oe.data = .fields vs) → PSs (X.suite a ((a, oe) :: pn)) (b₀ :: suite) (tS P W0 S g)) :
    PS X (.Try body [.ExceptHandler (some (.Name x np)) (some n) (b₀ :: suite) pos'] [] [] pos) (tS P W S (try1F f ci i g)) := by
  refine PS.imp (ps_try_as (tb := fun W' => tS P (XWof P W') S f) (ts := fun _ _ _ => tS P W0 S g) hs hf0 C.nd hi hln hc C.tk (fun W' pn xe tk po => hb _ pn xe (tr_cok C tk) po) hh) fun D σ H ⟨r, Ow, Xb, R, hf⟩ => ?_
  unfold try1F at hf
  refine ⟨r, Ow, Xb, R, ?_⟩
  cases q : f r with
  | nx r1 => simp only [q] at hf; exact hf
  | ret t r1 => simp only [q] at hf; exact hf
  | exc e r1 =>
    simp only [q] at hf
    intro σ' H' Ow' d ex R1 A hA
    refine ⟨isSub e ci, hsub e A hA, fun hb ad hn => ?_, fun hb => ?_⟩
    · rw [if_pos hb] at hf
      exact hnd_ok hS R1 (hf.lift ex) (fun _ _ z => z) (fun _ _ z => z)
    · rw [if_neg (by rw [hb]; exact Bool.false_ne_true)] at hf
      exact ⟨e, A, hA, rfl, hf σ' H' Ow' d ex R1⟩
  | bad => simp only [q] at hf; exact hf.elim
end
end MP
set_option linter.all false
set_option Elab.async false
set_option maxRecDepth 100000
set_option maxHeartbeats 1000000
/-! MP24: several names at once; name[i] op= value. -/
namespace MP
open PySem PySem.Spec PyProof.Rows L2 PySem.SeqAt

section
variable {P : Par} {W : XW} {X : Cx} {S : List Nat} {a b c : Expr} {fa fb fc : Fe} {f g : Fs} {pos p p1 p2 np : Pos} {σ σ1 : L2.St} {H H1 H' : Hp} {Ow Ow1 Ow' : Own} {Xb X0 X1 X2 : Bs} {r r1 : Ro} {D : Ends} {es : List Expr}

/-- values held until all are there: X0 protected at the end, X1 now, B what data keep clear of -/
inductive HS (P : Par) (B : Bs) (H : Hp) (X0 : Bs) : Bs → List Sl → List V → Prop
  | nil {Y : Bs} : (∀ a, X0 a → Y a) → HS P B H X0 Y [] []
  | val {Y : Bs} {d : Dv} {v : V} {ss : List Sl} {vs : List V} : Rv P B H d v → HS P B H X0 Y ss vs → HS P B H X0 Y (.val d :: ss) (v :: vs)
  | own {Y Y' : Bs} {a : Addr} {xs : List V} {ds : List Dv} {ss : List Sl} {vs : List V} : Y a → ¬ Y' a → (∀ b, Y' b → Y b) → H a = some (.lst xs) → Rvs P B H ds xs → HS P B H X0 Y' ss vs → HS P B H X0 Y (.own ds :: ss) (.ref a :: vs)
theorem HS.sub {B : Bs} {ss : List Sl} {vs : List V} (h : HS P B H X0 X1 ss vs) : ∀ a, X0 a → X1 a := by
  induction h with
  | nil h => exact h
  | val _ _ ih => exact ih
  | own _ _ h3 _ _ _ ih => exact fun b z => h3 b (ih b z)
/-- one more protected ahead of the others -/
theorem HS.drop {B : Bs} {Xb : Bs} {ad : Addr} (hna : ¬ Xb ad) : ∀ {X1 : Bs} {ss : List Sl} {vs : List V}, HS P B H (addX Xb ad) X1 ss vs → HS P B H Xb (fun b => X1 b ∧ b ≠ ad) ss vs
  | _, _, _, .nil h => .nil fun b z => ⟨h b (.inl z), fun e => hna (by rw [← e]; exact z)⟩
  | _, _, _, .val h t => .val h (t.drop hna)
  | _, _, _, .own (a := a) h1 h2 h3 h4 h5 t => by
    have hne : a ≠ ad := fun e => h2 (t.sub a (.inr e))
    exact .own ⟨h1, hne⟩ (fun z => h2 z.1) (fun b z => ⟨h3 b z.1, z.2⟩) h4 h5 (t.drop hna)
theorem asgH_ok {B : Bs} : ∀ {is : List Nat} {ss : List Sl} {vs : List V} {X1 : Bs} {Ow : Own} {r r' : Ro} {σ : L2.St} {Q : L2.St → Hp → Prop}, HS P B H X0 X1 ss vs → Rho P H Ow X1 r σ → (∀ b, BsOf Ow X1 b → B b) → asgH is ss r = some r' →
    (∀ σ' Ow', (∀ i, i ∉ is → Ow' i = Ow i ∨ Ow' i = none) → (∀ i b, Ow' i = some b → (∃ j, Ow j = some b) ∨ X1 b) → Rho P H Ow' X0 r' σ' → Q σ' H) → gNames is vs σ H Q
  | [], _, _, _, Ow, r, r', σ, Q, .nil h, R, _, e, q => by
    simp only [asgH, Option.some.injEq] at e
    subst e
    exact ⟨rfl, q σ Ow (fun _ _ => .inl rfl) (fun i b z => .inl ⟨i, z⟩) (R.weak h)⟩
  | [], _, _, _, _, _, _, _, _, .val _ _, _, _, e, _ => by simp [asgH] at e
  | [], _, _, _, _, _, _, _, _, .own _ _ _ _ _ _, _, _, e, _ => by simp [asgH] at e
  | i :: is, _, _, _, _, _, _, _, _, .nil _, _, _, e, _ => by simp [asgH] at e
  | i :: is, _, _, X1, Ow, r, r', σ, Q, .val h t, R, hB, e, q => by
    simp only [asgH] at e
    obtain ⟨e1, R1⟩ := R.setVal (i := i) (h.weak hB)
    refine ⟨_, _, rfl, asgH_ok t R1 (fun b z => hB b (without_bs b z)) e fun σ' Ow' s1 s2 R' => q σ' Ow' (fun j hj => ?_) (fun j b z => ?_) R'⟩
    · rcases s1 j (fun z => hj (List.mem_cons_of_mem _ z)) with z | z
      · rw [z]; exact e1.st j (fun z => hj (by simp at z; rw [z]; exact List.mem_cons_self))
      · exact .inr z
    · rcases s2 j b z with ⟨k, z⟩ | z
      · exact .inl ⟨k, without_sub z⟩
      · exact .inr z
  | i :: is, _, _, X1, Ow, r, r', σ, Q, .own (a := a) h1 h2 h3 h4 h5 t, R, hB, e, q => by
    simp only [asgH] at e
    obtain ⟨Ow2, s1, s2, R2⟩ := R.setOwn (i := i) h3 h1 h2 h4 (h5.weak hB)
    refine ⟨_, _, rfl, asgH_ok t R2 (fun b z => ?_) e fun σ' Ow' k1 k2 R' => q σ' Ow' (fun j hj => ?_) (fun j b z => ?_) R'⟩
    · rcases z with ⟨j, z⟩ | z
      · by_cases hj : j = i
        · subst hj; rw [s2 b z]; exact hB a (.inr h1)
        · rw [s1 j hj] at z; exact hB b (.inl ⟨j, z⟩)
      · exact hB b (.inr (h3 b z))
    · rcases k1 j (fun z => hj (List.mem_cons_of_mem _ z)) with z | z
      · rw [z, s1 j (fun z => hj (by rw [z]; exact List.mem_cons_self))]; exact .inl rfl
      · exact .inr z
    · rcases k2 j b z with ⟨k, z⟩ | z
      · by_cases hk : k = i
        · subst hk; rw [s2 b z]; exact .inr h1
        · rw [s1 k hk] at z; exact .inl ⟨k, z⟩
      · exact .inr (h3 b z)
theorem HS.keep {B B' : Bs} (k : Kp H B H' B') (kx : ∀ a xs, X1 a → H a = some (.lst xs) → H' a = some (.lst xs)) : ∀ {Y : Bs} {ss : List Sl} {vs : List V}, (∀ b, Y b → X1 b) → HS P B H X0 Y ss vs → HS P B' H' X0 Y ss vs
  | _, _, _, _, .nil h => .nil h
  | _, _, _, hy, .val h t => .val (h.keep k) (t.keep k kx hy)
  | _, _, _, hy, .own h1 h2 h3 h4 h5 t => .own h1 h2 h3 (kx _ _ (hy _ h1) h4) (h5.keep k) (t.keep k kx (fun b z => hy b (h3 b z)))

def FinH (P : Par) (W : XW) (Xb : Bs) (σ : L2.St) (H : Hp) (Ow : Own) (res : Re (List Sl)) (Q : List V → Hp → Prop) : Prop := match res with
  | .ok ss r' => ∀ vs H' Ow' X1, Ext H Ow H' Ow' → (∀ a, Xb a → X1 a) → (∀ a, X1 a → Xb a ∨ H a = none) → Rho P H' Ow' X1 r' σ → HS P (BsOf Ow' X1) H' Xb X1 ss vs → Q vs H'
  | .exc c r' => ∀ H' Ow' d, Ext H Ow H' Ow' → Rho P H' Ow' Xb r' σ → W c d σ H'
  | .bad => False
def tHH (P : Par) (W : XW) (fs : Ro → Re (List Sl)) : TA := fun σ H Q => ∃ r Ow X, Rho P H Ow X r σ ∧ FinH P W X σ H Ow (fs r) Q
theorem h_nil : PA X [] (tHH P W fun r => .ok [] r) := PA.imp pa_nil fun σ H Q ⟨r, Ow, Xb, R, hf⟩ => hf [] H Ow Xb .refl (fun _ z => z) (fun _ z => .inl z) R (.nil fun _ z => z)
theorem h_cons {fs : Ro → Re (List Sl)} (ha : PE X a (tE P W fa)) (hr : PA X es (tHH P W fs)) (hn : ∀ x p, a ≠ .Starred x p) : PA X (a :: es) (tHH P W (consH fa fs)) := by
  refine PA.imp (pa_cons ha hr (starless hn)) fun σ H Q ⟨r, Ow, Xb, R, hf⟩ => ?_
  unfold consH at hf
  refine ⟨r, Ow, Xb, R, ?_⟩
  cases e : fa r with
  | ok x r1 =>
    simp only [e, Re.bind] at hf
    rintro v H1 ok
    cases hh : holdT r1 x with
    | none => simp only [hh, Re.bind] at hf; exact hf.elim
    | some dr =>
      obtain ⟨sl, r2⟩ := dr
      simp only [hh, Re.bind] at hf
      have isfr : (∃ ds, x = .fr ds ∧ sl = .own ds ∧ r2 = r1) ∨ ∃ d, sl = .val d ∧ mat r1 x = some (d, r2) := by
        unfold holdT at hh
        cases x with
        | fr ds => simp only [Option.some.injEq, Prod.mk.injEq] at hh; exact .inl ⟨ds, rfl, hh.1.symm, hh.2.symm⟩
        | frd => cases hh
        | d z => simp only [Option.map_eq_some_iff] at hh; obtain ⟨⟨d, r3⟩, h1, h2⟩ := hh; simp only [Prod.mk.injEq] at h2; exact .inr ⟨d, h2.1.symm, by rw [h1, h2.2]⟩
        | rf z => simp only [Option.map_eq_some_iff] at hh; obtain ⟨⟨d, r3⟩, h1, h2⟩ := hh; simp only [Prod.mk.injEq] at h2; exact .inr ⟨d, h2.1.symm, by rw [h1, h2.2]⟩
      rcases isfr with ⟨ds, rfl, rfl, rfl⟩ | ⟨d, rfl, m⟩
      · obtain ⟨Ow1, e1, ad, xs, rfl, na, ha, R1, rs⟩ := ok
        have nx : ¬ Xb ad := fun z => R.x ad z na
        have oa : ∀ j, Ow1 j ≠ some ad := fun j z => R1.disj j ad z (.inr rfl)
        refine ⟨r2, Ow1, addX Xb ad, R1, ?_⟩
        cases e' : fs r2 with
        | ok ss r3 =>
          simp only [e', Re.bind] at hf
          intro vs H2 Ow2 X2 e2 y1 y2 R2 h2
          refine hf _ H2 Ow2 X2 (e1.trans e2) (fun b z => y1 b (.inl z)) (fun b z => ?_) R2 ?_
          · rcases y2 b z with (z | z) | z
            · exact .inl z
            · exact .inr (by rw [z]; exact na)
            · refine .inr ?_
              cases q : H b with
              | none => rfl
              | some o => exact absurd z (e1.al b (by rw [q]; simp))
          · refine .own (Y' := fun b => X2 b ∧ b ≠ ad) (y1 ad (.inr rfl)) (fun z => z.2 rfl) (fun b z => z.1) (e2.keep ad _ ha oa (fun _ z => by cases z)) ?_ (h2.drop nx)
            exact rs.keep ((e2.toS []).kp2 y2)
        | exc c r3 =>
          simp only [e', Re.bind] at hf
          exact fun H' Ow' d e' R' => hf H' Ow' d (e1.trans e') (R'.weak addX_of)
        | bad => simp only [e', Re.bind] at hf; exact hf.elim
      · obtain ⟨Ow1, X1, e1, x1, x2, R1, h1⟩ := ok.hld R
        obtain ⟨Ow2, e2, R2, hv⟩ := h1.mat R1 x1 m
        refine ⟨r2, Ow2, Xb, R2, ?_⟩
        cases e' : fs r2 with
        | ok ss r3 =>
          simp only [e', Re.bind] at hf
          intro vs H3 Ow3 X3 e3 y1 y2 R3 h3
          refine hf (v :: vs) H3 Ow3 X3 ((e1.trans e2).trans e3) y1 (fun b z => ?_) R3 (.val (hv.keep ((e3.toS []).kp2 y2)) h3)
          rcases y2 b z with z | z
          · exact .inl z
          · refine .inr ?_
            cases q : H b with
            | none => rfl
            | some o => exact absurd z ((e1.trans e2).al b (by rw [q]; simp))
        | exc c r3 =>
          simp only [e', Re.bind] at hf
          exact fun H' Ow' d e' R' => hf H' Ow' d ((e1.trans e2).trans e') R'
        | bad => simp only [e', Re.bind] at hf; exact hf.elim
  | exc c r1 => simp only [e, Re.bind] at hf; exact hf
  | bad => simp only [e, Re.bind] at hf; exact hf.elim
/-- what all the values, held, are stored as -/
theorem ptup_core {is : List Nat} {fs : Ro → Re (List Sl)} {Q' : List V → Hp → Prop} (hS : ∀ i, i ∈ is → i ∈ S) (R : Rho P H Ow Xb r σ) (hf : FinS P W S Xb H Ow (ptupF is fs r) D) (hq : ∀ vs H1, gNames is vs σ H1 D.nx → Q' vs H1)
    (hqt : True) : FinH P W Xb σ H Ow (fs r) Q' := by
  unfold ptupF at hf
  cases e : fs r with
  | ok ss r1 =>
    simp only [e, Re.andS] at hf
    intro vs H1 Ow1 X1 e1 x1 x2 R1 h1
    cases q : asgH is ss r1 with
    | none => simp only [q] at hf; exact hf.elim
    | some r2 =>
      simp only [q] at hf
      refine hq vs H1 (asgH_ok h1 R1 (fun _ z => z) q fun σ' Ow' k1 k2 R' => hf σ' H1 Ow' ⟨e1.keep, fun i b z => ?_, fun i hi => ?_, e1.al⟩ R')
      · rcases k2 i b z with ⟨j, z'⟩ | z'
        · exact .inl ⟨j, e1.ow z'⟩
        · rcases x2 b z' with w | w
          · exact absurd w (R'.disj i b z)
          · exact .inr w
      · rcases k1 i (fun z => hi (hS i z)) with z | z
        · rw [z]; exact e1.st i
        · exact .inr z
  | exc c r1 => simp only [e, Re.andS] at hf; exact fun H' Ow' d e' R' => hf σ H' Ow' d (e'.toS S) R'
  | bad => simp only [e, Re.andS] at hf; exact hf.elim

theorem ptup_fin {is : List Nat} {ss : List Sl} {vs : List V} {r' : Ro} (hS : ∀ i, i ∈ is → i ∈ S) (e1 : Ext H Ow H1 Ow1) (x2 : ∀ a, X1 a → Xb a ∨ H a = none) (R1 : Rho P H1 Ow1 X1 r1 σ) (h1 : HS P (BsOf Ow1 X1) H1 Xb X1 ss vs) (q : asgH is ss r1 = some r') (hf : ∀ σ' H' Ow', ExtS S H Ow H' Ow' → Rho P H' Ow' Xb r' σ' → D.nx σ' H') :
    gNames is vs σ H1 D.nx := by
  refine asgH_ok h1 R1 (fun _ z => z) q fun σ' Ow' k1 k2 R' => hf σ' H1 Ow' ⟨e1.keep, fun i b z => ?_, fun i hi => ?_, e1.al⟩ R'
  · rcases k2 i b z with ⟨j, z'⟩ | z'
    · exact .inl ⟨j, e1.ow z'⟩
    · rcases x2 b z' with w | w
      · exact absurd w (R'.disj i b z)
      · exact .inr w
  · rcases k1 i (fun z => hi (hS i z)) with z | z
    · rw [z]; exact e1.st i
    · exact .inr z
theorem asgH_len : ∀ {is : List Nat} {ss : List Sl} {r r' : Ro}, asgH is ss r = some r' → ss.length = is.length
  | [], [], _, _, _ => rfl
  | [], _ :: _, _, _, e => by simp [asgH] at e
  | _ :: _, [], _, _, e => by simp [asgH] at e
  | i :: is, s :: ss, r, r', e => by simp only [asgH] at e; simp [asgH_len e]
theorem HS.length {B : Bs} {ss : List Sl} {vs : List V} (h : HS P B H X0 X1 ss vs) : ss.length = vs.length := by
  induction h with
  | nil _ => rfl
  | val _ _ ih => simp [ih]
  | own _ _ _ _ _ _ ih => simp [ih]
/-- a, b = x, y: stored at once -/
theorem ps_par2M (C : Cok P X W) {i j : Nat} {x y : Str} {px py pt : Pos} {kt k2 : Nat} {pt2 : Pos} {fs : Ro → Re (List Sl)} (hi : X.N[i]? = some x) (hj : X.N[j]? = some y) (hij : i ≠ j) (hx : X.env.scope.names.lookup x = some .local) (hy : X.env.scope.names.lookup y = some .local) (hS : ∀ l, l ∈ [i, j] → l ∈ S)
    (ha : PA X [a, b] (tHH P W fs)) (hw : swappedStores [.Tuple [.Name x px, .Name y py] kt pt] (.Tuple [a, b] k2 pt2) X.env = pure (some [x, y])) (hs : swapsWithSole [.Tuple [.Name x px, .Name y py] kt pt] (.Tuple [a, b] k2 pt2) pos.line X.env = pure false) :
    PS X (.Assign [.Tuple [.Name x px, .Name y py] kt pt] (.Tuple [a, b] k2 pt2) pos) (tS P W S (ptupF [i, j] fs)) := by
  refine PS.imp (ps_par C.calm C.nd hi hj hij hx hy ha hw hs) fun D σ H ⟨r, Ow, Xb, R, hf⟩ => ⟨r, Ow, Xb, R, ptup_core hS R hf (fun vs H1 h => ?_) trivial⟩
  obtain ⟨v, r1, rfl, w, r2, rfl, rfl, q⟩ := h
  exact ⟨v, w, rfl, q⟩
theorem ps_par3M (C : Cok P X W) {i j l : Nat} {x y z : Str} {px py pz pt : Pos} {kt k2 : Nat} {pt2 : Pos} {fs : Ro → Re (List Sl)} (hi : X.N[i]? = some x) (hj : X.N[j]? = some y) (hl : X.N[l]? = some z) (hij : i ≠ j) (hil : i ≠ l) (hjl : j ≠ l)
    (hx : X.env.scope.names.lookup x = some .local) (hy : X.env.scope.names.lookup y = some .local) (hz : X.env.scope.names.lookup z = some .local) (hS : ∀ m, m ∈ [i, j, l] → m ∈ S)
    (ha : PA X [a, b, c] (tHH P W fs)) (hw : swappedStores [.Tuple [.Name x px, .Name y py, .Name z pz] kt pt] (.Tuple [a, b, c] k2 pt2) X.env = pure (some [x, y, z])) (hs : swapsWithSole [.Tuple [.Name x px, .Name y py, .Name z pz] kt pt] (.Tuple [a, b, c] k2 pt2) pos.line X.env = pure false) :
    PS X (.Assign [.Tuple [.Name x px, .Name y py, .Name z pz] kt pt] (.Tuple [a, b, c] k2 pt2) pos) (tS P W S (ptupF [i, j, l] fs)) := by
  refine PS.imp (ps_par3 C.calm C.nd hi hj hl hij hil hjl hx hy hz ha hw hs) fun D σ H ⟨r, Ow, Xb, R, hf⟩ => ⟨r, Ow, Xb, R, ptup_core hS R hf (fun vs H1 h => ?_) trivial⟩
  obtain ⟨v, r1, rfl, w, r2, rfl, u, r3, rfl, rfl, q⟩ := h
  exact ⟨v, w, u, rfl, q⟩
/-- a, b, .. = (x, y, ..): by a tuple -/
theorem ps_tupM (C : Cok P X W) {is : List Nat} {ts vsx : List Expr} {kt k2 : Nat} {pt pt2 : Pos} {fs : Ro → Re (List Sl)} (hl : Locs X ts is) (hn : is.length ≤ 100) (hS : ∀ l, l ∈ is → l ∈ S) (ha : PA X vsx (tHH P W fs))
    (hw : swappedStores [.Tuple ts kt pt] (.Tuple vsx k2 pt2) X.env = pure none) (hs : swapsWithSole [.Tuple ts kt pt] (.Tuple vsx k2 pt2) pos.line X.env = pure false) : PS X (.Assign [.Tuple ts kt pt] (.Tuple vsx k2 pt2) pos) (tS P W S (ptupF is fs)) := by
  refine PS.imp (ps_asg (pe_tup ha) (pg_many C hl) hs hw) fun D σ H ⟨r, Ow, Xb, R, hf⟩ => ⟨r, Ow, Xb, R, ?_⟩
  unfold ptupF at hf
  cases e : fs r with
  | ok ss r1 =>
    simp only [e, Re.andS] at hf
    intro vs H1 Ow1 X1 e1 x1 x2 R1 h1
    cases q : asgH is ss r1 with
    | none => simp only [q] at hf; exact hf.elim
    | some r2 =>
      simp only [q] at hf
      have hlen : vs.length = is.length := by rw [← h1.length, asgH_len q]
      refine ⟨by rw [hlen, sizeLine_eq]; omega, fun p hp => ⟨p, vs, rfl, .inl (.inl upd_same), hlen, ?_⟩⟩
      have ex : Ext H1 Ow1 (upd H1 p (.tup vs)) Ow1 := .new hp
      have R2 : Rho P (upd H1 p (.tup vs)) Ow1 X1 r1 σ := (R1.new (o := .tup vs) hp).weak addX_of
      refine ptup_fin hS (e1.trans ex) x2 R2 (h1.keep ex.kp (fun b xs hb h => ?_) (fun _ z => z)) q hf
      rw [upd_ne (ne_of_none h hp)]; exact h
  | exc c r1 => simp only [e, Re.andS] at hf; exact fun H' Ow' d e' R' => hf σ H' Ow' d (e'.toS S) R'
  | bad => simp only [e, Re.andS] at hf; exact hf.elim

/-! ### name[i] op= value -/
def rGetL : V → V → Hp → VK → Prop := fun o i H Q => ∃ p xs k j w, o = .ref p ∧ i = .int k ∧ H p = some (.lst xs) ∧ ixN xs.length k = some j ∧ xs[j]? = some w ∧ Q w H
theorem get_listM : PGet X rGetL := by
  intro pins s σ H o i ov iv Q I ro ri h
  obtain ⟨p, xs, k, j, w, rfl, rfl, hp, hj, hw, q⟩ := h
  cases ro
  obtain ⟨t, rfl⟩ := ri
  obtain ⟨its, rv, pl, hz⟩ := I.list (.inl (.inl hp))
  obtain ⟨u, hu, ru⟩ := rv.get hw
  obtain ⟨h1, h2, h3, h4⟩ := ixN_seq hj
  have hl := rv.length
  have fin : EP X pins σ Q u s := ⟨w, H, I, ru, q⟩
  rw [sizeLine_eq] at hz
  by_cases h0 : 0 ≤ k
  · have hjk : k.toNat = j := by
      have hj : L2.ixN xs.length k = some j := hj
      unfold L2.ixN at hj
      rw [if_pos h0] at hj
      split at hj
      · exact Option.some.inj hj
      · omega
    exact wpAny_getItem_list pl.isList h0 (by omega) (by rw [hjk]; simpa using hu) fin
  · have hjk : (k + (its.toArray.size : Int)).toNat = j := by
      have hj : L2.ixN xs.length k = some j := hj
      unfold L2.ixN at hj
      rw [if_neg h0] at hj
      split at hj
      · rw [List.size_toArray, ← hl]; exact Option.some.inj hj
      · omega
    exact wpAny_getItem_list_neg pl.isList (by omega) (by rw [List.size_toArray]; omega) (by omega) (by rw [hjk]; simpa using hu) fin

theorem ps_augixM (C : Cok P X W) {op : Bop} (ho : op = .add ∨ op = .sub ∨ op = .mul) {i : Nat} {x : Str} {ixe : Expr} {k : Pos} (hN : X.N[i]? = some x) (hv : Vis X.env.scope x) (hd : (x == ("__debug__" : Str)) = false) (hcd : (x == ("__classdict__" : Str)) = false)
    (hb : PE X ixe (tE P W fb)) (ha : PE X a (tE P W fa)) (hga : ∀ ov iv new, augStore ixe ov iv new = (do holding [new, ov, iv] (setItem ov iv new); release [new, ov, iv] []; pure .next)) :
    PS X (.AugAssign (.Subscript (.Name x np) ixe k) (opOf op) a pos) (tS P W S (augixF i fb op fa)) := by
  refine PS.imp (ps_augS (pe_var hN hv hd hcd) hb get_listM ha (ip_binI ho) set_list hga) fun D σ H ⟨r, Ow, Xb, R, hf⟩ => ?_
  unfold augixF at hf
  cases q : r[i]? with
  | none => simp only [q] at hf; exact hf.elim
  | some sl =>
    cases sl with
    | own ds =>
      simp only [q] at hf
      obtain ⟨ad, xs, o1, o2, o3, o4⟩ := R.sl i _ q
      refine ⟨.ref ad, o2, ?_⟩
      refine intoS R hf fun u r1 v H1 _ ok hk => ?_
      obtain ⟨Ow1, X1, e1, x1, x2, R1, h1⟩ := ok.hld R
      cases u with
      | d z =>
        cases z with
        | int n =>
          simp only at hk
          cases int_of h1
          cases q1 : r1[i]? with
          | none => simp only [q1] at hk; exact hk.elim
          | some sl =>
            cases sl with
            | own es =>
              simp only [q1] at hk
              have R1b := R1.weak x1
              obtain ⟨ad', ys, w1, w2, w3, w4⟩ := R1b.sl i _ q1
              rw [o2] at w2
              simp only [Option.some.injEq, V.ref.injEq] at w2
              subst w2
              have hl := w4.length
              cases qg : getI es n with
              | none => simp only [qg] at hk; exact hk.elim
              | some dz =>
                simp only [qg] at hk
                cases dz with
                | int m =>
                  simp only at hk
                  unfold getI at qg
                  simp only [Option.bind_eq_some_iff] at qg
                  obtain ⟨j, j1, j2⟩ := qg
                  obtain ⟨w, k1, k2⟩ := w4.get j2
                  cases k2
                  refine ⟨ad, ys, n, j, .int m, rfl, rfl, w3, by rw [← hl]; exact j1, k1, ?_⟩
                  refine intoS R1b (hk.lift (e1.toS S)) fun t r2 v2 H2 _ ok2 hk2 => ?_
                  obtain ⟨Ow2, X2, e2, y1, y2, R2, h2⟩ := ok2.hld R1b
                  cases t with
                  | d z =>
                    cases z with
                    | int b =>
                      simp only at hk2
                      cases int_of h2
                      cases qb : binI op m b with
                      | none => simp only [qb] at hk2; exact hk2.elim
                      | some vv =>
                        simp only [qb] at hk2
                        cases q2 : r2[i]? with
                        | none => simp only [q2] at hk2; exact hk2.elim
                        | some sl =>
                          cases sl with
                          | own fs =>
                            simp only [q2] at hk2
                            cases qn : ixN fs.length n with
                            | none => simp only [qn] at hk2; exact hk2.elim
                            | some j' =>
                              simp only [qn] at hk2
                              have R2b := R2.weak y1
                              obtain ⟨ad', zs, z1, z2, z3, z4, put⟩ := R2b.put q2
                              rw [o2] at z2
                              simp only [Option.some.injEq, V.ref.injEq] at z2
                              subst z2
                              have hl2 := z4.length
                              obtain ⟨pe, kp, pr⟩ := put (zs.set j' (.int vv))
                              exact ⟨m, b, vv, rfl, rfl, qb, ad, zs, n, j', rfl, rfl, z3, by rw [← hl2]; exact qn, hk2 σ _ Ow2 ((e2.trans pe).toS S) (pr _ (z4.set j' (.int vv)))⟩
                          | _ => simp only [q2] at hk2; exact hk2.elim
                    | _ => exact hk2.elim
                  | _ => exact hk2.elim
                | _ => exact hk.elim
            | _ => simp only [q1] at hk; exact hk.elim
        | _ => exact hk.elim
      | _ => exact hk.elim
    | _ => simp only [q] at hf; exact hf.elim
end
end MP
set_option linter.all false
set_option Elab.async false
set_option maxRecDepth 100000
set_option maxHeartbeats 1000000
/-! MP25: from the kit's syntax to ours. -/
namespace MP
open PySem PySem.Spec PyProof.Rows L2 PySem.SeqAt

/-- what the text's global names are -/
structure GS where
  fns : List (Str × (Nat × Nat × List Dv × List Nat))
  cons : List (Str × Dv)
  clss : List (Str × Nat)
/-- built-ins that the translator uses: none of them is a global of the text -/
def bltNames : List Str := ["len", "abs", "int", "max", "min", "sum", "all", "any", "tuple", "list", "sorted", "set", "isinstance", "range", "enumerate", "zip", "reversed", "bool", "str"]
def ixOf : List Str → Str → Option Nat
  | [], _ => none
  | y :: r, x => if decide (y = x) then some 0 else (ixOf r x).map (· + 1)
theorem ixOf_get : ∀ {N : List Str} {x : Str} {i : Nat}, ixOf N x = some i → N[i]? = some x
  | [], _, _, h => by cases h
  | y :: r, x, i, h => by
    simp only [ixOf] at h
    split at h
    · rename_i e
      simp only [Option.some.injEq] at h
      subst h
      simpa using e
    · simp only [Option.map_eq_some_iff] at h
      obtain ⟨j, h1, rfl⟩ := h
      simpa using ixOf_get h1
def isLoc (sc : Scope) (x : Str) : Bool := match sc.names.lookup x with
  | some .local => true
  | some .cell => true
  | _ => false
def isVis (sc : Scope) (x : Str) : Bool := match sc.names.lookup x with
  | some .local => true
  | some .cell => true
  | some .free => true
  | _ => false
def isGl (sc : Scope) (x : Str) : Bool := match sc.names.lookup x with
  | some .globalImplicit => true
  | _ => false
def okName (x : Str) : Bool := !(x == ("__debug__" : Str)) && !(x == ("__classdict__" : Str))
theorem isLoc_ok {sc : Scope} {x : Str} (h : isLoc sc x = true) : Loc sc x := by
  unfold isLoc at h
  split at h <;> first | exact .inl (by assumption) | exact .inr (by assumption) | cases h
theorem isVis_ok {sc : Scope} {x : Str} (h : isVis sc x = true) : Vis sc x := by
  unfold isVis at h
  split at h <;> first | exact .inl (by assumption) | exact .inr (.inl (by assumption)) | exact .inr (.inr (by assumption)) | cases h
theorem isGl_ok {sc : Scope} {x : Str} (h : isGl sc x = true) : sc.names.lookup x = some .globalImplicit := by
  unfold isGl at h
  split at h
  · assumption
  · cases h
theorem okName_ok {x : Str} (h : okName x = true) : (x == ("__debug__" : Str)) = false ∧ (x == ("__classdict__" : Str)) = false := by
  simpa [okName] using h
/-- a name's slot -/
def slotOf (sc : Scope) (N : List Str) (x : Str) : Option Nat := if isVis sc x && okName x then ixOf N x else none
def locOf (sc : Scope) (N : List Str) (x : Str) : Option Nat := if isLoc sc x && okName x then ixOf N x else none
def blt (sc : Scope) (x y : Str) : Bool := decide (x = y) && isGl sc x
def bopOf : Operator → Option Bop
  | .Add => some .add | .Sub => some .sub | .Mult => some .mul | .FloorDiv => some .fdiv | .Mod => some .mod | .Pow => some .pow | _ => none
theorem bopOf_ok {o : Operator} {b : Bop} (h : bopOf o = some b) : opOf b = o := by
  cases o <;> simp only [bopOf, Option.some.injEq, reduceCtorEq] at h <;> subst h <;> rfl
def copFrom : CmpOp → Option Cop
  | .Eq => some .eq | .NotEq => some .ne | .Lt => some .lt | .LtE => some .le | .Gt => some .gt | .GtE => some .ge | .In => some .inn | .NotIn => some .nin | _ => none
theorem copFrom_ok {o : CmpOp} {b : Cop} (h : copFrom o = some b) : copOf b = o := by
  cases o <;> simp only [copFrom, Option.some.injEq, reduceCtorEq] at h <;> subst h <;> rfl
def isStar : Expr → Bool
  | .Starred _ _ => true
  | _ => false
def isSlice : Expr → Bool
  | .Slice _ _ _ _ => true
  | _ => false
def isSetE : Expr → Bool
  | .Set _ _ _ => true
  | _ => false
def isCallN : Expr → Bool
  | .Call (.Name _ _) [] [] _ => true
  | _ => false
def tyKOf (x : Str) : Option TyK := if decide (x = "int") then some .int else if decide (x = "bool") then some .bool else if decide (x = "tuple") then some .tuple else if decide (x = "list") then some .list else if decide (x = "str") then some .str else none

def nameOf : Expr → Option Str
  | .Name x _ => some x
  | _ => none
/-- targets -/
def locsOf (sc : Scope) (N : List Str) : List Expr → Option (List Nat)
  | [] => some []
  | .Name x _ :: r => match locOf sc N x, locsOf sc N r with
    | some i, some is => some (i :: is)
    | _, _ => none
  | _ => none
def tgOf (sc : Scope) (N : List Str) : Expr → Option Tg
  | .Name x _ => (locOf sc N x).map .one
  | .Tuple es _ _ => (locsOf sc N es).map .tup
  | _ => none
/-- a comprehension's own names, with their slots -/
def ownOf (N : List Str) (names : List (Str × NameKind)) : List (Str × Nat) := names.filterMap fun y => match y.2 with
  | .local => (ixOf N y.1).map (y.1, ·)
  | .cell => (ixOf N y.1).map (y.1, ·)
  | _ => none
def isTupT' : Tg → Bool
  | .tup _ => true
  | .one _ => false

def isTupE : Expr → Bool
  | .Tuple _ _ _ => true
  | _ => false
section
variable (G : GS) (N : List Str)
mutual
def trE : Nat → Scope → Expr → Option E
  | 0, _, _ => none
  | n + 1, sc, e => match e with
    | .Constant .none _ _ => some .non
    | .Constant (.bool b) _ _ => some (.bl b)
    | .Constant (.int i) _ _ => some (.int i)
    | .Constant (.str x) _ _ => some (.str x)
    | .Name x _ => match slotOf sc N x with
      | some i => some (.var i)
      | none => if isGl sc x && okName x then (G.cons.lookup x).map fun v => .glb v 0 else none
    | .BinOp a op b _ => match bopOf op, trE n sc a, trE n sc b with
      | some o, some x, some y => some (.bin o x y)
      | _, _, _ => none
    | .UnaryOp .USub a _ => (trE n sc a).map .neg
    | .UnaryOp .Not a _ => (trE n sc a).map .not
    | .BoolOp .And (a :: b :: rest) p => match trE n sc a, trE n sc (.BoolOp .And (b :: rest) p) with
      | some x, some y => some (.and x y)
      | _, _ => none
    | .BoolOp .Or (a :: b :: rest) p => match trE n sc a, trE n sc (.BoolOp .Or (b :: rest) p) with
      | some x, some y => some (.or x y)
      | _, _ => none
    | .BoolOp .And [a] _ => trE n sc a
    | .BoolOp .Or [a] _ => trE n sc a
    | .IfExp c a b _ => match trE n sc c, trE n sc a, trE n sc b with
      | some z, some x, some y => some (.ite z x y)
      | _, _, _ => none
    | .Compare a [.Is] [.Constant .none _ _] _ => (trE n sc a).map (.isN · false)
    | .Compare a [.IsNot] [.Constant .none _ _] _ => (trE n sc a).map (.isN · true)
    | .Compare a [op] [b] _ => if isSetE b then none else match copFrom op, trE n sc a, trE n sc b with
      | some o, some x, some y => some (.cmp o x y)
      | _, _, _ => none
    | .Compare a [op, op'] [b, c] _ => if isSetE c then none else match copFrom op, copFrom op', trE n sc a, trE n sc b, trE n sc c with
      | some o, some o', some x, some y, some z => some (.chain o o' x y z)
      | _, _, _, _, _ => none
    | .Tuple es _ _ => (trK n sc es).map .tup
    | .List es _ => (trK n sc es).map .disp
    | .Subscript a (.Slice lo hi none _) _ => match trE n sc a, trO n sc lo, trO n sc hi with
      | some x, some l, some h => some (.slc x l h)
      | _, _, _ => none
    | .Subscript a b _ => if isSlice b then none else match trE n sc a, trE n sc b with
      | some x, some y => some (.idx x y)
      | _, _ => none
    | .ListComp elt [⟨tg, iter, ifs, 0⟩] scope _ => match trI n sc (isTupE tg) iter, tgOf scope N tg with
      | some it, some t => if blkC N sc scope (ownOf N scope.names) && (tgs t).all (fun i => ((ownOf N scope.names).map (·.2)).any fun j => Nat.beq i j) then match trE n (relS scope sc) elt, ifs with
          | some x, [] => some (.comp x t it .no ((ownOf N scope.names).map (·.2)))
          | some x, [c] => (trE n (relS scope sc) c).map fun z => .comp x t it (.yes z) ((ownOf N scope.names).map (·.2))
          | _, _ => none
        else none
      | _, _ => none
    | .Call (.Name f _) args [] _ => trC n sc f args
    | .Call (.Name f _) [a] [⟨some k, .Constant (.bool true) _ _, _⟩] _ => if blt sc f "sorted" && decide (k = "reverse") then (trE n sc a).map fun x => .bi (.sortedL false) (.cons x .nil) else none
    | .Call (.Attribute o m ap) args [] cp => if Nat.beq ap.endLine cp.line then trM n sc o m args else none
    | _ => none
def trC : Nat → Scope → Str → List Expr → Option E
  | 0, _, _, _ => none
  | n + 1, sc, f, args => match G.fns.lookup f with
    | some (i, np, ds, lent) => if isGl sc f && okName f && (Nat.ble args.length np && Nat.ble (np - args.length) ds.length) && !args.isEmpty then (trA n sc lent 0 args).map fun es => .call i es (ds.drop (ds.length - (np - args.length))) else none
    | none => match args with
      | [a] => if isStar a then none else
          if blt sc f "len" then match a with
            | .Call (.Name g _) [b] [] _ => if blt sc g "set" then (if isStar b then none else (trE n sc b).map fun x => .bi .lenSet (.cons x .nil)) else (trE n sc a).map fun x => .bi .len (.cons x .nil)
            | _ => (trE n sc a).map fun x => .bi .len (.cons x .nil)
          else if blt sc f "abs" then (trE n sc a).map fun x => .bi .abs (.cons x .nil)
          else if blt sc f "int" then (trE n sc a).map fun x => .bi .int (.cons x .nil)
          else if blt sc f "max" then (trE n sc a).map fun x => .bi .maxL (.cons x .nil)
          else if blt sc f "sum" then (trE n sc a).map fun x => .bi .sumL (.cons x .nil)
          else if blt sc f "all" then (trE n sc a).map fun x => .bi .allL (.cons x .nil)
          else if blt sc f "any" then (trE n sc a).map fun x => .bi .anyS (.cons x .nil)
          else if blt sc f "tuple" then (trE n sc a).map fun x => .bi .tupleOf (.cons x .nil)
          else if blt sc f "list" then (trE n sc a).map fun x => .bi .listOf (.cons x .nil)
          else if blt sc f "sorted" then (trE n sc a).map fun x => .bi (.sortedL true) (.cons x .nil)
          else none
      | [a, b] => if isStar a || isStar b then none else
          if blt sc f "max" then match trE n sc a, trE n sc b with
            | some x, some y => some (.bi .max2 (.cons x (.cons y .nil)))
            | _, _ => none
          else if blt sc f "min" then match trE n sc a, trE n sc b with
            | some x, some y => some (.bi .min2 (.cons x (.cons y .nil)))
            | _, _ => none
          else if blt sc f "isinstance" then match b with
            | .Name t _ => if isGl sc t then match tyKOf t with
                | some k => (trE n sc a).map fun x => .bi (.isi k) (.cons x .nil)
                | none => none
              else none
            | .Tuple [.Name t _, .Name u _] _ _ => if blt sc t "tuple" && blt sc u "list" then (trE n sc a).map fun x => .bi .isTL (.cons x .nil) else none
            | _ => none
          else none
      | _ => none
def trM : Nat → Scope → Expr → Str → List Expr → Option E
  | 0, _, _, _, _ => none
  | n + 1, sc, o, m, args => if isCallN o then none else match args with
    | [b] => if isStar b then none else if decide (m = "index") then match trE n sc o, trE n sc b with
          | some x, some y => some (.mindex x y)
          | _, _ => none
        else if decide (m = "count") then match trE n sc o, trE n sc b with
          | some x, some y => some (.mcount x y)
          | _, _ => none
        else none
    | [] => if decide (m = "pop") then match o with
          | .Name x _ => (slotOf sc N x).map .mpop
          | _ => none
        else none
    | _ => none
def trO : Nat → Scope → Option Expr → Option Opt
  | 0, _, _ => none
  | n + 1, sc, o => match o with
    | none => some .no
    | some e => (trE n sc e).map .yes
/-- a display's items -/
def trK : Nat → Scope → List Expr → Option Es
  | 0, _, _ => none
  | n + 1, sc, es => match es with
    | [] => some .nil
    | a :: r => if isStar a then none else match trE n sc a, trK n sc r with
      | some x, some y => some (.cons x y)
      | _, _ => none
/-- a def's arguments -/
def trA : Nat → Scope → List Nat → Nat → List Expr → Option Es
  | 0, _, _, _, _ => none
  | n + 1, sc, lent, k, es => match es with
    | [] => some .nil
    | a :: r => if lent.any (fun j => Nat.beq j k) then match a with
        | .Name x _ => match slotOf sc N x, trA n sc lent (k + 1) r with
          | some i, some y => some (.io i y)
          | _, _ => none
        | _ => none
      else if isStar a then none else match trE n sc a, trA n sc lent (k + 1) r with
        | some x, some y => some (.cons x y)
        | _, _ => none
def trI : Nat → Scope → Bool → Expr → Option It
  | 0, _, _, _ => none
  | n + 1, sc, tp, e => match e with
    | .Call (.Name f _) [a] [] _ => if isStar a then none else if blt sc f "range" then (trE n sc a).map .rng1
        else if blt sc f "enumerate" then (if tp then (trE n sc a).map .enum else none)
        else (trE n sc e).map .seq
    | .Call (.Name f _) [a, b] [] _ => if isStar a || isStar b then none else if blt sc f "range" then match trE n sc a, trE n sc b with
            | some x, some y => some (.rng2 x y)
            | _, _ => none
        else if blt sc f "zip" then (if tp then match trE n sc a, trE n sc b with
            | some x, some y => some (.zip x y)
            | _, _ => none
          else none)
        else (trE n sc e).map .seq
    | .Call (.Name f _) [a, b, c] [] _ => if isStar a || isStar b || isStar c then none else if blt sc f "range" then match trE n sc a, trE n sc b, trE n sc c with
            | some x, some y, some z => some (.rng3 x y z)
            | _, _, _ => none
        else (trE n sc e).map .seq
    | _ => if isSetE e then none else (trE n sc e).map .seq
end
end
end MP
set_option linter.all false
set_option Elab.async false
set_option maxRecDepth 100000
set_option maxHeartbeats 2000000
/-! MP26: the translation is right. -/
namespace MP
open PySem PySem.Spec PyProof.Rows L2 PySem.SeqAt

structure Fits (G : GS) (N : List Str) (P : Par) (tb : Tbl) (Wf : WhileF) (m : Nat) (sc : Scope) (X : Cx) (W : XW) : Prop where
  cok : Cok P X W
  N : X.N = N
  sc : X.env.scope = sc
  room : Room m X.A
  blt : ∀ x, x ∈ bltNames → X.mg x = none
  fns : ∀ name i np ds lent, G.fns.lookup name = some (i, np, ds, lent) → ∃ (fad : Addr) (fd : FuncData) (ps : List Str), X.mg name = some (.ref fad) ∧ PySem.W.keepIn X.K (.ref fad) = true ∧
    FnOk X.prog X.w X.K X.mg X.base (L2.CX X.prog X.w) m fad fd ps (SpecOf P (callN tb Wf m) i np) ∧ ∀ j, j ≤ ds.length → ∃ (dvs : List V) (dus : List Value), Binds X.K fd ps dus ∧ Vals dvs dus ∧ ∀ B H, Rvs P B H (ds.drop j) dvs
  cons : ∀ name v, G.cons.lookup name = some v → ∃ (u : Value) (w : V), X.mg name = some u ∧ RelV w u ∧ ∀ B H, Rv P B H v w

section
variable {G : GS} {N : List Str} {P : Par} {tb : Tbl} {Wf : WhileF} {m : Nat} {sc : Scope} {X : Cx} {W : XW} {es : List Expr}
theorem Fits.gl (F : Fits G N P tb Wf m sc X W) {x : Str} (h : isGl sc x = true) : Gl X x := by
  show X.env.kindOf x = _
  have := isGl_ok h
  rw [← F.sc] at this; exact this
theorem blt_of {x y : Str} (h : MP.blt sc x y = true) : x = y ∧ isGl sc y = true := by
  unfold MP.blt at h
  rw [Bool.and_eq_true, decide_eq_true_eq] at h
  obtain ⟨rfl, h⟩ := h
  exact ⟨rfl, h⟩
theorem Fits.slot (F : Fits G N P tb Wf m sc X W) {x : Str} {i : Nat} (h : slotOf sc N x = some i) : X.N[i]? = some x ∧ Vis X.env.scope x ∧ (x == ("__debug__" : Str)) = false ∧ (x == ("__classdict__" : Str)) = false := by
  unfold slotOf at h
  split at h
  · rename_i hc
    rw [Bool.and_eq_true] at hc
    rw [F.N, F.sc]
    exact ⟨ixOf_get h, isVis_ok hc.1, okName_ok hc.2⟩
  · cases h
theorem Fits.loc (F : Fits G N P tb Wf m sc X W) {x : Str} {i : Nat} (h : locOf sc N x = some i) : X.N[i]? = some x ∧ Loc X.env.scope x ∧ okName x = true := by
  unfold locOf at h
  split at h
  · rename_i hc
    rw [Bool.and_eq_true] at hc
    rw [F.N, F.sc]
    exact ⟨ixOf_get h, isLoc_ok hc.1, hc.2⟩
  · cases h
theorem notStar {e : Expr} (h : isStar e = false) : ∀ x p, e ≠ .Starred x p := fun x p z => by rw [z] at h; cases h
theorem nomark2 {op : CmpOp} {b : Expr} (h : isSetE b = false) : behindInMarks op b = false := by
  cases b <;> first | rfl | cases h
theorem star_nil {pos : Pos} {env : Env} : (backTo pos (starEach [] env)).any (·.1) = false := rfl
theorem stars_ok {pos : Pos} {env : Env} : ∀ {es : List Expr}, (es.all fun e => !isStar e) = true → (backTo pos (starEach es env)).any (·.1) = false
  | [], _ => rfl
  | e :: es, h => by
    rw [List.all_cons, Bool.and_eq_true, Bool.not_eq_true'] at h
    rw [starless (notStar h.1)]
    show (false || (backTo pos (starEach es env)).any (·.1)) = false
    rw [stars_ok h.2]; rfl
theorem s_bool1 {op : BoolOp} {a : Expr} {pos : Pos} {t : TE} (h : PE X a t) : PE X (.BoolOp op [a] pos) t := ⟨fun pins s σ H Q I q => by
  have := h.run pins s σ H Q I q
  show wpAny _ _ (boolOp pos op [eval a X.env]) _ _ _
  exact this⟩
theorem ev_name {x : Str} {pos : Pos} {i : Nat} (F : Fits G N P tb Wf m sc X W) (h : slotOf sc N x = some i) : PE X (.Name x pos) (tE P W (varF i)) := by
  obtain ⟨h1, h2, h3, h4⟩ := F.slot h
  exact s_var h1 h2 h3 h4
theorem ev_glb {x : Str} {pos : Pos} {v : Dv} (F : Fits G N P tb Wf m sc X W) (hg : isGl sc x = true) (ho : okName x = true) (h : G.cons.lookup x = some v) : PE X (.Name x pos) (tE P W (constF v)) := by
  obtain ⟨u, w, h1, h2, h3⟩ := F.cons x v h
  exact s_const (pe_glob (F.gl hg) h1 h2 (okName_ok ho).1) h3
end
section
variable (G : GS) (N : List Str) (P : Par) (tb : Tbl) (Wf : WhileF) (m : Nat)
def OkE (n : Nat) : Prop := ∀ (sc : Scope) (e : Expr) (E : MP.E) (X : Cx) (W : XW), trE G N n sc e = some E → Fits G N P tb Wf m sc X W → PE X e (tE P W (ev (callN tb Wf m) E))
def OkC (n : Nat) : Prop := ∀ (sc : Scope) (f : Str) (p pos : Pos) (args : List Expr) (E : MP.E) (X : Cx) (W : XW), trC G N n sc f args = some E → Fits G N P tb Wf m sc X W → PE X (.Call (.Name f p) args [] pos) (tE P W (ev (callN tb Wf m) E))
def OkM (n : Nat) : Prop := ∀ (sc : Scope) (o : Expr) (mm : Str) (ap cp : Pos) (args : List Expr) (E : MP.E) (X : Cx) (W : XW), trM G N n sc o mm args = some E → Nat.beq ap.endLine cp.line = true → Fits G N P tb Wf m sc X W → PE X (.Call (.Attribute o mm ap) args [] cp) (tE P W (ev (callN tb Wf m) E))
def OkO (n : Nat) : Prop := ∀ (sc : Scope) (o : Option Expr) (O : Opt) (X : Cx) (W : XW), trO G N n sc o = some O → Fits G N P tb Wf m sc X W → PO X o (tO P W (evo (callN tb Wf m) O))
def OkK (n : Nat) : Prop := ∀ (sc : Scope) (es : List Expr) (Es : MP.Es) (X : Cx) (W : XW), trK G N n sc es = some Es → Fits G N P tb Wf m sc X W → PA X es (tKA P W (evs (callN tb Wf m) Es))
def OkA (n : Nat) : Prop := ∀ (sc : Scope) (lent : List Nat) (k : Nat) (es : List Expr) (Es : MP.Es) (X : Cx) (W : XW), trA G N n sc lent k es = some Es → Fits G N P tb Wf m sc X W → PA X es (tAA P W (eva (callN tb Wf m) Es)) ∧ (es.all fun e => !isStar e) = true ∧ ∀ r as r1, eva (callN tb Wf m) Es r = .ok as r1 → as.length = es.length
def OkI (n : Nat) : Prop := ∀ (sc : Scope) (tg e : Expr) (I : MP.It) (X : Cx) (W : XW), trI G N n sc (isTupE tg) e = some I → Fits G N P tb Wf m sc X W → ∃ pr, (pr = true → isTupE tg = true) ∧ PI X tg e (tI P W pr (evi (callN tb Wf m) I)) ∧ ∀ x, foldedSetIterable e X.env x = pure x
def OkT (n : Nat) : Prop := ∀ (sc : Scope) (e : Expr) (E : MP.E) (X : Cx) (W : XW), trE G N n sc e = some E → Fits G N P tb Wf m sc X W → PT X e (tT P W fun r => asB (ev (callN tb Wf m) E r))
end
section
variable {G : GS} {N : List Str} {P : Par} {tb : Tbl} {Wf : WhileF} {m n : Nat}
theorem okO_succ (hE : OkE G N P tb Wf m n) : OkO G N P tb Wf m (n + 1) := by
  intro sc o O X W h F
  cases o with
  | none =>
    simp only [trO, Option.some.injEq] at h
    subst h
    exact o_none
  | some e =>
    simp only [trO, Option.map_eq_some_iff] at h
    obtain ⟨x, h1, rfl⟩ := h
    exact o_some (hE sc e x X W h1 F)
theorem okK_succ (hE : OkE G N P tb Wf m n) (hK : OkK G N P tb Wf m n) : OkK G N P tb Wf m (n + 1) := by
  intro sc es Es X W h F
  cases es with
  | nil =>
    simp only [trK, Option.some.injEq] at h
    subst h
    exact k_nil
  | cons a r =>
    simp only [trK] at h
    split at h
    · cases h
    · rename_i hs
      split at h
      · rename_i x y h1 h2
        simp only [Option.some.injEq] at h
        subst h
        exact k_cons (hE sc a x X W h1 F) (hK sc r y X W h2 F) (notStar (by simpa using hs))
      · cases h
theorem okA_succ (hE : OkE G N P tb Wf m n) (hA : OkA G N P tb Wf m n) : OkA G N P tb Wf m (n + 1) := by
  intro sc lent k es Es X W h F
  cases es with
  | nil =>
    simp only [trA, Option.some.injEq] at h
    subst h
    refine ⟨ar_nil, rfl, fun r as r1 e => ?_⟩
    simp only [eva, Re.ok.injEq] at e
    rw [← e.1]; rfl
  | cons a r =>
    simp only [trA] at h
    split at h
    · split at h
      · rename_i x q
        split at h
        · rename_i i y h1 h2
          simp only [Option.some.injEq] at h
          subst h
          obtain ⟨k1, k2, k3⟩ := hA sc lent (k + 1) r y X W h2 F
          obtain ⟨s1, s2, s3, s4⟩ := F.slot h1
          refine ⟨ar_io s1 s2 s3 s4 k1, by rw [List.all_cons, k2]; rfl, fun r' as r1 e => ?_⟩
          simp only [eva, ioA] at e
          split at e
          · cases q : eva (callN tb Wf m) y r' with
            | ok as' r2 =>
              simp only [q, Re.bind, Re.ok.injEq] at e
              rw [← e.1, List.length_cons, k3 _ _ _ q]; rfl
            | exc c r2 => simp only [q, Re.bind] at e; cases e
            | bad => simp only [q, Re.bind] at e; cases e
          · cases q : eva (callN tb Wf m) y r' with
            | ok as' r2 =>
              simp only [q, Re.bind, Re.ok.injEq] at e
              rw [← e.1, List.length_cons, k3 _ _ _ q]; rfl
            | exc c r2 => simp only [q, Re.bind] at e; cases e
            | bad => simp only [q, Re.bind] at e; cases e
          · cases e
        · cases h
      · cases h
    · split at h
      · cases h
      · rename_i hs
        split at h
        · rename_i x y h1 h2
          simp only [Option.some.injEq] at h
          subst h
          obtain ⟨k1, k2, k3⟩ := hA sc lent (k + 1) r y X W h2 F
          have hs' : isStar a = false := by simpa using hs
          refine ⟨ar_cons (hE sc a x X W h1 F) k1 (notStar hs'), by rw [List.all_cons, k2, hs']; rfl, fun r' as r1 e => ?_⟩
          simp only [eva, consA] at e
          cases q : ev (callN tb Wf m) x r' with
          | ok t r2 =>
            simp only [q, Re.bind] at e
            split at e
            · rename_i d r3 _
              cases q2 : eva (callN tb Wf m) y r3 with
              | ok as' r4 =>
                simp only [q2, Re.ok.injEq] at e
                rw [← e.1, List.length_cons, k3 _ _ _ q2]; rfl
              | exc c r2 => simp only [q2] at e; cases e
              | bad => simp only [q2] at e; cases e
            · cases e
          | exc c r2 => simp only [q, Re.bind] at e; cases e
          | bad => simp only [q, Re.bind] at e; cases e
        · cases h
end
end MP
set_option linter.all false
set_option Elab.async false
set_option maxRecDepth 100000
set_option maxHeartbeats 4000000
/-! MP27: the translation is right, further. -/
namespace MP
open PySem PySem.Spec PyProof.Rows L2 PySem.SeqAt
theorem bt_len : bootBuiltins "len" = some (.builtin "len") := by decide +kernel
theorem bt_abs : bootBuiltins "abs" = some (.builtin "abs") := by decide +kernel
theorem bt_int : bootBuiltins "int" = some (.type "int") := by decide +kernel
theorem bt_max : bootBuiltins "max" = some (.builtin "max") := by decide +kernel
theorem bt_min : bootBuiltins "min" = some (.builtin "min") := by decide +kernel
theorem bt_sum : bootBuiltins "sum" = some (.builtin "sum") := by decide +kernel
theorem bt_all : bootBuiltins "all" = some (.builtin "all") := by decide +kernel
theorem bt_any : bootBuiltins "any" = some (.builtin "any") := by decide +kernel
theorem bt_tuple : bootBuiltins "tuple" = some (.type "tuple") := by decide +kernel
theorem bt_list : bootBuiltins "list" = some (.type "list") := by decide +kernel
theorem bt_sorted : bootBuiltins "sorted" = some (.builtin "sorted") := by decide +kernel
theorem bt_bool : bootBuiltins "bool" = some (.type "bool") := by decide +kernel
theorem bt_str : bootBuiltins "str" = some (.type "str") := by decide +kernel
section
variable {G : GS} {N : List Str} {P : Par} {tb : Tbl} {Wf : WhileF} {m n : Nat} {sc : Scope} {X : Cx} {W : XW} {a b : Expr} {fa fb : Fe} {p pos : Pos}
/-- one argument that is looked at -/
theorem bi_1 (ha : PE X a (tE P W fa)) (na : ∀ x p, a ≠ .Starred x p) : PA X [a] (tHA P W (consT fa fun r => .ok [] r)) := a_cons ha a_nil na
theorem bi_2 (ha : PE X a (tE P W fa)) (na : ∀ x p, a ≠ .Starred x p) (hb : PE X b (tE P W fb)) (nb : ∀ x p, b ≠ .Starred x p) : PA X [a, b] (tHA P W (consT fa (consT fb fun r => .ok [] r))) := a_cons ha (bi_1 hb nb) na
theorem c_fn1 {id : String} {bi : Bi} {x : Str} (F : Fits G N P tb Wf m sc X W) (hc : CallR X (.builtin id) (rB P bi)) (hv : bootBuiltins x = some (.builtin id)) (hx : x ∈ bltNames) (hg : isGl sc x = true) (hn : x ≠ "__name__") (hdb : (x == ("__debug__" : Str)) = false) (ha : PE X a (tE P W fa)) (na : isStar a = false) :
    PE X (.Call (.Name x p) [a] [] pos) (tE P W (biF bi (consT fa fun r => .ok [] r))) := s_fn hc (F.gl hg) (F.blt x hx) hv (bi_1 ha (notStar na)) hn hdb (starless (notStar na)) star_nil
theorem c_ty1 {id : String} {bi : Bi} {x : Str} (F : Fits G N P tb Wf m sc X W) (hc : CallR X (.type id) (rB P bi)) (hv : bootBuiltins x = some (.type id)) (hx : x ∈ bltNames) (hg : isGl sc x = true) (hn : x ≠ "__name__") (hdb : (x == ("__debug__" : Str)) = false) (ha : PE X a (tE P W fa)) (na : isStar a = false) :
    PE X (.Call (.Name x p) [a] [] pos) (tE P W (biF bi (consT fa fun r => .ok [] r))) := s_ty hc (F.gl hg) (F.blt x hx) hv (bi_1 ha (notStar na)) hn hdb (starless (notStar na)) star_nil
theorem c_fn2 {id : String} {bi : Bi} {x : Str} (F : Fits G N P tb Wf m sc X W) (hc : CallR X (.builtin id) (rB P bi)) (hv : bootBuiltins x = some (.builtin id)) (hx : x ∈ bltNames) (hg : isGl sc x = true) (hn : x ≠ "__name__") (hdb : (x == ("__debug__" : Str)) = false) (ha : PE X a (tE P W fa)) (na : isStar a = false) (hb : PE X b (tE P W fb)) (nb : isStar b = false) :
    PE X (.Call (.Name x p) [a, b] [] pos) (tE P W (biF bi (consT fa (consT fb fun r => .ok [] r)))) := s_fn hc (F.gl hg) (F.blt x hx) hv (bi_2 ha (notStar na) hb (notStar nb)) hn hdb (starless (notStar na)) (by rw [starless (notStar nb)]; rfl)
/-- built-in types as values -/
theorem ty_name {x : Str} {k : TyK} (F : Fits G N P tb Wf m sc X W) (hg : isGl sc x = true) (h : tyKOf x = some k) : PE X (.Name x p) (tC (.ty (tyName k))) := by
  have core : ∀ (y : Str) (k : TyK), y ∈ bltNames → bootBuiltins y = some (.type (tyName k)) → y ≠ "__name__" → (y == ("__debug__" : Str)) = false → isGl sc y = true → PE X (.Name y p) (tC (.ty (tyName k))) := fun y k h1 h2 h3 h4 h5 => pe_bltn (F.gl h5) (F.blt y h1) h2 rfl h3 h4
  unfold tyKOf at h
  split at h
  · rename_i e; have e := of_decide_eq_true e; subst e; cases h; exact core _ .int (by decide) bt_int (by decide) (by decide) hg
  · split at h
    · rename_i e; have e := of_decide_eq_true e; subst e; cases h; exact core _ .bool (by decide) bt_bool (by decide) (by decide) hg
    · split at h
      · rename_i e; have e := of_decide_eq_true e; subst e; cases h; exact core _ .tuple (by decide) bt_tuple (by decide) (by decide) hg
      · split at h
        · rename_i e; have e := of_decide_eq_true e; subst e; cases h; exact core _ .list (by decide) bt_list (by decide) (by decide) hg
        · split at h
          · rename_i e; have e := of_decide_eq_true e; subst e; cases h; exact core _ .str (by decide) bt_str (by decide) (by decide) hg
          · cases h

theorem bi1_eq {bi : Bi} {fa : Fe} : biF bi (consT fa fun r => .ok [] r) = fun r => (fa r).bind fun t r1 => match biT r1 bi [t] with
    | some t => .ok t r1
    | none => .bad := by
  funext r
  unfold biF consT
  cases fa r <;> rfl
theorem c_one {y f : Str} {bi : Bi} {E : MP.E} (hE : OkE G N P tb Wf m n) (F : Fits G N P tb Wf m sc X W) (hb : MP.blt sc f y = true) (h : (trE G N n sc a).map (fun x => MP.E.bi bi (.cons x .nil)) = some E)
    (k : ∀ {fa : Fe}, isGl sc y = true → PE X a (tE P W fa) → PE X (.Call (.Name y p) [a] [] pos) (tE P W (biF bi (consT fa fun r => .ok [] r)))) : PE X (.Call (.Name f p) [a] [] pos) (tE P W (ev (callN tb Wf m) E)) := by
  obtain ⟨rfl, hg⟩ := blt_of hb
  simp only [Option.map_eq_some_iff] at h
  obtain ⟨x, h1, rfl⟩ := h
  exact k hg (hE sc a x X W h1 F)
theorem okC_one (hE : OkE G N P tb Wf m n) {f : Str} {E : MP.E} (F : Fits G N P tb Wf m sc X W) (hl : G.fns.lookup f = none) (h : trC G N (n + 1) sc f [a] = some E) : PE X (.Call (.Name f p) [a] [] pos) (tE P W (ev (callN tb Wf m) E)) := by
  have C := F.cok
  simp only [trC, hl] at h
  by_cases hs : isStar a = true
  · rw [if_pos hs] at h; cases h
  rw [if_neg hs] at h
  have hs : isStar a = false := by simpa using hs
  by_cases c1 : MP.blt sc f "len" = true
  · rw [if_pos c1] at h
    have plain : (trE G N n sc a).map (fun x => MP.E.bi .len (.cons x .nil)) = some E → PE X (.Call (.Name f p) [a] [] pos) (tE P W (ev (callN tb Wf m) E)) := fun h => c_one hE F c1 h fun hg ha => c_fn1 F (crb_len C.K) bt_len (by decide) hg (by decide) (by decide) ha hs
    split at h
    · rename_i g q1 b q2 _
      by_cases c2 : MP.blt sc g "set" = true
      · rw [if_pos c2] at h
        by_cases hb : isStar b = true
        · rw [if_pos hb] at h; cases h
        rw [if_neg hb] at h
        obtain ⟨rfl, hg⟩ := blt_of c1
        obtain ⟨rfl, hg2⟩ := blt_of c2
        simp only [Option.map_eq_some_iff] at h
        obtain ⟨x, h1, rfl⟩ := h
        show PE X _ (tE P W (biF .lenSet (consT (ev (callN tb Wf m) x) fun r => .ok [] r)))
        rw [bi1_eq]
        exact s_lenSet C (F.gl hg) (F.blt _ (by decide)) (F.gl hg2) (F.blt _ (by decide)) (hE sc b x X W h1 F) (notStar (by simpa using hb))
      · rw [if_neg c2] at h; exact plain h
    · exact plain h
  rw [if_neg c1] at h
  by_cases c2 : MP.blt sc f "abs" = true
  · rw [if_pos c2] at h; exact c_one hE F c2 h fun hg ha => c_fn1 F crb_abs bt_abs (by decide) hg (by decide) (by decide) ha hs
  rw [if_neg c2] at h
  by_cases c3 : MP.blt sc f "int" = true
  · rw [if_pos c3] at h; exact c_one hE F c3 h fun hg ha => c_ty1 F crb_int bt_int (by decide) hg (by decide) (by decide) ha hs
  rw [if_neg c3] at h
  by_cases c4 : MP.blt sc f "max" = true
  · rw [if_pos c4] at h; exact c_one hE F c4 h fun hg ha => c_fn1 F (crb_maxL C.K C.calm) bt_max (by decide) hg (by decide) (by decide) ha hs
  rw [if_neg c4] at h
  by_cases c5 : MP.blt sc f "sum" = true
  · rw [if_pos c5] at h; exact c_one hE F c5 h fun hg ha => c_fn1 F (crb_sumL C.K C.calm) bt_sum (by decide) hg (by decide) (by decide) ha hs
  rw [if_neg c5] at h
  by_cases c6 : MP.blt sc f "all" = true
  · rw [if_pos c6] at h; exact c_one hE F c6 h fun hg ha => c_fn1 F (crb_allL C.K C.calm) bt_all (by decide) hg (by decide) (by decide) ha hs
  rw [if_neg c6] at h
  by_cases c7 : MP.blt sc f "any" = true
  · rw [if_pos c7] at h; exact c_one hE F c7 h fun hg ha => c_fn1 F (crb_anyS C.K C.calm) bt_any (by decide) hg (by decide) (by decide) ha hs
  rw [if_neg c7] at h
  by_cases c8 : MP.blt sc f "tuple" = true
  · rw [if_pos c8] at h; exact c_one hE F c8 h fun hg ha => c_ty1 F (crb_tupleOf C.K) bt_tuple (by decide) hg (by decide) (by decide) ha hs
  rw [if_neg c8] at h
  by_cases c9 : MP.blt sc f "list" = true
  · rw [if_pos c9] at h; exact c_one hE F c9 h fun hg ha => c_ty1 F (crb_listOf C.K) bt_list (by decide) hg (by decide) (by decide) ha hs
  rw [if_neg c9] at h
  by_cases c10 : MP.blt sc f "sorted" = true
  · rw [if_pos c10] at h; exact c_one hE F c10 h fun hg ha => c_fn1 F (crb_sorted C.K C.un) bt_sorted (by decide) hg (by decide) (by decide) ha hs
  rw [if_neg c10] at h
  cases h
theorem okC_two (hE : OkE G N P tb Wf m n) {f : Str} {E : MP.E} (F : Fits G N P tb Wf m sc X W) (hl : G.fns.lookup f = none) (h : trC G N (n + 1) sc f [a, b] = some E) : PE X (.Call (.Name f p) [a, b] [] pos) (tE P W (ev (callN tb Wf m) E)) := by
  have C := F.cok
  simp only [trC, hl] at h
  by_cases hs : (isStar a || isStar b) = true
  · rw [if_pos hs] at h; cases h
  rw [if_neg hs] at h
  have hs : isStar a = false ∧ isStar b = false := by simpa using hs
  by_cases c1 : MP.blt sc f "max" = true
  · rw [if_pos c1] at h
    obtain ⟨rfl, hg⟩ := blt_of c1
    split at h
    · rename_i x y h1 h2
      simp only [Option.some.injEq] at h
      subst h
      exact c_fn2 F (crb_max2 C.calm) bt_max (by decide) hg (by decide) (by decide) (hE sc a x X W h1 F) hs.1 (hE sc b y X W h2 F) hs.2
    · cases h
  rw [if_neg c1] at h
  by_cases c2 : MP.blt sc f "min" = true
  · rw [if_pos c2] at h
    obtain ⟨rfl, hg⟩ := blt_of c2
    split at h
    · rename_i x y h1 h2
      simp only [Option.some.injEq] at h
      subst h
      exact c_fn2 F (crb_min2 C.calm) bt_min (by decide) hg (by decide) (by decide) (hE sc a x X W h1 F) hs.1 (hE sc b y X W h2 F) hs.2
    · cases h
  rw [if_neg c2] at h
  by_cases c3 : MP.blt sc f "isinstance" = true
  · rw [if_pos c3] at h
    obtain ⟨rfl, hg⟩ := blt_of c3
    split at h
    · rename_i t q _
      by_cases ht : isGl sc t = true
      · rw [if_pos ht] at h
        split at h
        · rename_i k hk
          simp only [Option.map_eq_some_iff] at h
          obtain ⟨x, h1, rfl⟩ := h
          show PE X _ (tE P W (biF (.isi k) (consT (ev (callN tb Wf m) x) fun r => .ok [] r)))
          rw [bi1_eq]
          exact s_isi C (F.gl hg) (F.blt _ (by decide)) (hE sc a x X W h1 F) (notStar hs.1) (ty_name F ht hk) name_plain
        · cases h
      · rw [if_neg ht] at h; cases h
    · rename_i t q1 u q2 kk q3 _
      by_cases ht : (MP.blt sc t "tuple" && MP.blt sc u "list") = true
      · rw [if_pos ht] at h
        rw [Bool.and_eq_true] at ht
        obtain ⟨rfl, g1⟩ := blt_of ht.1
        obtain ⟨rfl, g2⟩ := blt_of ht.2
        simp only [Option.map_eq_some_iff] at h
        obtain ⟨x, h1, rfl⟩ := h
        show PE X _ (tE P W (biF .isTL (consT (ev (callN tb Wf m) x) fun r => .ok [] r)))
        rw [bi1_eq]
        exact s_isTL C (F.gl hg) (F.blt _ (by decide)) (hE sc a x X W h1 F) (notStar hs.1) (ty_name (k := .tuple) F g1 rfl) name_plain (ty_name (k := .list) F g2 rfl) name_plain
      · rw [if_neg ht] at h; cases h
    · cases h
  rw [if_neg c3] at h
  cases h
theorem okC_succ (hE : OkE G N P tb Wf m n) (hA : OkA G N P tb Wf m n) : OkC G N P tb Wf m (n + 1) := by
  intro sc f p pos args E X W h F
  cases hl : G.fns.lookup f with
  | some q =>
    obtain ⟨i, np, ds, lent⟩ := q
    simp only [trC, hl] at h
    split at h
    · rename_i hc
      simp only [Bool.and_eq_true, Bool.not_eq_true', Nat.ble_eq] at hc
      obtain ⟨⟨⟨g1, g2⟩, ⟨g3, g5⟩⟩, g4⟩ := hc
      simp only [Option.map_eq_some_iff] at h
      obtain ⟨es, h1, rfl⟩ := h
      obtain ⟨k1, k2, k3⟩ := hA sc lent 0 args es X W h1 F
      obtain ⟨fad, fd, ps, f1, f2, f3, f7⟩ := F.fns f i np ds lent hl
      obtain ⟨dvs, dus, f4, f5, f6⟩ := f7 (ds.length - (np - args.length)) (Nat.sub_le _ _)
      cases args with
      | nil => simp at g4
      | cons a rest =>
        rw [List.all_cons, Bool.and_eq_true, Bool.not_eq_true'] at k2
        exact s_call F.cok f3 F.room (F.gl g1) f1 f2 f4 f5 f6 (fun r as r1 e => by rw [k3 r as r1 e, List.length_drop]; omega) k1 (okName_ok g2).1 (notStar k2.1) (stars_ok k2.2)
    · cases h
  | none =>
    match args, h with
    | [], h => simp only [trC, hl] at h; cases h
    | [a], h => exact okC_one hE F hl h
    | [a, b], h => exact okC_two hE F hl h
    | _ :: _ :: _ :: _, h => simp only [trC, hl] at h; cases h
end
end MP
set_option linter.all false
set_option Elab.async false
set_option maxRecDepth 100000
set_option maxHeartbeats 4000000
/-! MP28: the translation is right, further. -/
namespace MP
open PySem PySem.Spec PyProof.Rows L2 PySem.SeqAt
section
variable {G : GS} {N : List Str} {P : Par} {tb : Tbl} {Wf : WhileF} {m n : Nat} {sc : Scope} {X : Cx} {W : XW} {a b : Expr} {fa fb : Fe} {p pos : Pos}
theorem base_plain {o : Expr} {at_ : Str} {env : Env} {w : Sem Value} (h : isCallN o = false) : attributeBase o at_ env w = w := by
  unfold attributeBase
  split
  · simp [isCallN] at h
  · rfl
theorem okM_succ (hE : OkE G N P tb Wf m n) : OkM G N P tb Wf m (n + 1) := by
  intro sc o mm ap cp args E X W h hl F
  simp only [trM] at h
  by_cases hc : isCallN o = true
  · rw [if_pos hc] at h; cases h
  rw [if_neg hc] at h
  have hc : isCallN o = false := by simpa using hc
  have hline : (ap.endLine == cp.line) = true := by rw [beq_iff_eq]; exact Nat.eq_of_beq_eq_true hl
  match args, h with
  | [], h =>
    simp only at h
    by_cases e : mm = "pop"
    · subst e
      rw [if_pos (by decide)] at h
      cases o with
      | Name x q =>
        simp only [Option.map_eq_some_iff] at h
        obtain ⟨i, h1, rfl⟩ := h
        obtain ⟨s1, s2, s3, s4⟩ := F.slot h1
        exact s_mpop s1 s2 s3 s4 (base_plain hc) hline
      | _ => cases h
    · rw [if_neg (by simpa using e)] at h; cases h
  | [b], h =>
    simp only at h
    by_cases hs : isStar b = true
    · rw [if_pos hs] at h; cases h
    rw [if_neg hs] at h
    have hs : isStar b = false := by simpa using hs
    by_cases e : mm = "index"
    · subst e
      rw [if_pos (by decide)] at h
      split at h
      · rename_i x y h1 h2
        simp only [Option.some.injEq] at h
        subst h
        exact s_mindex F.cok (hE sc o x X W h1 F) (hE sc b y X W h2 F) (notStar hs) (base_plain hc) hline
      · cases h
    · rw [if_neg (by simpa using e)] at h
      by_cases e2 : mm = "count"
      · subst e2
        rw [if_pos (by decide)] at h
        split at h
        · rename_i x y h1 h2
          simp only [Option.some.injEq] at h
          subst h
          exact s_mcount F.cok (hE sc o x X W h1 F) (hE sc b y X W h2 F) (notStar hs) (base_plain hc) hline
        · cases h
      · rw [if_neg (by simpa using e2)] at h; cases h
  | _ :: _ :: _, h => cases h
theorem folded_plain {e : Expr} {env : Env} (h : isSetE e = false) : ∀ x, foldedSetIterable e env x = pure x := by
  intro x
  cases e <;> first | rfl | cases h
theorem isTupE_ok {tg : Expr} (h : isTupE tg = true) : ∃ es k q, tg = .Tuple es k q := by
  cases tg with
  | Tuple es k q => exact ⟨es, k, q, rfl⟩
  | _ => cases h
theorem okI_seq (hE : OkE G N P tb Wf m n) (F : Fits G N P tb Wf m sc X W) {tg e : Expr} {I : MP.It} (hs : isSetE e = false) (h : (trE G N n sc e).map MP.It.seq = some I) :
    ∃ pr, (pr = true → isTupE tg = true) ∧ PI X tg e (tI P W pr (evi (callN tb Wf m) I)) ∧ ∀ x, foldedSetIterable e X.env x = pure x := by
  simp only [Option.map_eq_some_iff] at h
  obtain ⟨x, h1, rfl⟩ := h
  exact ⟨false, (fun z => by cases z), i_seq F.cok (hE sc e x X W h1 F), folded_plain hs⟩
theorem okI_succ (hE : OkE G N P tb Wf m n) : OkI G N P tb Wf m (n + 1) := by
  intro sc tg e I X W h F
  simp only [trI] at h
  split at h
  · rename_i f q a q2
    by_cases hs : isStar a = true
    · rw [if_pos hs] at h; cases h
    rw [if_neg hs] at h
    have hs : isStar a = false := by simpa using hs
    by_cases c1 : MP.blt sc f "range" = true
    · rw [if_pos c1] at h
      obtain ⟨rfl, hg⟩ := blt_of c1
      simp only [Option.map_eq_some_iff] at h
      obtain ⟨x, h1, rfl⟩ := h
      exact ⟨false, (fun z => by cases z), i_rng1 (F.gl hg) (F.blt _ (by decide)) (hE sc a x X W h1 F) (notStar hs), folded_plain rfl⟩
    rw [if_neg c1] at h
    by_cases c2 : MP.blt sc f "enumerate" = true
    · rw [if_pos c2] at h
      obtain ⟨rfl, hg⟩ := blt_of c2
      by_cases ht : isTupE tg = true
      · rw [if_pos ht] at h
        simp only [Option.map_eq_some_iff] at h
        obtain ⟨x, h1, rfl⟩ := h
        obtain ⟨es, k, q3, rfl⟩ := isTupE_ok ht
        exact ⟨true, fun _ => rfl, i_enum F.cok (F.gl hg) (F.blt _ (by decide)) (hE sc a x X W h1 F) (notStar hs), folded_plain rfl⟩
      · rw [if_neg ht] at h; cases h
    rw [if_neg c2] at h
    exact okI_seq hE F rfl h
  · rename_i f q a b q2
    by_cases hs : (isStar a || isStar b) = true
    · rw [if_pos hs] at h; cases h
    rw [if_neg hs] at h
    have hs : isStar a = false ∧ isStar b = false := by simpa using hs
    by_cases c1 : MP.blt sc f "range" = true
    · rw [if_pos c1] at h
      obtain ⟨rfl, hg⟩ := blt_of c1
      split at h
      · rename_i x y h1 h2
        simp only [Option.some.injEq] at h
        subst h
        exact ⟨false, (fun z => by cases z), i_rng2 (F.gl hg) (F.blt _ (by decide)) (hE sc a x X W h1 F) (notStar hs.1) (hE sc b y X W h2 F) (notStar hs.2), folded_plain rfl⟩
      · cases h
    rw [if_neg c1] at h
    by_cases c2 : MP.blt sc f "zip" = true
    · rw [if_pos c2] at h
      obtain ⟨rfl, hg⟩ := blt_of c2
      by_cases ht : isTupE tg = true
      · rw [if_pos ht] at h
        split at h
        · rename_i x y h1 h2
          simp only [Option.some.injEq] at h
          subst h
          obtain ⟨es, k, q3, rfl⟩ := isTupE_ok ht
          exact ⟨true, fun _ => rfl, i_zip F.cok (F.gl hg) (F.blt _ (by decide)) (hE sc a x X W h1 F) (notStar hs.1) (hE sc b y X W h2 F) (notStar hs.2), folded_plain rfl⟩
        · cases h
      · rw [if_neg ht] at h; cases h
    rw [if_neg c2] at h
    exact okI_seq hE F rfl h
  · rename_i f q a b c q2
    by_cases hs : (isStar a || isStar b || isStar c) = true
    · rw [if_pos hs] at h; cases h
    rw [if_neg hs] at h
    have hs : (isStar a = false ∧ isStar b = false) ∧ isStar c = false := by simpa using hs
    by_cases c1 : MP.blt sc f "range" = true
    · rw [if_pos c1] at h
      obtain ⟨rfl, hg⟩ := blt_of c1
      split at h
      · rename_i x y z h1 h2 h3
        simp only [Option.some.injEq] at h
        subst h
        exact ⟨false, (fun z => by cases z), i_rng3 (F.gl hg) (F.blt _ (by decide)) (hE sc a x X W h1 F) (notStar hs.1.1) (hE sc b y X W h2 F) (notStar hs.1.2) (hE sc c z X W h3 F) (notStar hs.2), folded_plain rfl⟩
      · cases h
    rw [if_neg c1] at h
    exact okI_seq hE F rfl h
  · by_cases hs : isSetE e = true
    · rw [if_pos hs] at h; cases h
    rw [if_neg hs] at h
    exact okI_seq hE F (by simpa using hs) h
end
end MP
set_option linter.all false
set_option Elab.async false
set_option maxRecDepth 100000
set_option maxHeartbeats 4000000
/-! MP29: expressions: the translation is right. -/
namespace MP
open PySem PySem.Spec PyProof.Rows L2 PySem.SeqAt
section
variable {G : GS} {N : List Str} {P : Par} {tb : Tbl} {Wf : WhileF} {m n : Nat} {sc : Scope} {X : Cx} {W : XW} {a b : Expr} {fa fb : Fe} {p pos : Pos}
theorem relS_lookup {x : Str} {k : NameKind} {scope sc : Scope} (hk : k ≠ .free) : scope.names.lookup x = some k → (relS scope sc).names.lookup x = some k := by
  unfold relS
  show _ → (scope.names.map _).lookup x = some k
  generalize scope.names = l
  induction l with
  | nil => intro h; cases h
  | cons y l ih =>
    obtain ⟨y1, y2⟩ := y
    intro h
    rw [List.map_cons]
    by_cases hx : (x == y1) = true
    · rw [List.lookup_cons, hx] at h
      simp only [Option.some.injEq] at h
      subst h
      have hf : (y2 == NameKind.free) = false := by cases y2 <;> first | rfl | exact absurd rfl hk
      simp only [hf, Bool.false_and, Bool.false_eq_true, if_false]
      rw [List.lookup_cons, hx]
    · have hx : (x == y1) = false := by simpa using hx
      rw [List.lookup_cons, hx] at h
      have := ih h
      simp only at this ⊢
      split <;> (rw [List.lookup_cons, hx]; exact this)
theorem Fits.blk (F : Fits G N P tb Wf m sc X W) {s : Shared} {H : Hp} {scope : Scope} {C : Addr} {cl : List (Str × Addr)} {fp : List Addr} : Fits G N P tb Wf m (relS scope sc) (X.blk s H scope (compEnvC scope cl C X.env) fp) W0 where
  cok := blk_cok F.cok
  N := F.N
  sc := by rw [← F.sc]; rfl
  room := F.room
  blt := F.blt
  fns := F.fns
  cons := F.cons
theorem blk_loc (F : Fits G N P tb Wf m sc X W) {s : Shared} {H : Hp} {scope : Scope} {C : Addr} {cl : List (Str × Addr)} {fp : List Addr} {x : Str} {i : Nat} (h : locOf scope N x = some i) :
    (X.blk s H scope (compEnvC scope cl C X.env) fp).N[i]? = some x ∧ Loc (X.blk s H scope (compEnvC scope cl C X.env) fp).env.scope x ∧ ((X.blk s H scope (compEnvC scope cl C X.env) fp).fn x = true ∨ (X.blk s H scope (compEnvC scope cl C X.env) fp).env.scope.names.lookup x = some .local) := by
  unfold locOf at h
  split at h
  · rename_i hc
    rw [Bool.and_eq_true] at hc
    refine ⟨by show X.N[i]? = _; rw [F.N]; exact ixOf_get h, ?_⟩
    rcases isLoc_ok hc.1 with q | q
    · exact ⟨.inl (relS_lookup (by simp) q), .inr (relS_lookup (by simp) q)⟩
    · refine ⟨.inr (relS_lookup (by simp) q), .inl ?_⟩
      show (scope.names.lookup x == some .cell) = true
      rw [q]; rfl
  · cases h
theorem blk_locs (F : Fits G N P tb Wf m sc X W) {s : Shared} {H : Hp} {scope : Scope} {C : Addr} {cl : List (Str × Addr)} {fp : List Addr} : ∀ {es : List Expr} {is : List Nat}, locsOf scope N es = some is → Locs (X.blk s H scope (compEnvC scope cl C X.env) fp) es is
  | [], is, h => by
    simp only [locsOf, Option.some.injEq] at h
    subst h; exact .nil
  | e :: es, is, h => by
    cases e with
    | Name x q =>
      simp only [locsOf] at h
      split at h
      · rename_i i is' h1 h2
        simp only [Option.some.injEq] at h
        subst h
        obtain ⟨k1, k2, k3⟩ := blk_loc F h1
        exact .cons k1 k2 k3 (blk_locs F h2)
      · cases h
    | _ => simp [locsOf] at h
theorem blk_tg (F : Fits G N P tb Wf m sc X W) {s : Shared} {H : Hp} {scope : Scope} {C : Addr} {cl : List (Str × Addr)} {fp : List Addr} {tg : Expr} {t : Tg} (h : tgOf scope N tg = some t) : PG (X.blk s H scope (compEnvC scope cl C X.env) fp) tg (gTg P.K t) := by
  cases tg with
  | Name x q =>
    simp only [tgOf, Option.map_eq_some_iff] at h
    obtain ⟨i, h1, rfl⟩ := h
    obtain ⟨k1, k2, k3⟩ := blk_loc F h1
    exact pg_one (X := X.blk s H scope (compEnvC scope cl C X.env) fp) F.cok.nd k1 k2 k3
  | Tuple es k q =>
    simp only [tgOf, Option.map_eq_some_iff] at h
    obtain ⟨is, h1, rfl⟩ := h
    exact pg_many (blk_cok F.cok) (blk_locs F h1)
  | _ => simp [tgOf] at h
theorem tg_tup {tg : Expr} {t : Tg} {sc : Scope} (h : tgOf sc N tg = some t) (ht : isTupE tg = true) : ∃ is, t = .tup is := by
  obtain ⟨es, k, q, rfl⟩ := isTupE_ok ht
  simp only [tgOf, Option.map_eq_some_iff] at h
  obtain ⟨is, _, rfl⟩ := h
  exact ⟨is, rfl⟩
theorem s_asB2 (h : PE X a (tE P W fa)) : PE X a (tE P W fun r => ofB (asB (fa r))) := s_asB h
theorem trE_star {k : Nat} {E : MP.E} (h : trE G N k sc a = some E) : isStar a = false := by
  cases a with
  | Starred y q =>
    exfalso
    cases k with
    | zero => simp only [trE] at h; cases h
    | succ k => simp only [trE] at h; cases h
  | _ => rfl
theorem s_sortedRev (F : Fits G N P tb Wf m sc X W) {kp q1 : Pos} {k1 : Nat} (hg : isGl sc "sorted" = true) (ha : PE X a (tE P W fa)) (na : isStar a = false) :
    PE X (.Call (.Name "sorted" p) [a] [⟨some "reverse", .Constant (.bool true) k1 q1, kp⟩] pos) (tE P W (biF (.sortedL false) (consT fa fun r => .ok [] r))) := by
  have C := F.cok
  refine PE.imp (pe_callBK (crb_sortedRev (P := P) (b := true) C.K C.un) (F.gl hg) (F.blt _ (by decide)) bt_sorted (bi_1 ha (notStar na)) (pk_cons pe_bl pk_nil) (by decide) (by decide) (by rw [starless (notStar na)]; rfl) (by rw [starless (notStar na)]; rfl) rfl rfl rfl) fun σ H Q h => ?_
  have h2 := bi_read (b := .sortedL false) h
  obtain ⟨r, Ow, Xb, R, hf⟩ := h2
  refine ⟨r, Ow, Xb, R, ?_⟩
  cases e : consT fa (fun r => .ok [] r) r with
  | ok ts r1 =>
    simp only [e] at hf
    exact fun vs H' Ow' X1 z1 z2 z3 z4 z5 => ⟨rfl, hf vs H' Ow' X1 z1 z2 z3 z4 z5⟩
  | exc c r1 => simp only [e] at hf; exact hf
  | bad => simp only [e] at hf; exact hf.elim
theorem okE_succ (hE : OkE G N P tb Wf m n) (hT : OkT G N P tb Wf m n) (hC : OkC G N P tb Wf m n) (hM : OkM G N P tb Wf m n) (hO : OkO G N P tb Wf m n) (hK : OkK G N P tb Wf m n) (hI : OkI G N P tb Wf m n) : OkE G N P tb Wf m (n + 1) := by
  intro sc e E X W h F
  have C := F.cok
  simp only [trE] at h
  split at h
  · simp only [Option.some.injEq] at h; subst h
    exact s_const pe_non fun _ _ => .non
  · simp only [Option.some.injEq] at h; subst h
    exact s_const pe_bl fun _ _ => .bl _
  · simp only [Option.some.injEq] at h; subst h
    exact s_const pe_int fun _ _ => .int _
  · simp only [Option.some.injEq] at h; subst h
    exact s_const pe_str fun _ _ => .str _
  · split at h
    · rename_i i h1
      simp only [Option.some.injEq] at h; subst h
      exact ev_name F h1
    · split at h
      · rename_i hc
        rw [Bool.and_eq_true] at hc
        simp only [Option.map_eq_some_iff] at h
        obtain ⟨v, h1, rfl⟩ := h
        exact ev_glb F hc.1 hc.2 h1
      · cases h
  · split at h
    · rename_i o x y h1 h2 h3
      simp only [Option.some.injEq] at h; subst h
      rw [← bopOf_ok h1]
      exact s_bin C (hE sc _ x X W h2 F) (hE sc _ y X W h3 F)
    · cases h
  · simp only [Option.map_eq_some_iff] at h
    obtain ⟨x, h1, rfl⟩ := h
    exact s_neg (hE sc _ x X W h1 F)
  · simp only [Option.map_eq_some_iff] at h
    obtain ⟨x, h1, rfl⟩ := h
    exact s_not (s_asB (hE sc _ x X W h1 F))
  · split at h
    · rename_i x y h1 h2
      simp only [Option.some.injEq] at h; subst h
      exact s_and (s_asB (hE sc _ x X W h1 F)) (s_asB (hE sc _ y X W h2 F))
    · cases h
  · split at h
    · rename_i x y h1 h2
      simp only [Option.some.injEq] at h; subst h
      exact s_or (s_asB (hE sc _ x X W h1 F)) (s_asB (hE sc _ y X W h2 F))
    · cases h
  · exact s_bool1 (hE sc _ E X W h F)
  · exact s_bool1 (hE sc _ E X W h F)
  · split at h
    · rename_i z x y h1 h2 h3
      simp only [Option.some.injEq] at h; subst h
      exact s_ite (hT sc _ z X W h1 F) (hE sc _ x X W h2 F) (hE sc _ y X W h3 F)
    · cases h
  · simp only [Option.map_eq_some_iff] at h
    obtain ⟨x, h1, rfl⟩ := h
    exact s_isN (hE sc _ x X W h1 F) pe_non rfl
  · simp only [Option.map_eq_some_iff] at h
    obtain ⟨x, h1, rfl⟩ := h
    exact s_notN (hE sc _ x X W h1 F) pe_non rfl
  · split at h
    · cases h
    · rename_i hs
      split at h
      · rename_i o x y h1 h2 h3
        simp only [Option.some.injEq] at h; subst h
        rw [← copFrom_ok h1]
        exact s_cmp C (hE sc _ x X W h2 F) (hE sc _ y X W h3 F) (nomark2 (by simpa using hs))
      · cases h
  · split at h
    · cases h
    · rename_i hs
      split at h
      · rename_i o o' x y z h1 h1' h2 h3 h4
        simp only [Option.some.injEq] at h; subst h
        rw [← copFrom_ok h1, ← copFrom_ok h1']
        exact s_chain C (hE sc _ x X W h2 F) (hE sc _ y X W h3 F) (hE sc _ z X W h4 F) (nomark2 (by simpa using hs))
      · cases h
  · simp only [Option.map_eq_some_iff] at h
    obtain ⟨x, h1, rfl⟩ := h
    exact s_tup (hK sc _ x X W h1 F)
  · simp only [Option.map_eq_some_iff] at h
    obtain ⟨x, h1, rfl⟩ := h
    exact s_disp (hK sc _ x X W h1 F)
  · split at h
    · rename_i x l u h1 h2 h3
      simp only [Option.some.injEq] at h; subst h
      exact s_slc C (hE sc _ x X W h1 F) (hO sc _ l X W h2 F) (hO sc _ u X W h3 F)
    · cases h
  · split at h
    · cases h
    · rename_i hs
      split at h
      · rename_i x y h1 h2
        simp only [Option.some.injEq] at h; subst h
        refine s_idx C (hE sc _ x X W h1 F) (hE sc _ y X W h2 F) fun l u s p z => ?_
        rw [z] at hs
        exact hs rfl
      · cases h
  · rename_i elt tg iter ifs scope cpos
    split at h
    · rename_i it t h1 h2
      split at h
      · rename_i hc
        rw [Bool.and_eq_true, List.all_eq_true] at hc
        have hT' : ∀ i, i ∈ tgs t → i ∈ (ownOf N scope.names).map (·.2) := fun i hi => by
          obtain ⟨j, hj, e⟩ := List.any_eq_true.mp (hc.2 i hi)
          rw [Nat.eq_of_beq_eq_true e]; exact hj
        obtain ⟨pr, k1, k2, k3⟩ := hI sc tg iter it X W h1 F
        have ok : BlkOk X.N X.env.scope scope (ownOf N scope.names) := by rw [F.N, F.sc]; exact blkOk_by hc.1
        split at h
        · rename_i x h3
          simp only [Option.some.injEq] at h; subst h
          exact s_comp (g := none) C (fun hp => tg_tup h2 (k1 hp)) hT' (tt := tYes) (fun σ H Q ⟨r, Ow, Xb, R, hf⟩ => hf H Ow .refl R) k2 ok (fun s H Ca cl fp => blk_tg F h2) (fun s H Ca cl fp => pts_nil) (fun s H Ca cl fp => hE _ elt x _ _ h3 F.blk) k3
        · rename_i x c h3
          simp only [Option.map_eq_some_iff] at h
          obtain ⟨z, h4, rfl⟩ := h
          exact s_comp (g := some fun r => asB (ev (callN tb Wf m) z r)) C (fun hp => tg_tup h2 (k1 hp)) hT' (tt := tT P W0 fun r => asB (ev (callN tb Wf m) z r)) (fun σ H Q q => q) k2 ok (fun s H Ca cl fp => blk_tg F h2) (fun s H Ca cl fp => pts_one (hT _ c z _ _ h4 F.blk)) (fun s H Ca cl fp => hE _ elt x _ _ h3 F.blk) k3
        · cases h
      · cases h
    · cases h
  · exact hC sc _ _ _ _ E X W h F
  · split at h
    · rename_i hc
      rw [Bool.and_eq_true, decide_eq_true_eq] at hc
      obtain ⟨hc, rfl⟩ := hc
      obtain ⟨rfl, hg⟩ := blt_of hc
      simp only [Option.map_eq_some_iff] at h
      obtain ⟨x, h1, rfl⟩ := h
      exact s_sortedRev F hg (hE sc _ x X W h1 F) (trE_star h1)
    · cases h
  · split at h
    · rename_i hl
      exact hM sc _ _ _ _ _ E X W h hl F
    · cases h
  · cases h
end
end MP
set_option linter.all false
set_option Elab.async false
set_option maxRecDepth 100000
set_option maxHeartbeats 4000000
/-! MP30: tests: the translation is right; all of it by the fuel. -/
namespace MP
open PySem PySem.Spec PyProof.Rows L2 PySem.SeqAt
section
variable (G : GS) (N : List Str) (P : Par) (tb : Tbl) (Wf : WhileF) (m : Nat)
def OkW (n : Nat) : Prop := ∀ (sc : Scope) (op : BoolOp) (vs : List Expr) (p : Pos) (E : MP.E) (X : Cx) (W : XW), trE G N n sc (.BoolOp op vs p) = some E → Fits G N P tb Wf m sc X W → PW X (.BoolOp op vs p) (tT P W fun r => asB (ev (callN tb Wf m) E r))
end
section
variable {G : GS} {N : List Str} {P : Par} {tb : Tbl} {Wf : WhileF} {m n : Nat} {sc : Scope} {X : Cx} {W : XW} {a b c : Expr} {fa fb : Fe} {ga gb gc : Ro → Re Bool} {p pos : Pos}
theorem asB_ofB (x : Re Bool) : asB (ofB x) = x := by cases x <;> rfl
theorem isN_op {σ : L2.St} {H : Hp} {Q : VK} (h : tE P W (isNF false fa) σ H Q) : tOp (fun x y H Q => y = V.non ∧ Q (.bl (decide (x = V.non))) H) (tE P W fa) (tC .non) σ H Q := by
  obtain ⟨r, Ow, Xb, R, hf⟩ := isN_core h
  exact ⟨r, Ow, Xb, R, by revert hf; cases fa r <;> intro hf; exact fun v H' ok => ⟨rfl, hf v H' ok⟩; exact hf; exact hf⟩
theorem notN_op {σ : L2.St} {H : Hp} {Q : VK} (h : tE P W (isNF true fa) σ H Q) : tOp (fun x y H Q => y = V.non ∧ Q (.bl (!decide (x = V.non))) H) (tE P W fa) (tC .non) σ H Q := by
  obtain ⟨r, Ow, Xb, R, hf⟩ := isN_core h
  exact ⟨r, Ow, Xb, R, by revert hf; cases fa r <;> intro hf; exact fun v H' ok => ⟨rfl, hf v H' ok⟩; exact hf; exact hf⟩
theorem t_isN (ha : PE X a (tE P W fa)) (hb : PE X b (tC .non)) (hm : behindInMarks .Is b = false) : PT X (.Compare a [.Is] [b] pos) (tT P W fun r => asB (isNF false fa r)) := PT.imp (pt_cmpR op_isN ha hb hm) fun _ _ _ h => isN_op (tE_B h)
theorem t_notN (ha : PE X a (tE P W fa)) (hb : PE X b (tC .non)) (hm : behindInMarks .IsNot b = false) : PT X (.Compare a [.IsNot] [b] pos) (tT P W fun r => asB (isNF true fa r)) := PT.imp (pt_cmpR op_notN ha hb hm) fun _ _ _ h => notN_op (tE_B h)
theorem t_ite (hc : PT X c (tT P W gc)) (ha : PT X a (tT P W fun r => asB (fa r))) (hb : PT X b (tT P W fun r => asB (fb r))) : PT X (.IfExp c a b pos) (tT P W fun r => asB (iteF gc fa fb r)) := by
  refine ⟨fun pins s σ H Q I ⟨r, Ow, Xb, R, hf⟩ => ?_⟩
  show wpAny _ _ (do if ← isTrue c X.env (eval c X.env) then isTrue a X.env (eval a X.env) else isTrue b X.env (eval b X.env)) _ _ _
  refine wpAny_bind (thn (hc.run pins s σ H (fun k H1 => if k = true then tT P W (fun r => asB (fa r)) σ H1 Q else tT P W (fun r => asB (fb r)) σ H1 Q) I ⟨r, Ow, Xb, R, ?_⟩) fun k s1 ⟨H1, I1, q⟩ => ?_)
  · unfold iteF at hf
    cases e : gc r with
    | ok k r1 =>
      simp only [e, Re.bind] at hf
      intro H1 Ow1 e1 R1
      cases k with
      | true => rw [if_pos rfl]; exact ⟨r1, Ow1, Xb, R1, FinB.lift e1 hf⟩
      | false => rw [if_neg Bool.false_ne_true]; exact ⟨r1, Ow1, Xb, R1, FinB.lift e1 hf⟩
    | exc cc r1 => simp only [e, Re.bind] at hf; exact hf
    | bad => simp only [e, Re.bind] at hf; exact hf.elim
  · cases k with
    | true => exact ha.run pins s1 σ H1 Q I1 q
    | false => exact hb.run pins s1 σ H1 Q I1 q
theorem okW_succ (hT : OkT G N P tb Wf m n) (hW : OkW G N P tb Wf m n) : OkW G N P tb Wf m (n + 1) := by
  intro sc op vs p E X W h F
  cases op with
  | And =>
    match vs, h with
    | [], h => simp only [trE] at h; cases h
    | [a], h =>
      simp only [trE] at h
      exact t_and1 (hT sc a E X W h F)
    | a :: b :: rest, h =>
      simp only [trE] at h
      split at h
      · rename_i x y h1 h2
        simp only [Option.some.injEq] at h; subst h
        have := t_and (pos := p) (hT sc a x X W h1 F) (hW sc .And (b :: rest) p y X W h2 F)
        refine PW.imp this fun σ H Q q => ?_
        have e : (fun r => asB (ev (callN tb Wf m) (.and x y) r)) = andB (fun r => asB (ev (callN tb Wf m) x r)) (fun r => asB (ev (callN tb Wf m) y r)) := by funext r; exact asB_ofB _
        rw [e] at q; exact q
      · cases h
  | Or =>
    match vs, h with
    | [], h => simp only [trE] at h; cases h
    | [a], h =>
      simp only [trE] at h
      exact t_or1 (hT sc a E X W h F)
    | a :: b :: rest, h =>
      simp only [trE] at h
      split at h
      · rename_i x y h1 h2
        simp only [Option.some.injEq] at h; subst h
        have := t_or (pos := p) (hT sc a x X W h1 F) (hW sc .Or (b :: rest) p y X W h2 F)
        refine PW.imp this fun σ H Q q => ?_
        have e : (fun r => asB (ev (callN tb Wf m) (.or x y) r)) = orB (fun r => asB (ev (callN tb Wf m) x r)) (fun r => asB (ev (callN tb Wf m) y r)) := by funext r; exact asB_ofB _
        rw [e] at q; exact q
      · cases h

theorem okT_succ (hE : OkE G N P tb Wf m n) (hE1 : OkE G N P tb Wf m (n + 1)) (hT : OkT G N P tb Wf m n) (hW1 : OkW G N P tb Wf m (n + 1)) : OkT G N P tb Wf m (n + 1) := by
  intro sc e E X W h F
  have C := F.cok
  have hv := hE1 sc e E X W h F
  cases e with
  | BoolOp op vs q => exact ⟨fun pins s σ H Q I z => (hW1 sc op vs q E X W h F).run _ pins s σ H Q I z⟩
  | UnaryOp op a q =>
    cases op with
    | Not =>
      simp only [trE] at h
      simp only [Option.map_eq_some_iff] at h
      obtain ⟨x, h1, rfl⟩ := h
      have e : (fun r => asB (ev (callN tb Wf m) (.not x) r)) = notB (fun r => asB (ev (callN tb Wf m) x r)) := by funext r; exact asB_ofB _
      rw [e]
      exact t_not (hT sc a x X W h1 F)
    | USub => exact t_val hv fun _ => rfl
    | UAdd => exact t_val hv fun _ => rfl
    | Invert => exact t_val hv fun _ => rfl
  | IfExp cc a b q =>
    simp only [trE] at h
    split at h
    · rename_i z x y h1 h2 h3
      simp only [Option.some.injEq] at h; subst h
      exact t_ite (hT sc _ z X W h1 F) (hT sc _ x X W h2 F) (hT sc _ y X W h3 F)
    · cases h
  | Compare a ops bs q =>
    simp only [trE] at h
    split at h
    case h_14 =>
      have heq := ‹Expr.Compare a ops bs q = _›
      cases heq
      simp only [Option.map_eq_some_iff] at h
      obtain ⟨x, h1, rfl⟩ := h
      exact t_isN (hE sc _ x X W h1 F) pe_non rfl
    case h_15 =>
      have heq := ‹Expr.Compare a ops bs q = _›
      cases heq
      simp only [Option.map_eq_some_iff] at h
      obtain ⟨x, h1, rfl⟩ := h
      exact t_notN (hE sc _ x X W h1 F) pe_non rfl
    case h_16 =>
      have heq := ‹Expr.Compare a ops bs q = _›
      cases heq
      split at h
      · cases h
      · rename_i hs
        split at h
        · rename_i o x y h1 h2 h3
          simp only [Option.some.injEq] at h; subst h
          have ho := copFrom_ok h1
          subst ho
          exact t_cmp C (hE sc _ x X W h2 F) (hE sc _ y X W h3 F) (nomark2 (by simpa using hs))
        · cases h
    case h_17 =>
      have heq := ‹Expr.Compare a ops bs q = _›
      cases heq
      split at h
      · cases h
      · rename_i hs
        split at h
        · rename_i o o' x y z h1 h1' h2 h3 h4
          simp only [Option.some.injEq] at h; subst h
          have ho := copFrom_ok h1
          subst ho
          have ho := copFrom_ok h1'
          subst ho
          exact t_chain C (hE sc _ x X W h2 F) (hE sc _ y X W h3 F) (hE sc _ z X W h4 F) (nomark2 (by simpa using hs))
        · cases h
    all_goals first
      | (cases h; done)
      | (exfalso; have heq := ‹Expr.Compare a ops bs q = _›; cases heq)
  | _ => exact t_val hv fun _ => rfl
end
end MP
set_option linter.all false
set_option Elab.async false
set_option maxRecDepth 100000
set_option maxHeartbeats 4000000
/-! MP31: expressions, by the fuel. -/
namespace MP
open PySem PySem.Spec PyProof.Rows L2 PySem.SeqAt
structure OkAll (G : GS) (N : List Str) (P : Par) (tb : Tbl) (Wf : WhileF) (m n : Nat) : Prop where
  e : OkE G N P tb Wf m n
  c : OkC G N P tb Wf m n
  mm : OkM G N P tb Wf m n
  o : OkO G N P tb Wf m n
  k : OkK G N P tb Wf m n
  a : OkA G N P tb Wf m n
  i : OkI G N P tb Wf m n
  t : OkT G N P tb Wf m n
  w : OkW G N P tb Wf m n
theorem okAll (G : GS) (N : List Str) (P : Par) (tb : Tbl) (Wf : WhileF) (m : Nat) : ∀ n, OkAll G N P tb Wf m n
  | 0 => by
    refine ⟨?_, ?_, ?_, ?_, ?_, ?_, ?_, ?_, ?_⟩
    · intro _ _ _ _ _ h _; simp only [trE] at h; cases h
    · intro _ _ _ _ _ _ _ _ h _; simp only [trC] at h; cases h
    · intro _ _ _ _ _ _ _ _ _ h _ _; simp only [trM] at h; cases h
    · intro _ _ _ _ _ h _; simp only [trO] at h; cases h
    · intro _ _ _ _ _ h _; simp only [trK] at h; cases h
    · intro _ _ _ _ _ _ _ h _; simp only [trA] at h; cases h
    · intro _ _ _ _ _ _ h _; simp only [trI] at h; cases h
    · intro _ _ _ _ _ h _; simp only [trE] at h; cases h
    · intro _ _ _ _ _ _ _ h _; simp only [trE] at h; cases h
  | n + 1 => by
    have I := okAll G N P tb Wf m n
    have e1 := okE_succ I.e I.t I.c I.mm I.o I.k I.i
    have w1 := okW_succ I.t I.w
    exact ⟨e1, okC_succ I.e I.a, okM_succ I.e, okO_succ I.e, okK_succ I.e I.k, okA_succ I.e I.a, okI_succ I.e, okT_succ I.e e1 I.t w1, w1⟩
end MP
set_option linter.all false
set_option Elab.async false
set_option maxRecDepth 100000
set_option maxHeartbeats 4000000
/-! MP32: statements, translated. -/
namespace MP
open PySem PySem.Spec PyProof.Rows L2 PySem.SeqAt
def isComp : Expr → Bool
  | .ListComp _ _ _ _ => true
  | .SetComp _ _ _ _ => true
  | .DictComp _ _ _ _ _ => true
  | _ => false
theorem swaps_plain {e : Expr} {t : Option Expr} {l : Nat} {env : Env} (h : isComp e = false) : swapsWith e t l env = pure false := by
  cases e <;> first | rfl | cases h
/-- x = [..] on one line: stored from within -/
def swB (sc : Scope) (t : Str) (pos p : Pos) (scope : Scope) : Bool := (sc.names.lookup t == some .local) && (pos.line == p.line) && !(scope.names.any fun (n, k) => n == t && (k == .local || k == .cell))
theorem swaps_comp {elt : Expr} {gens : List Comprehension} {scope : Scope} {p pos : Pos} {t : Str} {l : Nat} {env : Env} (hk : env.scope.kind = .function) :
    swapsWith (.ListComp elt gens scope p) (some (.Name t pos)) l env = pure (swB env.scope t pos p scope) := by
  have hb : env.blockKind = .function := by unfold Env.blockKind; rw [hk]; rfl
  show (pure (env.blockKind == .function && env.kindOf t == some .local && pos.line == p.line && !(scope.names.any fun (n, k) => n == t && (k == .local || k == .cell))) : Sem Bool) = _
  rw [hb]
  unfold swB
  rfl

/-- plain local names, each once, on the targets' line: stored at once -/
def plainLoc (sc : Scope) (line : Nat) : Expr → Option Str
  | .Name x q => if (sc.names.lookup x == some .local) && q.line == line then some x else none
  | _ => none
def swapN (sc : Scope) (ts vs : List Expr) : Option (List Str) :=
  if (ts.length == 2 || ts.length == 3) && vs.length == ts.length && !(vs.any isStar) then
    let line := (ts.head?.map (·.pos.line)).getD 0
    let names := ts.filterMap (plainLoc sc line)
    if names.length != ts.length || names.eraseDups.length != names.length then none else if vs.all (foldedForSure 8) then none else if vs.all (constantsAlone 8) then none else some names
  else none
/-- the model says nothing of it -/
def swapX (sc : Scope) (ts vs : List Expr) : Bool :=
  if (ts.length == 2 || ts.length == 3) && vs.length == ts.length && !(vs.any isStar) then
    let line := (ts.head?.map (·.pos.line)).getD 0
    let names := ts.filterMap (plainLoc sc line)
    if names.length != ts.length || names.eraseDups.length != names.length then false else if vs.all (foldedForSure 8) then false else vs.all (constantsAlone 8)
  else false
def nodupB : List Nat → Bool := nodupN
section
variable (G : GS) (N : List Str)
/-- values held -/
def trH (n : Nat) (sc : Scope) : List Expr → Option Es
  | [] => some .nil
  | a :: r => if isStar a then none else match trE G N n sc a, trH n sc r with
    | some x, some y => some (.cons x y)
    | _, _ => none
mutual
def tr1 : Nat → Scope → Stmt → Option MP.St
  | 0, _, _ => none
  | n + 1, sc, s => match s with
    | .Assign [.Name x _] e _ => match locOf sc N x, trE G N n sc e with
      | some i, some y => some (.asg i y)
      | _, _ => none
    | .Assign [.Tuple ts _ _] (.Tuple vs _ _) _ => match locsOf sc N ts, trH G N n sc vs with
      | some is, some es => if swapX sc ts vs || !nodupN is || Nat.blt 100 is.length then none else some (.ptup is es)
      | _, _ => none
    | .Assign [.Tuple ts _ _] e _ => if isComp e then none else match locsOf sc N ts, trE G N n sc e with
      | some is, some y => some (.atup is y)
      | _, _ => none
    | .Assign [.Subscript (.Name x _) ix _] e _ => if isComp e || isSlice ix then none else match slotOf sc N x, trE G N n sc ix, trE G N n sc e with
      | some i, some y, some z => some (.setix i y z)
      | _, _, _ => none
    | .AugAssign (.Name x _) op e _ => match bopOf op, locOf sc N x, trE G N n sc e with
      | some .add, some i, some y => some (.aug i .add y)
      | some .sub, some i, some y => some (.aug i .sub y)
      | some .mul, some i, some y => some (.aug i .mul y)
      | _, _, _ => none
    | .AugAssign (.Subscript (.Name x _) ix _) op e _ => if isSlice ix then none else match bopOf op, slotOf sc N x, trE G N n sc ix, trE G N n sc e with
      | some .add, some i, some y, some z => some (.augix i y .add z)
      | some .sub, some i, some y, some z => some (.augix i y .sub z)
      | some .mul, some i, some y, some z => some (.augix i y .mul z)
      | _, _, _, _ => none
    | .Expr (.Constant (.str _) _ _) _ => some .pass
    | .Expr (.Call (.Attribute (.Name x np) mm ap) [a] [] cp) _ => if decide (mm = "append") && Nat.beq ap.endLine cp.line && !isStar a then match slotOf sc N x, trE G N n sc a with
        | some i, some y => some (.app i y)
        | _, _ => none
      else (trE G N n sc (.Call (.Attribute (.Name x np) mm ap) [a] [] cp)).map .expr
    | .Expr e _ => if isComp e then none else (trE G N n sc e).map .expr
    | .Return (some e) _ => (trE G N n sc e).map .ret
    | .Return none _ => some .retN
    | .If c a b _ => match trE G N n sc c, trS n sc a, trS n sc b with
      | some x, some y, some z => some (.ifs x y z)
      | _, _, _ => none
    | .For tg it b [] _ => match tgOf sc N tg, trI G N n sc (isTupE tg) it, trS n sc b with
      | some t, some i, some y => some (.for_ t i y)
      | _, _, _ => none
    | .While c b [] _ => match trE G N n sc c, trS n sc b with
      | some x, some y => some (.while_ x y)
      | _, _ => none
    | .Raise (some (.Call (.Name x _) [] [] _)) none _ => if isGl sc x && okName x then (G.clss.lookup x).map .raise else none
    | .Try b [.ExceptHandler (some (.Name x _)) (some nm) [.Assign [.Name y _] (.Constant (.str t) _ _) _] _] [] [] _ =>
      if isGl sc x && okName x then match G.clss.lookup x, trS n sc b, locOf sc N y, locOf sc N nm with
        | some c, some bb, some j, some i => if sc.names.lookup nm == some .local then some (.try1 bb c i (.asg j (.str t))) else none
        | _, _, _, _ => none
      else none
    | .Pass _ => some .pass
    | _ => none
def trS : Nat → Scope → List Stmt → Option MP.St
  | 0, _, _ => none
  | n + 1, sc, ss => match ss with
    | [] => some .pass
    | s :: r => match tr1 n sc s, trS n sc r with
      | some x, some y => some (.seq x y)
      | _, _ => none
end
end
end MP
set_option linter.all false
set_option Elab.async false
set_option maxRecDepth 100000
set_option maxHeartbeats 4000000
/-! MP33: statements: the translation is right. -/
namespace MP
open PySem PySem.Spec PyProof.Rows L2 PySem.SeqAt
structure FitsS (G : GS) (N : List Str) (P : Par) (tb : Tbl) (Wf : WhileF) (m : Nat) (sc : Scope) (X : Cx) (W : XW) : Prop extends Fits G N P tb Wf m sc X W where
  po : PassesOwn (model X.prog X.w) X.A X.env X.xe
  fn : ∀ x, X.fn x = true
  stack : X.stack = X.env :: X.outer
  frame : X.env.frame = some X.env.locals
  kind : X.env.scope.kind = .function
  wok : WOk Wf
  clss : ∀ name c, G.clss.lookup name = some c → ∃ Ca : Addr, X.mg name = some (.ref Ca) ∧ P.ca c = some Ca ∧ (∃ (B newId initId : String) (bmB : List Value), ExcBaseFacts B newId initId bmB ∧ PySem.W.excIn X.K Ca bmB newId = true) ∧ PySem.W.keepIn X.K (.ref Ca) = true ∧
    PySem.W.subIn X.K (.ref Ca) (.type "BaseException") = some true ∧ PySem.W.typeIn X.K (.ref Ca) = some (.type "type") ∧ ∀ a A, P.ca a = some A → PySem.W.exmOne X.K (.ref A) (.ref Ca) = some (isSub a c)
section
variable {G : GS} {N : List Str} {P : Par} {tb : Tbl} {Wf : WhileF} {m n : Nat} {sc : Scope} {X : Cx} {W : XW} {S : List Nat} {a b : Expr} {fa fb : Fe} {p pos : Pos}
theorem FitsS.tr (F : FitsS G N P tb Wf m sc X W) {pn : List (Addr × Obj)} {xe : Value → Shared → Prop} {W' : XW} (C : Cok P (X.tr pn xe) W') (po : PassesOwn (model X.prog X.w) X.A X.env xe) : FitsS G N P tb Wf m sc (X.tr pn xe) W' where
  cok := C
  N := F.N
  sc := F.sc
  room := F.room
  blt := F.blt
  fns := F.fns
  cons := F.cons
  po := po
  fn := F.fn
  stack := F.stack
  frame := F.frame
  kind := F.kind
  wok := F.wok
  clss := F.clss
theorem FitsS.locs (F : FitsS G N P tb Wf m sc X W) : ∀ {es : List Expr} {is : List Nat}, locsOf sc N es = some is → Locs X es is
  | [], is, h => by
    simp only [locsOf, Option.some.injEq] at h
    subst h; exact .nil
  | e :: es, is, h => by
    cases e with
    | Name x q =>
      simp only [locsOf] at h
      split at h
      · rename_i i is' h1 h2
        simp only [Option.some.injEq] at h
        subst h
        obtain ⟨k1, k2, k3⟩ := F.loc h1
        exact .cons k1 k2 (.inl (F.fn x)) (F.locs h2)
      · cases h
    | _ => simp [locsOf] at h
theorem FitsS.tg (F : FitsS G N P tb Wf m sc X W) {tg : Expr} {t : Tg} (h : tgOf sc N tg = some t) : PG X tg (gTg P.K t) := by
  cases tg with
  | Name x q =>
    simp only [tgOf, Option.map_eq_some_iff] at h
    obtain ⟨i, h1, rfl⟩ := h
    obtain ⟨k1, k2, k3⟩ := F.loc h1
    exact pg_one F.cok.nd k1 k2 (.inl (F.fn x))
  | Tuple es k q =>
    simp only [tgOf, Option.map_eq_some_iff] at h
    obtain ⟨is, h1, rfl⟩ := h
    exact pg_many F.cok (F.locs h1)
  | _ => simp [tgOf] at h
theorem h_list (F : Fits G N P tb Wf m sc X W) : ∀ {vs : List Expr} {es : Es}, trH G N n sc vs = some es → PA X vs (tHH P W (evh (callN tb Wf m) es))
  | [], es, h => by
    simp only [trH, Option.some.injEq] at h
    subst h; exact h_nil
  | a :: r, es, h => by
    simp only [trH] at h
    split at h
    · cases h
    · rename_i hs
      split at h
      · rename_i x y h1 h2
        simp only [Option.some.injEq] at h
        subst h
        exact h_cons ((okAll G N P tb Wf m n).e sc a x X W h1 F) (h_list F h2) (notStar (by simpa using hs))
      · cases h
end
end MP
set_option linter.all false
set_option Elab.async false
set_option maxRecDepth 100000
set_option maxHeartbeats 4000000
namespace MP
open PySem PySem.Spec PyProof.Rows L2 PySem.SeqAt
theorem swapped_eq {ts vs : List Expr} {kt k2 : Nat} {pt pt2 : Pos} {env : Env} (hk : env.scope.kind = .function) (hx : swapX env.scope ts vs = false) :
    swappedStores [.Tuple ts kt pt] (.Tuple vs k2 pt2) env = pure (swapN env.scope ts vs) := by
  have hb : env.blockKind = .function := by unfold Env.blockKind; rw [hk]; rfl
  have e1 : (fun x : Expr => match x with
      | .Starred _ _ => true
      | _ => false) = isStar := by funext e; cases e <;> rfl
  have e2 : ∀ line : Nat, (fun x : Expr => match x with
      | .Name id pos => if (env.kindOf id == some NameKind.local && pos.line == line) = true then some id else none
      | _ => none) = plainLoc env.scope line := by intro line; funext e; cases e <;> rfl
  show (if (!(ts.length == 2 || ts.length == 3) || vs.length != ts.length || env.blockKind != ScopeKind.function) = true then (pure none : Sem (Option (List Str)))
    else if (vs.any fun x : Expr => match x with
      | .Starred _ _ => true
      | _ => false) = true then pure none
    else if ((ts.filterMap (fun x : Expr => match x with
      | .Name id pos => if (env.kindOf id == some NameKind.local && pos.line == (ts.head?.map (·.pos.line)).getD 0) = true then some id else none
      | _ => none)).length != ts.length || (ts.filterMap (fun x : Expr => match x with
      | .Name id pos => if (env.kindOf id == some NameKind.local && pos.line == (ts.head?.map (·.pos.line)).getD 0) = true then some id else none
      | _ => none)).eraseDups.length != (ts.filterMap (fun x : Expr => match x with
      | .Name id pos => if (env.kindOf id == some NameKind.local && pos.line == (ts.head?.map (·.pos.line)).getD 0) = true then some id else none
      | _ => none)).length) = true then pure none
    else if vs.all (foldedForSure 8) = true then pure none
    else if vs.all (constantsAlone 8) = true then (do let _ ← (unsupported "assign.tuple-of-constant-expressions:order-of-the-stores" : Sem Unit); pure (some (ts.filterMap (fun x : Expr => match x with
      | .Name id pos => if (env.kindOf id == some NameKind.local && pos.line == (ts.head?.map (·.pos.line)).getD 0) = true then some id else none
      | _ => none)))) else pure (some (ts.filterMap (fun x : Expr => match x with
      | .Name id pos => if (env.kindOf id == some NameKind.local && pos.line == (ts.head?.map (·.pos.line)).getD 0) = true then some id else none
      | _ => none)))) = _
  rw [e1, e2, hb]
  unfold swapX at hx
  unfold swapN
  by_cases h1 : (ts.length == 2 || ts.length == 3) = true
  · by_cases h2 : (vs.length == ts.length) = true
    · by_cases h3 : vs.any isStar = true
      · have h2' : vs.length = ts.length := by simpa using h2
        simp [h1, h2', h3]
      · have h3 : vs.any isStar = false := by simpa using h3
        have h2' : vs.length = ts.length := by simpa using h2
        simp only [h1, h2, h3, Bool.not_false, Bool.and_self, if_true] at hx
        simp only [h1, h2', h3, Bool.not_true, Bool.false_or, bne_self_eq_false, Bool.false_eq_true, if_false, Bool.not_false, Bool.and_self, if_true, beq_self_eq_true]
        generalize ts.filterMap (plainLoc env.scope ((ts.head?.map (·.pos.line)).getD 0)) = names at *
        by_cases h4 : (names.length != ts.length || names.eraseDups.length != names.length) = true
        · rw [if_pos h4, if_pos h4]
        · rw [if_neg h4, if_neg h4]
          rw [if_neg h4] at hx
          by_cases h5 : vs.all (foldedForSure 8) = true
          · rw [if_pos h5, if_pos h5]
          · rw [if_neg h5, if_neg h5]
            rw [if_neg h5] at hx
            rw [hx]
            rfl
    · have h2' : ¬ vs.length = ts.length := by simpa using h2
      simp [h1, h2']
  · simp [h1]
section
variable {G : GS} {N : List Str} {P : Par} {tb : Tbl} {Wf : WhileF} {m n : Nat} {sc : Scope} {X : Cx} {W : XW} {S : List Nat} {a b e : Expr} {p pos q : Pos}
/-- x = e -/
theorem st_asg (F : FitsS G N P tb Wf m sc X W) {x : Str} {i : Nat} {y : MP.E} (h1 : locOf sc N x = some i) (h2 : trE G N n sc e = some y) (hS : i ∈ S) :
    PS X (.Assign [.Name x q] e pos) (tS P W S (asgF i (ev (callN tb Wf m) y))) := by
  obtain ⟨k1, k2, k3⟩ := F.loc h1
  have C := F.cok
  have he : PE X e (tE P W (ev (callN tb Wf m) y)) := (okAll G N P tb Wf m n).e sc e y X W h2 F.toFits
  by_cases hc : isComp e = true
  · cases n with
    | zero => simp only [trE] at h2; cases h2
    | succ n =>
      cases e with
      | ListComp elt gens scope cp =>
        by_cases hb : swB X.env.scope x q cp scope = true
        · have hyl : X.env.scope.names.lookup x = some .local := by
            unfold swB at hb
            rw [Bool.and_eq_true, Bool.and_eq_true] at hb
            exact eq_of_beq hb.1.1
          have hsw : swapsWith (.ListComp elt gens scope cp) (some (.Name x q)) pos.line X.env = pure true := by rw [swaps_comp F.kind, hb]
          have I := okAll G N P tb Wf m n
          simp only [trE] at h2
          split at h2
          all_goals first
            | (exfalso; have heq := ‹Expr.ListComp elt gens scope cp = _›; cases heq; done)
            | (cases h2; done)
            | skip
          · have heq := ‹Expr.ListComp elt gens scope cp = _›
            cases heq
            rename_i tg iter ifs _
            split at h2
            · rename_i it t g1 g2
              split at h2
              · rename_i hc
                rw [Bool.and_eq_true, List.all_eq_true] at hc
                have hT' : ∀ i, i ∈ tgs t → i ∈ (ownOf N scope.names).map (·.2) := fun i hi => by
                  obtain ⟨j, hj, e⟩ := List.any_eq_true.mp (hc.2 i hi)
                  rw [Nat.eq_of_beq_eq_true e]; exact hj
                obtain ⟨pr, l1, l2, l3⟩ := I.i sc tg iter it X W g1 F.toFits
                have ok : BlkOk X.N X.env.scope scope (ownOf N scope.names) := by rw [F.N, F.sc]; exact blkOk_by hc.1
                split at h2
                · rename_i x' g3 _
                  simp only [Option.some.injEq] at h2; subst h2
                  exact ps_setLcM (g := none) C (fun hp => tg_tup g2 (l1 hp)) hT' (tt := tYes) (fun σ H Q ⟨r, Ow, Xb, R, hf⟩ => hf H Ow .refl R) l2 ok k1 hyl hS hsw (fun s H Ca cl fp => blk_tg F.toFits g2) (fun s H Ca cl fp => pts_nil) (fun s H Ca cl fp => I.e _ elt x' _ _ g3 F.toFits.blk) l3
                · rename_i x' c g3 _
                  simp only [Option.map_eq_some_iff] at h2
                  obtain ⟨z, g4, rfl⟩ := h2
                  exact ps_setLcM (g := some fun r => asB (ev (callN tb Wf m) z r)) C (fun hp => tg_tup g2 (l1 hp)) hT' (tt := tT P W0 fun r => asB (ev (callN tb Wf m) z r)) (fun σ H Q q => q) l2 ok k1 hyl hS hsw (fun s H Ca cl fp => blk_tg F.toFits g2) (fun s H Ca cl fp => pts_one (I.t _ c z _ _ g4 F.toFits.blk)) (fun s H Ca cl fp => I.e _ elt x' _ _ g3 F.toFits.blk) l3
                · cases h2
              · cases h2
            · cases h2
        · have hb : swB X.env.scope x q cp scope = false := by simpa using hb
          exact ps_setM C.nd k1 k2 hS he (by rw [swaps_comp F.kind, hb]) (.inl (F.fn x))
      | SetComp elt gens scope cp => simp [trE] at h2
      | DictComp k v gens scope cp => simp [trE] at h2
      | _ => cases hc
  · exact ps_setM C.nd k1 k2 hS he (swaps_plain (by simpa using hc)) (.inl (F.fn x))
end
end MP
set_option linter.all false
set_option Elab.async false
set_option maxRecDepth 100000
set_option maxHeartbeats 4000000
/-! MP35: tuples of targets. -/
namespace MP
open PySem PySem.Spec PyProof.Rows L2 PySem.SeqAt
theorem plainLoc_some {sc : Scope} {l : Nat} {e : Expr} {x : Str} (h : plainLoc sc l e = some x) : ∃ q, e = .Name x q ∧ sc.names.lookup x = some .local := by
  cases e with
  | Name y q =>
    simp only [plainLoc] at h
    split at h
    · rename_i hc
      rw [Bool.and_eq_true] at hc
      simp only [Option.some.injEq] at h
      subst h
      exact ⟨q, rfl, eq_of_beq hc.1⟩
    · cases h
  | _ => cases h
theorem swapN_some {sc : Scope} {ts vs : List Expr} {names : List Str} (h : swapN sc ts vs = some names) :
    (∃ x y px py a b, ts = [.Name x px, .Name y py] ∧ vs = [a, b] ∧ names = [x, y] ∧ sc.names.lookup x = some .local ∧ sc.names.lookup y = some .local) ∨
    (∃ x y z px py pz a b c, ts = [.Name x px, .Name y py, .Name z pz] ∧ vs = [a, b, c] ∧ names = [x, y, z] ∧ sc.names.lookup x = some .local ∧ sc.names.lookup y = some .local ∧ sc.names.lookup z = some .local) := by
  unfold swapN at h
  split at h
  · rename_i hc
    simp only [Bool.and_eq_true, Bool.or_eq_true, beq_iff_eq] at hc
    obtain ⟨⟨hl, hv⟩, _⟩ := hc
    dsimp only at h
    split at h
    · cases h
    · rename_i hn
      split at h
      · cases h
      · split at h
        · cases h
        · simp only [Option.some.injEq] at h
          simp only [Bool.or_eq_true, not_or, bne_iff_ne, ne_eq, Decidable.not_not] at hn
          have hn1 := hn.1
          generalize (ts.head?.map (·.pos.line)).getD 0 = l at *
          rcases hl with hl | hl
          · match ts, vs, hl, hv with
            | [t1, t2], [a, b], _, _ =>
              cases e1 : plainLoc sc l t1 with
              | none => rw [List.filterMap_cons_none e1] at hn1; have := List.length_filterMap_le (plainLoc sc l) [t2]; simp at hn1 this; omega
              | some x =>
                cases e2 : plainLoc sc l t2 with
                | none => rw [List.filterMap_cons_some e1, List.filterMap_cons_none e2] at hn1; simp at hn1
                | some y =>
                  rw [List.filterMap_cons_some e1, List.filterMap_cons_some e2] at h
                  obtain ⟨q1, rfl, z1⟩ := plainLoc_some e1
                  obtain ⟨q2, rfl, z2⟩ := plainLoc_some e2
                  exact .inl ⟨x, y, q1, q2, a, b, rfl, rfl, h.symm, z1, z2⟩
          · match ts, vs, hl, hv with
            | [t1, t2, t3], [a, b, c], _, _ =>
              cases e1 : plainLoc sc l t1 with
              | none => rw [List.filterMap_cons_none e1] at hn1; have := List.length_filterMap_le (plainLoc sc l) [t2, t3]; simp at hn1 this; omega
              | some x =>
                cases e2 : plainLoc sc l t2 with
                | none => rw [List.filterMap_cons_some e1, List.filterMap_cons_none e2] at hn1; have := List.length_filterMap_le (plainLoc sc l) [t3]; simp at hn1 this; omega
                | some y =>
                  cases e3 : plainLoc sc l t3 with
                  | none => rw [List.filterMap_cons_some e1, List.filterMap_cons_some e2, List.filterMap_cons_none e3] at hn1; simp at hn1
                  | some z =>
                    rw [List.filterMap_cons_some e1, List.filterMap_cons_some e2, List.filterMap_cons_some e3] at h
                    obtain ⟨q1, rfl, z1⟩ := plainLoc_some e1
                    obtain ⟨q2, rfl, z2⟩ := plainLoc_some e2
                    obtain ⟨q3, rfl, z3⟩ := plainLoc_some e3
                    exact .inr ⟨x, y, z, q1, q2, q3, a, b, c, rfl, rfl, h.symm, z1, z2, z3⟩
  · cases h
section
variable {G : GS} {N : List Str} {P : Par} {tb : Tbl} {Wf : WhileF} {m n : Nat} {sc : Scope} {X : Cx} {W : XW} {S : List Nat} {a b e : Expr} {p pos q tp : Pos} {k : Nat}
def isTupD : Expr → Bool
  | .Tuple _ _ _ => true
  | _ => false
theorem swapped_none {ts : List Expr} {env : Env} (h : isTupD e = false) : swappedStores [.Tuple ts k tp] e env = pure none := by
  cases e <;> first | rfl | cases h
theorem st_atup (F : FitsS G N P tb Wf m sc X W) {ts : List Expr} {is : List Nat} {y : MP.E} (hc : isComp e = false) (ht : isTupD e = false) (h1 : locsOf sc N ts = some is) (h2 : trE G N n sc e = some y) (hS : ∀ i, i ∈ is → i ∈ S) :
    PS X (.Assign [.Tuple ts k tp] e pos) (tS P W S (atupF is (ev (callN tb Wf m) y))) :=
  ps_atupM F.cok hS ((okAll G N P tb Wf m n).e sc e y X W h2 F.toFits) (pg_many F.cok (F.locs h1)) (by unfold swapsWithSole; exact swaps_plain hc) (swapped_none ht)
end
section
variable {G : GS} {N : List Str} {P : Par} {tb : Tbl} {Wf : WhileF} {m n : Nat} {sc : Scope} {X : Cx} {W : XW} {S : List Nat} {a b e : Expr} {p pos q tp tp2 : Pos} {k k2 : Nat}
theorem nodupN_cons {i : Nat} {is : List Nat} (h : nodupN (i :: is) = true) : (∀ j, j ∈ is → j ≠ i) ∧ nodupN is = true := by
  simp only [nodupN, Bool.and_eq_true, Bool.not_eq_true'] at h
  refine ⟨fun j hj z => ?_, h.2⟩
  have := any_beq h.1
  exact this (z ▸ hj)
theorem st_ptup (F : FitsS G N P tb Wf m sc X W) {ts vs : List Expr} {is : List Nat} {es : Es} (h1 : locsOf sc N ts = some is) (h2 : trH G N n sc vs = some es) (hx : swapX sc ts vs = false) (hd : nodupN is = true) (hn : is.length ≤ 100) (hS : ∀ i, i ∈ is → i ∈ S) :
    PS X (.Assign [.Tuple ts k tp] (.Tuple vs k2 tp2) pos) (tS P W S (ptupF is (evh (callN tb Wf m) es))) := by
  have C := F.cok
  have hl := F.locs h1
  have hv := h_list F.toFits h2
  have hw := swapped_eq (kt := k) (k2 := k2) (pt := tp) (pt2 := tp2) (ts := ts) (vs := vs) F.kind (by rw [F.sc]; exact hx)
  have hs : swapsWithSole [.Tuple ts k tp] (.Tuple vs k2 tp2) pos.line X.env = pure false := rfl
  cases e : swapN X.env.scope ts vs with
  | none => rw [e] at hw; exact ps_tupM C hl hn hS hv hw hs
  | some names =>
    rw [e] at hw
    rcases swapN_some e with ⟨x, y, px, py, a, b, rfl, rfl, rfl, z1, z2⟩ | ⟨x, y, z, px, py, pz, a, b, c, rfl, rfl, rfl, z1, z2, z3⟩
    · cases hl with
      | cons i1 l1 f1 t1 => cases t1 with
        | cons i2 l2 f2 t2 => cases t2 with
          | nil =>
            have d := nodupN_cons hd
            exact ps_par2M C i1 i2 (fun z => d.1 _ (by simp) z.symm) z1 z2 hS hv hw hs
    · cases hl with
      | cons i1 l1 f1 t1 => cases t1 with
        | cons i2 l2 f2 t2 => cases t2 with
          | cons i3 l3 f3 t3 => cases t3 with
            | nil =>
              have d := nodupN_cons hd
              have d2 := nodupN_cons d.2
              exact ps_par3M C i1 i2 i3 (fun z => d.1 _ (by simp) z.symm) (fun z => d.1 _ (by simp) z.symm) (fun z => d2.1 _ (by simp) z.symm) z1 z2 z3 hS hv hw hs
end
end MP
set_option linter.all false
set_option Elab.async false
set_option maxRecDepth 100000
set_option maxHeartbeats 4000000
/-! MP36: small statements. -/
namespace MP
open PySem PySem.Spec PyProof.Rows L2 PySem.SeqAt
section
variable {G : GS} {N : List Str} {P : Par} {tb : Tbl} {Wf : WhileF} {m n : Nat} {sc : Scope} {X : Cx} {W : XW} {S : List Nat} {a b e ix : Expr} {p pos q np tp tp2 : Pos} {k k2 : Nat} {x : Str} {i : Nat} {y z : MP.E}
theorem st_setix (F : FitsS G N P tb Wf m sc X W) {kp : Pos} (hc : isComp e = false) (hx : isSlice ix = false) (h1 : slotOf sc N x = some i) (h2 : trE G N n sc ix = some y) (h3 : trE G N n sc e = some z) :
    PS X (.Assign [.Subscript (.Name x np) ix kp] e pos) (tS P W S (setixF i (ev (callN tb Wf m) y) (ev (callN tb Wf m) z))) := by
  obtain ⟨k1, k2, k3, k4⟩ := F.slot h1
  refine ps_setixM F.cok k1 k2 k3 k4 ((okAll G N P tb Wf m n).e sc ix y X W h2 F.toFits) ((okAll G N P tb Wf m n).e sc e z X W h3 F.toFits) (by unfold swapsWithSole; exact swaps_plain hc) (by cases e <;> rfl) ?_ ?_
  · cases ix <;> first | rfl | cases hx
  · intro v
    cases ix <;> first | rfl | cases hx
theorem st_aug (F : FitsS G N P tb Wf m sc X W) {op : Bop} (ho : op = .add ∨ op = .sub ∨ op = .mul) (h1 : locOf sc N x = some i) (h2 : trE G N n sc e = some y) (hS : i ∈ S) :
    PS X (.AugAssign (.Name x np) (opOf op) e pos) (tS P W S (augF i op (ev (callN tb Wf m) y))) := by
  obtain ⟨k1, k2, k3⟩ := F.loc h1
  exact ps_augM F.cok ho k1 k2 hS ((okAll G N P tb Wf m n).e sc e y X W h2 F.toFits) (.inl (F.fn x))
theorem st_ret (F : FitsS G N P tb Wf m sc X W) (h2 : trE G N n sc e = some y) : PS X (.Return (some e) pos) (tS P W S (retF (ev (callN tb Wf m) y))) := ps_retM ((okAll G N P tb Wf m n).e sc e y X W h2 F.toFits)
theorem st_expr (F : FitsS G N P tb Wf m sc X W) (hc : isComp e = false) (h2 : trE G N n sc e = some y) : PS X (.Expr e pos) (tS P W S (exprF (ev (callN tb Wf m) y))) := ps_exprM ((okAll G N P tb Wf m n).e sc e y X W h2 F.toFits) (swaps_plain hc)
theorem st_augix (F : FitsS G N P tb Wf m sc X W) {op : Bop} {kp : Pos} (ho : op = .add ∨ op = .sub ∨ op = .mul) (hx : isSlice ix = false) (h1 : slotOf sc N x = some i) (h2 : trE G N n sc ix = some y) (h3 : trE G N n sc e = some z) :
    PS X (.AugAssign (.Subscript (.Name x np) ix kp) (opOf op) e pos) (tS P W S (augixF i (ev (callN tb Wf m) y) op (ev (callN tb Wf m) z))) := by
  obtain ⟨k1, k2, k3, k4⟩ := F.slot h1
  refine ps_augixM F.cok ho k1 k2 k3 k4 ((okAll G N P tb Wf m n).e sc ix y X W h2 F.toFits) ((okAll G N P tb Wf m n).e sc e z X W h3 F.toFits) fun ov iv new => ?_
  cases ix <;> first | rfl | cases hx
theorem st_app (F : FitsS G N P tb Wf m sc X W) {ap cp : Pos} (hl : Nat.beq ap.endLine cp.line = true) (hs : isStar a = false) (h1 : slotOf sc N x = some i) (h2 : trE G N n sc a = some y) :
    PS X (.Expr (.Call (.Attribute (.Name x np) "append" ap) [a] [] cp) pos) (tS P W S (appF i (ev (callN tb Wf m) y))) := by
  obtain ⟨k1, k2, k3, k4⟩ := F.slot h1
  exact ps_appM F.cok k1 k2 k3 k4 rfl (beq_iff_eq.mpr (Nat.eq_of_beq_eq_true hl)) ((okAll G N P tb Wf m n).e sc a y X W h2 F.toFits) (notStar hs) rfl
theorem st_if (F : FitsS G N P tb Wf m sc X W) {A B : List Stmt} {f g : Fs} (h1 : trE G N n sc e = some y) (hA : PSs X A (tS P W S f)) (hB : PSs X B (tS P W S g)) : PS X (.If e A B pos) (tS P W S (ifsF (fun r => asB (ev (callN tb Wf m) y r)) f g)) :=
  ps_ifM ((okAll G N P tb Wf m n).t sc e y X W h1 F.toFits) hA hB
theorem st_while (F : FitsS G N P tb Wf m sc X W) {A : List Stmt} {f : Fs} (h1 : trE G N n sc e = some y) (hA : PSs X A (tS P W S f)) : PS X (.While e A [] pos) (tS P W S fun r => Wf (fun r => asB (ev (callN tb Wf m) y r)) f r) :=
  ps_whileM F.wok F.po ((okAll G N P tb Wf m n).t sc e y X W h1 F.toFits) hA
theorem st_for (F : FitsS G N P tb Wf m sc X W) {tg it : Expr} {A : List Stmt} {f : Fs} {t : Tg} {I : MP.It} {S0 : List Nat} (h1 : tgOf sc N tg = some t) (h2 : trI G N n sc (isTupE tg) it = some I) (hS : ∀ i, i ∈ tgs t ++ S0 → i ∈ S) (hA : PSs X A (tS P W (tgs t ++ S0) f)) :
    PS X (.For tg it A [] pos) (tS P W S (forF S0 t (evi (callN tb Wf m) I) f)) := by
  obtain ⟨pr, l1, l2, l3⟩ := (okAll G N P tb Wf m n).i sc tg it I X W h2 F.toFits
  exact ps_forM F.cok F.po l2 (F.tg h1) hA (fun hp => tg_tup h1 (l1 hp)) hS l3
end
end MP
set_option linter.all false
set_option Elab.async false
set_option maxRecDepth 100000
set_option maxHeartbeats 4000000
/-! MP37: statements, by the fuel. -/
namespace MP
open PySem PySem.Spec PyProof.Rows L2 PySem.SeqAt
section
variable (G : GS) (N : List Str) (P : Par) (tb : Tbl) (Wf : WhileF) (m : Nat)
def OkS1 (n : Nat) : Prop := ∀ (sc : Scope) (s : Stmt) (st : MP.St) (X : Cx) (W : XW) (S : List Nat), tr1 G N n sc s = some st → FitsS G N P tb Wf m sc X W → (∀ i, i ∈ sets st → i ∈ S) → PS X s (tS P W S (exec (callN tb Wf m) Wf st))
def OkSs (n : Nat) : Prop := ∀ (sc : Scope) (ss : List Stmt) (st : MP.St) (X : Cx) (W : XW) (S : List Nat), trS G N n sc ss = some st → FitsS G N P tb Wf m sc X W → (∀ i, i ∈ sets st → i ∈ S) → PSs X ss (tS P W S (exec (callN tb Wf m) Wf st))
end
section
variable {G : GS} {N : List Str} {P : Par} {tb : Tbl} {Wf : WhileF} {m n : Nat}
theorem okSs_succ (h1 : OkS1 G N P tb Wf m n) (h2 : OkSs G N P tb Wf m n) : OkSs G N P tb Wf m (n + 1) := by
  intro sc ss st X W S h F hS
  cases ss with
  | nil =>
    simp only [trS, Option.some.injEq] at h
    subst h; exact ss_nil
  | cons s r =>
    simp only [trS] at h
    split at h
    · rename_i x y e1 e2
      simp only [Option.some.injEq] at h
      subst h
      exact ss_cons (h1 sc s x X W S e1 F fun i hi => hS i (List.mem_append_left _ hi)) (h2 sc r y X W S e2 F fun i hi => hS i (List.mem_append_right _ hi))
    · cases h
theorem FitsS.cls (F : FitsS G N P tb Wf m sc X W) {x : Str} {c : Nat} (hg : isGl sc x = true) (ho : okName x = true) (h : G.clss.lookup x = some c) {p pos : Pos} :
    ∃ Ca, P.ca c = some Ca ∧ PMk X (.Call (.Name x p) [] [] pos) (fun _ H Q => Q (.ref Ca) none H) ∧ Names X x (.ref Ca) ∧ ∀ a A, P.ca a = some A → PySem.W.exmOne X.K (.ref A) (.ref Ca) = some (isSub a c) := by
  obtain ⟨Ca, g, pc, ⟨B, nw, it, bm, ef, ei⟩, k, sb, ty, ex⟩ := F.clss x c h
  have hgl : Gl X x := F.toFits.gl hg
  exact ⟨Ca, pc, pmk_own0 ef ei g k (raises_own sb ty) hgl (okName_ok ho).1, ⟨hgl, (okName_ok ho).1, .inl g⟩, ex⟩
theorem okS1_succ (h1 : OkS1 G N P tb Wf m n) (h2 : OkSs G N P tb Wf m n) : OkS1 G N P tb Wf m (n + 1) := by
  intro sc s st X W S h F hS
  have C := F.cok
  cases s with
  | Pass p =>
    simp only [tr1, Option.some.injEq] at h
    subst h; exact ps_passM
  | Return e p =>
    cases e with
    | none =>
      simp only [tr1, Option.some.injEq] at h
      subst h; exact ps_retNM
    | some e =>
      simp only [tr1, Option.map_eq_some_iff] at h
      obtain ⟨x, e1, rfl⟩ := h
      exact st_ret F e1
  | If c a b p =>
    simp only [tr1] at h
    split at h
    · rename_i x y z e1 e2 e3
      simp only [Option.some.injEq] at h
      subst h
      exact st_if F e1 (h2 sc a y X W S e2 F fun i hi => hS i (List.mem_append_left _ hi)) (h2 sc b z X W S e3 F fun i hi => hS i (List.mem_append_right _ hi))
    · cases h
  | For tg it b oe p =>
    cases oe with
    | cons a r => simp only [tr1] at h; cases h
    | nil =>
      simp only [tr1] at h
      split at h
      · rename_i t I y e1 e2 e3
        simp only [Option.some.injEq] at h
        subst h
        exact st_for F e1 e2 hS (h2 sc b y X W _ e3 F fun i hi => List.mem_append_right _ hi)
      · cases h
  | While c b oe p =>
    cases oe with
    | cons a r => simp only [tr1] at h; cases h
    | nil =>
      simp only [tr1] at h
      split at h
      · rename_i x y e1 e2
        simp only [Option.some.injEq] at h
        subst h
        exact st_while F e1 (h2 sc b y X W S e2 F hS)
      · cases h
  | Expr e p =>
    simp only [tr1] at h
    split at h
    all_goals try (exfalso; have heq := ‹Stmt.Expr e p = _›; cases heq; done)
    · have heq := ‹Stmt.Expr e p = _›
      cases heq
      simp only [Option.some.injEq] at h
      subst h; exact ps_docM
    · have heq := ‹Stmt.Expr e p = _›
      cases heq
      rename_i x np mm ap a cp _
      split at h
      · rename_i hc
        simp only [Bool.and_eq_true, decide_eq_true_eq, Bool.not_eq_true'] at hc
        obtain ⟨⟨rfl, hl⟩, hs⟩ := hc
        split at h
        · rename_i i y e1 e2
          simp only [Option.some.injEq] at h
          subst h
          exact st_app F hl hs e1 e2
        · cases h
      · simp only [Option.map_eq_some_iff] at h
        obtain ⟨y, e1, rfl⟩ := h
        exact st_expr F rfl e1
    · have heq := ‹Stmt.Expr e p = _›
      cases heq
      split at h
      · cases h
      · rename_i hc
        simp only [Option.map_eq_some_iff] at h
        obtain ⟨y, e1, rfl⟩ := h
        exact st_expr F (by simpa using hc) e1
    all_goals cases h
  | Raise e ca p =>
    simp only [tr1] at h
    split at h
    all_goals try (exfalso; have heq := ‹Stmt.Raise e ca p = _›; cases heq; done)
    · have heq := ‹Stmt.Raise e ca p = _›
      cases heq
      split at h
      · rename_i hc
        rw [Bool.and_eq_true] at hc
        simp only [Option.map_eq_some_iff] at h
        obtain ⟨c, e1, rfl⟩ := h
        obtain ⟨Ca, pc, pm, _⟩ := F.cls hc.1 hc.2 e1
        exact ps_raiseM C pc pm
      · cases h
    all_goals cases h
  | Assign ts e p =>
    simp only [tr1] at h
    split at h
    all_goals try (exfalso; have heq := ‹Stmt.Assign ts e p = _›; cases heq; done)
    · have heq := ‹Stmt.Assign ts e p = _›
      cases heq
      split at h
      · rename_i i y e1 e2
        simp only [Option.some.injEq] at h
        subst h
        exact st_asg F e1 e2 (hS _ (by simp [sets]))
      · cases h
    · have heq := ‹Stmt.Assign ts e p = _›
      cases heq
      split at h
      · rename_i is es e1 e2
        split at h
        · cases h
        · rename_i hc
          simp only [Bool.or_eq_true, Bool.not_eq_true', not_or, Bool.not_eq_true, Bool.not_eq_false] at hc
          obtain ⟨⟨c1, c2⟩, c3⟩ := hc
          simp only [Option.some.injEq] at h
          subst h
          exact st_ptup F e1 e2 c1 c2 (by have : ¬ (100 < is.length) := fun z => by rw [(Nat.blt_eq (x := 100) (y := is.length)).mpr z] at c3; cases c3
                                          omega) hS
      · cases h
    · have heq := ‹Stmt.Assign ts e p = _›
      cases heq
      split at h
      · cases h
      · rename_i hc
        split at h
        · rename_i is y e1 e2
          simp only [Option.some.injEq] at h
          subst h
          refine st_atup F (by simpa using hc) ?_ e1 e2 hS
          have hne := ‹∀ (vs : List Expr) (k : Nat) (pos : Pos), e = Expr.Tuple vs k pos → False›
          cases e <;> first | rfl | exact (hne _ _ _ rfl).elim
        · cases h
    · have heq := ‹Stmt.Assign ts e p = _›
      cases heq
      split at h
      · cases h
      · rename_i hc
        simp only [Bool.or_eq_true, not_or, Bool.not_eq_true] at hc
        split at h
        · rename_i i y z e1 e2 e3
          simp only [Option.some.injEq] at h
          subst h
          exact st_setix F hc.1 hc.2 e1 e2 e3
        · cases h
    all_goals cases h
  | AugAssign t op e p =>
    simp only [tr1] at h
    split at h
    all_goals try (exfalso; have heq := ‹Stmt.AugAssign t op e p = _›; cases heq; done)
    · have heq := ‹Stmt.AugAssign t op e p = _›
      cases heq
      split at h
      · rename_i i y e1 e2 e3
        simp only [Option.some.injEq] at h
        subst h
        rw [← bopOf_ok e1]
        exact st_aug F (.inl rfl) e2 e3 (hS _ (by simp [sets]))
      · rename_i i y e1 e2 e3
        simp only [Option.some.injEq] at h
        subst h
        rw [← bopOf_ok e1]
        exact st_aug F (.inr (.inl rfl)) e2 e3 (hS _ (by simp [sets]))
      · rename_i i y e1 e2 e3
        simp only [Option.some.injEq] at h
        subst h
        rw [← bopOf_ok e1]
        exact st_aug F (.inr (.inr rfl)) e2 e3 (hS _ (by simp [sets]))
      · cases h
    · have heq := ‹Stmt.AugAssign t op e p = _›
      cases heq
      split at h
      · cases h
      · rename_i hc
        split at h
        · rename_i i y z e1 e2 e3 e4
          simp only [Option.some.injEq] at h
          subst h
          rw [← bopOf_ok e1]
          exact st_augix F (.inl rfl) (by simpa using hc) e2 e3 e4
        · rename_i i y z e1 e2 e3 e4
          simp only [Option.some.injEq] at h
          subst h
          rw [← bopOf_ok e1]
          exact st_augix F (.inr (.inl rfl)) (by simpa using hc) e2 e3 e4
        · rename_i i y z e1 e2 e3 e4
          simp only [Option.some.injEq] at h
          subst h
          rw [← bopOf_ok e1]
          exact st_augix F (.inr (.inr rfl)) (by simpa using hc) e2 e3 e4
        · cases h
    all_goals cases h
  | Try b hs oe fb p =>
    simp only [tr1] at h
    split at h
    all_goals try (exfalso; have heq := ‹Stmt.Try b hs oe fb p = _›; cases heq; done)
    · have heq := ‹Stmt.Try b hs oe fb p = _›
      cases heq
      split at h
      · rename_i hc
        rw [Bool.and_eq_true] at hc
        split at h
        · rename_i c bb j i e1 e2 e3 e4
          split at h
          · rename_i hl
            simp only [Option.some.injEq] at h
            subst h
            obtain ⟨Ca, pc, _, nm, ex⟩ := F.cls (p := p) (pos := p) hc.1 hc.2 e1
            obtain ⟨l1, l2, l3⟩ := F.toFits.loc e3
            obtain ⟨k1, k2, k3⟩ := F.toFits.loc e4
            have hlk : X.env.kindOf _ = some .local := (by rw [← F.sc] at hl; exact eq_of_beq hl)
            refine ps_try1M C F.stack F.frame k1 hlk (hS _ (by simp [sets])) nm pc ex (fun W' pn xe C' po' => h2 sc b bb _ W' S e2 (F.tr C' po') fun i hi => hS i (by simp [sets, hi])) fun a oe cls d pn hz hf => ?_
            exact ss_one (ps_setM (X := X.suite a ((a, oe) :: pn)) C.nd l1 l2 (hS _ (by simp [sets])) (s_const pe_str fun B H => .str _) rfl (.inl (F.fn _)))
          · cases h
        · cases h
      · cases h
    all_goals cases h
  | _ => simp only [tr1] at h; cases h
theorem okS_all (G : GS) (N : List Str) (P : Par) (tb : Tbl) (Wf : WhileF) (m : Nat) : ∀ n, OkS1 G N P tb Wf m n ∧ OkSs G N P tb Wf m n
  | 0 => ⟨fun _ _ _ _ _ _ h _ _ => (by simp only [tr1] at h; cases h), fun _ _ _ _ _ _ h _ _ => (by simp only [trS] at h; cases h)⟩
  | n + 1 => by
    have I := okS_all G N P tb Wf m n
    exact ⟨okS1_succ I.1 I.2, okSs_succ I.1 I.2⟩
end
end MP
set_option linter.all false
set_option Elab.async false
set_option maxRecDepth 100000
set_option maxHeartbeats 1000000
/-! MP38: a law's end. -/
namespace MP
open PySem PySem.Spec PyProof.Rows L2 PySem.SeqAt

/-! ### constants of the text -/
mutual
def okD (K : PySem.W.Frag) : Dv → Value → Bool
  | .non, .none => true
  | .bl b, .bool c => b == c
  | .int i, .int j _ => decide (i = j)
  | .str x, .str y _ => decide (x = y)
  | .tup ds, .ref a => (match K.lookup a with
    | some ⟨.type c, none, .seq its _, _⟩ => decide (c = "tuple") && decide (its.size ≤ sizeLine) && okDs K ds its.toList
    | _ => false)
  | _, _ => false
def okDs (K : PySem.W.Frag) : List Dv → List Value → Bool
  | [], [] => true
  | d :: ds, u :: us => okD K d u && okDs K ds us
  | _, _ => false
end
mutual
theorem okD_ok {P : Par} : ∀ (d : Dv) (u : Value), okD P.K d u = true → ∃ v, RelV v u ∧ ∀ B H, Rv P B H d v
  | .non, u, h => by
    cases u <;> simp only [okD] at h <;> first | cases h; done | skip
    exact ⟨.non, rfl, fun _ _ => .non⟩
  | .bl b, u, h => by
    cases u <;> simp only [okD] at h <;> first | cases h; done | skip
    rename_i c
    have e : b = c := eq_of_beq h
    subst e
    exact ⟨.bl b, rfl, fun _ _ => .bl b⟩
  | .int i, u, h => by
    cases u <;> simp only [okD] at h <;> first | cases h; done | skip
    have e := of_decide_eq_true h
    subst e
    exact ⟨.int i, ⟨_, rfl⟩, fun _ _ => .int i⟩
  | .str x, u, h => by
    cases u <;> simp only [okD] at h <;> first | cases h; done | skip
    have e := of_decide_eq_true h
    subst e
    exact ⟨.str x, ⟨_, rfl⟩, fun _ _ => .str x⟩
  | .tup ds, u, h => by
    cases u <;> simp only [okD] at h <;> first | cases h; done | skip
    rename_i a
    split at h
    · rename_i c its n sl q
      simp only [Bool.and_eq_true, decide_eq_true_eq] at h
      obtain ⟨⟨h1, h2⟩, h3⟩ := h
      subst h1
      obtain ⟨vs, k1, k2⟩ := okDs_ok ds its.toList h3
      exact ⟨.ref a, rfl, fun B H => .tup (.inr ⟨_, its, n, q, rfl, rfl, h2, k1, rfl⟩) (k2 B H)⟩
    · cases h
  | .lv _, u, h => by cases u <;> simp only [okD] at h <;> cases h
  | .fn _, u, h => by cases u <;> simp only [okD] at h <;> cases h
  | .clo _ _, u, h => by cases u <;> simp only [okD] at h <;> cases h
  | .exc _, u, h => by cases u <;> simp only [okD] at h <;> cases h
  | .scr _, u, h => by cases u <;> simp only [okD] at h <;> cases h
theorem okDs_ok {P : Par} : ∀ (ds : List Dv) (us : List Value), okDs P.K ds us = true → ∃ vs, Vals vs us ∧ ∀ B H, Rvs P B H ds vs
  | [], [], _ => ⟨[], .nil, fun _ _ => .nil⟩
  | [], _ :: _, h => by simp only [okDs] at h; cases h
  | _ :: _, [], h => by simp only [okDs] at h; cases h
  | d :: ds, u :: us, h => by
    simp only [okDs, Bool.and_eq_true] at h
    obtain ⟨v, h1, h2⟩ := okD_ok d u h.1
    obtain ⟨vs, h3, h4⟩ := okDs_ok ds us h.2
    exact ⟨v :: vs, .cons h1 h3, fun B H => .cons (h2 B H) (h4 B H)⟩
end
def okCon (K : PySem.W.Frag) (c : Str × Dv) : Bool := match PySem.W.nsIn K mainGlobals c.1 with
  | some (some u) => okD K c.2 u
  | _ => false

/-! ### a law's text -/
structure Fdef where
  idx : Nat
  name : Str
  ps : List Str
  N : List Str
  dfl : List Int
  lent : List Nat
  body : MP.St
  args : Arguments
  stmts : List Stmt
  scope : Scope
def Fdef.dd (d : Fdef) : He.DefD := ⟨(d.name, none), d.name, d.name, d.args, d.stmts, d.scope, d.dfl.map He.Dv.int, []⟩
def Fdef.row (d : Fdef) : Str × (Nat × Nat × List Dv × List Nat) := (d.name, d.idx, d.ps.length, d.dfl.map Dv.int, d.lent)
def BindP (d : Fdef) : Prop := match d.dfl with
  | [] => ∀ (kV doc pm : Value) (an : Option Addr) (cdv ct : Value) (us : List Value), us.length = d.ps.length → bindArgs (PySem.W.fnOf d.name d.name d.args d.stmts d.scope .none kV doc pm an cdv ct) ⟨us, []⟩ = pure (d.ps.zip us)
  | i :: is => ∀ j, j ≤ (i :: is).length → ∀ (T : Addr) (kV doc pm : Value) (an : Option Addr) (cdv ct : Value) (us its : List Value), us.length + ((i :: is).length - j) = d.ps.length → its.length = (i :: is).length →
      ∃ k, bindArgs (PySem.W.fnOf d.name d.name d.args d.stmts d.scope (.ref T) kV doc pm an cdv ct) ⟨us, []⟩ = seqItems? (.ref T) >>= k ∧ k (some its.toArray) = pure (d.ps.zip (us ++ its.drop j))
structure Txt where
  ds : List Fdef
  cons : List (Str × Dv)
  clss : List (Str × Nat)
  tb : Tbl
def Txt.gs (t : Txt) : GS := ⟨t.ds.map Fdef.row, t.cons, t.clss⟩
def Txt.par (t : Txt) (K : PySem.W.Frag) : Par where
  K := K
  fa := fun i => (t.ds.find? fun d => Nat.beq d.idx i).map fun d => He.ga K d.name
  ca := fun c => (t.clss.find? fun q => Nat.beq q.2 c).map fun q => He.ga K q.1
  J := fun _ => True
  Jk := fun _ _ _ _ _ => trivial
structure Txt.Ok (t : Txt) : Prop where
  sc : ∀ d, d ∈ t.ds → FnScope d.N d.ps d.scope
  tr : ∀ d, d ∈ t.ds → trS t.gs d.N 200 d.scope d.stmts = some d.body
  tb : ∀ d, d ∈ t.ds → t.tb d.idx = some ⟨d.ps.length, d.N.length, d.body⟩
  bd : ∀ d, d ∈ t.ds → BindP d
/-- what the head tells -/
def Txt.facts (t : Txt) : List He.Fa := t.ds.map (fun d => .glo d.name) ++ (bltNames.map .free ++ (t.clss.map (fun q => .glo q.1) ++ (t.clss.map (fun q => .exc q.1) ++ t.clss.flatMap fun q => t.clss.map fun p => .exm q.1 p.1 (isSub q.2 p.2))))
def Txt.fns (t : Txt) : List He.DefD := t.ds.map Fdef.dd
def Txt.ex (t : Txt) (K : PySem.W.Frag) : Bool := t.cons.all (okCon K)
theorem lookup_row : ∀ {ds : List Fdef} {name : Str} {q : Nat × Nat × List Dv × List Nat}, (ds.map Fdef.row).lookup name = some q → ∃ d, d ∈ ds ∧ d.name = name ∧ (d.idx, d.ps.length, d.dfl.map Dv.int, d.lent) = q
  | [], _, _, h => by cases h
  | d :: ds, name, q, h => by
    have h : List.lookup name ((d.name, (d.idx, d.ps.length, d.dfl.map Dv.int, d.lent)) :: ds.map Fdef.row) = some q := h
    rw [List.lookup_cons] at h
    cases e : name == d.name with
    | true =>
      rw [e] at h
      simp only [Option.some.injEq] at h
      exact ⟨d, List.mem_cons_self, (eq_of_beq e).symm, h⟩
    | false =>
      rw [e] at h
      obtain ⟨d', h1, h2⟩ := lookup_row h
      exact ⟨d', List.mem_cons_of_mem _ h1, h2⟩
theorem lookup_mem' {α : Type} : ∀ {l : List (Str × α)} {x : Str} {v : α}, l.lookup x = some v → (x, v) ∈ l
  | [], _, _, h => by cases h
  | (y, w) :: l, x, v, h => by
    rw [List.lookup_cons] at h
    cases e : x == y with
    | true =>
      rw [e] at h
      simp only [Option.some.injEq] at h
      rw [eq_of_beq e, h]; exact List.mem_cons_self
    | false => rw [e] at h; exact List.mem_cons_of_mem _ (lookup_mem' h)
theorem ints_rv {P : Par} {B : Bs} {H : Hp} : ∀ is : List Int, Rvs P B H (is.map Dv.int) ((is.map He.Dv.int).map (He.Dv.v P.K))
  | [] => .nil
  | i :: is => .cons (.int i) (ints_rv is)
/-- what a heap's part tells of a law's text -/
structure Txt.At (t : Txt) (K : PySem.W.Frag) (mg : Str → Option Value) : Prop where
  fn : ∀ d, d ∈ t.ds → ∃ fd, FunD K d.name d.name d.args d.stmts d.scope ((d.dfl.map He.Dv.int).map (He.Dv.v K)) [] (He.ga K d.name) fd
  glo : ∀ d, d ∈ t.ds → mg d.name = some (.ref (He.ga K d.name))
  blt : ∀ x, x ∈ bltNames → mg x = none
  cons : ∀ c, c ∈ t.cons → ∃ u, mg c.1 = some u ∧ okD K c.2 u = true
  clsG : ∀ q, q ∈ t.clss → mg q.1 = some (.ref (He.ga K q.1))
  clsE : ∀ q, q ∈ t.clss → PySem.W.excIn K (He.ga K q.1) He.veBase "ValueError.__new__" = true ∧ PySem.W.keepIn K (.ref (He.ga K q.1)) = true ∧ PySem.W.subIn K (.ref (He.ga K q.1)) (.type "BaseException") = some true ∧ PySem.W.typeIn K (.ref (He.ga K q.1)) = some (.type "type")
  clsS : ∀ q, q ∈ t.clss → ∀ p, p ∈ t.clss → PySem.W.exmOne K (.ref (He.ga K q.1)) (.ref (He.ga K p.1)) = some (isSub q.2 p.2)
  clsN : ∀ q, q ∈ t.clss → ∀ p, p ∈ t.clss → q.2 = p.2 → q = p
theorem Txt.at_of {t : Txt} {w : World} {h : Heap} {K : PySem.W.Frag} {mg : Str → Option Value} {tf : List He.Defn} (X : K.In h) (G : h.Ns mainGlobals mg) (hn : ∀ q, q ∈ t.clss → ∀ p, p ∈ t.clss → q.2 = p.2 → q = p) (c : He.SaysX t.facts t.fns [] tf t.ex w h K) : t.At K mg := by
  have D := c.t.d
  refine ⟨fun d hd => D.defs (d := d.dd) (List.mem_map_of_mem hd), fun d hd => ?_, fun x hx => ?_, fun q hq => ?_, fun q hq => ?_, fun q hq => ?_, fun q hq p hp => ?_, hn⟩
  · exact He.glo_ok X G (D.facts (f := .glo d.name) (by simp only [Txt.facts, List.mem_append, List.mem_map]; exact .inl ⟨d, hd, rfl⟩))
  · exact He.free_ok X G (D.facts (f := .free x) (by simp only [Txt.facts, List.mem_append, List.mem_map]; exact .inr (.inl ⟨x, hx, rfl⟩)))
  · have z := List.all_eq_true.mp (show t.cons.all (okCon K) = true from c.more) q hq
    unfold okCon at z
    cases e : PySem.W.nsIn K mainGlobals q.1 with
    | none => rw [e] at z; cases z
    | some o =>
      rw [e] at z
      cases o with
      | none => cases z
      | some u => exact ⟨u, PySem.W.mg_of X G e, z⟩
  · exact He.glo_ok X G (D.facts (f := .glo q.1) (by simp only [Txt.facts, List.mem_append, List.mem_map]; exact .inr (.inr (.inl ⟨q, hq, rfl⟩))))
  · exact He.exc_ok (D.facts (f := .exc q.1) (by simp only [Txt.facts, List.mem_append, List.mem_map]; exact .inr (.inr (.inr (.inl ⟨q, hq, rfl⟩)))))
  · exact He.exm_ok (D.facts (f := .exm q.1 p.1 (isSub q.2 p.2)) (by simp only [Txt.facts, List.mem_append, List.mem_flatMap, List.mem_map]; exact .inr (.inr (.inr (.inr ⟨q, hq, p, hp, rfl⟩)))))
theorem find_cls {t : Txt} (hn : ∀ q, q ∈ t.clss → ∀ p, p ∈ t.clss → q.2 = p.2 → q = p) {q : Str × Nat} (hq : q ∈ t.clss) : t.clss.find? (fun p => Nat.beq p.2 q.2) = some q := by
  cases e : t.clss.find? (fun p => Nat.beq p.2 q.2) with
  | none =>
    have := List.find?_eq_none.mp e q hq
    exact absurd (Nat.beq_refl q.2) this
  | some p =>
    have h1 := List.find?_some e
    have h2 := List.mem_of_find?_eq_some e
    rw [hn p h2 q hq (Nat.eq_of_beq_eq_true h1)]

section
variable {t : Txt} {prog : Program} {w : World} {K : PySem.W.Frag} {mg : Str → Option Value} {base : Heap} {Wf : WhileF}
theorem At.bind {d : Fdef} (hb : BindP d) {fd : FuncData} (F : FunD K d.name d.name d.args d.stmts d.scope ((d.dfl.map He.Dv.int).map (He.Dv.v K)) [] (He.ga K d.name) fd) :
    ∀ j, j ≤ d.dfl.length → ∃ (dvs : List V) (dus : List Value), Binds K fd d.ps dus ∧ Vals dvs dus ∧ dvs = ((d.dfl.map He.Dv.int).map (He.Dv.v K)).drop j := by
  intro j hj
  unfold BindP at hb
  cases e : d.dfl with
  | nil =>
    rw [e] at hb F
    exact ⟨[], [], FunD.bindsN F hb, .nil, by simp⟩
  | cons i is =>
    rw [e] at hb F hj
    by_cases hl : (i :: is).length - j ≤ d.ps.length
    · obtain ⟨us, h1, h2⟩ := FunD.binds1 (ps := d.ps) F (d.ps.length - ((i :: is).length - j)) j (by simp) (by simp at hl ⊢; omega) fun T kV doc pm an cdv ct us its l1 l2 => hb j hj T kV doc pm an cdv ct us its (by rw [l1]; simp at hl ⊢; omega) (by simpa using l2)
      exact ⟨_, us, h2, h1, rfl⟩
    · obtain ⟨oc, od, dV, kV, doc, pm, an, cdv, ct, osl, rfl, lk, hcd, hD, hK⟩ := F.ex
      rcases hD with ⟨z, _⟩ | ⟨_, T, o, its, m, rfl, lT, oT, rT⟩
      · simp at z
      · exact ⟨_, its.drop j, fun s us X hl2 => absurd hl2 (by
          have := rT.length
          rw [List.length_append, List.length_drop, ← this]; simp at hl ⊢; omega), rT.drop j, rfl⟩
theorem fns_ok (O : t.Ok) (T : t.At K mg) (hW : WOk Wf) : ∀ (n : Nat) (d : Fdef), d ∈ t.ds → ∀ fd, FunD K d.name d.name d.args d.stmts d.scope ((d.dfl.map He.Dv.int).map (He.Dv.v K)) [] (He.ga K d.name) fd →
    FnOk prog w K mg base (L2.CX prog w) n (He.ga K d.name) fd d.ps (SpecOf (t.par K) (callN t.tb Wf n) d.idx d.ps.length)
  | 0, d, hd, fd, F => fn_zero
  | n + 1, d, hd, fd, F => by
    have Sc := O.sc d hd
    have IH := fns_ok O T hW n
    refine FunD.ok F Sc (fun vs H Q E h => h.1) fun cdv A outer s H vs Q E hr hsp => ?_
    obtain ⟨hl, ss, Ow, Xb, R, hO, hq⟩ := hsp
    have hss : ss.length = vs.length := by have := R.len; simpa using this
    simp only [callN, O.tb d hd] at hq
    by_cases hc : (decide (ss.length = d.ps.length) && (lentPos 0 ss).all fun i => !((sets d.body).any fun j => Nat.beq i j)) = true
    · rw [if_pos hc] at hq
      rw [Bool.and_eq_true, decide_eq_true_eq, List.all_eq_true] at hc
      have hm : d.N.length - d.ps.length = d.N.length - vs.length := by rw [hl]
      have R1 := R.pad (N := d.N) hm
      have C : Cok (t.par K) (cxOf (L2.CX prog w) prog w K mg base d.N d.name d.scope (He.ga K d.name) cdv A outer s H E) (fun c dd σ H => ∀ a, (t.par K).ca c = some a → E (.ref a) dd H) := by
        refine ⟨rfl, rfl, Sc.nd, by have := hr.un; show (A.deeper _).units + 150 < cLine; omega, (takes_of rfl rfl rfl rfl).imp ?_⟩
        rintro cls dd σ H ⟨c, a, h1, rfl, h2⟩
        exact h2 a h1
      have po : PassesOwn (model prog w) (cxOf (L2.CX prog w) prog w K mg base d.N d.name d.scope (He.ga K d.name) cdv A outer s H E).A (cxOf (L2.CX prog w) prog w K mg base d.N d.name d.scope (He.ga K d.name) cdv A outer s H E).env (cxOf (L2.CX prog w) prog w K mg base d.N d.name d.scope (He.ga K d.name) cdv A outer s H E).xe := passes_of rfl
      have F1 : FitsS t.gs d.N (t.par K) t.tb Wf n d.scope (cxOf (L2.CX prog w) prog w K mg base d.N d.name d.scope (He.ga K d.name) cdv A outer s H E) (fun c dd σ H => ∀ a, (t.par K).ca c = some a → E (.ref a) dd H) := {
        cok := C
        N := rfl
        sc := rfl
        room := hr
        blt := T.blt
        fns := fun name i np ds lent h => by
          obtain ⟨d', h1, rfl, h2⟩ := lookup_row h
          simp only [Prod.mk.injEq] at h2
          obtain ⟨rfl, rfl, rfl, rfl⟩ := h2
          obtain ⟨fd', F'⟩ := T.fn d' h1
          refine ⟨He.ga K d'.name, fd', d'.ps, T.glo d' h1, F'.kp, IH d' h1 fd' F', fun j hj => ?_⟩
          obtain ⟨dvs, dus, b1, b2, b3⟩ := At.bind (O.bd d' h1) F' j (by simpa using hj)
          refine ⟨dvs, dus, b1, b2, fun B H => ?_⟩
          rw [b3]
          exact (ints_rv (P := t.par K) d'.dfl).drop j
        cons := fun name v h => by
          obtain ⟨u, h1, h2⟩ := T.cons _ (lookup_mem' h)
          obtain ⟨v', k1, k2⟩ := okD_ok (P := t.par K) v u h2
          exact ⟨u, v', h1, k1, k2⟩
        po := po
        fn := fun _ => rfl
        stack := rfl
        frame := rfl
        kind := Sc.kind
        wok := hW
        clss := fun name c h => by
          have hm := lookup_mem' h
          obtain ⟨e1, e2, e3, e4⟩ := T.clsE _ hm
          refine ⟨He.ga K name, T.clsG _ hm, ?_, ⟨_, _, _, _, PySem.F.excBase_ValueError, e1⟩, e2, e3, e4, fun a A hA => ?_⟩
          · show (t.clss.find? fun q => Nat.beq q.2 c).map (fun q => He.ga K q.1) = _
            rw [find_cls T.clsN hm]; rfl
          · have hA : (t.clss.find? fun q => Nat.beq q.2 a).map (fun q => He.ga K q.1) = some A := hA
            rw [Option.map_eq_some_iff] at hA
            obtain ⟨q, hq, rfl⟩ := hA
            have h1 := List.find?_some hq
            have h2 := List.mem_of_find?_eq_some hq
            have := T.clsS q h2 _ hm
            rw [Nat.eq_of_beq_eq_true h1] at this
            exact this }
      refine ⟨_, (okS_all t.gs d.N (t.par K) t.tb Wf n 200).2 d.scope d.stmts d.body _ _ (sets d.body) (O.tr d hd) F1 (fun i hi => hi), ss ++ List.replicate (d.N.length - d.ps.length) .none, Ow, Xb, R1, ?_⟩
      exact body_fin hO (fun k hk => by have := hc.2 k hk; rw [Bool.not_eq_true'] at this; exact any_beq this) (fun c d σ H h => h) R1 hq
    · rw [if_neg hc] at hq
      exact hq.elim
end
/-- the law's call -/
theorem walk_own {l : PySem.W.OpenLaw} {n : Nat} {q : Program} {loose : List Str} {XP : (Str → Option Value) → Heap → Prop} {d : DefRec} {t : Txt} {tf : List He.Defn} {dl : Fdef} {x : Str} {N : Nat} {Wf : WhileF} (hW : WOk Wf)
    (hn : l.most = some n) (hn2 : n ≤ sizeLine) (hdf : d.params.defaults = []) (hr : Room N callerA) (O : t.Ok) (hcn : ∀ q, q ∈ t.clss → ∀ p, p ∈ t.clss → q.2 = p.2 → q = p)
    (hdl : dl ∈ t.ds) (hname : d.name = dl.name) (hdd : dl.dfl = []) (hps : dl.ps = [x])
    (pure : ∀ ns : List Int, ns.length ≤ n → callN t.tb Wf N dl.idx [.val (.scr ns)] = .ok (.d (.bl true)) []) :
    PySem.W.WalkO q loose XP (fun w h => ∃ K : PySem.W.Frag, K.In h ∧ He.SaysX t.facts t.fns [] tf t.ex w h K) l.row.toRowW d [] (fun f vs => PySem.call f vs) := by
  refine Att.attach_call hn hdf fun w s₀ s₁ mg mb fa o pm cd doc a vs ns G Y ho hd hcd hmg hobj hints hlen hg => ?_
  obtain ⟨K, KX, c⟩ := Y
  have T := Txt.at_of KX G.T.g hcn c
  obtain ⟨fd, F⟩ := T.fn dl hdl
  have hga := T.glo dl hdl
  rw [hname, hga] at hmg
  cases hmg
  have hF : ∀ base : Heap, K.In base → base.Ns mainGlobals mg → FnOk l.prog w K mg base (L2.CX l.prog w) N (He.ga K dl.name) fd [x] (SpecOf (t.par K) (callN t.tb Wf N) dl.idx dl.ps.length) := fun base _ _ => by
    have := fns_ok (prog := l.prog) (w := w) (base := base) O T hW N dl hdl fd F
    rw [hps] at this
    rw [hps]; exact this
  have hb : ∀ (s : Shared) (u : Value), BindsTo s fd ⟨[u], []⟩ [(x, u)] := fun s u => by
    have hB := O.bd dl hdl
    unfold BindP at hB
    rw [hdd] at hB F
    have := FunD.bindsA (ps := dl.ps) F hB s [u] (by rw [hps]; rfl)
    rw [hps] at this
    exact this
  refine L2.law_call KX G.T.g G.T.b G.T.builtins G.T.nolimit hg hobj hints (Nat.le_trans hlen hn2) hr hF hb (fun H hO hS => ?_) fun H e s' z => ?_
  · refine ⟨by rw [hps]; rfl, [.val (.scr ns)], fun _ => none, fun _ => False, ⟨rfl, fun i s e => ?_, fun i j a h => (by cases h), fun i a h => (by cases h), fun a h => False.elim h, fun i a h => (by cases h), trivial⟩, fun i a h => (by cases h), ?_⟩
    · match i, e with
      | 0, e =>
        simp only [List.getElem?_cons_zero, Option.some.injEq] at e
        subst e
        refine ⟨_, rfl, .scr ?_⟩
        rcases hS with z | z
        · exact .inl ⟨z, fun b => b.elim (fun ⟨i, h⟩ => by cases h) fun h => h⟩
        · exact .inr fun H' => .inr z
      | i + 1, e => simp at e
    · rw [pure ns hlen]
      rintro v H' ⟨_, rv, _⟩
      cases rv
      rfl
  · obtain ⟨_, _, _, _, _, _, _, _, _, _, _, _, z⟩ := z
    exact z
end MP
set_option linter.all false
set_option Elab.async false
set_option maxRecDepth 100000
/-! MB: the bodies of all defs (printed by gen.py), one table for all laws. -/
namespace MP
open PySem
def b_is_int : MP.St :=
  (.seq (.ret (.and (.bi (.isi .int) (.cons (.var 0) .nil)) (.not (.bi (.isi .bool) (.cons (.var 0) .nil)))))
  .pass)
def f_is_int : Df := ⟨1, 1, b_is_int⟩
def w_divisor_of_0 : MP.E :=
  (.cmp .ne (.var 4) (.int 0))
def l_divisor_of_1 : MP.St :=
  (.seq (.ptup [3, 4] (.cons (.var 4) (.cons (.bin .mod (.var 3) (.var 4)) .nil)))
  .pass)
def l_divisor_of_2 : MP.St :=
  (.seq (.ptup [3, 4] (.cons (.bi .abs (.cons (.var 2) .nil)) (.cons (.var 1) .nil)))
  (.seq (.while_ w_divisor_of_0
  l_divisor_of_1)
  (.seq (.asg 1 (.var 3))
  .pass)))
def b_divisor_of : MP.St :=
  (.seq (.asg 1 (.int 0))
  (.seq (.for_ (.one 2) (.seq (.var 0))
  l_divisor_of_2)
  (.seq (.ret (.var 1))
  .pass)))
def f_divisor_of : Df := ⟨1, 5, b_divisor_of⟩
def b_fraction : MP.St :=
  (.seq (.asg 2 (.call 1 (.cons (.tup (.cons (.var 0) (.cons (.var 1) .nil))) .nil) []))
  (.seq (.ptup [0, 1] (.cons (.bin .fdiv (.var 0) (.var 2)) (.cons (.bin .fdiv (.var 1) (.var 2)) .nil)))
  (.seq (.ret (.ite (.cmp .lt (.var 1) (.int 0)) (.tup (.cons (.neg (.var 0)) (.cons (.neg (.var 1)) .nil))) (.tup (.cons (.var 0) (.cons (.var 1) .nil)))))
  .pass)))
def f_fraction : Df := ⟨2, 3, b_fraction⟩
def b_is_fraction : MP.St :=
  (.seq (.ifs (.or (.not (.bi (.isi .tuple) (.cons (.var 0) .nil))) (.or (.cmp .ne (.bi .len (.cons (.var 0) .nil)) (.int 2)) (.or (.not (.call 0 (.cons (.idx (.var 0) (.int 0)) .nil) [])) (.not (.call 0 (.cons (.idx (.var 0) (.int 1)) .nil) [])))))
  (.seq (.ret (.bl false))
  .pass)
  .pass)
  (.seq (.ret (.and (.cmp .gt (.idx (.var 0) (.int 1)) (.int 0)) (.cmp .eq (.call 1 (.cons (.var 0) .nil) []) (.int 1))))
  .pass))
def f_is_fraction : Df := ⟨1, 1, b_is_fraction⟩
def w_cut_0 : MP.E :=
  (.and (.cmp .ne (.var 1) (.disp .nil)) (.cmp .eq (.idx (.var 1) (.neg (.int 1))) (.int 0)))
def l_cut_1 : MP.St :=
  (.seq (.expr (.mpop 1))
  .pass)
def b_cut : MP.St :=
  (.seq (.asg 1 (.bi .listOf (.cons (.var 0) .nil)))
  (.seq (.while_ w_cut_0
  l_cut_1)
  (.seq (.ret (.bi .tupleOf (.cons (.var 1) .nil)))
  .pass)))
def f_cut : Df := ⟨1, 2, b_cut⟩
def l_plus_0 : MP.St :=
  (.seq (.augix 3 (.var 4) .add (.bin .mul (.var 2) (.var 5)))
  .pass)
def b_plus : MP.St :=
  (.seq (.asg 3 (.bin .add (.bi .listOf (.cons (.var 0) .nil)) (.bin .mul (.disp (.cons (.int 0) .nil)) (.bi .max2 (.cons (.int 0) (.cons (.bin .sub (.bi .len (.cons (.var 1) .nil)) (.bi .len (.cons (.var 0) .nil))) .nil))))))
  (.seq (.for_ (.tup [4, 5]) (.enum (.var 1))
  l_plus_0)
  (.seq (.ret (.call 4 (.cons (.var 3) .nil) []))
  .pass)))
def f_plus : Df := ⟨3, 6, b_plus⟩
def l_times_0 : MP.St :=
  (.seq (.augix 2 (.bin .add (.var 3) (.var 5)) .add (.bin .mul (.var 4) (.var 6)))
  .pass)
def l_times_1 : MP.St :=
  (.seq (.for_ (.tup [5, 6]) (.enum (.var 1))
  l_times_0)
  .pass)
def b_times : MP.St :=
  (.seq (.asg 2 (.bin .mul (.disp (.cons (.int 0) .nil)) (.bin .add (.bi .len (.cons (.var 0) .nil)) (.bi .len (.cons (.var 1) .nil)))))
  (.seq (.for_ (.tup [3, 4]) (.enum (.var 0))
  l_times_1)
  (.seq (.ret (.call 4 (.cons (.var 2) .nil) []))
  .pass)))
def f_times : Df := ⟨2, 7, b_times⟩
def l_power_0 : MP.St :=
  (.seq (.asg 2 (.call 6 (.cons (.var 2) (.cons (.var 0) .nil)) []))
  .pass)
def b_power : MP.St :=
  (.seq (.asg 2 (.tup (.cons (.int 1) .nil)))
  (.seq (.for_ (.one 3) (.rng1 (.var 1))
  l_power_0)
  (.seq (.ret (.var 2))
  .pass)))
def f_power : Df := ⟨2, 4, b_power⟩
def e_plain_0 : MP.E :=
  (.bin .fdiv (.var 2) (.var 1))
def b_plain : MP.St :=
  (.seq (.asg 1 (.call 1 (.cons (.var 0) .nil) []))
  (.seq (.ifs (.cmp .eq (.var 1) (.int 0))
  (.seq (.ret (.tup .nil))
  .pass)
  .pass)
  (.seq (.asg 1 (.ite (.cmp .lt (.idx (.var 0) (.neg (.int 1))) (.int 0)) (.neg (.var 1)) (.var 1)))
  (.seq (.ret (.bi .tupleOf (.cons (.comp e_plain_0 (.one 2) (.seq (.var 0)) .no [2]) .nil)))
  .pass))))
def f_plain : Df := ⟨1, 3, b_plain⟩
def w_lowered_0 : MP.E :=
  (.cmp .ge (.bi .len (.cons (.var 0) .nil)) (.bi .len (.cons (.var 1) .nil)))
def e_lowered_1 : MP.E :=
  (.bin .mul (.idx (.var 1) (.neg (.int 1))) (.var 3))
def l_lowered_2 : MP.St :=
  (.seq (.asg 2 (.bin .mul (.tup (.cons (.int 0) .nil)) (.bin .sub (.bi .len (.cons (.var 0) .nil)) (.bi .len (.cons (.var 1) .nil)))))
  (.seq (.asg 0 (.call 8 (.cons (.call 5 (.cons (.comp e_lowered_1 (.one 3) (.seq (.var 0)) .no [3]) (.cons (.tup (.star (.var 2) (.star (.var 1) .nil))) (.cons (.neg (.idx (.var 0) (.neg (.int 1)))) .nil))) []) .nil) []))
  .pass))
def b_lowered : MP.St :=
  (.seq (.while_ w_lowered_0
  l_lowered_2)
  (.seq (.ret (.var 0))
  .pass))
def f_lowered : Df := ⟨2, 4, b_lowered⟩
def w_shared_0 : MP.E :=
  (.cmp .ne (.var 1) (.tup .nil))
def l_shared_1 : MP.St :=
  (.seq (.ifs (.cmp .eq (.bi .len (.cons (.var 1) .nil)) (.int 1))
  (.seq (.ret (.tup (.cons (.int 1) .nil)))
  .pass)
  .pass)
  (.seq (.ptup [0, 1] (.cons (.var 1) (.cons (.call 9 (.cons (.var 0) (.cons (.var 1) .nil)) []) .nil)))
  .pass))
def b_shared : MP.St :=
  (.seq (.ptup [0, 1] (.cons (.call 8 (.cons (.var 0) .nil) []) (.cons (.call 8 (.cons (.var 1) .nil) []) .nil)))
  (.seq (.while_ w_shared_0
  l_shared_1)
  (.seq (.ret (.var 0))
  .pass)))
def f_shared : Df := ⟨2, 2, b_shared⟩
def w_parted_0 : MP.E :=
  (.cmp .ne (.var 3) (.tup .nil))
def e_parted_1 : MP.E :=
  (.bin .mul (.idx (.var 1) (.neg (.int 1))) (.var 5))
def e_parted_2 : MP.E :=
  (.bin .mul (.idx (.var 1) (.neg (.int 1))) (.var 5))
def l_parted_3 : MP.St :=
  (.seq (.asg 4 (.bin .mul (.tup (.cons (.int 0) .nil)) (.bin .sub (.bi .len (.cons (.var 3) .nil)) (.bi .len (.cons (.var 1) .nil)))))
  (.seq (.asg 2 (.call 5 (.cons (.comp e_parted_2 (.one 5) (.seq (.var 2)) .no [5]) (.cons (.tup (.star (.var 4) (.cons (.idx (.var 3) (.neg (.int 1))) .nil))) .nil)) [(.int (1))]))
  (.seq (.asg 3 (.call 5 (.cons (.comp e_parted_1 (.one 5) (.seq (.var 3)) .no [5]) (.cons (.tup (.star (.var 4) (.star (.var 1) .nil))) (.cons (.neg (.idx (.var 3) (.neg (.int 1)))) .nil))) []))
  .pass)))
def b_parted : MP.St :=
  (.seq (.ptup [2, 3] (.cons (.tup .nil) (.cons (.var 0) .nil)))
  (.seq (.while_ w_parted_0
  l_parted_3)
  (.seq (.ret (.call 8 (.cons (.var 2) .nil) []))
  .pass)))
def f_parted : Df := ⟨2, 6, b_parted⟩
def e_derived_0 : MP.E :=
  (.bin .mul (.var 1) (.var 2))
def b_derived : MP.St :=
  (.seq (.ret (.call 4 (.cons (.slc (.comp e_derived_0 (.tup [1, 2]) (.enum (.var 0)) .no [1, 2]) (.yes (.int 1)) .no) .nil) []))
  .pass)
def f_derived : Df := ⟨1, 3, b_derived⟩
def b_single : MP.St :=
  (.seq (.asg 1 (.ite (.cmp .gt (.bi .len (.cons (.var 0) .nil)) (.int 1)) (.call 10 (.cons (.var 0) (.cons (.call 12 (.cons (.var 0) .nil) []) .nil)) []) (.tup (.cons (.int 1) .nil))))
  (.seq (.ret (.ite (.cmp .gt (.bi .len (.cons (.var 1) .nil)) (.int 1)) (.call 11 (.cons (.var 0) (.cons (.var 1) .nil)) []) (.call 8 (.cons (.var 0) .nil) [])))
  .pass))
def f_single : Df := ⟨1, 2, b_single⟩
def l_height_0 : MP.St :=
  (.seq (.aug 7 .mul (.var 3))
  .pass)
def l_height_1 : MP.St :=
  (.seq (.asg 4 (.bin .add (.bin .mul (.var 4) (.var 2)) (.bin .mul (.var 6) (.var 5))))
  (.seq (.aug 5 .mul (.var 3))
  .pass))
def b_height : MP.St :=
  (.seq (.atup [2, 3] (.var 1))
  (.seq (.ptup [4, 5] (.cons (.int 0) (.cons (.int 1) .nil)))
  (.seq (.for_ (.one 6) (.rvs (.var 0))
  l_height_1)
  (.seq (.asg 7 (.int 1))
  (.seq (.for_ (.one 6) (.seq (.slc (.var 0) (.yes (.int 1)) .no))
  l_height_0)
  (.seq (.ret (.call 2 (.cons (.var 4) (.cons (.var 7) .nil)) []))
  .pass))))))
def f_height : Df := ⟨2, 8, b_height⟩
def b_sign : MP.St :=
  (.seq (.ret (.bin .sub (.cmp .gt (.var 0) (.int 0)) (.cmp .lt (.var 0) (.int 0))))
  .pass)
def f_sign : Df := ⟨1, 1, b_sign⟩
def b_sign_at : MP.St :=
  (.seq (.ret (.call 15 (.cons (.idx (.call 14 (.cons (.var 0) (.cons (.var 1) .nil)) []) (.int 0)) .nil) []))
  .pass)
def f_sign_at : Df := ⟨2, 2, b_sign_at⟩
def l_doubled_0 : MP.St :=
  (.seq (.aug 1 .mul (.int 2))
  .pass)
def b_doubled : MP.St :=
  (.seq (.asg 1 (.int 1))
  (.seq (.for_ (.one 2) (.rng1 (.var 0))
  l_doubled_0)
  (.seq (.ret (.var 1))
  .pass)))
def f_doubled : Df := ⟨1, 3, b_doubled⟩
def l_moved_0 : MP.St :=
  (.seq (.augix 1 (.var 3) .add (.idx (.var 1) (.bin .add (.var 3) (.int 1))))
  .pass)
def l_moved_1 : MP.St :=
  (.seq (.for_ (.one 3) (.rng3 (.bin .sub (.bi .len (.cons (.var 1) .nil)) (.int 2)) (.bin .sub (.var 2) (.int 1)) (.neg (.int 1)))
  l_moved_0)
  .pass)
def b_moved : MP.St :=
  (.seq (.asg 1 (.bi .listOf (.cons (.var 0) .nil)))
  (.seq (.for_ (.one 2) (.rng1 (.bi .len (.cons (.var 1) .nil)))
  l_moved_1)
  (.seq (.ret (.bi .tupleOf (.cons (.var 1) .nil)))
  .pass)))
def f_moved : Df := ⟨1, 4, b_moved⟩
def e_halved_0 : MP.E :=
  (.bin .mul (.var 3) (.call 17 (.cons (.bin .sub (.var 1) (.var 2)) .nil) []))
def b_halved : MP.St :=
  (.seq (.asg 1 (.bin .sub (.bi .len (.cons (.var 0) .nil)) (.int 1)))
  (.seq (.ret (.bi .tupleOf (.cons (.comp e_halved_0 (.tup [2, 3]) (.enum (.var 0)) .no [2, 3]) .nil)))
  .pass))
def f_halved : Df := ⟨1, 4, b_halved⟩
def l_on_stretch_0 : MP.St :=
  (.seq (.augix 4 (.var 6) .add (.bin .mul (.var 1) (.idx (.var 4) (.bin .add (.var 6) (.int 1)))))
  .pass)
def l_on_stretch_1 : MP.St :=
  (.seq (.for_ (.one 6) (.rng3 (.bin .sub (.bi .len (.cons (.var 4) .nil)) (.int 2)) (.bin .sub (.var 5) (.int 1)) (.neg (.int 1)))
  l_on_stretch_0)
  .pass)
def l_on_stretch_2 : MP.St :=
  (.seq (.asg 0 (.call 19 (.cons (.var 0) .nil) []))
  .pass)
def b_on_stretch : MP.St :=
  (.seq (.for_ (.one 3) (.rng1 (.var 2))
  l_on_stretch_2)
  (.seq (.asg 4 (.bi .listOf (.cons (.var 0) .nil)))
  (.seq (.for_ (.one 5) (.rng1 (.bi .len (.cons (.var 4) .nil)))
  l_on_stretch_1)
  (.seq (.ret (.bi .tupleOf (.cons (.var 4) .nil)))
  .pass))))
def f_on_stretch : Df := ⟨3, 7, b_on_stretch⟩
def c_changes_0 : MP.E :=
  (.cmp .ne (.var 3) (.var 4))
def e_changes_1 : MP.E :=
  (.int 1)
def c_changes_2 : MP.E :=
  (.cmp .ne (.var 2) (.int 0))
def e_changes_3 : MP.E :=
  (.var 2)
def e_changes_4 : MP.E :=
  (.call 15 (.cons (.var 2) .nil) [])
def b_changes : MP.St :=
  (.seq (.asg 1 (.comp e_changes_4 (.one 2) (.seq (.call 18 (.cons (.rev (.var 0)) .nil) [])) .no [2]))
  (.seq (.asg 1 (.comp e_changes_3 (.one 2) (.seq (.var 1)) (.yes c_changes_2) [2]))
  (.seq (.ret (.bi .len (.cons (.comp e_changes_1 (.tup [3, 4]) (.zip (.var 1) (.slc (.var 1) (.yes (.int 1)) .no)) (.yes c_changes_0) [3, 4]) .nil)))
  .pass)))
def f_changes : Df := ⟨1, 5, b_changes⟩
def b_roots : MP.St :=
  (.seq (.ret (.ite (.cmp .gt (.bi .len (.cons (.var 0) .nil)) (.int 1)) (.call 23 (.cons (.call 13 (.cons (.var 0) .nil) []) (.cons (.int 0) (.cons (.int 0) .nil))) []) (.disp .nil)))
  .pass)
def f_roots : Df := ⟨1, 1, b_roots⟩
def b_within : MP.St :=
  (.seq (.asg 3 (.call 20 (.cons (.var 0) (.cons (.var 1) (.cons (.var 2) .nil))) []))
  (.seq (.asg 4 (.call 21 (.cons (.var 3) .nil) []))
  (.seq (.ifs (.cmp .eq (.var 4) (.int 0))
  (.seq (.ret (.disp .nil))
  .pass)
  .pass)
  (.seq (.ifs (.cmp .eq (.var 4) (.int 1))
  (.seq (.ret (.disp (.cons (.tup (.cons (.var 0) (.cons (.var 1) (.cons (.var 2) (.cons (.bl false) .nil))))) .nil)))
  .pass)
  .pass)
  (.seq (.asg 5 (.disp .nil))
  (.seq (.ifs (.cmp .eq (.call 16 (.cons (.var 0) (.cons (.call 2 (.cons (.bin .add (.bin .mul (.int 2) (.var 1)) (.int 1)) (.cons (.call 17 (.cons (.bin .add (.var 2) (.int 1)) .nil) []) .nil)) []) .nil)) []) (.int 0))
  (.seq (.asg 5 (.disp (.cons (.tup (.cons (.var 0) (.cons (.bin .add (.bin .mul (.int 2) (.var 1)) (.int 1)) (.cons (.bin .add (.var 2) (.int 1)) (.cons (.bl true) .nil))))) .nil)))
  .pass)
  .pass)
  (.seq (.ret (.bin .add (.bin .add (.call 23 (.cons (.var 0) (.cons (.bin .mul (.int 2) (.var 1)) (.cons (.bin .add (.var 2) (.int 1)) .nil))) []) (.var 5)) (.call 23 (.cons (.var 0) (.cons (.bin .add (.bin .mul (.int 2) (.var 1)) (.int 1)) (.cons (.bin .add (.var 2) (.int 1)) .nil))) [])))
  .pass)))))))
def f_within : Df := ⟨3, 6, b_within⟩
def b_low_end : MP.St :=
  (.seq (.ret (.call 2 (.cons (.idx (.var 0) (.int 1)) (.cons (.call 17 (.cons (.idx (.var 0) (.int 2)) .nil) []) .nil)) []))
  .pass)
def f_low_end : Df := ⟨1, 1, b_low_end⟩
def b_high_end : MP.St :=
  (.seq (.ret (.call 2 (.cons (.bin .add (.idx (.var 0) (.int 1)) (.ite (.idx (.var 0) (.int 3)) (.int 0) (.int 1))) (.cons (.call 17 (.cons (.idx (.var 0) (.int 2)) .nil) []) .nil)) []))
  .pass)
def f_high_end : Df := ⟨1, 1, b_high_end⟩
def b_narrower : MP.St :=
  (.seq (.atup [1, 2, 3, 4] (.var 0))
  (.seq (.ifs (.var 4)
  (.seq (.ret (.var 0))
  .pass)
  .pass)
  (.seq (.asg 5 (.call 2 (.cons (.bin .add (.bin .mul (.int 2) (.var 2)) (.int 1)) (.cons (.call 17 (.cons (.bin .add (.var 3) (.int 1)) .nil) []) .nil)) []))
  (.seq (.ifs (.cmp .eq (.call 16 (.cons (.var 1) (.cons (.var 5) .nil)) []) (.int 0))
  (.seq (.ret (.tup (.cons (.var 1) (.cons (.bin .add (.bin .mul (.int 2) (.var 2)) (.int 1)) (.cons (.bin .add (.var 3) (.int 1)) (.cons (.bl true) .nil))))))
  .pass)
  .pass)
  (.seq (.ifs (.cmp .gt (.call 21 (.cons (.call 20 (.cons (.var 1) (.cons (.bin .mul (.int 2) (.var 2)) (.cons (.bin .add (.var 3) (.int 1)) .nil))) []) .nil) []) (.int 0))
  (.seq (.ret (.tup (.cons (.var 1) (.cons (.bin .mul (.int 2) (.var 2)) (.cons (.bin .add (.var 3) (.int 1)) (.cons (.bl false) .nil))))))
  .pass)
  .pass)
  (.seq (.ret (.tup (.cons (.var 1) (.cons (.bin .add (.bin .mul (.int 2) (.var 2)) (.int 1)) (.cons (.bin .add (.var 3) (.int 1)) (.cons (.bl false) .nil))))))
  .pass))))))
def f_narrower : Df := ⟨1, 6, b_narrower⟩
def b_is_below : MP.St :=
  (.seq (.ret (.cmp .lt (.bin .mul (.idx (.var 0) (.int 0)) (.idx (.var 1) (.int 1))) (.bin .mul (.idx (.var 1) (.int 0)) (.idx (.var 0) (.int 1)))))
  .pass)
def f_is_below : Df := ⟨2, 2, b_is_below⟩
def w_side_0 : MP.E :=
  (.bl true)
def l_side_1 : MP.St :=
  (.seq (.ptup [2, 3] (.cons (.call 24 (.cons (.var 0) .nil) []) (.cons (.call 25 (.cons (.var 0) .nil) []) .nil)))
  (.seq (.ifs (.idx (.var 0) (.int 3))
  (.seq (.ret (.ite (.call 27 (.cons (.var 1) (.cons (.var 2) .nil)) []) (.int 1) (.ite (.call 27 (.cons (.var 2) (.cons (.var 1) .nil)) []) (.neg (.int 1)) (.int 0))))
  .pass)
  .pass)
  (.seq (.ifs (.not (.call 27 (.cons (.var 2) (.cons (.var 1) .nil)) []))
  (.seq (.ret (.int 1))
  .pass)
  .pass)
  (.seq (.ifs (.not (.call 27 (.cons (.var 1) (.cons (.var 3) .nil)) []))
  (.seq (.ret (.neg (.int 1)))
  .pass)
  .pass)
  (.seq (.ifs (.cmp .eq (.call 16 (.cons (.idx (.var 0) (.int 0)) (.cons (.var 1) .nil)) []) (.int 0))
  (.seq (.ret (.int 0))
  .pass)
  .pass)
  (.seq (.asg 0 (.call 26 (.cons (.var 0) .nil) []))
  .pass))))))
def b_side : MP.St :=
  (.seq (.while_ w_side_0
  l_side_1)
  .pass)
def f_side : Df := ⟨2, 4, b_side⟩
def w_compare_0 : MP.E :=
  (.and (.not (.idx (.var 0) (.int 3))) (.not (.idx (.var 1) (.int 3))))
def l_compare_1 : MP.St :=
  (.seq (.ifs (.not (.call 27 (.cons (.call 24 (.cons (.var 1) .nil) []) (.cons (.call 25 (.cons (.var 0) .nil) []) .nil)) []))
  (.seq (.ret (.neg (.int 1)))
  .pass)
  .pass)
  (.seq (.ifs (.not (.call 27 (.cons (.call 24 (.cons (.var 0) .nil) []) (.cons (.call 25 (.cons (.var 1) .nil) []) .nil)) []))
  (.seq (.ret (.int 1))
  .pass)
  .pass)
  (.seq (.asg 3 (.ite (.cmp .ge (.idx (.var 0) (.int 2)) (.idx (.var 1) (.int 2))) (.var 0) (.var 1)))
  (.seq (.ifs (.and (.cmp .gt (.bi .len (.cons (.var 2) .nil)) (.int 1)) (.cmp .eq (.call 21 (.cons (.call 20 (.cons (.var 2) (.cons (.idx (.var 3) (.int 1)) (.cons (.idx (.var 3) (.int 2)) .nil))) []) .nil) []) (.int 1)))
  (.seq (.ret (.int 0))
  .pass)
  .pass)
  (.seq (.ptup [0, 1] (.cons (.call 26 (.cons (.var 0) .nil) []) (.cons (.call 26 (.cons (.var 1) .nil) []) .nil)))
  .pass)))))
def b_compare : MP.St :=
  (.seq (.ifs (.idx (.var 1) (.int 3))
  (.seq (.ret (.call 28 (.cons (.var 0) (.cons (.call 24 (.cons (.var 1) .nil) []) .nil)) []))
  .pass)
  .pass)
  (.seq (.ifs (.idx (.var 0) (.int 3))
  (.seq (.ret (.neg (.call 28 (.cons (.var 1) (.cons (.call 24 (.cons (.var 0) .nil) []) .nil)) [])))
  .pass)
  .pass)
  (.seq (.asg 2 (.call 10 (.cons (.idx (.var 0) (.int 0)) (.cons (.idx (.var 1) (.int 0)) .nil)) []))
  (.seq (.while_ w_compare_0
  l_compare_1)
  (.seq (.ret (.call 29 (.cons (.var 0) (.cons (.var 1) .nil)) []))
  .pass)))))
def f_compare : Df := ⟨2, 4, b_compare⟩
def w_sign_at_root_0 : MP.E :=
  (.not (.idx (.var 1) (.int 3)))
def l_sign_at_root_1 : MP.St :=
  (.seq (.ifs (.and (.cmp .gt (.bi .len (.cons (.var 2) .nil)) (.int 1)) (.cmp .eq (.call 21 (.cons (.call 20 (.cons (.var 2) (.cons (.idx (.var 1) (.int 1)) (.cons (.idx (.var 1) (.int 2)) .nil))) []) .nil) []) (.int 1)))
  (.seq (.ret (.int 0))
  .pass)
  .pass)
  (.seq (.ifs (.cmp .eq (.call 21 (.cons (.call 20 (.cons (.var 0) (.cons (.idx (.var 1) (.int 1)) (.cons (.idx (.var 1) (.int 2)) .nil))) []) .nil) []) (.int 0))
  (.seq (.ret (.call 16 (.cons (.var 0) (.cons (.call 2 (.cons (.bin .add (.bin .mul (.int 2) (.idx (.var 1) (.int 1))) (.int 1)) (.cons (.call 17 (.cons (.bin .add (.idx (.var 1) (.int 2)) (.int 1)) .nil) []) .nil)) []) .nil)) []))
  .pass)
  .pass)
  (.seq (.asg 1 (.call 26 (.cons (.var 1) .nil) []))
  .pass)))
def b_sign_at_root : MP.St :=
  (.seq (.ifs (.cmp .eq (.var 0) (.tup .nil))
  (.seq (.ret (.int 0))
  .pass)
  .pass)
  (.seq (.asg 2 (.call 10 (.cons (.var 0) (.cons (.idx (.var 1) (.int 0)) .nil)) []))
  (.seq (.while_ w_sign_at_root_0
  l_sign_at_root_1)
  (.seq (.ret (.call 16 (.cons (.var 0) (.cons (.call 24 (.cons (.var 1) .nil) []) .nil)) []))
  .pass))))
def f_sign_at_root : Df := ⟨2, 3, b_sign_at_root⟩
def w_sign_behind_0 : MP.E :=
  (.cmp .ne (.var 0) (.tup .nil))
def l_sign_behind_1 : MP.St :=
  (.seq (.asg 2 (.call 30 (.cons (.var 0) (.cons (.var 1) .nil)) []))
  (.seq (.ifs (.cmp .ne (.var 2) (.int 0))
  (.seq (.ret (.var 2))
  .pass)
  .pass)
  (.seq (.asg 0 (.call 12 (.cons (.var 0) .nil) []))
  .pass)))
def b_sign_behind : MP.St :=
  (.seq (.while_ w_sign_behind_0
  l_sign_behind_1)
  (.seq (.ret (.int 0))
  .pass))
def f_sign_behind : Df := ⟨2, 3, b_sign_behind⟩
def w_sign_ahead_0 : MP.E :=
  (.cmp .ne (.var 0) (.tup .nil))
def l_sign_ahead_1 : MP.St :=
  (.seq (.asg 3 (.call 30 (.cons (.var 0) (.cons (.var 1) .nil)) []))
  (.seq (.ifs (.cmp .ne (.var 3) (.int 0))
  (.seq (.ret (.bin .mul (.var 2) (.var 3)))
  .pass)
  .pass)
  (.seq (.ptup [0, 2] (.cons (.call 12 (.cons (.var 0) .nil) []) (.cons (.neg (.var 2)) .nil)))
  .pass)))
def b_sign_ahead : MP.St :=
  (.seq (.asg 2 (.int 1))
  (.seq (.while_ w_sign_ahead_0
  l_sign_ahead_1)
  (.seq (.ret (.int 0))
  .pass)))
def f_sign_ahead : Df := ⟨2, 4, b_sign_ahead⟩
def e_in_order_0 : MP.E :=
  (.call 29 (.cons (.var 4) (.cons (.var 2) .nil)) [])
def l_in_order_1 : MP.St :=
  (.seq (.asg 3 (.comp e_in_order_0 (.one 4) (.seq (.var 1)) .no [4]))
  (.seq (.ifs (.cmp .nin (.int 0) (.var 3))
  (.seq (.ins 1 (.mcount (.var 3) (.neg (.int 1))) (.var 2))
  .pass)
  .pass)
  .pass))
def b_in_order : MP.St :=
  (.seq (.asg 1 (.disp .nil))
  (.seq (.for_ (.one 2) (.seq (.var 0))
  l_in_order_1)
  (.seq (.ret (.var 1))
  .pass)))
def f_in_order : Df := ⟨1, 5, b_in_order⟩
def w_between_0 : MP.E :=
  (.not (.call 27 (.cons (.call 25 (.cons (.var 0) .nil) []) (.cons (.call 24 (.cons (.var 1) .nil) []) .nil)) []))
def l_between_1 : MP.St :=
  (.seq (.ptup [0, 1] (.cons (.call 26 (.cons (.var 0) .nil) []) (.cons (.call 26 (.cons (.var 1) .nil) []) .nil)))
  (.seq (.ifs (.and (.cmp .eq (.call 25 (.cons (.var 0) .nil) []) (.call 24 (.cons (.var 1) .nil) [])) (.and (.not (.idx (.var 0) (.int 3))) (.not (.idx (.var 1) (.int 3)))))
  (.seq (.ret (.call 25 (.cons (.var 0) .nil) []))
  .pass)
  .pass)
  .pass))
def b_between : MP.St :=
  (.seq (.while_ w_between_0
  l_between_1)
  (.seq (.ptup [2, 3] (.cons (.call 25 (.cons (.var 0) .nil) []) (.cons (.call 24 (.cons (.var 1) .nil) []) .nil)))
  (.seq (.ret (.call 2 (.cons (.bin .add (.bin .mul (.idx (.var 2) (.int 0)) (.idx (.var 3) (.int 1))) (.bin .mul (.idx (.var 3) (.int 0)) (.idx (.var 2) (.int 1)))) (.cons (.bin .mul (.bin .mul (.int 2) (.idx (.var 2) (.int 1))) (.idx (.var 3) (.int 1))) .nil)) []))
  .pass)))
def f_between : Df := ⟨2, 4, b_between⟩
def w_figures_0 : MP.E :=
  (.cmp .gt (.bin .sub (.var 3) (.var 2)) (.int 1))
def l_figures_1 : MP.St :=
  (.seq (.asg 4 (.bin .fdiv (.bin .add (.var 2) (.var 3)) (.int 2)))
  (.seq (.ifs (.cmp .ge (.call 28 (.cons (.var 0) (.cons (.call 2 (.cons (.var 4) (.cons (.call 17 (.cons (.var 1) .nil) []) .nil)) []) .nil)) []) (.int 0))
  (.seq (.asg 2 (.var 4))
  .pass)
  (.seq (.asg 3 (.var 4))
  .pass))
  .pass))
def b_figures : MP.St :=
  (.seq (.ptup [2, 3] (.cons (.int 0) (.cons (.bin .add (.call 17 (.cons (.var 1) .nil) []) (.int 1)) .nil)))
  (.seq (.while_ w_figures_0
  l_figures_1)
  (.seq (.ret (.var 2))
  .pass)))
def f_figures : Df := ⟨2, 5, b_figures⟩
def e_is_chance_0 : MP.E :=
  (.cmp .ge (.call 31 (.cons (.var 0) (.cons (.var 1) .nil)) []) (.int 0))
def b_is_chance : MP.St :=
  (.seq (.ifs (.or (.cmp .lt (.call 16 (.cons (.var 0) (.cons (.tup (.cons (.int 0) (.cons (.int 1) .nil))) .nil)) []) (.int 0)) (.or (.cmp .lt (.call 16 (.cons (.var 0) (.cons (.tup (.cons (.int 1) (.cons (.int 1) .nil))) .nil)) []) (.int 0)) (.cmp .lt (.call 31 (.cons (.var 0) (.cons (.glb (.tup [(.tup [(.int (0)), (.int (1))]), (.int (0)), (.int (0)), (.bl true)]) 0) .nil)) []) (.int 0))))
  (.seq (.ret (.bl false))
  .pass)
  .pass)
  (.seq (.ret (.and (.bi .allL (.cons (.comp e_is_chance_0 (.one 1) (.seq (.call 22 (.cons (.var 0) .nil) [])) .no [1]) .nil)) (.cmp .ge (.call 32 (.cons (.var 0) (.cons (.glb (.tup [(.tup [(.int (-1)), (.int (1))]), (.int (1)), (.int (0)), (.bl true)]) 0) .nil)) []) (.int 0))))
  .pass))
def f_is_chance : Df := ⟨1, 2, b_is_chance⟩
def e_is_poly_0 : MP.E :=
  (.and (.call 0 (.cons (.var 1) .nil) []) (.chain .le .le (.neg (.glb (.int (1000)) 0)) (.var 1) (.glb (.int (1000)) 0)))
def b_is_poly : MP.St :=
  (.seq (.ifs (.or (.not (.bi (.isi .tuple) (.cons (.var 0) .nil))) (.cmp .gt (.bi .len (.cons (.var 0) .nil)) (.glb (.int (5)) 0)))
  (.seq (.ret (.bl false))
  .pass)
  .pass)
  (.seq (.ifs (.not (.bi .allL (.cons (.comp e_is_poly_0 (.one 1) (.seq (.var 0)) .no [1]) .nil)))
  (.seq (.ret (.bl false))
  .pass)
  .pass)
  (.seq (.ret (.or (.cmp .eq (.var 0) (.tup .nil)) (.cmp .ne (.idx (.var 0) (.neg (.int 1))) (.int 0))))
  .pass)))
def f_is_poly : Df := ⟨1, 2, b_is_poly⟩
def e_need_line_0 : MP.E :=
  (.call 36 (.cons (.var 5) .nil) [])
def l_need_line_1 : MP.St :=
  (.seq (.asg 4 (.call 5 (.cons (.var 4) (.cons (.var 5) .nil)) [(.int (1))]))
  .pass)
def e_need_line_2 : MP.E :=
  (.call 37 (.cons (.var 5) .nil) [])
def l_need_line_3 : MP.St :=
  (.seq (.ifs (.or (.not (.bi (.isi .tuple) (.cons (.var 3) .nil))) (.or (.not (.chain .le .le (.int 1) (.bi .len (.cons (.var 3) .nil)) (.glb (.int (4)) 0))) (.cmp .ne (.bi .len (.cons (.var 3) .nil)) (.bi .len (.cons (.idx (.var 2) (.int 0)) .nil)))))
  (.seq (.raise 1)
  .pass)
  .pass)
  (.seq (.ifs (.not (.bi .allL (.cons (.comp e_need_line_2 (.one 5) (.seq (.var 3)) .no [5]) .nil)))
  (.seq (.raise 1)
  .pass)
  .pass)
  (.seq (.asg 4 (.tup .nil))
  (.seq (.for_ (.one 5) (.seq (.var 3))
  l_need_line_1)
  (.seq (.ifs (.or (.cmp .ne (.var 4) (.tup (.cons (.var 1) .nil))) (.not (.bi .allL (.cons (.comp e_need_line_0 (.one 5) (.seq (.var 3)) .no [5]) .nil))))
  (.seq (.raise 1)
  .pass)
  .pass)
  .pass)))))
def b_need_line : MP.St :=
  (.seq (.ifs (.or (.not (.bi (.isi .tuple) (.cons (.var 0) .nil))) (.or (.cmp .ne (.bi .len (.cons (.var 0) .nil)) (.int 2)) (.or (.not (.call 0 (.cons (.idx (.var 0) (.int 0)) .nil) [])) (.not (.chain .le .le (.int 1) (.idx (.var 0) (.int 0)) (.glb (.int (1000)) 0))))))
  (.seq (.raise 1)
  .pass)
  .pass)
  (.seq (.atup [1, 2] (.var 0))
  (.seq (.ifs (.or (.not (.bi (.isi .tuple) (.cons (.var 2) .nil))) (.not (.chain .le .le (.int 2) (.bi .len (.cons (.var 2) .nil)) (.glb (.int (3)) 0))))
  (.seq (.raise 1)
  .pass)
  .pass)
  (.seq (.for_ (.one 3) (.seq (.var 2))
  l_need_line_3)
  .pass))))
def f_need_line : Df := ⟨1, 6, b_need_line⟩
def b_need_share : MP.St :=
  (.seq (.ifs (.or (.not (.call 3 (.cons (.var 0) .nil) [])) (.not (.chain .le .le (.int 0) (.idx (.var 0) (.int 0)) (.idx (.var 0) (.int 1)))))
  (.seq (.raise 4)
  .pass)
  .pass)
  .pass)
def f_need_share : Df := ⟨1, 1, b_need_share⟩
def e_is_word_0 : MP.E :=
  (.and (.call 0 (.cons (.var 2) .nil) []) (.chain .le .lt (.int 0) (.var 2) (.var 1)))
def b_is_word : MP.St :=
  (.seq (.ifs (.or (.not (.bi (.isi .tuple) (.cons (.var 0) .nil))) (.not (.chain .le .le (.int 1) (.bi .len (.cons (.var 0) .nil)) (.glb (.int (4)) 0))))
  (.seq (.ret (.bl false))
  .pass)
  .pass)
  (.seq (.ret (.bi .allL (.cons (.comp e_is_word_0 (.one 2) (.seq (.var 0)) .no [2]) .nil)))
  .pass))
def f_is_word : Df := ⟨2, 3, b_is_word⟩
def e_need_code_0 : MP.E :=
  (.idx (.var 2) (.int 0))
def l_need_code_1 : MP.St :=
  (.seq (.ifs (.or (.not (.bi (.isi .tuple) (.cons (.var 2) .nil))) (.or (.cmp .ne (.bi .len (.cons (.var 2) .nil)) (.int 2)) (.not (.call 40 (.cons (.idx (.var 2) (.int 0)) (.cons (.bi .len (.cons (.idx (.var 0) (.int 1)) .nil)) .nil)) []))))
  (.seq (.raise 2)
  .pass)
  .pass)
  (.seq (.ifs (.or (.not (.call 0 (.cons (.idx (.var 2) (.int 1)) .nil) [])) (.or (.not (.chain .le .le (.int 1) (.idx (.var 2) (.int 1)) (.glb (.int (100)) 0))) (.cmp .ne (.bi .len (.cons (.idx (.var 2) (.int 0)) .nil)) (.bi .len (.cons (.idx (.idx (.var 1) (.int 0)) (.int 0)) .nil)))))
  (.seq (.raise 2)
  .pass)
  .pass)
  .pass))
def b_need_code : MP.St :=
  (.seq (.ifs (.or (.not (.bi (.isi .tuple) (.cons (.var 1) .nil))) (.not (.chain .le .le (.int 1) (.bi .len (.cons (.var 1) .nil)) (.glb (.int (4)) 0))))
  (.seq (.raise 2)
  .pass)
  .pass)
  (.seq (.for_ (.one 2) (.seq (.var 1))
  l_need_code_1)
  (.seq (.ifs (.or (.cmp .ne (.bi .lenSet (.cons (.comp e_need_code_0 (.one 2) (.seq (.var 1)) .no [2]) .nil)) (.bi .len (.cons (.var 1) .nil))) (.cmp .gt (.call 42 (.cons (.var 0) (.cons (.bi .len (.cons (.idx (.idx (.var 1) (.int 0)) (.int 0)) .nil)) .nil)) []) (.glb (.int (81)) 0)))
  (.seq (.raise 2)
  .pass)
  .pass)
  .pass)))
def f_need_code : Df := ⟨2, 3, b_need_code⟩
def l_count_rows_0 : MP.St :=
  (.seq (.aug 2 .mul (.bi .len (.cons (.idx (.idx (.var 0) (.int 1)) (.int 0)) .nil)))
  .pass)
def b_count_rows : MP.St :=
  (.seq (.asg 2 (.int 1))
  (.seq (.for_ (.one 3) (.rng1 (.var 1))
  l_count_rows_0)
  (.seq (.ret (.var 2))
  .pass)))
def f_count_rows : Df := ⟨2, 4, b_count_rows⟩
def e_heard_rows_0 : MP.E :=
  (.tup (.star (.var 5) (.cons (.var 6) .nil)))
def l_heard_rows_1 : MP.St :=
  (.seq (.ext 4 (.comp e_heard_rows_0 (.one 6) (.rng1 (.bi .len (.cons (.idx (.idx (.var 0) (.int 1)) (.int 0)) .nil))) .no [6]))
  .pass)
def l_heard_rows_2 : MP.St :=
  (.seq (.asg 4 (.disp .nil))
  (.seq (.for_ (.one 5) (.seq (.var 2))
  l_heard_rows_1)
  (.seq (.asg 2 (.var 4))
  .pass)))
def b_heard_rows : MP.St :=
  (.seq (.asg 2 (.disp (.cons (.tup .nil) .nil)))
  (.seq (.for_ (.one 3) (.rng1 (.var 1))
  l_heard_rows_2)
  (.seq (.ret (.var 2))
  .pass)))
def f_heard_rows : Df := ⟨2, 7, b_heard_rows⟩
def l_chance_of_0 : MP.St :=
  (.seq (.asg 3 (.call 6 (.cons (.var 3) (.cons (.idx (.idx (.idx (.var 0) (.int 1)) (.var 4)) (.var 5)) .nil)) []))
  .pass)
def b_chance_of : MP.St :=
  (.seq (.asg 3 (.tup (.cons (.int 1) .nil)))
  (.seq (.for_ (.tup [4, 5]) (.zip (.var 1) (.var 2))
  l_chance_of_0)
  (.seq (.ret (.var 3))
  .pass)))
def f_chance_of : Df := ⟨3, 6, b_chance_of⟩
def l_low_of_0 : MP.St :=
  (.seq (.aug 2 .mul (.idx (.var 0) (.int 0)))
  .pass)
def b_low_of : MP.St :=
  (.seq (.asg 2 (.int 1))
  (.seq (.for_ (.one 3) (.rng1 (.var 1))
  l_low_of_0)
  (.seq (.ret (.var 2))
  .pass)))
def f_low_of : Df := ⟨2, 4, b_low_of⟩
def e_lowest_0 : MP.E :=
  (.bin .fdiv (.var 3) (.var 2))
def b_lowest : MP.St :=
  (.seq (.asg 2 (.call 1 (.cons (.tup (.star (.var 0) (.cons (.var 1) .nil))) .nil) []))
  (.seq (.ret (.tup (.cons (.bi .tupleOf (.cons (.comp e_lowest_0 (.one 3) (.seq (.var 0)) .no [3]) .nil)) (.cons (.bin .fdiv (.var 1) (.var 2)) .nil))))
  .pass))
def f_lowest : Df := ⟨2, 4, b_lowest⟩
def b_chance : MP.St :=
  (.seq (.expr (.call 38 (.cons (.var 0) .nil) []))
  (.seq (.ifs (.not (.call 40 (.cons (.var 1) (.cons (.bi .len (.cons (.idx (.var 0) (.int 1)) .nil)) .nil)) []))
  (.seq (.raise 2)
  .pass)
  .pass)
  (.seq (.ifs (.or (.not (.call 40 (.cons (.var 2) (.cons (.bi .len (.cons (.idx (.idx (.var 0) (.int 1)) (.int 0)) .nil)) .nil)) [])) (.cmp .ne (.bi .len (.cons (.var 2) .nil)) (.bi .len (.cons (.var 1) .nil))))
  (.seq (.raise 5)
  .pass)
  .pass)
  (.seq (.ret (.call 46 (.cons (.call 44 (.cons (.var 0) (.cons (.var 1) (.cons (.var 2) .nil))) []) (.cons (.call 45 (.cons (.var 0) (.cons (.bi .len (.cons (.var 1) .nil)) .nil)) []) .nil)) []))
  .pass))))
def f_chance : Df := ⟨3, 3, b_chance⟩
def e_weighed_0 : MP.E :=
  (.var 6)
def e_weighed_1 : MP.E :=
  (.call 6 (.cons (.tup (.cons (.var 6) .nil)) (.cons (.call 44 (.cons (.var 0) (.cons (.var 5) (.cons (.var 4) .nil))) []) .nil)) [])
def l_weighed_2 : MP.St :=
  (.seq (.app 3 (.comp e_weighed_1 (.tup [5, 6]) (.seq (.var 1)) .no [5, 6]))
  .pass)
def b_weighed : MP.St :=
  (.seq (.asg 2 (.bi .len (.cons (.idx (.idx (.var 1) (.int 0)) (.int 0)) .nil)))
  (.seq (.asg 3 (.disp .nil))
  (.seq (.for_ (.one 4) (.seq (.call 43 (.cons (.var 0) (.cons (.var 2) .nil)) []))
  l_weighed_2)
  (.seq (.ret (.tup (.cons (.var 3) (.cons (.bin .mul (.call 45 (.cons (.var 0) (.cons (.var 2) .nil)) []) (.bi .sumL (.cons (.comp e_weighed_0 (.tup [5, 6]) (.seq (.var 1)) .no [5, 6]) .nil))) .nil))))
  .pass))))
def f_weighed : Df := ⟨2, 7, b_weighed⟩
def e_need_reader_0 : MP.E :=
  (.and (.call 0 (.cons (.var 3) .nil) []) (.chain .le .lt (.int 0) (.var 3) (.bi .len (.cons (.var 1) .nil))))
def b_need_reader : MP.St :=
  (.seq (.ifs (.or (.not (.bi (.isi .tuple) (.cons (.var 2) .nil))) (.cmp .ne (.bi .len (.cons (.var 2) .nil)) (.call 42 (.cons (.var 0) (.cons (.bi .len (.cons (.idx (.idx (.var 1) (.int 0)) (.int 0)) .nil)) .nil)) [])))
  (.seq (.raise 3)
  .pass)
  .pass)
  (.seq (.ifs (.not (.bi .allL (.cons (.comp e_need_reader_0 (.one 3) (.seq (.var 2)) .no [3]) .nil)))
  (.seq (.raise 3)
  .pass)
  .pass)
  .pass))
def f_need_reader : Df := ⟨3, 4, b_need_reader⟩
def b_need_both : MP.St :=
  (.seq (.expr (.call 38 (.cons (.var 0) .nil) []))
  (.seq (.expr (.call 41 (.cons (.var 0) (.cons (.var 1) .nil)) []))
  .pass))
def f_need_both : Df := ⟨2, 2, b_need_both⟩
def l_right_of_0 : MP.St :=
  (.seq (.asg 3 (.call 5 (.cons (.var 3) (.cons (.idx (.var 4) (.var 5)) .nil)) [(.int (1))]))
  .pass)
def b_right_of : MP.St :=
  (.seq (.asg 3 (.tup .nil))
  (.seq (.for_ (.tup [4, 5]) (.zip (.var 0) (.var 2))
  l_right_of_0)
  (.seq (.ret (.call 46 (.cons (.var 3) (.cons (.var 1) .nil)) []))
  .pass)))
def f_right_of : Df := ⟨3, 6, b_right_of⟩
def b_right : MP.St :=
  (.seq (.expr (.call 50 (.cons (.var 0) (.cons (.var 1) .nil)) []))
  (.seq (.expr (.call 49 (.cons (.var 0) (.cons (.var 1) (.cons (.var 2) .nil))) []))
  (.seq (.atup [3, 4] (.call 48 (.cons (.var 0) (.cons (.var 1) .nil)) []))
  (.seq (.ret (.call 51 (.cons (.var 3) (.cons (.var 4) (.cons (.var 2) .nil))) []))
  .pass))))
def f_right : Df := ⟨3, 5, b_right⟩
def b_at_share : MP.St :=
  (.seq (.atup [2, 3] (.call 14 (.cons (.idx (.var 0) (.int 0)) (.cons (.var 1) .nil)) []))
  (.seq (.ret (.call 2 (.cons (.var 2) (.cons (.bin .mul (.var 3) (.idx (.var 0) (.int 1))) .nil)) []))
  .pass))
def f_at_share : Df := ⟨2, 4, b_at_share⟩
def e_reader_by_0 : MP.E :=
  (.call 54 (.cons (.var 2) (.cons (.var 1) .nil)) [])
def b_reader_by : MP.St :=
  (.seq (.ret (.bi .tupleOf (.cons (.comp e_reader_by_0 (.one 2) (.seq (.var 0)) .no [2]) .nil)))
  .pass)
def f_reader_by : Df := ⟨2, 3, b_reader_by⟩
def b_best_reader : MP.St :=
  (.seq (.expr (.call 50 (.cons (.var 0) (.cons (.var 1) .nil)) []))
  (.seq (.expr (.call 39 (.cons (.var 2) .nil) []))
  (.seq (.ret (.call 55 (.cons (.idx (.call 48 (.cons (.var 0) (.cons (.var 1) .nil)) []) (.int 0)) (.cons (.call 56 (.cons (.var 2) .nil) []) .nil)) []))
  .pass)))
def f_best_reader : Df := ⟨3, 3, b_best_reader⟩
def b_best_right : MP.St :=
  (.seq (.expr (.call 50 (.cons (.var 0) (.cons (.var 1) .nil)) []))
  (.seq (.expr (.call 39 (.cons (.var 2) .nil) []))
  (.seq (.atup [3, 4] (.call 48 (.cons (.var 0) (.cons (.var 1) .nil)) []))
  (.seq (.ret (.call 53 (.cons (.call 51 (.cons (.var 3) (.cons (.var 4) (.cons (.call 55 (.cons (.var 3) (.cons (.call 56 (.cons (.var 2) .nil) []) .nil)) []) .nil))) []) (.cons (.var 2) .nil)) []))
  .pass))))
def f_best_right : Df := ⟨3, 5, b_best_right⟩
def l_joined_0 : MP.St :=
  (.seq (.ifs (.or (.cmp .eq (.var 1) (.disp .nil)) (.cmp .ne (.idx (.var 1) (.neg (.int 1))) (.var 3)))
  (.seq (.ifs (.cmp .ne (.var 1) (.disp .nil))
  (.seq (.app 2 (.var 4))
  .pass)
  .pass)
  (.seq (.app 1 (.var 3))
  .pass))
  .pass)
  .pass)
def b_joined : MP.St :=
  (.seq (.ptup [1, 2] (.cons (.disp .nil) (.cons (.disp .nil) .nil)))
  (.seq (.for_ (.tup [3, 4]) (.seq (.var 0))
  l_joined_0)
  (.seq (.ret (.tup (.cons (.var 1) (.cons (.var 2) .nil))))
  .pass)))
def f_joined : Df := ⟨1, 5, b_joined⟩
def l_by_roots_0 : MP.St :=
  (.seq (.app 4 (.tup (.cons (.call 51 (.cons (.var 0) (.cons (.var 1) (.cons (.call 55 (.cons (.var 0) (.cons (.call 56 (.cons (.call 34 (.cons (.var 5) (.cons (.var 6) .nil)) []) .nil) []) .nil)) []) .nil))) []) (.cons (.var 5) .nil))))
  .pass)
def l_by_roots_1 : MP.St :=
  (.seq (.ext 2 (.call 22 (.cons (.var 3) .nil) []))
  .pass)
def b_by_roots : MP.St :=
  (.seq (.asg 2 (.disp .nil))
  (.seq (.for_ (.one 3) (.seq (.call 61 (.cons (.var 0) .nil) []))
  l_by_roots_1)
  (.seq (.ptup [2, 4] (.cons (.bin .add (.bin .add (.disp (.cons (.glb (.tup [(.tup [(.int (0)), (.int (1))]), (.int (0)), (.int (0)), (.bl true)]) 0) .nil)) (.call 33 (.cons (.var 2) .nil) [])) (.disp (.cons (.glb (.tup [(.tup [(.int (-1)), (.int (1))]), (.int (1)), (.int (0)), (.bl true)]) 0) .nil))) (.cons (.disp .nil) .nil)))
  (.seq (.for_ (.tup [5, 6]) (.zip (.var 2) (.slc (.var 2) (.yes (.int 1)) .no))
  l_by_roots_0)
  (.seq (.ret (.call 60 (.cons (.var 4) .nil) []))
  .pass)))))
def f_by_roots : Df := ⟨2, 7, b_by_roots⟩
def b_roots_known : MP.St :=
  (.seq (.ifs (.cmp .nin (.var 0) (.var 1))
  (.seq (.setix 1 (.var 0) (.call 22 (.cons (.var 0) .nil) []))
  .pass)
  .pass)
  (.seq (.ret (.idx (.var 1) (.var 0)))
  .pass))
def f_roots_known : Df := ⟨2, 2, b_roots_known⟩
def l_next_root_0 : MP.St :=
  (.seq (.asg 10 (.and (.cmp .lt (.call 29 (.cons (.var 2) (.cons (.var 9) .nil)) []) (.int 0)) (.cmp .gt (.call 31 (.cons (.var 8) (.cons (.var 9) .nil)) []) (.int 0))))
  (.seq (.ifs (.and (.var 10) (.or (.isN (.var 4) false) (.cmp .lt (.call 29 (.cons (.var 9) (.cons (.var 4) .nil)) []) (.int 0))))
  (.seq (.asg 4 (.var 9))
  .pass)
  .pass)
  .pass))
def l_next_root_1 : MP.St :=
  (.seq (.asg 8 (.call 5 (.cons (.var 7) (.cons (.idx (.var 5) (.var 6)) (.cons (.neg (.int 1)) .nil))) []))
  (.seq (.for_ (.one 9) (.seq (.call 63 (.cons (.var 8) (.io 3 .nil)) []))
  l_next_root_0)
  .pass))
def l_next_root_2 : MP.St :=
  (.seq (.for_ (.one 7) (.seq (.var 5))
  l_next_root_1)
  .pass)
def b_next_root : MP.St :=
  (.seq (.asg 4 .non)
  (.seq (.for_ (.tup [5, 6]) (.zip (.var 0) (.var 1))
  l_next_root_2)
  (.seq (.ret (.var 4))
  .pass)))
def f_next_root : Df := ⟨4, 11, b_next_root⟩
def b_rows : MP.St :=
  (.seq (.expr (.call 50 (.cons (.var 0) (.cons (.var 1) .nil)) []))
  (.seq (.atup [2, 3] (.call 48 (.cons (.var 0) (.cons (.var 1) .nil)) []))
  (.seq (.ret (.idx (.call 62 (.cons (.var 2) (.cons (.var 3) .nil)) []) (.int 0)))
  .pass)))
def f_rows : Df := ⟨2, 4, b_rows⟩
def b_walked_rows : MP.St :=
  (.seq (.expr (.call 50 (.cons (.var 0) (.cons (.var 1) .nil)) []))
  (.seq (.atup [2, 3] (.call 48 (.cons (.var 0) (.cons (.var 1) .nil)) []))
  (.seq (.ret (.idx (.call 65 (.cons (.var 2) (.cons (.var 3) .nil)) []) (.int 0)))
  .pass)))
def f_walked_rows : Df := ⟨2, 4, b_walked_rows⟩
def b_need_end : MP.St :=
  (.seq (.expr (.call 50 (.cons (.var 0) (.cons (.var 1) .nil)) []))
  (.seq (.ifs (.not (.call 0 (.cons (.var 2) .nil) []))
  (.seq (.raise 5)
  .pass)
  .pass)
  (.seq (.atup [3, 4] (.call 48 (.cons (.var 0) (.cons (.var 1) .nil)) []))
  (.seq (.asg 5 (.idx (.call 65 (.cons (.var 3) (.cons (.var 4) .nil)) []) (.int 1)))
  (.seq (.ifs (.not (.chain .le .lt (.int 0) (.var 2) (.bi .len (.cons (.var 5) .nil))))
  (.seq (.raise 5)
  .pass)
  .pass)
  (.seq (.ret (.idx (.var 5) (.var 2)))
  .pass))))))
def f_need_end : Df := ⟨3, 6, b_need_end⟩
def b_need_bits : MP.St :=
  (.seq (.ifs (.or (.not (.call 0 (.cons (.var 0) .nil) [])) (.not (.chain .le .le (.int 0) (.var 0) (.glb (.int (200)) 0))))
  (.seq (.raise 5)
  .pass)
  .pass)
  .pass)
def f_need_bits : Df := ⟨1, 1, b_need_bits⟩
def b_end_figures : MP.St :=
  (.seq (.asg 4 (.call 68 (.cons (.var 0) (.cons (.var 1) (.cons (.var 2) .nil))) []))
  (.seq (.expr (.call 69 (.cons (.var 3) .nil) []))
  (.seq (.ret (.call 35 (.cons (.var 4) (.cons (.var 3) .nil)) []))
  .pass)))
def f_end_figures : Df := ⟨4, 5, b_end_figures⟩
def b_end_side : MP.St :=
  (.seq (.asg 4 (.call 68 (.cons (.var 0) (.cons (.var 1) (.cons (.var 2) .nil))) []))
  (.seq (.ifs (.not (.call 3 (.cons (.var 3) .nil) []))
  (.seq (.raise 5)
  .pass)
  .pass)
  (.seq (.ret (.call 28 (.cons (.var 4) (.cons (.var 3) .nil)) []))
  .pass)))
def f_end_side : Df := ⟨4, 5, b_end_side⟩
def c_curve_0 : MP.E :=
  (.cmp .le (.bin .mul (.bin .mul (.bin .mul (.idx (.var 14) (.int 0)) (.idx (.var 15) (.int 1))) (.idx (.var 8) (.int 0))) (.idx (.var 11) (.int 1))) (.bin .mul (.bin .mul (.bin .mul (.idx (.var 11) (.int 0)) (.idx (.var 8) (.int 1))) (.idx (.var 15) (.int 0))) (.idx (.var 14) (.int 1))))
def e_curve_1 : MP.E :=
  (.int 1)
def l_curve_2 : MP.St :=
  (.seq (.asg 12 (.bi .len (.cons (.comp e_curve_1 (.tup [14, 15]) (.seq (.var 10)) (.yes c_curve_0) [14, 15]) .nil)))
  (.seq (.ins 10 (.var 12) (.tup (.cons (.var 11) (.cons (.var 8) .nil))))
  .pass))
def e_curve_3 : MP.E :=
  (.call 53 (.cons (.tup (.cons (.var 13) (.cons (.var 4) .nil))) (.cons (.var 2) .nil)) [])
def l_curve_4 : MP.St :=
  (.seq (.asg 7 (.comp e_curve_3 (.one 13) (.seq (.var 6)) .no [13]))
  (.seq (.asg 8 (.call 73 (.cons (.var 7) .nil) []))
  (.seq (.asg 9 (.idx (.var 7) (.idx (.call 55 (.cons (.disp (.cons (.var 6) .nil)) (.cons (.call 56 (.cons (.var 2) .nil) []) .nil)) []) (.int 0))))
  (.seq (.ifs (.cmp .gt (.idx (.var 8) (.int 0)) (.int 0))
  (.seq (.app 5 (.tup (.cons (.call 74 (.cons (.var 8) (.cons (.var 9) .nil)) []) (.cons (.var 8) .nil))))
  .pass)
  .pass)
  .pass))))
def b_curve : MP.St :=
  (.seq (.expr (.call 50 (.cons (.var 0) (.cons (.var 1) .nil)) []))
  (.seq (.expr (.call 39 (.cons (.var 2) .nil) []))
  (.seq (.atup [3, 4] (.call 48 (.cons (.var 0) (.cons (.var 1) .nil)) []))
  (.seq (.asg 5 (.disp .nil))
  (.seq (.for_ (.one 6) (.seq (.var 3))
  l_curve_4)
  (.seq (.asg 10 (.disp .nil))
  (.seq (.for_ (.tup [11, 8]) (.seq (.var 5))
  l_curve_2)
  (.seq (.ret (.call 75 (.cons (.var 10) .nil) []))
  .pass))))))))
def f_curve : Df := ⟨3, 16, b_curve⟩
def l_total_0 : MP.St :=
  (.seq (.asg 1 (.call 2 (.cons (.bin .add (.bin .mul (.idx (.var 1) (.int 0)) (.idx (.var 2) (.int 1))) (.bin .mul (.idx (.var 2) (.int 0)) (.idx (.var 1) (.int 1)))) (.cons (.bin .mul (.idx (.var 1) (.int 1)) (.idx (.var 2) (.int 1))) .nil)) []))
  .pass)
def b_total : MP.St :=
  (.seq (.asg 1 (.tup (.cons (.int 0) (.cons (.int 1) .nil))))
  (.seq (.for_ (.one 2) (.seq (.var 0))
  l_total_0)
  (.seq (.ret (.var 1))
  .pass)))
def f_total : Df := ⟨1, 3, b_total⟩
def b_less : MP.St :=
  (.seq (.ret (.call 73 (.cons (.disp (.cons (.var 0) (.cons (.tup (.cons (.neg (.idx (.var 1) (.int 0))) (.cons (.idx (.var 1) (.int 1)) .nil))) .nil))) .nil) []))
  .pass)
def f_less : Df := ⟨2, 2, b_less⟩
def l_corners_0 : MP.St :=
  (.seq (.asg 7 (.call 2 (.cons (.bin .mul (.idx (.var 5) (.int 0)) (.idx (.var 6) (.int 1))) (.cons (.bin .mul (.idx (.var 5) (.int 1)) (.idx (.var 6) (.int 0))) .nil)) []))
  (.seq (.ptup [1, 2] (.cons (.call 73 (.cons (.disp (.cons (.var 1) (.cons (.var 5) .nil))) .nil) []) (.cons (.call 74 (.cons (.var 2) (.cons (.var 6) .nil)) []) .nil)))
  (.seq (.ifs (.cmp .eq (.var 7) (.var 4))
  (.seq (.expr (.mpop 3))
  .pass)
  .pass)
  (.seq (.app 3 (.tup (.cons (.var 1) (.cons (.var 2) .nil))))
  (.seq (.asg 4 (.var 7))
  .pass)))))
def b_corners : MP.St :=
  (.seq (.ptup [1, 2, 3, 4] (.cons (.tup (.cons (.int 0) (.cons (.int 1) .nil))) (.cons (.tup (.cons (.int 1) (.cons (.int 1) .nil))) (.cons (.disp (.cons (.tup (.cons (.tup (.cons (.int 0) (.cons (.int 1) .nil))) (.cons (.tup (.cons (.int 1) (.cons (.int 1) .nil))) .nil))) .nil)) (.cons (.tup (.cons (.int 0) (.cons (.int 1) .nil))) .nil)))))
  (.seq (.for_ (.tup [5, 6]) (.seq (.var 0))
  l_corners_0)
  (.seq (.ret (.var 3))
  .pass)))
def f_corners : Df := ⟨1, 8, b_corners⟩
def b_walk_of : MP.St :=
  (.seq (.atup [2, 3] (.call 48 (.cons (.var 0) (.cons (.var 1) .nil)) []))
  (.seq (.ret (.call 65 (.cons (.var 2) (.cons (.var 3) .nil)) []))
  .pass))
def f_walk_of : Df := ⟨2, 4, b_walk_of⟩
def e_gap_of_0 : MP.E :=
  (.bin .mul (.idx (.var 1) (.int 1)) (.var 2))
def b_gap_of : MP.St :=
  (.seq (.ret (.call 5 (.cons (.comp e_gap_of_0 (.one 2) (.seq (.idx (.var 0) (.int 0))) .no [2]) (.cons (.idx (.var 1) (.int 0)) (.cons (.neg (.idx (.var 0) (.int 1))) .nil))) []))
  .pass)
def f_gap_of : Df := ⟨2, 3, b_gap_of⟩
def c_held_0 : MP.E :=
  (.cmp .le (.call 29 (.cons (.var 4) (.cons (.var 1) .nil)) []) (.int 0))
def e_held_1 : MP.E :=
  (.int 1)
def b_held : MP.St :=
  (.seq (.atup [2, 3] (.var 0))
  (.seq (.ret (.idx (.var 2) (.bi .len (.cons (.comp e_held_1 (.one 4) (.seq (.var 3)) (.yes c_held_0) [4]) .nil))))
  .pass))
def f_held : Df := ⟨2, 5, b_held⟩
def l_turns_of_0 : MP.St :=
  (.seq (.ifs (.and (.cmp .lt (.call 29 (.cons (.var 5) (.cons (.var 8) .nil)) []) (.int 0)) (.cmp .lt (.call 29 (.cons (.var 8) (.cons (.var 7) .nil)) []) (.int 0)))
  (.seq (.app 3 (.tup (.cons (.var 8) (.cons (.int 0) (.cons (.call 31 (.cons (.var 6) (.cons (.var 8) .nil)) []) .nil)))))
  .pass)
  .pass)
  .pass)
def l_turns_of_1 : MP.St :=
  (.seq (.asg 6 (.call 77 (.cons (.call 78 (.cons (.var 0) (.cons (.var 5) .nil)) []) (.cons (.call 78 (.cons (.var 1) (.cons (.var 5) .nil)) []) .nil)) []))
  (.seq (.asg 7 (.ite (.cmp .lt (.bin .add (.var 4) (.int 1)) (.bi .len (.cons (.var 2) .nil))) (.idx (.var 2) (.bin .add (.var 4) (.int 1))) (.glb (.tup [(.tup [(.int (-1)), (.int (1))]), (.int (1)), (.int (0)), (.bl true)]) 0)))
  (.seq (.app 3 (.tup (.cons (.var 5) (.cons (.call 30 (.cons (.var 6) (.cons (.var 5) .nil)) []) (.cons (.call 31 (.cons (.var 6) (.cons (.var 5) .nil)) []) .nil)))))
  (.seq (.for_ (.one 8) (.seq (.call 22 (.cons (.var 6) .nil) []))
  l_turns_of_0)
  .pass))))
def b_turns_of : MP.St :=
  (.seq (.ptup [2, 3] (.cons (.bin .add (.disp (.cons (.glb (.tup [(.tup [(.int (0)), (.int (1))]), (.int (0)), (.int (0)), (.bl true)]) 0) .nil)) (.call 33 (.cons (.bin .add (.idx (.var 0) (.int 1)) (.idx (.var 1) (.int 1))) .nil) [])) (.cons (.disp .nil) .nil)))
  (.seq (.for_ (.tup [4, 5]) (.enum (.var 2))
  l_turns_of_1)
  (.seq (.ret (.tup (.cons (.var 3) (.cons (.call 30 (.cons (.var 6) (.cons (.glb (.tup [(.tup [(.int (-1)), (.int (1))]), (.int (1)), (.int (0)), (.bl true)]) 0) .nil)) []) .nil))))
  .pass)))
def f_turns_of : Df := ⟨2, 9, b_turns_of⟩
def b_need_two : MP.St :=
  (.seq (.expr (.call 38 (.cons (.var 0) .nil) []))
  (.seq (.expr (.call 41 (.cons (.var 0) (.cons (.var 1) .nil)) []))
  (.seq (.expr (.call 41 (.cons (.var 0) (.cons (.var 2) .nil)) []))
  .pass)))
def f_need_two : Df := ⟨3, 3, b_need_two⟩
def l_turns_0 : MP.St :=
  (.seq (.ifs (.cmp .ne (.tup (.cons (.var 9) (.cons (.var 10) .nil))) (.tup (.cons (.idx (.idx (.var 7) (.neg (.int 1))) (.int 2)) (.cons (.idx (.idx (.var 7) (.neg (.int 1))) (.int 2)) .nil))))
  (.seq (.app 7 (.tup (.cons (.var 8) (.cons (.var 9) (.cons (.var 10) .nil)))))
  .pass)
  .pass)
  .pass)
def b_turns : MP.St :=
  (.seq (.ptup [3, 4] (.cons (.call 76 (.cons (.var 0) (.cons (.var 1) .nil)) []) (.cons (.call 76 (.cons (.var 0) (.cons (.var 2) .nil)) []) .nil)))
  (.seq (.atup [5, 6] (.call 79 (.cons (.var 3) (.cons (.var 4) .nil)) []))
  (.seq (.asg 7 (.slc (.var 5) .no (.yes (.int 1))))
  (.seq (.for_ (.tup [8, 9, 10]) (.seq (.slc (.var 5) (.yes (.int 1)) .no))
  l_turns_0)
  (.seq (.ret (.tup (.cons (.var 7) (.cons (.var 6) .nil))))
  .pass)))))
def f_turns : Df := ⟨3, 11, b_turns⟩
def l_signs_0 : MP.St :=
  (.seq (.ext 5 (.disp (.cons (.var 7) (.cons (.var 8) .nil))))
  .pass)
def b_signs : MP.St :=
  (.seq (.expr (.call 80 (.cons (.var 0) (.cons (.var 1) (.cons (.var 2) .nil))) []))
  (.seq (.atup [3, 4] (.call 81 (.cons (.var 0) (.cons (.var 1) (.cons (.var 2) .nil))) []))
  (.seq (.asg 5 (.disp .nil))
  (.seq (.for_ (.tup [6, 7, 8]) (.seq (.var 3))
  l_signs_0)
  (.seq (.ret (.tup (.star (.var 5) (.cons (.var 4) .nil))))
  .pass)))))
def f_signs : Df := ⟨3, 9, b_signs⟩
def e_turn_figures_0 : MP.E :=
  (.call 35 (.cons (.var 4) (.cons (.var 3) .nil)) [])
def b_turn_figures : MP.St :=
  (.seq (.expr (.call 80 (.cons (.var 0) (.cons (.var 1) (.cons (.var 2) .nil))) []))
  (.seq (.expr (.call 69 (.cons (.var 3) .nil) []))
  (.seq (.ret (.bi .tupleOf (.cons (.comp e_turn_figures_0 (.tup [4, 5, 6]) (.seq (.slc (.idx (.call 81 (.cons (.var 0) (.cons (.var 1) (.cons (.var 2) .nil))) []) (.int 0)) (.yes (.int 1)) .no)) .no [4, 5, 6]) .nil)))
  .pass)))
def f_turn_figures : Df := ⟨4, 7, b_turn_figures⟩
def c_lots_0 : MP.E :=
  (.or (.cmp .eq (.var 8) (.tup .nil)) (.cmp .gt (.var 6) (.idx (.idx (.var 8) (.neg (.int 1))) (.int 0))))
def e_lots_1 : MP.E :=
  (.tup (.star (.var 8) (.cons (.tup (.cons (.var 6) (.cons (.int 1) .nil))) .nil)))
def l_lots_2 : MP.St :=
  (.seq (.ext 5 (.comp e_lots_1 (.one 6) (.seq (.var 3)) (.yes c_lots_0) [6]))
  .pass)
def l_lots_3 : MP.St :=
  (.seq (.asg 5 (.disp .nil))
  (.seq (.for_ (.one 8) (.seq (.var 7))
  l_lots_2)
  (.seq (.asg 7 (.var 5))
  .pass)))
def e_lots_4 : MP.E :=
  (.tup (.star (.var 6) (.cons (.var 9) .nil)))
def l_lots_5 : MP.St :=
  (.seq (.ext 5 (.comp e_lots_4 (.one 9) (.rng1 (.bi .len (.cons (.idx (.var 0) (.int 1)) .nil))) .no [9]))
  .pass)
def l_lots_6 : MP.St :=
  (.seq (.asg 5 (.disp .nil))
  (.seq (.for_ (.one 6) (.seq (.var 3))
  l_lots_5)
  (.seq (.asg 3 (.var 5))
  .pass)))
def b_lots : MP.St :=
  (.seq (.asg 3 (.disp (.cons (.tup .nil) .nil)))
  (.seq (.for_ (.one 4) (.rng1 (.var 2))
  l_lots_6)
  (.seq (.asg 7 (.disp (.cons (.tup .nil) .nil)))
  (.seq (.for_ (.one 4) (.rng1 (.var 1))
  l_lots_3)
  (.seq (.ret (.var 7))
  .pass)))))
def f_lots : Df := ⟨3, 10, b_lots⟩
def b_need_lots : MP.St :=
  (.seq (.expr (.call 38 (.cons (.var 0) .nil) []))
  (.seq (.ifs (.or (.not (.call 0 (.cons (.var 1) .nil) [])) (.not (.chain .le .le (.int 1) (.var 1) (.int 4))))
  (.seq (.raise 5)
  .pass)
  .pass)
  (.seq (.ifs (.or (.not (.call 0 (.cons (.var 2) .nil) [])) (.or (.not (.chain .le .le (.int 1) (.var 2) (.int 4))) (.cmp .gt (.call 42 (.cons (.var 0) (.cons (.var 2) .nil)) []) (.glb (.int (81)) 0))))
  (.seq (.raise 5)
  .pass)
  .pass)
  .pass)))
def f_need_lots : Df := ⟨3, 3, b_need_lots⟩
def c_best_lots_0 : MP.E :=
  (.cmp .eq (.var 10) (.var 9))
def e_best_lots_1 : MP.E :=
  (.var 11)
def e_best_lots_2 : MP.E :=
  (.bi .tupleOf (.cons (.comp e_best_lots_1 (.tup [11, 12]) (.seq (.var 6)) .no [11, 12]) .nil))
def l_best_lots_3 : MP.St :=
  (.seq (.asg 9 (.ite (.cmp .gt (.bin .mul (.idx (.var 10) (.int 0)) (.idx (.var 9) (.int 1))) (.bin .mul (.idx (.var 9) (.int 0)) (.idx (.var 10) (.int 1)))) (.var 10) (.var 9)))
  .pass)
def l_best_lots_4 : MP.St :=
  (.seq (.atup [7, 8] (.call 48 (.cons (.var 0) (.cons (.var 6) .nil)) []))
  (.seq (.app 5 (.call 53 (.cons (.call 51 (.cons (.var 7) (.cons (.var 8) (.cons (.call 55 (.cons (.var 7) (.cons (.call 56 (.cons (.var 3) .nil) []) .nil)) []) .nil))) []) (.cons (.var 3) .nil)) []))
  .pass))
def b_best_lots : MP.St :=
  (.seq (.expr (.call 85 (.cons (.var 0) (.cons (.var 1) (.cons (.var 2) .nil))) []))
  (.seq (.expr (.call 39 (.cons (.var 3) .nil) []))
  (.seq (.asg 4 (.call 86 (.cons (.var 0) (.cons (.var 1) (.cons (.var 2) .nil))) []))
  (.seq (.asg 5 (.disp .nil))
  (.seq (.for_ (.one 6) (.seq (.var 4))
  l_best_lots_4)
  (.seq (.asg 9 (.idx (.var 5) (.int 0)))
  (.seq (.for_ (.one 10) (.seq (.var 5))
  l_best_lots_3)
  (.seq (.ret (.comp e_best_lots_2 (.tup [6, 10]) (.zip (.var 4) (.var 5)) (.yes c_best_lots_0) [6, 10]))
  .pass))))))))
def f_best_lots : Df := ⟨4, 13, b_best_lots⟩
def e_need_sums_0 : MP.E :=
  (.and (.call 0 (.cons (.var 2) .nil) []) (.chain .le .le (.int 0) (.var 2) (.int 1)))
def l_need_sums_1 : MP.St :=
  (.seq (.ifs (.or (.not (.bi (.isi .tuple) (.cons (.var 1) .nil))) (.or (.not (.chain .le .le (.int 1) (.bi .len (.cons (.var 1) .nil)) (.glb (.int (10)) 0))) (.cmp .ne (.bi .len (.cons (.var 1) .nil)) (.bi .len (.cons (.idx (.var 0) (.int 0)) .nil)))))
  (.seq (.raise 2)
  .pass)
  .pass)
  (.seq (.ifs (.not (.bi .allL (.cons (.comp e_need_sums_0 (.one 2) (.seq (.var 1)) .no [2]) .nil)))
  (.seq (.raise 2)
  .pass)
  .pass)
  .pass))
def b_need_sums : MP.St :=
  (.seq (.ifs (.or (.not (.bi (.isi .tuple) (.cons (.var 0) .nil))) (.not (.chain .le .le (.int 1) (.bi .len (.cons (.var 0) .nil)) (.glb (.int (5)) 0))))
  (.seq (.raise 2)
  .pass)
  .pass)
  (.seq (.for_ (.one 1) (.seq (.var 0))
  l_need_sums_1)
  (.seq (.ifs (.cmp .ne (.bi .len (.cons (.call 92 (.cons (.var 0) .nil) []) .nil)) (.bi .len (.cons (.var 0) .nil)))
  (.seq (.raise 2)
  .pass)
  .pass)
  .pass)))
def f_need_sums : Df := ⟨1, 3, b_need_sums⟩
def e_added_0 : MP.E :=
  (.bin .mod (.bin .add (.var 2) (.var 3)) (.int 2))
def b_added : MP.St :=
  (.seq (.ret (.bi .tupleOf (.cons (.comp e_added_0 (.tup [2, 3]) (.zip (.var 0) (.var 1)) .no [2, 3]) .nil)))
  .pass)
def f_added : Df := ⟨2, 4, b_added⟩
def e_stepped_0 : MP.E :=
  (.ite (.cmp .eq (.idx (.var 3) (.var 4)) (.int 1)) (.call 91 (.cons (.var 3) (.cons (.var 2) .nil)) []) (.var 3))
def l_stepped_1 : MP.St :=
  (.seq (.ifs (.cmp .eq (.idx (.var 2) (.mindex (.var 3) (.int 1))) (.int 1))
  (.seq (.asg 2 (.call 91 (.cons (.var 2) (.cons (.var 3) .nil)) []))
  .pass)
  .pass)
  .pass)
def l_stepped_2 : MP.St :=
  (.seq (.for_ (.one 3) (.seq (.var 1))
  l_stepped_1)
  (.seq (.ifs (.bi .anyS (.cons (.var 2) .nil))
  (.seq (.asg 4 (.mindex (.var 2) (.int 1)))
  (.seq (.asg 1 (.bin .add (.comp e_stepped_0 (.one 3) (.seq (.var 1)) .no [3]) (.disp (.cons (.var 2) .nil))))
  .pass))
  .pass)
  .pass))
def b_stepped : MP.St :=
  (.seq (.asg 1 (.disp .nil))
  (.seq (.for_ (.one 2) (.seq (.var 0))
  l_stepped_2)
  (.seq (.ret (.bi (.sortedL false) (.cons (.var 1) .nil)))
  .pass)))
def f_stepped : Df := ⟨1, 5, b_stepped⟩
def e_words_of_0 : MP.E :=
  (.call 91 (.cons (.var 3) (.cons (.var 2) .nil)) [])
def l_words_of_1 : MP.St :=
  (.seq (.asg 1 (.bin .add (.var 1) (.comp e_words_of_0 (.one 3) (.seq (.var 1)) .no [3])))
  .pass)
def b_words_of : MP.St :=
  (.seq (.asg 1 (.disp (.cons (.bin .mul (.tup (.cons (.int 0) .nil)) (.bi .len (.cons (.idx (.var 0) (.int 0)) .nil))) .nil)))
  (.seq (.for_ (.one 2) (.seq (.var 0))
  l_words_of_1)
  (.seq (.ret (.var 1))
  .pass)))
def f_words_of : Df := ⟨1, 4, b_words_of⟩
def l_counted_0 : MP.St :=
  (.seq (.augix 2 (.bi .sumL (.cons (.var 3) .nil)) .add (.int 1))
  .pass)
def b_counted : MP.St :=
  (.seq (.asg 2 (.bin .mul (.disp (.cons (.int 0) .nil)) (.bin .add (.var 1) (.int 1))))
  (.seq (.for_ (.one 3) (.seq (.var 0))
  l_counted_0)
  (.seq (.ret (.bi .tupleOf (.cons (.var 2) .nil)))
  .pass)))
def f_counted : Df := ⟨2, 4, b_counted⟩
def b_weights : MP.St :=
  (.seq (.expr (.call 90 (.cons (.var 0) .nil) []))
  (.seq (.ret (.call 94 (.cons (.call 93 (.cons (.var 0) .nil) []) (.cons (.bi .len (.cons (.idx (.var 0) (.int 0)) .nil)) .nil)) []))
  .pass))
def f_weights : Df := ⟨1, 1, b_weights⟩
def l_turned_0 : MP.St :=
  (.seq (.setix 6 (.var 7) (.idx (.var 8) (.var 5)))
  .pass)
def e_turned_1 : MP.E :=
  (.ite (.cmp .eq (.var 9) (.var 5)) (.int 1) (.int 0))
def l_turned_2 : MP.St :=
  (.seq (.ifs (.cmp .nin (.var 5) (.var 3))
  (.seq (.asg 6 (.comp e_turned_1 (.one 9) (.rng1 (.var 2)) .no [9]))
  (.seq (.for_ (.tup [7, 8]) (.zip (.var 3) (.var 1))
  l_turned_0)
  (.seq (.app 4 (.bi .tupleOf (.cons (.var 6) .nil)))
  .pass)))
  .pass)
  .pass)
def e_turned_3 : MP.E :=
  (.mindex (.var 6) (.int 1))
def b_turned : MP.St :=
  (.seq (.ptup [1, 2] (.cons (.call 92 (.cons (.var 0) .nil) []) (.cons (.bi .len (.cons (.idx (.var 0) (.int 0)) .nil)) .nil)))
  (.seq (.asg 3 (.comp e_turned_3 (.one 6) (.seq (.var 1)) .no [6]))
  (.seq (.asg 4 (.disp .nil))
  (.seq (.for_ (.one 5) (.rng1 (.var 2))
  l_turned_2)
  (.seq (.ret (.bi .tupleOf (.cons (.call 92 (.cons (.var 4) .nil) []) .nil)))
  .pass)))))
def f_turned : Df := ⟨1, 10, b_turned⟩
def b_other_side : MP.St :=
  (.seq (.expr (.call 90 (.cons (.var 0) .nil) []))
  (.seq (.ret (.call 96 (.cons (.var 0) .nil) []))
  .pass))
def f_other_side : Df := ⟨1, 1, b_other_side⟩
def b_other_weights : MP.St :=
  (.seq (.expr (.call 90 (.cons (.var 0) .nil) []))
  (.seq (.asg 1 (.call 96 (.cons (.var 0) .nil) []))
  (.seq (.asg 2 (.bi .len (.cons (.idx (.var 0) (.int 0)) .nil)))
  (.seq (.ret (.call 94 (.cons (.ite (.cmp .ne (.var 1) (.tup .nil)) (.call 93 (.cons (.var 1) .nil) []) (.disp (.cons (.bin .mul (.tup (.cons (.int 0) .nil)) (.var 2)) .nil))) (.cons (.var 2) .nil)) []))
  .pass))))
def f_other_weights : Df := ⟨1, 3, b_other_weights⟩
def l_unseen_of_0 : MP.St :=
  (.seq (.ifs (.cmp .gt (.var 3) (.int 0))
  (.seq (.asg 5 (.call 6 (.cons (.call 7 (.cons (.tup (.cons (.int 0) (.cons (.int 1) .nil))) (.cons (.var 3) .nil)) []) (.cons (.call 7 (.cons (.tup (.cons (.int 1) (.cons (.neg (.int 1)) .nil))) (.cons (.bin .sub (.var 1) (.var 3)) .nil)) []) .nil)) []))
  (.seq (.asg 2 (.call 5 (.cons (.var 2) (.cons (.var 5) (.cons (.var 4) .nil))) []))
  .pass))
  .pass)
  .pass)
def b_unseen_of : MP.St :=
  (.seq (.ptup [1, 2] (.cons (.bi .len (.cons (.idx (.var 0) (.int 0)) .nil)) (.cons (.tup .nil) .nil)))
  (.seq (.for_ (.tup [3, 4]) (.enum (.call 94 (.cons (.call 93 (.cons (.var 0) .nil) []) (.cons (.var 1) .nil)) []))
  l_unseen_of_0)
  (.seq (.ret (.var 2))
  .pass)))
def f_unseen_of : Df := ⟨1, 6, b_unseen_of⟩
def b_unseen : MP.St :=
  (.seq (.expr (.call 90 (.cons (.var 0) .nil) []))
  (.seq (.ret (.call 99 (.cons (.var 0) .nil) []))
  .pass))
def f_unseen : Df := ⟨1, 1, b_unseen⟩
def e_unseen_by_other_side_0 : MP.E :=
  (.bin .fdiv (.var 7) (.var 6))
def l_unseen_by_other_side_1 : MP.St :=
  (.seq (.asg 2 (.call 5 (.cons (.var 2) (.cons (.call 7 (.cons (.tup (.cons (.int 1) (.cons (.neg (.int 2)) .nil))) (.cons (.var 4) .nil)) []) (.cons (.var 5) .nil))) []))
  .pass)
def b_unseen_by_other_side : MP.St :=
  (.seq (.expr (.call 90 (.cons (.var 0) .nil) []))
  (.seq (.ptup [1, 2] (.cons (.bi .len (.cons (.idx (.var 0) (.int 0)) .nil)) (.cons (.tup .nil) .nil)))
  (.seq (.asg 3 (.call 96 (.cons (.var 0) .nil) []))
  (.seq (.for_ (.tup [4, 5]) (.enum (.call 94 (.cons (.ite (.cmp .ne (.var 3) (.tup .nil)) (.call 93 (.cons (.var 3) .nil) []) (.disp (.cons (.bin .mul (.tup (.cons (.int 0) .nil)) (.var 1)) .nil))) (.cons (.var 1) .nil)) []))
  l_unseen_by_other_side_1)
  (.seq (.asg 6 (.ite (.cmp .ne (.var 3) (.tup .nil)) (.bi .len (.cons (.call 93 (.cons (.var 3) .nil) []) .nil)) (.int 1)))
  (.seq (.asg 2 (.bi .tupleOf (.cons (.comp e_unseen_by_other_side_0 (.one 7) (.seq (.call 5 (.cons (.var 2) (.cons (.call 7 (.cons (.tup (.cons (.int 1) (.cons (.neg (.int 1)) .nil))) (.cons (.var 1) .nil)) []) (.cons (.neg (.var 6)) .nil))) [])) .no [7]) .nil)))
  (.seq (.ret (.var 2))
  .pass)))))))
def f_unseen_by_other_side : Df := ⟨1, 8, b_unseen_by_other_side⟩
def e_never_above_0 : MP.E :=
  (.not (.call 103 (.cons (.var 4) .nil) []))
def c_never_above_1 : MP.E :=
  (.cmp .gt (.call 31 (.cons (.var 2) (.cons (.var 4) .nil)) []) (.int 0))
def e_never_above_2 : MP.E :=
  (.var 4)
def e_never_above_3 : MP.E :=
  (.bin .mul (.idx (.var 1) (.int 1)) (.var 5))
def b_never_above : MP.St :=
  (.seq (.expr (.call 90 (.cons (.var 0) .nil) []))
  (.seq (.ifs (.or (.not (.call 3 (.cons (.var 1) .nil) [])) (.not (.chain .le .le (.int 0) (.idx (.var 1) (.int 0)) (.idx (.var 1) (.int 1)))))
  (.seq (.raise 4)
  .pass)
  .pass)
  (.seq (.asg 2 (.call 5 (.cons (.comp e_never_above_3 (.one 5) (.seq (.call 99 (.cons (.var 0) .nil) [])) .no [5]) (.cons (.tup (.cons (.idx (.var 1) (.int 0)) .nil)) (.cons (.neg (.int 1)) .nil))) []))
  (.seq (.ifs (.or (.cmp .gt (.call 30 (.cons (.var 2) (.cons (.glb (.tup [(.tup [(.int (0)), (.int (1))]), (.int (0)), (.int (0)), (.bl true)]) 0) .nil)) []) (.int 0)) (.or (.cmp .gt (.call 31 (.cons (.var 2) (.cons (.glb (.tup [(.tup [(.int (0)), (.int (1))]), (.int (0)), (.int (0)), (.bl true)]) 0) .nil)) []) (.int 0)) (.cmp .gt (.call 30 (.cons (.var 2) (.cons (.glb (.tup [(.tup [(.int (-1)), (.int (2))]), (.int (1)), (.int (1)), (.bl true)]) 0) .nil)) []) (.int 0))))
  (.seq (.ret (.bl false))
  .pass)
  .pass)
  (.seq (.asg 3 (.comp e_never_above_2 (.one 4) (.seq (.call 22 (.cons (.var 2) .nil) [])) (.yes c_never_above_1) [4]))
  (.seq (.ret (.and (.cmp .le (.call 32 (.cons (.var 2) (.cons (.glb (.tup [(.tup [(.int (-1)), (.int (2))]), (.int (1)), (.int (1)), (.bl true)]) 0) .nil)) []) (.int 0)) (.bi .allL (.cons (.comp e_never_above_0 (.one 4) (.seq (.var 3)) .no [4]) .nil))))
  .pass))))))
def f_never_above : Df := ⟨2, 6, b_never_above⟩
def b_is_ahead : MP.St :=
  (.seq (.ret (.cmp .gt (.call 30 (.cons (.tup (.cons (.int 1) (.cons (.neg (.int 2)) .nil))) (.cons (.var 0) .nil)) []) (.int 0)))
  .pass)
def f_is_ahead : Df := ⟨1, 1, b_is_ahead⟩
def e_simplest_0 : MP.E :=
  (.call 37 (.cons (.var 4) .nil) [])
def e_simplest_1 : MP.E :=
  (.bin .fdiv (.var 6) (.var 2))
def e_simplest_2 : MP.E :=
  (.call 4 (.cons (.comp e_simplest_1 (.one 6) (.seq (.var 4)) .no [6]) .nil) [])
def l_simplest_3 : MP.St :=
  (.seq (.app 5 (.bi .tupleOf (.cons (.comp e_simplest_2 (.one 4) (.seq (.var 3)) .no [4]) .nil)))
  (.seq (.ifs (.not (.bi .allL (.cons (.comp e_simplest_0 (.one 4) (.seq (.idx (.var 5) (.neg (.int 1)))) .no [4]) .nil)))
  (.seq (.raise 1)
  .pass)
  .pass)
  .pass))
def l_simplest_4 : MP.St :=
  (.seq (.asg 2 (.call 1 (.cons (.tup (.cons (.var 2) (.star (.var 4) .nil))) .nil) []))
  .pass)
def l_simplest_5 : MP.St :=
  (.seq (.for_ (.one 4) (.seq (.var 3))
  l_simplest_4)
  .pass)
def b_simplest : MP.St :=
  (.seq (.asg 2 (.var 0))
  (.seq (.for_ (.one 3) (.seq (.var 1))
  l_simplest_5)
  (.seq (.asg 5 (.disp .nil))
  (.seq (.for_ (.one 3) (.seq (.var 1))
  l_simplest_3)
  (.seq (.ifs (.cmp .gt (.bin .fdiv (.var 0) (.var 2)) (.int 1000))
  (.seq (.raise 1)
  .pass)
  .pass)
  (.seq (.ret (.tup (.cons (.bin .fdiv (.var 0) (.var 2)) (.cons (.bi .tupleOf (.cons (.var 5) .nil)) .nil))))
  .pass))))))
def f_simplest : Df := ⟨2, 7, b_simplest⟩
def l_in_a_row_0 : MP.St :=
  (.seq (.asg 6 (.call 5 (.cons (.var 6) (.cons (.call 6 (.cons (.var 8) (.cons (.idx (.idx (.idx (.var 1) (.int 1)) (.var 7)) (.var 5)) .nil)) []) .nil)) [(.int (1))]))
  .pass)
def l_in_a_row_1 : MP.St :=
  (.seq (.asg 6 (.tup .nil))
  (.seq (.for_ (.tup [7, 8]) (.enum (.var 3))
  l_in_a_row_0)
  (.seq (.app 4 (.var 6))
  .pass)))
def l_in_a_row_2 : MP.St :=
  (.seq (.asg 4 (.disp .nil))
  (.seq (.for_ (.one 5) (.rng1 (.bi .len (.cons (.idx (.idx (.var 1) (.int 1)) (.int 0)) .nil)))
  l_in_a_row_1)
  (.seq (.app 2 (.var 4))
  .pass)))
def b_in_a_row : MP.St :=
  (.seq (.expr (.call 38 (.cons (.var 0) .nil) []))
  (.seq (.expr (.call 38 (.cons (.var 1) .nil) []))
  (.seq (.ifs (.cmp .ne (.bi .len (.cons (.idx (.idx (.var 0) (.int 1)) (.int 0)) .nil)) (.bi .len (.cons (.idx (.var 1) (.int 1)) .nil)))
  (.seq (.raise 1)
  .pass)
  .pass)
  (.seq (.asg 2 (.disp .nil))
  (.seq (.for_ (.one 3) (.seq (.idx (.var 0) (.int 1)))
  l_in_a_row_2)
  (.seq (.ret (.call 104 (.cons (.bin .mul (.idx (.var 0) (.int 0)) (.idx (.var 1) (.int 0))) (.cons (.var 2) .nil)) []))
  .pass))))))
def f_in_a_row : Df := ⟨2, 9, b_in_a_row⟩
def e_by_lot_0 : MP.E :=
  (.bin .mul (.bin .mul (.var 2) (.idx (.var 1) (.int 0))) (.var 11))
def l_by_lot_1 : MP.St :=
  (.seq (.app 8 (.call 5 (.cons (.comp e_by_lot_0 (.one 11) (.seq (.var 9)) .no [11]) (.cons (.var 10) (.cons (.bin .mul (.var 3) (.idx (.var 0) (.int 0))) .nil))) []))
  .pass)
def l_by_lot_2 : MP.St :=
  (.seq (.asg 8 (.disp .nil))
  (.seq (.for_ (.tup [9, 10]) (.zip (.var 6) (.var 7))
  l_by_lot_1)
  (.seq (.app 5 (.var 8))
  .pass)))
def l_by_lot_3 : MP.St :=
  (.seq (.ifs (.or (.not (.call 0 (.cons (.var 4) .nil) [])) (.not (.chain .le .le (.int 1) (.var 4) (.glb (.int (100)) 0))))
  (.seq (.raise 5)
  .pass)
  .pass)
  .pass)
def b_by_lot : MP.St :=
  (.seq (.expr (.call 38 (.cons (.var 0) .nil) []))
  (.seq (.expr (.call 38 (.cons (.var 1) .nil) []))
  (.seq (.ifs (.cmp .ne (.tup (.cons (.bi .len (.cons (.idx (.var 0) (.int 1)) .nil)) (.cons (.bi .len (.cons (.idx (.idx (.var 0) (.int 1)) (.int 0)) .nil)) .nil))) (.tup (.cons (.bi .len (.cons (.idx (.var 1) (.int 1)) .nil)) (.cons (.bi .len (.cons (.idx (.idx (.var 1) (.int 1)) (.int 0)) .nil)) .nil))))
  (.seq (.raise 1)
  .pass)
  .pass)
  (.seq (.for_ (.one 4) (.seq (.tup (.cons (.var 2) (.cons (.var 3) .nil))))
  l_by_lot_3)
  (.seq (.asg 5 (.disp .nil))
  (.seq (.for_ (.tup [6, 7]) (.zip (.idx (.var 0) (.int 1)) (.idx (.var 1) (.int 1)))
  l_by_lot_2)
  (.seq (.ret (.call 104 (.cons (.bin .mul (.bin .mul (.bin .add (.var 2) (.var 3)) (.idx (.var 0) (.int 0))) (.idx (.var 1) (.int 0))) (.cons (.var 5) .nil)) []))
  .pass)))))))
def f_by_lot : Df := ⟨4, 12, b_by_lot⟩
def e_twice_0 : MP.E :=
  (.tup (.cons (.bin .add (.var 2) (.var 2)) (.cons (.var 3) .nil)))
def b_twice : MP.St :=
  (.seq (.expr (.call 50 (.cons (.var 0) (.cons (.var 1) .nil)) []))
  (.seq (.ifs (.cmp .gt (.bin .mul (.int 2) (.bi .len (.cons (.idx (.idx (.var 1) (.int 0)) (.int 0)) .nil))) (.glb (.int (4)) 0))
  (.seq (.raise 5)
  .pass)
  .pass)
  (.seq (.ret (.bi .tupleOf (.cons (.comp e_twice_0 (.tup [2, 3]) (.seq (.var 1)) .no [2, 3]) .nil)))
  .pass)))
def f_twice : Df := ⟨2, 4, b_twice⟩
def l_need_pairs_0 : MP.St :=
  (.seq (.ifs (.or (.not (.bi (.isi .tuple) (.cons (.var 2) .nil))) (.or (.cmp .ne (.bi .len (.cons (.var 2) .nil)) (.int 2)) (.not (.call 40 (.cons (.idx (.var 2) (.int 0)) (.cons (.bi .len (.cons (.idx (.var 0) (.int 1)) .nil)) .nil)) []))))
  (.seq (.raise 5)
  .pass)
  .pass)
  (.seq (.ifs (.or (.not (.call 40 (.cons (.idx (.var 2) (.int 1)) (.cons (.bi .len (.cons (.idx (.idx (.var 0) (.int 1)) (.int 0)) .nil)) .nil)) [])) (.cmp .ne (.bi .len (.cons (.idx (.var 2) (.int 0)) .nil)) (.bi .len (.cons (.idx (.var 2) (.int 1)) .nil))))
  (.seq (.raise 5)
  .pass)
  .pass)
  .pass))
def b_need_pairs : MP.St :=
  (.seq (.ifs (.or (.not (.bi (.isi .tuple) (.cons (.var 1) .nil))) (.not (.chain .le .le (.int 1) (.bi .len (.cons (.var 1) .nil)) (.glb (.int (5)) 0))))
  (.seq (.raise 5)
  .pass)
  .pass)
  (.seq (.for_ (.one 2) (.seq (.var 1))
  l_need_pairs_0)
  .pass))
def f_need_pairs : Df := ⟨2, 3, b_need_pairs⟩
def l_likely_0 : MP.St :=
  (.seq (.asg 2 (.call 6 (.cons (.var 2) (.cons (.call 44 (.cons (.var 0) (.cons (.var 3) (.cons (.var 4) .nil))) []) .nil)) []))
  .pass)
def b_likely : MP.St :=
  (.seq (.asg 2 (.tup (.cons (.int 1) .nil)))
  (.seq (.for_ (.tup [3, 4]) (.seq (.var 1))
  l_likely_0)
  (.seq (.ret (.var 2))
  .pass)))
def f_likely : Df := ⟨2, 5, b_likely⟩
def e_hills_0 : MP.E :=
  (.call 35 (.cons (.var 5) (.cons (.var 2) .nil)) [])
def c_hills_1 : MP.E :=
  (.and (.cmp .gt (.call 32 (.cons (.var 3) (.cons (.var 5) .nil)) []) (.int 0)) (.cmp .lt (.call 31 (.cons (.var 3) (.cons (.var 5) .nil)) []) (.int 0)))
def e_hills_2 : MP.E :=
  (.var 5)
def b_hills : MP.St :=
  (.seq (.expr (.call 38 (.cons (.var 0) .nil) []))
  (.seq (.expr (.call 108 (.cons (.var 0) (.cons (.var 1) .nil)) []))
  (.seq (.expr (.call 69 (.cons (.var 2) .nil) []))
  (.seq (.asg 3 (.call 12 (.cons (.call 109 (.cons (.var 0) (.cons (.var 1) .nil)) []) .nil) []))
  (.seq (.ifs (.cmp .eq (.var 3) (.tup .nil))
  (.seq (.ret .non)
  .pass)
  .pass)
  (.seq (.asg 4 (.ite (.cmp .lt (.call 31 (.cons (.var 3) (.cons (.glb (.tup [(.tup [(.int (0)), (.int (1))]), (.int (0)), (.int (0)), (.bl true)]) 0) .nil)) []) (.int 0)) (.disp (.cons (.glb (.tup [(.tup [(.int (0)), (.int (1))]), (.int (0)), (.int (0)), (.bl true)]) 0) .nil)) (.disp .nil)))
  (.seq (.ext 4 (.comp e_hills_2 (.one 5) (.seq (.call 22 (.cons (.var 3) .nil) [])) (.yes c_hills_1) [5]))
  (.seq (.ifs (.cmp .gt (.call 32 (.cons (.var 3) (.cons (.glb (.tup [(.tup [(.int (-1)), (.int (1))]), (.int (1)), (.int (0)), (.bl true)]) 0) .nil)) []) (.int 0))
  (.seq (.app 4 (.glb (.tup [(.tup [(.int (-1)), (.int (1))]), (.int (1)), (.int (0)), (.bl true)]) 0))
  .pass)
  .pass)
  (.seq (.ret (.bi .tupleOf (.cons (.comp e_hills_0 (.one 5) (.seq (.var 4)) .no [5]) .nil)))
  .pass)))))))))
def f_hills : Df := ⟨3, 6, b_hills⟩
def b__law_taken : MP.St :=
  (.seq (.ifs (.cmp .gt (.idx (.var 0) (.int 3)) (.int 0))
  (.seq (.asg 2 (.bin .mod (.bi .int (.cons (.idx (.var 0) (.int 3)) .nil)) (.var 1)))
  (.seq (.setix 0 (.int 3) (.bin .fdiv (.idx (.var 0) (.int 3)) (.var 1)))
  (.seq (.ret (.var 2))
  .pass)))
  .pass)
  (.seq (.setix 0 (.int 1) (.bin .add (.idx (.var 0) (.int 1)) (.int 1)))
  (.seq (.ifs (.cmp .gt (.idx (.var 0) (.int 1)) (.bi .len (.cons (.idx (.var 0) (.int 0)) .nil)))
  (.seq (.setix 0 (.int 2) (.bin .mod (.bi .int (.cons (.bin .add (.bin .mul (.idx (.var 0) (.int 2)) (.int 48271)) (.int 11)) .nil)) (.int 2147483647)))
  (.seq (.ret (.bin .mod (.bi .int (.cons (.bin .fdiv (.idx (.var 0) (.int 2)) (.int 7)) .nil)) (.var 1)))
  .pass))
  .pass)
  (.seq (.asg 3 (.idx (.idx (.var 0) (.int 0)) (.bin .sub (.idx (.var 0) (.int 1)) (.int 1))))
  (.seq (.setix 0 (.int 2) (.bin .mod (.bi .int (.cons (.bin .add (.bin .add (.bin .mul (.idx (.var 0) (.int 2)) (.int 48271)) (.var 3)) (.int 11)) .nil)) (.int 2147483647)))
  (.seq (.ifs (.cmp .ge (.var 3) (.bin .pow (.int 10) (.int 18)))
  (.seq (.setix 0 (.int 3) (.bin .fdiv (.var 3) (.var 1)))
  .pass)
  .pass)
  (.seq (.ret (.bin .mod (.bi .int (.cons (.var 3) .nil)) (.var 1)))
  .pass)))))))
def f__law_taken : Df := ⟨2, 4, b__law_taken⟩
def c__law_alike_0 : MP.E :=
  (.not (.call 121 (.cons (.idx (.var 0) (.var 2)) (.cons (.idx (.var 1) (.var 2)) .nil)) []))
def e__law_alike_1 : MP.E :=
  (.var 2)
def b__law_alike : MP.St :=
  (.seq (.ifs (.bi .isTL (.cons (.var 1) .nil))
  (.seq (.ifs (.or (.not (.bi .isTL (.cons (.var 0) .nil))) (.cmp .ne (.bi (.isi .list) (.cons (.var 0) .nil)) (.bi (.isi .list) (.cons (.var 1) .nil))))
  (.seq (.ret (.bl false))
  .pass)
  .pass)
  (.seq (.ifs (.cmp .ne (.bi .len (.cons (.var 0) .nil)) (.bi .len (.cons (.var 1) .nil)))
  (.seq (.ret (.bl false))
  .pass)
  .pass)
  (.seq (.ret (.cmp .eq (.comp e__law_alike_1 (.one 2) (.rng1 (.bi .len (.cons (.var 1) .nil))) (.yes c__law_alike_0) [2]) (.disp .nil)))
  .pass)))
  .pass)
  (.seq (.ifs (.or (.isN (.var 1) false) (.bi (.isi .str) (.cons (.var 1) .nil)))
  (.seq (.ret (.and (.cmp .eq (.var 0) (.var 1)) (.cmp .eq (.bi (.isi .str) (.cons (.var 0) .nil)) (.bi (.isi .str) (.cons (.var 1) .nil)))))
  .pass)
  .pass)
  (.seq (.ret (.and (.bi (.isi .int) (.cons (.var 0) .nil)) (.and (.cmp .eq (.bi (.isi .bool) (.cons (.var 0) .nil)) (.bi (.isi .bool) (.cons (.var 1) .nil))) (.cmp .eq (.var 0) (.var 1)))))
  .pass)))
def f__law_alike : Df := ⟨2, 3, b__law_alike⟩
def b__law_pick : MP.St :=
  (.seq (.ret (.idx (.var 1) (.call 120 (.io 0 (.cons (.bi .len (.cons (.var 1) .nil)) .nil)) [])))
  .pass)
def f__law_pick : Df := ⟨2, 2, b__law_pick⟩
def w__law_fr_0 : MP.E :=
  (.cmp .ne (.var 3) (.int 0))
def l__law_fr_1 : MP.St :=
  (.seq (.ptup [2, 3] (.cons (.var 3) (.cons (.bin .mod (.var 2) (.var 3)) .nil)))
  .pass)
def b__law_fr : MP.St :=
  (.seq (.ptup [2, 3] (.cons (.bi .max2 (.cons (.var 0) (.cons (.bin .sub (.int 0) (.var 0)) .nil))) (.cons (.bi .max2 (.cons (.var 1) (.cons (.bin .sub (.int 0) (.var 1)) .nil))) .nil)))
  (.seq (.while_ w__law_fr_0
  l__law_fr_1)
  (.seq (.asg 2 (.ite (.cmp .gt (.var 1) (.int 0)) (.var 2) (.bin .sub (.int 0) (.var 2))))
  (.seq (.ret (.tup (.cons (.bin .fdiv (.var 0) (.var 2)) (.cons (.bin .fdiv (.var 1) (.var 2)) .nil))))
  .pass))))
def f__law_fr : Df := ⟨2, 4, b__law_fr⟩
def b__law_plus : MP.St :=
  (.seq (.ret (.call 124 (.cons (.bin .add (.bin .mul (.idx (.var 0) (.int 0)) (.idx (.var 1) (.int 1))) (.bin .mul (.idx (.var 1) (.int 0)) (.idx (.var 0) (.int 1)))) (.cons (.bin .mul (.idx (.var 0) (.int 1)) (.idx (.var 1) (.int 1))) .nil)) []))
  .pass)
def f__law_plus : Df := ⟨2, 2, b__law_plus⟩
def b__law_times : MP.St :=
  (.seq (.ret (.call 124 (.cons (.bin .mul (.idx (.var 0) (.int 0)) (.idx (.var 1) (.int 0))) (.cons (.bin .mul (.idx (.var 0) (.int 1)) (.idx (.var 1) (.int 1))) .nil)) []))
  .pass)
def f__law_times : Df := ⟨2, 2, b__law_times⟩
def b__law_below : MP.St :=
  (.seq (.ret (.cmp .lt (.bin .mul (.idx (.var 0) (.int 0)) (.idx (.var 1) (.int 1))) (.bin .mul (.idx (.var 1) (.int 0)) (.idx (.var 0) (.int 1)))))
  .pass)
def f__law_below : Df := ⟨2, 2, b__law_below⟩
def l__law_power_0 : MP.St :=
  (.seq (.asg 2 (.bin .mul (.var 2) (.var 0)))
  .pass)
def b__law_power : MP.St :=
  (.seq (.asg 2 (.int 1))
  (.seq (.for_ (.one 3) (.rng1 (.var 1))
  l__law_power_0)
  (.seq (.ret (.var 2))
  .pass)))
def f__law_power : Df := ⟨2, 4, b__law_power⟩
def l__law_p_plus_0 : MP.St :=
  (.seq (.ifs (.and (.cmp .ne (.var 3) (.disp .nil)) (.cmp .eq (.idx (.var 3) (.neg (.int 1))) (.int 0)))
  (.seq (.asg 3 (.slc (.var 3) .no (.yes (.neg (.int 1)))))
  .pass)
  .pass)
  .pass)
def l__law_p_plus_1 : MP.St :=
  (.seq (.setix 3 (.var 4) (.bin .add (.idx (.var 3) (.var 4)) (.bin .mul (.var 2) (.idx (.var 1) (.var 4)))))
  .pass)
def b__law_p_plus : MP.St :=
  (.seq (.asg 3 (.bin .add (.bi .listOf (.cons (.var 0) .nil)) (.bin .mul (.disp (.cons (.int 0) .nil)) (.bi .max2 (.cons (.int 0) (.cons (.bin .sub (.bi .len (.cons (.var 1) .nil)) (.bi .len (.cons (.var 0) .nil))) .nil))))))
  (.seq (.for_ (.one 4) (.rng1 (.bi .len (.cons (.var 1) .nil)))
  l__law_p_plus_1)
  (.seq (.for_ (.one 5) (.seq (.bi .listOf (.cons (.var 3) .nil)))
  l__law_p_plus_0)
  (.seq (.ret (.bi .tupleOf (.cons (.var 3) .nil)))
  .pass))))
def f__law_p_plus : Df := ⟨3, 6, b__law_p_plus⟩
def l__law_p_times_0 : MP.St :=
  (.seq (.asg 2 (.call 129 (.cons (.var 2) (.cons (.bin .add (.bin .mul (.tup (.cons (.int 0) .nil)) (.var 3)) (.bi .tupleOf (.cons (.var 1) .nil))) (.cons (.idx (.var 0) (.var 3)) .nil))) []))
  .pass)
def b__law_p_times : MP.St :=
  (.seq (.asg 2 (.tup .nil))
  (.seq (.for_ (.one 3) (.rng1 (.bi .len (.cons (.var 0) .nil)))
  l__law_p_times_0)
  (.seq (.ret (.var 2))
  .pass)))
def f__law_p_times : Df := ⟨2, 4, b__law_p_times⟩
def l__law_at_0 : MP.St :=
  (.seq (.asg 2 (.call 125 (.cons (.call 126 (.cons (.var 2) (.cons (.var 1) .nil)) []) (.cons (.tup (.cons (.var 3) (.cons (.int 1) .nil))) .nil)) []))
  .pass)
def b__law_at : MP.St :=
  (.seq (.asg 2 (.tup (.cons (.int 0) (.cons (.int 1) .nil))))
  (.seq (.for_ (.one 3) (.seq (.rev (.var 0)))
  l__law_at_0)
  (.seq (.ret (.var 2))
  .pass)))
def f__law_at : Df := ⟨2, 4, b__law_at⟩
def b__law_of : MP.St :=
  (.seq (.ret (.call 126 (.cons (.call 131 (.cons (.idx (.var 0) (.int 0)) (.cons (.var 1) .nil)) []) (.cons (.tup (.cons (.int 1) (.cons (.idx (.var 0) (.int 1)) .nil))) .nil)) []))
  .pass)
def f__law_of : Df := ⟨2, 2, b__law_of⟩
def l__law_poly_0 : MP.St :=
  (.seq (.ifs (.and (.cmp .ne (.var 1) (.disp .nil)) (.cmp .eq (.idx (.var 1) (.neg (.int 1))) (.int 0)))
  (.seq (.asg 1 (.slc (.var 1) .no (.yes (.neg (.int 1)))))
  .pass)
  .pass)
  .pass)
def b__law_poly : MP.St :=
  (.seq (.asg 1 (.bi .listOf (.cons (.var 0) .nil)))
  (.seq (.for_ (.one 2) (.seq (.var 0))
  l__law_poly_0)
  (.seq (.ret (.bi .tupleOf (.cons (.var 1) .nil)))
  .pass)))
def f__law_poly : Df := ⟨1, 3, b__law_poly⟩
def e__law_line_0 : MP.E :=
  (.call 133 (.cons (.var 14) .nil) [])
def e__law_line_1 : MP.E :=
  (.tup (.cons (.idx (.var 9) (.var 13)) (.cons (.bin .sub (.bin .mul (.int 2) (.idx (.var 10) (.var 13))) (.bin .mul (.int 2) (.idx (.var 9) (.var 13)))) (.cons (.bin .add (.bin .sub (.idx (.var 9) (.var 13)) (.bin .mul (.int 2) (.idx (.var 10) (.var 13)))) (.idx (.var 11) (.var 13))) .nil))))
def e__law_line_2 : MP.E :=
  (.tup (.cons (.idx (.var 9) (.var 13)) (.cons (.bin .sub (.idx (.var 10) (.var 13)) (.idx (.var 9) (.var 13))) .nil)))
def l__law_line_3 : MP.St :=
  (.seq (.ptup [9, 10, 11] (.cons (.call 141 (.io 0 (.cons (.var 4) (.cons (.var 7) .nil))) []) (.cons (.call 141 (.io 0 (.cons (.var 4) (.cons (.var 7) .nil))) []) (.cons (.call 141 (.io 0 (.cons (.var 4) (.cons (.var 7) .nil))) []) .nil))))
  (.seq (.ifs (.cmp .eq (.var 5) (.int 2))
  (.seq (.asg 12 (.comp e__law_line_1 (.one 13) (.rng1 (.var 4)) .no [13]))
  .pass)
  (.seq (.asg 12 (.comp e__law_line_2 (.one 13) (.rng1 (.var 4)) .no [13]))
  .pass))
  (.seq (.app 6 (.bi .tupleOf (.cons (.comp e__law_line_0 (.one 14) (.seq (.var 12)) .no [14]) .nil)))
  .pass)))
def b__law_line : MP.St :=
  (.seq (.ptup [3, 4] (.cons (.bin .add (.int 2) (.call 120 (.io 0 (.cons (.bin .sub (.var 1) (.int 1)) .nil)) [])) (.cons (.bin .add (.int 2) (.call 120 (.io 0 (.cons (.bin .sub (.var 2) (.int 1)) .nil)) [])) .nil)))
  (.seq (.asg 5 (.call 120 (.io 0 (.cons (.int 4) .nil)) []))
  (.seq (.ifs (.cmp .eq (.var 5) (.int 0))
  (.seq (.ret (.tup (.cons (.int 1) (.cons (.tup (.cons (.tup (.cons (.tup (.cons (.int 1) (.cons (.neg (.int 1)) .nil))) (.cons (.tup (.cons (.int 0) (.cons (.int 1) .nil))) .nil))) (.cons (.tup (.cons (.tup (.cons (.int 0) (.cons (.int 1) .nil))) (.cons (.tup (.cons (.int 1) (.cons (.neg (.int 1)) .nil))) .nil))) .nil))) .nil))))
  .pass)
  .pass)
  (.seq (.ifs (.cmp .eq (.var 5) (.int 1))
  (.seq (.ret (.tup (.cons (.int 2) (.cons (.tup (.cons (.tup (.cons (.tup (.cons (.int 2) (.cons (.neg (.int 1)) .nil))) (.cons (.tup .nil) (.cons (.tup (.cons (.int 0) (.cons (.int 1) .nil))) .nil)))) (.cons (.tup (.cons (.tup .nil) (.cons (.tup (.cons (.int 2) (.cons (.neg (.int 1)) .nil))) (.cons (.tup (.cons (.int 0) (.cons (.int 1) .nil))) .nil)))) .nil))) .nil))))
  .pass)
  .pass)
  (.seq (.ptup [6, 7] (.cons (.disp .nil) (.cons (.call 122 (.io 0 (.cons (.disp (.cons (.int 2) (.cons (.int 3) (.cons (.int 4) .nil)))) .nil)) []) .nil)))
  (.seq (.for_ (.one 8) (.rng1 (.var 3))
  l__law_line_3)
  (.seq (.ret (.tup (.cons (.var 7) (.cons (.bi .tupleOf (.cons (.var 6) .nil)) .nil))))
  .pass)))))))
def f__law_line : Df := ⟨3, 15, b__law_line⟩
def e__law_rows_0 : MP.E :=
  (.bin .add (.var 5) (.tup (.cons (.var 6) .nil)))
def l__law_rows_1 : MP.St :=
  (.seq (.asg 4 (.bin .add (.var 4) (.comp e__law_rows_0 (.one 6) (.rng1 (.var 0)) .no [6])))
  .pass)
def l__law_rows_2 : MP.St :=
  (.seq (.asg 4 (.disp .nil))
  (.seq (.for_ (.one 5) (.seq (.var 2))
  l__law_rows_1)
  (.seq (.asg 2 (.var 4))
  .pass)))
def b__law_rows : MP.St :=
  (.seq (.asg 2 (.disp (.cons (.tup .nil) .nil)))
  (.seq (.for_ (.one 3) (.rng1 (.var 1))
  l__law_rows_2)
  (.seq (.ret (.var 2))
  .pass)))
def f__law_rows : Df := ⟨2, 7, b__law_rows⟩
def l__law_code_0 : MP.St :=
  (.seq (.app 6 (.tup (.cons (.mpopi 5 (.call 120 (.io 0 (.cons (.bi .len (.cons (.var 5) .nil)) .nil)) [])) (.cons (.bin .add (.int 1) (.call 120 (.io 0 (.cons (.int 3) .nil)) [])) .nil))))
  .pass)
def b__law_code : MP.St :=
  (.seq (.asg 4 (.bin .add (.int 1) (.call 120 (.io 0 (.cons (.var 3) .nil)) [])))
  (.seq (.asg 5 (.call 135 (.cons (.bi .len (.cons (.idx (.var 1) (.int 1)) .nil)) (.cons (.var 4) .nil)) []))
  (.seq (.asg 6 (.disp .nil))
  (.seq (.for_ (.one 7) (.rng1 (.bin .add (.int 1) (.call 120 (.io 0 (.cons (.bi .min2 (.cons (.var 2) (.cons (.bi .len (.cons (.var 5) .nil)) .nil))) .nil)) [])))
  l__law_code_0)
  (.seq (.ret (.bi .tupleOf (.cons (.var 6) .nil)))
  .pass)))))
def f__law_code : Df := ⟨4, 8, b__law_code⟩
def l__law_chance_0 : MP.St :=
  (.seq (.asg 3 (.call 130 (.cons (.var 3) (.cons (.idx (.idx (.idx (.var 0) (.int 1)) (.idx (.var 1) (.var 4))) (.idx (.var 2) (.var 4))) .nil)) []))
  .pass)
def b__law_chance : MP.St :=
  (.seq (.asg 3 (.tup (.cons (.int 1) .nil)))
  (.seq (.for_ (.one 4) (.rng1 (.bi .len (.cons (.var 1) .nil)))
  l__law_chance_0)
  (.seq (.ret (.var 3))
  .pass)))
def f__law_chance : Df := ⟨3, 5, b__law_chance⟩
def e__law_low_0 : MP.E :=
  (.var 3)
def b__law_low : MP.St :=
  (.seq (.ret (.bin .mul (.call 128 (.cons (.idx (.var 0) (.int 0)) (.cons (.bi .len (.cons (.idx (.idx (.var 1) (.int 0)) (.int 0)) .nil)) .nil)) []) (.bi .sumL (.cons (.comp e__law_low_0 (.tup [2, 3]) (.seq (.var 1)) .no [2, 3]) .nil))))
  .pass)
def f__law_low : Df := ⟨2, 4, b__law_low⟩
def l__law_best_0 : MP.St :=
  (.seq (.asg 7 (.ite (.call 127 (.cons (.var 7) (.cons (.var 8) .nil)) []) (.var 8) (.var 7)))
  .pass)
def e__law_best_1 : MP.E :=
  (.call 126 (.cons (.tup (.cons (.var 10) (.cons (.var 4) .nil))) (.cons (.call 131 (.cons (.call 137 (.cons (.var 0) (.cons (.var 9) (.cons (.var 5) .nil))) []) (.cons (.var 2) .nil)) []) .nil)) [])
def l__law_best_2 : MP.St :=
  (.seq (.asg 6 (.comp e__law_best_1 (.tup [9, 10]) (.seq (.var 1)) .no [9, 10]))
  (.seq (.asg 7 (.idx (.var 6) (.int 0)))
  (.seq (.for_ (.one 8) (.seq (.var 6))
  l__law_best_0)
  (.seq (.asg 3 (.call 125 (.cons (.var 3) (.cons (.var 7) .nil)) []))
  .pass))))
def b__law_best : MP.St :=
  (.seq (.ptup [3, 4] (.cons (.tup (.cons (.int 0) (.cons (.int 1) .nil))) (.cons (.call 138 (.cons (.var 0) (.cons (.var 1) .nil)) []) .nil)))
  (.seq (.for_ (.one 5) (.seq (.call 135 (.cons (.bi .len (.cons (.idx (.idx (.var 0) (.int 1)) (.int 0)) .nil)) (.cons (.bi .len (.cons (.idx (.idx (.var 1) (.int 0)) (.int 0)) .nil)) .nil)) []))
  l__law_best_2)
  (.seq (.ret (.var 3))
  .pass)))
def f__law_best : Df := ⟨3, 11, b__law_best⟩
def b__law_share : MP.St :=
  (.seq (.asg 2 (.bin .add (.int 1) (.call 120 (.io 0 (.cons (.var 1) .nil)) [])))
  (.seq (.ret (.call 124 (.cons (.call 120 (.io 0 (.cons (.bin .add (.var 2) (.int 1)) .nil)) []) (.cons (.var 2) .nil)) []))
  .pass))
def f__law_share : Df := ⟨2, 3, b__law_share⟩
def l__law_spread_0 : MP.St :=
  (.seq (.asg 5 (.call 120 (.io 0 (.cons (.var 1) .nil)) []))
  (.seq (.setix 3 (.var 5) (.bin .add (.idx (.var 3) (.var 5)) (.int 1)))
  .pass))
def b__law_spread : MP.St :=
  (.seq (.asg 3 (.bin .mul (.disp (.cons (.int 0) .nil)) (.var 1)))
  (.seq (.for_ (.one 4) (.rng1 (.var 2))
  l__law_spread_0)
  (.seq (.ret (.var 3))
  .pass)))
def f__law_spread : Df := ⟨3, 6, b__law_spread⟩
def w__law_whole_0 : MP.E :=
  (.cmp .ne (.var 4) (.int 0))
def l__law_whole_1 : MP.St :=
  (.seq (.ptup [3, 4] (.cons (.var 4) (.cons (.bin .mod (.var 3) (.var 4)) .nil)))
  .pass)
def l__law_whole_2 : MP.St :=
  (.seq (.ptup [3, 4] (.cons (.bi .max2 (.cons (.var 2) (.cons (.bin .sub (.int 0) (.var 2)) .nil))) (.cons (.var 1) .nil)))
  (.seq (.while_ w__law_whole_0
  l__law_whole_1)
  (.seq (.asg 1 (.var 3))
  .pass)))
def b__law_whole : MP.St :=
  (.seq (.asg 1 (.int 0))
  (.seq (.for_ (.one 2) (.seq (.var 0))
  l__law_whole_2)
  (.seq (.ret (.var 1))
  .pass)))
def f__law_whole : Df := ⟨1, 5, b__law_whole⟩
def e__law_words_0 : MP.E :=
  (.bin .mod (.bin .add (.idx (.var 3) (.var 4)) (.idx (.var 2) (.var 4))) (.int 2))
def e__law_words_1 : MP.E :=
  (.bi .tupleOf (.cons (.comp e__law_words_0 (.one 4) (.rng1 (.bi .len (.cons (.var 2) .nil))) .no [4]) .nil))
def l__law_words_2 : MP.St :=
  (.seq (.asg 1 (.bin .add (.var 1) (.comp e__law_words_1 (.one 3) (.seq (.var 1)) .no [3])))
  .pass)
def b__law_words : MP.St :=
  (.seq (.asg 1 (.disp (.cons (.bin .mul (.tup (.cons (.int 0) .nil)) (.bi .len (.cons (.idx (.var 0) (.int 0)) .nil))) .nil)))
  (.seq (.for_ (.one 2) (.seq (.var 0))
  l__law_words_2)
  (.seq (.ret (.var 1))
  .pass)))
def f__law_words : Df := ⟨1, 5, b__law_words⟩
def b__law_is : MP.St :=
  (.seq (.ret (.and (.bi (.isi .bool) (.cons (.var 0) .nil)) (.cmp .eq (.var 0) (.var 1))))
  .pass)
def f__law_is : Df := ⟨2, 2, b__law_is⟩
def e__law_lots_0 : MP.E :=
  (.bin .add (.var 5) (.tup (.cons (.var 7) .nil)))
def l__law_lots_1 : MP.St :=
  (.seq (.asg 6 (.ite (.cmp .ne (.var 5) (.tup .nil)) (.bin .add (.idx (.var 5) (.neg (.int 1))) (.int 1)) (.int 0)))
  (.seq (.asg 4 (.bin .add (.var 4) (.comp e__law_lots_0 (.one 7) (.rng2 (.var 6) (.var 0)) .no [7])))
  .pass))
def l__law_lots_2 : MP.St :=
  (.seq (.asg 4 (.disp .nil))
  (.seq (.for_ (.one 5) (.seq (.var 2))
  l__law_lots_1)
  (.seq (.asg 2 (.var 4))
  .pass)))
def b__law_lots : MP.St :=
  (.seq (.asg 2 (.disp (.cons (.tup .nil) .nil)))
  (.seq (.for_ (.one 3) (.rng1 (.var 1))
  l__law_lots_2)
  (.seq (.ret (.var 2))
  .pass)))
def f__law_lots : Df := ⟨2, 8, b__law_lots⟩
def l__law_least_0 : MP.St :=
  (.seq (.ptup [3, 4] (.cons (.idx (.var 0) (.var 2)) (.cons (.idx (.var 0) (.bin .add (.var 2) (.int 1))) .nil)))
  (.seq (.ifs (.not (.call 127 (.cons (.idx (.var 4) (.int 0)) (.cons (.var 1) .nil)) []))
  (.seq (.asg 5 (.call 126 (.cons (.call 147 (.cons (.var 1) (.cons (.idx (.var 3) (.int 0)) .nil)) []) (.cons (.call 148 (.cons (.call 147 (.cons (.idx (.var 4) (.int 0)) (.cons (.idx (.var 3) (.int 0)) .nil)) []) .nil) []) .nil)) []))
  (.seq (.ret (.call 125 (.cons (.idx (.var 3) (.int 1)) (.cons (.call 126 (.cons (.var 5) (.cons (.call 147 (.cons (.idx (.var 4) (.int 1)) (.cons (.idx (.var 3) (.int 1)) .nil)) []) .nil)) []) .nil)) []))
  .pass))
  .pass)
  .pass))
def b__law_least : MP.St :=
  (.seq (.for_ (.one 2) (.rng1 (.bin .sub (.bi .len (.cons (.var 0) .nil)) (.int 1)))
  l__law_least_0)
  (.seq (.ret (.idx (.idx (.var 0) (.neg (.int 1))) (.int 1)))
  .pass))
def f__law_least : Df := ⟨2, 6, b__law_least⟩
def b__law_less : MP.St :=
  (.seq (.ret (.call 125 (.cons (.var 0) (.cons (.tup (.cons (.bin .sub (.int 0) (.idx (.var 1) (.int 0))) (.cons (.idx (.var 1) (.int 1)) .nil))) .nil)) []))
  .pass)
def f__law_less : Df := ⟨2, 2, b__law_less⟩
def b__law_over : MP.St :=
  (.seq (.ret (.call 124 (.cons (.idx (.var 0) (.int 1)) (.cons (.idx (.var 0) (.int 0)) .nil)) []))
  .pass)
def f__law_over : Df := ⟨1, 1, b__law_over⟩
def b__law_gap : MP.St :=
  (.seq (.ptup [4, 5] (.cons (.call 139 (.cons (.var 0) (.cons (.var 1) (.cons (.var 3) .nil))) []) (.cons (.call 139 (.cons (.var 0) (.cons (.var 2) (.cons (.var 3) .nil))) []) .nil)))
  (.seq (.ret (.ite (.call 127 (.cons (.var 4) (.cons (.var 5) .nil)) []) (.neg (.int 1)) (.ite (.call 127 (.cons (.var 5) (.cons (.var 4) .nil)) []) (.int 1) (.int 0))))
  .pass))
def f__law_gap : Df := ⟨4, 6, b__law_gap⟩
def ut0 : List (Option Df) := [some f_is_int, some f_divisor_of, some f_fraction, some f_is_fraction, some f_cut, some f_plus, some f_times, some f_power, some f_plain, some f_lowered]
def ut1 : List (Option Df) := [some f_shared, some f_parted, some f_derived, some f_single, some f_height, some f_sign, some f_sign_at, some f_doubled, some f_moved, some f_halved]
def ut2 : List (Option Df) := [some f_on_stretch, some f_changes, some f_roots, some f_within, some f_low_end, some f_high_end, some f_narrower, some f_is_below, some f_side, some f_compare]
def ut3 : List (Option Df) := [some f_sign_at_root, some f_sign_behind, some f_sign_ahead, some f_in_order, some f_between, some f_figures, some f_is_chance, some f_is_poly, some f_need_line, some f_need_share]
def ut4 : List (Option Df) := [some f_is_word, some f_need_code, some f_count_rows, some f_heard_rows, some f_chance_of, some f_low_of, some f_lowest, some f_chance, some f_weighed, some f_need_reader]
def ut5 : List (Option Df) := [some f_need_both, some f_right_of, some f_right, some f_at_share, none, some f_reader_by, none, none, some f_best_reader, some f_best_right]
def ut6 : List (Option Df) := [some f_joined, none, some f_by_roots, some f_roots_known, some f_next_root, none, some f_rows, some f_walked_rows, some f_need_end, some f_need_bits]
def ut7 : List (Option Df) := [some f_end_figures, some f_end_side, some f_curve, some f_total, some f_less, some f_corners, some f_walk_of, some f_gap_of, some f_held, some f_turns_of]
def ut8 : List (Option Df) := [some f_need_two, some f_turns, some f_signs, some f_turn_figures, some f_lots, some f_need_lots, none, some f_best_lots, none, none]
def ut9 : List (Option Df) := [some f_need_sums, some f_added, some f_stepped, some f_words_of, some f_counted, some f_weights, some f_turned, some f_other_side, some f_other_weights, some f_unseen_of]
def ut10 : List (Option Df) := [some f_unseen, some f_unseen_by_other_side, some f_never_above, some f_is_ahead, some f_simplest, some f_in_a_row, some f_by_lot, some f_twice, some f_need_pairs, some f_likely]
def ut11 : List (Option Df) := [some f_hills, none, none, none, none, none, none, none, none, none]
def ut12 : List (Option Df) := [some f__law_taken, some f__law_alike, some f__law_pick, none, some f__law_fr, some f__law_plus, some f__law_times, some f__law_below, some f__law_power, some f__law_p_plus]
def ut13 : List (Option Df) := [some f__law_p_times, some f__law_at, some f__law_of, some f__law_poly, some f__law_line, some f__law_rows, some f__law_code, some f__law_chance, some f__law_low, some f__law_best]
def ut14 : List (Option Df) := [some f__law_share, some f__law_spread, some f__law_whole, some f__law_words, some f__law_is, some f__law_lots, some f__law_least, some f__law_less, some f__law_over, some f__law_gap]
def utb (i : Nat) : Option Df := match (match i / 10 with | 0 => ut0 | 1 => ut1 | 2 => ut2 | 3 => ut3 | 4 => ut4 | 5 => ut5 | 6 => ut6 | 7 => ut7 | 8 => ut8 | 9 => ut9 | 10 => ut10 | 11 => ut11 | 12 => ut12 | 13 => ut13 | 14 => ut14 | _ => [])[i % 10]? with
  | some x => x
  | none => none
def tbL (l : Tbl) : Tbl := fun i => if 150 ≤ i then l i else utb i
theorem t_is_int {l : Tbl} : tbL l 0 = some f_is_int := rfl
theorem t_divisor_of {l : Tbl} : tbL l 1 = some f_divisor_of := rfl
theorem t_fraction {l : Tbl} : tbL l 2 = some f_fraction := rfl
theorem t_is_fraction {l : Tbl} : tbL l 3 = some f_is_fraction := rfl
theorem t_cut {l : Tbl} : tbL l 4 = some f_cut := rfl
theorem t_plus {l : Tbl} : tbL l 5 = some f_plus := rfl
theorem t_times {l : Tbl} : tbL l 6 = some f_times := rfl
theorem t_power {l : Tbl} : tbL l 7 = some f_power := rfl
theorem t_plain {l : Tbl} : tbL l 8 = some f_plain := rfl
theorem t_lowered {l : Tbl} : tbL l 9 = some f_lowered := rfl
theorem t_shared {l : Tbl} : tbL l 10 = some f_shared := rfl
theorem t_parted {l : Tbl} : tbL l 11 = some f_parted := rfl
theorem t_derived {l : Tbl} : tbL l 12 = some f_derived := rfl
theorem t_single {l : Tbl} : tbL l 13 = some f_single := rfl
theorem t_height {l : Tbl} : tbL l 14 = some f_height := rfl
theorem t_sign {l : Tbl} : tbL l 15 = some f_sign := rfl
theorem t_sign_at {l : Tbl} : tbL l 16 = some f_sign_at := rfl
theorem t_doubled {l : Tbl} : tbL l 17 = some f_doubled := rfl
theorem t_moved {l : Tbl} : tbL l 18 = some f_moved := rfl
theorem t_halved {l : Tbl} : tbL l 19 = some f_halved := rfl
theorem t_on_stretch {l : Tbl} : tbL l 20 = some f_on_stretch := rfl
theorem t_changes {l : Tbl} : tbL l 21 = some f_changes := rfl
theorem t_roots {l : Tbl} : tbL l 22 = some f_roots := rfl
theorem t_within {l : Tbl} : tbL l 23 = some f_within := rfl
theorem t_low_end {l : Tbl} : tbL l 24 = some f_low_end := rfl
theorem t_high_end {l : Tbl} : tbL l 25 = some f_high_end := rfl
theorem t_narrower {l : Tbl} : tbL l 26 = some f_narrower := rfl
theorem t_is_below {l : Tbl} : tbL l 27 = some f_is_below := rfl
theorem t_side {l : Tbl} : tbL l 28 = some f_side := rfl
theorem t_compare {l : Tbl} : tbL l 29 = some f_compare := rfl
theorem t_sign_at_root {l : Tbl} : tbL l 30 = some f_sign_at_root := rfl
theorem t_sign_behind {l : Tbl} : tbL l 31 = some f_sign_behind := rfl
theorem t_sign_ahead {l : Tbl} : tbL l 32 = some f_sign_ahead := rfl
theorem t_in_order {l : Tbl} : tbL l 33 = some f_in_order := rfl
theorem t_between {l : Tbl} : tbL l 34 = some f_between := rfl
theorem t_figures {l : Tbl} : tbL l 35 = some f_figures := rfl
theorem t_is_chance {l : Tbl} : tbL l 36 = some f_is_chance := rfl
theorem t_is_poly {l : Tbl} : tbL l 37 = some f_is_poly := rfl
theorem t_need_line {l : Tbl} : tbL l 38 = some f_need_line := rfl
theorem t_need_share {l : Tbl} : tbL l 39 = some f_need_share := rfl
theorem t_is_word {l : Tbl} : tbL l 40 = some f_is_word := rfl
theorem t_need_code {l : Tbl} : tbL l 41 = some f_need_code := rfl
theorem t_count_rows {l : Tbl} : tbL l 42 = some f_count_rows := rfl
theorem t_heard_rows {l : Tbl} : tbL l 43 = some f_heard_rows := rfl
theorem t_chance_of {l : Tbl} : tbL l 44 = some f_chance_of := rfl
theorem t_low_of {l : Tbl} : tbL l 45 = some f_low_of := rfl
theorem t_lowest {l : Tbl} : tbL l 46 = some f_lowest := rfl
theorem t_chance {l : Tbl} : tbL l 47 = some f_chance := rfl
theorem t_weighed {l : Tbl} : tbL l 48 = some f_weighed := rfl
theorem t_need_reader {l : Tbl} : tbL l 49 = some f_need_reader := rfl
theorem t_need_both {l : Tbl} : tbL l 50 = some f_need_both := rfl
theorem t_right_of {l : Tbl} : tbL l 51 = some f_right_of := rfl
theorem t_right {l : Tbl} : tbL l 52 = some f_right := rfl
theorem t_at_share {l : Tbl} : tbL l 53 = some f_at_share := rfl
theorem t_reader_by {l : Tbl} : tbL l 55 = some f_reader_by := rfl
theorem t_best_reader {l : Tbl} : tbL l 58 = some f_best_reader := rfl
theorem t_best_right {l : Tbl} : tbL l 59 = some f_best_right := rfl
theorem t_joined {l : Tbl} : tbL l 60 = some f_joined := rfl
theorem t_by_roots {l : Tbl} : tbL l 62 = some f_by_roots := rfl
theorem t_roots_known {l : Tbl} : tbL l 63 = some f_roots_known := rfl
theorem t_next_root {l : Tbl} : tbL l 64 = some f_next_root := rfl
theorem t_rows {l : Tbl} : tbL l 66 = some f_rows := rfl
theorem t_walked_rows {l : Tbl} : tbL l 67 = some f_walked_rows := rfl
theorem t_need_end {l : Tbl} : tbL l 68 = some f_need_end := rfl
theorem t_need_bits {l : Tbl} : tbL l 69 = some f_need_bits := rfl
theorem t_end_figures {l : Tbl} : tbL l 70 = some f_end_figures := rfl
theorem t_end_side {l : Tbl} : tbL l 71 = some f_end_side := rfl
theorem t_curve {l : Tbl} : tbL l 72 = some f_curve := rfl
theorem t_total {l : Tbl} : tbL l 73 = some f_total := rfl
theorem t_less {l : Tbl} : tbL l 74 = some f_less := rfl
theorem t_corners {l : Tbl} : tbL l 75 = some f_corners := rfl
theorem t_walk_of {l : Tbl} : tbL l 76 = some f_walk_of := rfl
theorem t_gap_of {l : Tbl} : tbL l 77 = some f_gap_of := rfl
theorem t_held {l : Tbl} : tbL l 78 = some f_held := rfl
theorem t_turns_of {l : Tbl} : tbL l 79 = some f_turns_of := rfl
theorem t_need_two {l : Tbl} : tbL l 80 = some f_need_two := rfl
theorem t_turns {l : Tbl} : tbL l 81 = some f_turns := rfl
theorem t_signs {l : Tbl} : tbL l 82 = some f_signs := rfl
theorem t_turn_figures {l : Tbl} : tbL l 83 = some f_turn_figures := rfl
theorem t_lots {l : Tbl} : tbL l 84 = some f_lots := rfl
theorem t_need_lots {l : Tbl} : tbL l 85 = some f_need_lots := rfl
theorem t_best_lots {l : Tbl} : tbL l 87 = some f_best_lots := rfl
theorem t_need_sums {l : Tbl} : tbL l 90 = some f_need_sums := rfl
theorem t_added {l : Tbl} : tbL l 91 = some f_added := rfl
theorem t_stepped {l : Tbl} : tbL l 92 = some f_stepped := rfl
theorem t_words_of {l : Tbl} : tbL l 93 = some f_words_of := rfl
theorem t_counted {l : Tbl} : tbL l 94 = some f_counted := rfl
theorem t_weights {l : Tbl} : tbL l 95 = some f_weights := rfl
theorem t_turned {l : Tbl} : tbL l 96 = some f_turned := rfl
theorem t_other_side {l : Tbl} : tbL l 97 = some f_other_side := rfl
theorem t_other_weights {l : Tbl} : tbL l 98 = some f_other_weights := rfl
theorem t_unseen_of {l : Tbl} : tbL l 99 = some f_unseen_of := rfl
theorem t_unseen {l : Tbl} : tbL l 100 = some f_unseen := rfl
theorem t_unseen_by_other_side {l : Tbl} : tbL l 101 = some f_unseen_by_other_side := rfl
theorem t_never_above {l : Tbl} : tbL l 102 = some f_never_above := rfl
theorem t_is_ahead {l : Tbl} : tbL l 103 = some f_is_ahead := rfl
theorem t_simplest {l : Tbl} : tbL l 104 = some f_simplest := rfl
theorem t_in_a_row {l : Tbl} : tbL l 105 = some f_in_a_row := rfl
theorem t_by_lot {l : Tbl} : tbL l 106 = some f_by_lot := rfl
theorem t_twice {l : Tbl} : tbL l 107 = some f_twice := rfl
theorem t_need_pairs {l : Tbl} : tbL l 108 = some f_need_pairs := rfl
theorem t_likely {l : Tbl} : tbL l 109 = some f_likely := rfl
theorem t_hills {l : Tbl} : tbL l 110 = some f_hills := rfl
theorem t__law_taken {l : Tbl} : tbL l 120 = some f__law_taken := rfl
theorem t__law_alike {l : Tbl} : tbL l 121 = some f__law_alike := rfl
theorem t__law_pick {l : Tbl} : tbL l 122 = some f__law_pick := rfl
theorem t__law_fr {l : Tbl} : tbL l 124 = some f__law_fr := rfl
theorem t__law_plus {l : Tbl} : tbL l 125 = some f__law_plus := rfl
theorem t__law_times {l : Tbl} : tbL l 126 = some f__law_times := rfl
theorem t__law_below {l : Tbl} : tbL l 127 = some f__law_below := rfl
theorem t__law_power {l : Tbl} : tbL l 128 = some f__law_power := rfl
theorem t__law_p_plus {l : Tbl} : tbL l 129 = some f__law_p_plus := rfl
theorem t__law_p_times {l : Tbl} : tbL l 130 = some f__law_p_times := rfl
theorem t__law_at {l : Tbl} : tbL l 131 = some f__law_at := rfl
theorem t__law_of {l : Tbl} : tbL l 132 = some f__law_of := rfl
theorem t__law_poly {l : Tbl} : tbL l 133 = some f__law_poly := rfl
theorem t__law_line {l : Tbl} : tbL l 134 = some f__law_line := rfl
theorem t__law_rows {l : Tbl} : tbL l 135 = some f__law_rows := rfl
theorem t__law_code {l : Tbl} : tbL l 136 = some f__law_code := rfl
theorem t__law_chance {l : Tbl} : tbL l 137 = some f__law_chance := rfl
theorem t__law_low {l : Tbl} : tbL l 138 = some f__law_low := rfl
theorem t__law_best {l : Tbl} : tbL l 139 = some f__law_best := rfl
theorem t__law_share {l : Tbl} : tbL l 140 = some f__law_share := rfl
theorem t__law_spread {l : Tbl} : tbL l 141 = some f__law_spread := rfl
theorem t__law_whole {l : Tbl} : tbL l 142 = some f__law_whole := rfl
theorem t__law_words {l : Tbl} : tbL l 143 = some f__law_words := rfl
theorem t__law_is {l : Tbl} : tbL l 144 = some f__law_is := rfl
theorem t__law_lots {l : Tbl} : tbL l 145 = some f__law_lots := rfl
theorem t__law_least {l : Tbl} : tbL l 146 = some f__law_least := rfl
theorem t__law_less {l : Tbl} : tbL l 147 = some f__law_less := rfl
theorem t__law_over {l : Tbl} : tbL l 148 = some f__law_over := rfl
theorem t__law_gap {l : Tbl} : tbL l 149 = some f__law_gap := rfl
end MP
set_option linter.all false
set_option Elab.async false
set_option maxRecDepth 100000
set_option maxHeartbeats 1000000
/-! I0: laws of the interpreter: loops, comprehensions, calls. -/
namespace MP
open PySem

theorem seqF_nx {a b : Fs} {r r1 : Ro} (h : a r = .nx r1) : seqF a b r = b r1 := by unfold seqF; rw [h]
theorem gOk_none {r : Ro} : gOk none r = true := rfl
/-- a loop as a fold over abstract states -/
theorem forL_fold {α β : Type} {tg : Tg} {g : Option (Nat × List Dv)} {body : Fs} (enc : β → Dv) (st : α → Ro) (f : α → β → α) (I : α → Prop) : ∀ (ys : List β) (a : α), I a →
    (∀ a b, I a → b ∈ ys → ∃ r1, asgT tg (enc b) (st a) = some r1 ∧ body r1 = .nx (st (f a b)) ∧ gOk g (st (f a b)) = true ∧ I (f a b)) →
    forL tg g body (ys.map enc) (st a) = .nx (st (ys.foldl f a)) ∧ I (ys.foldl f a)
  | [], a, hI, _ => ⟨rfl, hI⟩
  | b :: ys, a, hI, h => by
    obtain ⟨r1, h1, h2, h3, h4⟩ := h a b hI List.mem_cons_self
    obtain ⟨k1, k2⟩ := forL_fold enc st f I ys (f a b) h4 fun a' b' hI' hb' => h a' b' hI' (List.mem_cons_of_mem _ hb')
    refine ⟨?_, k2⟩
    show forL tg g body (enc b :: ys.map enc) (st a) = _
    simp only [forL, h1, h2, h3, if_true]
    exact k1
/-- the same, a result handed on by existence -/
theorem forL_ex {β : Type} {tg : Tg} {g : Option (Nat × List Dv)} {body : Fs} (enc : β → Dv) (J : List β → Ro → Prop) : ∀ (ys pre : List β) (r : Ro), J pre r →
    (∀ pre b r, J pre r → b ∈ ys → ∃ r1 r2, asgT tg (enc b) r = some r1 ∧ body r1 = .nx r2 ∧ gOk g r2 = true ∧ J (pre ++ [b]) r2) →
    ∃ r', forL tg g body (ys.map enc) r = .nx r' ∧ J (pre ++ ys) r'
  | [], pre, r, hJ, _ => ⟨r, rfl, by simpa using hJ⟩
  | b :: ys, pre, r, hJ, h => by
    obtain ⟨r1, r2, h1, h2, h3, h4⟩ := h pre b r hJ List.mem_cons_self
    obtain ⟨r', k1, k2⟩ := forL_ex enc J ys (pre ++ [b]) r2 h4 fun p' b' r' hJ' hb' => h p' b' r' hJ' (List.mem_cons_of_mem _ hb')
    refine ⟨r', ?_, by simpa using k2⟩
    show forL tg g body (enc b :: ys.map enc) r = _
    simp only [forL, h1, h2, h3, if_true]
    exact k1
/-- a loop by what holds behind the items taken -/
theorem forL_at {β : Type} {tg : Tg} {g : Option (Nat × List Dv)} {body : Fs} (enc : β → Dv) (J : List β → Ro → Prop) (all : List β) (h : ∀ pre b post r, all = pre ++ b :: post → J pre r → ∃ r1 r2, asgT tg (enc b) r = some r1 ∧ body r1 = .nx r2 ∧ gOk g r2 = true ∧ J (pre ++ [b]) r2) :
    ∀ (ys pre : List β) (r : Ro), all = pre ++ ys → J pre r → ∃ r', forL tg g body (ys.map enc) r = .nx r' ∧ J all r'
  | [], pre, r, e, hJ => ⟨r, rfl, by rw [e]; simpa using hJ⟩
  | b :: ys, pre, r, e, hJ => by
    obtain ⟨r1, r2, h1, h2, h3, h4⟩ := h pre b ys r e hJ
    obtain ⟨r', k1, k2⟩ := forL_at enc J all h ys (pre ++ [b]) r2 (by rw [e]; simp) h4
    refine ⟨r', ?_, k2⟩
    show forL tg g body (enc b :: ys.map enc) r = _
    simp only [forL, h1, h2, h3, if_true]
    exact k1
theorem wipe_set {k : Nat} {r : Ro} {s s' : Sl} : (r.set k s).set k s' = r.set k s' := by rw [List.set_set]
/-- a comprehension whose parts change nothing: one own name, or a tuple of them -/
theorem compL_map {β : Type} {tg : Tg} {own : List Nat} {g : Option (Nat × List Dv)} {cond : Ro → Re Bool} {elt : Fe} (enc : β → Dv) (p : β → Bool) (f : β → Dv) (w : Ro) (hg : gOk g w = true) : ∀ (ys : List β) (r : Ro), wipe own r = w →
    (∀ b, b ∈ ys → ∃ r1, asgT tg (enc b) w = some r1 ∧ cond r1 = .ok (p b) r1 ∧ wipe own r1 = w ∧ (p b = true → elt r1 = .ok (.d (f b)) r1)) →
    ∃ r', compL tg own g cond elt (ys.map enc) r = .ok ((ys.filter p).map f) r' ∧ wipe own r' = w
  | [], r, hw, _ => ⟨r, by simp only [List.map_nil, compL, hw, hg, if_true]; rfl, hw⟩
  | b :: ys, r, hw, h => by
    obtain ⟨r1, h1, h2, h3, h4⟩ := h b List.mem_cons_self
    obtain ⟨r', k1, k2⟩ := compL_map enc p f w hg ys r1 h3 fun b' hb' => h b' (List.mem_cons_of_mem _ hb')
    refine ⟨r', ?_, k2⟩
    show compL tg own g cond elt (enc b :: ys.map enc) r = _
    simp only [compL, hw, hg, if_true, h1, h2]
    cases hp : p b with
    | true =>
      rw [List.filter_cons_of_pos hp]
      simp only [h4 hp, mat, k1, List.map_cons]
    | false =>
      rw [List.filter_cons_of_neg (by rw [hp]; exact Bool.false_ne_true)]
      exact k1
theorem restore_wipe {r0 : Ro} : ∀ {own : List Nat} {a b : Ro}, own.Nodup → wipe own a = wipe own b → restore r0 own a = restore r0 own b
  | [], a, b, _, h => h
  | i :: own, a, b, nd, h => by
    obtain ⟨n1, n2⟩ := List.nodup_cons.mp nd
    simp only [restore]
    simp only [wipe] at h
    -- off i both agree behind the rest's wiping
    have key : ∀ j, j ≠ i → (wipe own a)[j]? = (wipe own b)[j]? := fun j hj => by
      have := congrArg (fun l : List Sl => l[j]?) h
      simpa [List.getElem?_set_ne (Ne.symm hj)] using this
    have hl : a.length = b.length := by
      have := congrArg List.length h
      have e : ∀ (o : List Nat) (x : Ro), (wipe o x).length = x.length := by
        intro o; induction o with
        | nil => intro x; rfl
        | cons k o ih => intro x; simp only [wipe, List.length_set, ih]
      simpa [e] using this
    apply List.ext_getElem?
    intro j
    have lr : ∀ (o : List Nat) (x : Ro), (restore r0 o x).length = x.length := by
      intro o; induction o with
      | nil => intro x; rfl
      | cons k o ih => intro x; simp only [restore, List.length_set, ih]
    by_cases hj : j = i
    · subst hj
      by_cases hlt : j < a.length
      · rw [List.getElem?_set_self (by rw [lr]; exact hlt), List.getElem?_set_self (by rw [lr, ← hl]; exact hlt)]
      · rw [List.getElem?_eq_none (by rw [List.length_set, lr]; omega), List.getElem?_eq_none (by rw [List.length_set, lr]; omega)]
    · rw [List.getElem?_set_ne (Ne.symm hj), List.getElem?_set_ne (Ne.symm hj)]
      -- the rest: by its slots
      have gen : ∀ (o : List Nat) (x y : Ro), x.length = y.length → (wipe o x)[j]? = (wipe o y)[j]? → (restore r0 o x)[j]? = (restore r0 o y)[j]? := by
        intro o
        induction o with
        | nil => intro x y _ h; exact h
        | cons k o ih =>
          intro x y hxy h
          simp only [restore]
          simp only [wipe] at h
          by_cases hk : j = k
          · subst hk
            by_cases hlt : j < x.length
            · rw [List.getElem?_set_self (by rw [lr]; exact hlt), List.getElem?_set_self (by rw [lr, ← hxy]; exact hlt)]
            · rw [List.getElem?_eq_none (by rw [List.length_set, lr]; omega), List.getElem?_eq_none (by rw [List.length_set, lr]; omega)]
          · rw [List.getElem?_set_ne (Ne.symm hk), List.getElem?_set_ne (Ne.symm hk)] at h ⊢
            exact ih x y hxy h
      exact gen own a b hl (key j hj)
/-- slots that hold nothing or data come back as they were -/
def plainAt (r : Ro) : List Nat → Bool
  | [] => true
  | i :: is => (match r[i]? with
    | some (.own _) => false
    | some (.ownd _) => false
    | _ => true) && plainAt r is
theorem keepV_plain {r : Ro} {i : Nat} (h : (match r[i]? with
    | some (.own _) => false
    | some (.ownd _) => false
    | _ => true) = true) : r.set i (keepV r i) = r := by
  unfold keepV
  apply List.ext_getElem?
  intro j
  by_cases hj : j = i
  · subst hj
    by_cases hlt : j < r.length
    · rw [List.getElem?_set_self hlt]
      rw [List.getElem?_eq_getElem hlt] at h ⊢
      cases e : r[j] with
      | none => rfl
      | val x => rfl
      | own xs => rw [e] at h; cases h
      | ownd xs => rw [e] at h; cases h
    · rw [List.getElem?_eq_none (by rw [List.length_set]; omega), List.getElem?_eq_none (by omega)]
  · rw [List.getElem?_set_ne (Ne.symm hj)]
theorem restore_plain {r : Ro} : ∀ {own : List Nat}, plainAt r own = true → restore r own r = r
  | [], _ => rfl
  | i :: own, h => by
    simp only [plainAt, Bool.and_eq_true] at h
    simp only [restore]
    rw [restore_plain h.2]
    exact keepV_plain h.1
theorem comp_map {β : Type} {fe : Fe} {tg : Tg} {fi : Ro → Re Src} {c : Option (Ro → Re Bool)} {own : List Nat} {r : Ro} {g : Option (Nat × List Dv)} (enc : β → Dv) (p : β → Bool) (f : β → Dv) (ys : List β)
    (hi : fi r = .ok ⟨ys.map enc, g⟩ r) (hl : ys.length ≤ line) (hg : gOk g (wipe own r) = true) (hn : own.Nodup) (hp : plainAt r own = true)
    (h : ∀ b, b ∈ ys → ∃ r1, asgT tg (enc b) (wipe own r) = some r1 ∧ condF c r1 = .ok (p b) r1 ∧ wipe own r1 = wipe own r ∧ (p b = true → fe r1 = .ok (.d (f b)) r1)) :
    compF fe tg fi c own r = .ok (.fr ((ys.filter p).map f)) r := by
  obtain ⟨r', k1, k2⟩ := compL_map (tg := tg) (own := own) (g := g) (cond := condF c) (elt := fe) enc p f (wipe own r) hg ys r rfl h
  unfold compF
  rw [hi]
  simp only [List.length_map, if_pos hl, k1]
  rw [restore_wipe hn k2, restore_plain hp]
theorem comp_all {β : Type} {fe : Fe} {tg : Tg} {fi : Ro → Re Src} {own : List Nat} {r : Ro} {g : Option (Nat × List Dv)} (enc : β → Dv) (f : β → Dv) (ys : List β)
    (hi : fi r = .ok ⟨ys.map enc, g⟩ r) (hl : ys.length ≤ line) (hg : gOk g (wipe own r) = true) (hn : own.Nodup) (hp : plainAt r own = true)
    (h : ∀ b, b ∈ ys → ∃ r1, asgT tg (enc b) (wipe own r) = some r1 ∧ wipe own r1 = wipe own r ∧ fe r1 = .ok (.d (f b)) r1) :
    compF fe tg fi none own r = .ok (.fr (ys.map f)) r := by
  have := comp_map (fe := fe) (tg := tg) (c := none) enc (fun _ => true) f ys hi hl hg hn hp fun b hb => by
    obtain ⟨r1, h1, h2, h3⟩ := h b hb
    exact ⟨r1, h1, rfl, h2, fun _ => h3⟩
  rwa [List.filter_eq_self.mpr (fun _ _ => rfl)] at this
theorem enumD_map {k : Int} : ∀ {xs : List Dv}, enumD k xs = (xs.zipIdx 0).map fun p => .tup [.int (k + p.2), p.1] := by
  intro xs
  suffices ∀ (m : Nat), enumD (k + m) xs = (xs.zipIdx m).map fun p => Dv.tup [.int (k + p.2), p.1] by
    have := this 0; simpa using this
  induction xs with
  | nil => intro m; rfl
  | cons x xs ih =>
    intro m
    simp only [enumD, List.zipIdx_cons, List.map_cons]
    have := ih (m + 1)
    have e : k + (m : Int) + 1 = k + ((m + 1 : Nat) : Int) := by omega
    rw [e, this]
theorem rngUp_eq {lo : Int} : ∀ {n : Nat}, rngUp lo n = (List.range n).map fun (i : Nat) => .int (lo + i) := by
  intro n
  induction n generalizing lo with
  | zero => rfl
  | succ n ih =>
    rw [rngUp, ih, List.range_succ_eq_map, List.map_cons, List.map_map]
    congr 1
    · simp
    · apply List.map_congr_left
      intro i _
      simp only [Function.comp]
      congr 1
      omega
theorem zipD_map {α β : Type} {f : α → Dv} {g : β → Dv} : ∀ {xs : List α} {ys : List β}, zipD (xs.map f) (ys.map g) = (xs.zip ys).map fun p => .tup [f p.1, g p.2]
  | [], _ => by cases ‹List β› <;> rfl
  | _ :: _, [] => rfl
  | x :: xs, y :: ys => by
    simp only [List.map_cons, zipD, List.zip_cons_cons, zipD_map]
/-- calls -/
theorem callN_eq {tb : Tbl} {W : WhileF} {n f : Nat} {as : List Sl} {df : Df} (h : tb f = some df) (hl : as.length = df.args) (hs : (lentPos 0 as).all (fun i => !((sets df.body).any fun j => Nat.beq i j)) = true) :
    callN tb W (n + 1) f as = finish (lentPos 0 as) (exec (callN tb W n) W df.body (as ++ List.replicate (df.slots - df.args) .none)) := by
  simp only [callN, h, hl, decide_true, Bool.true_and, hs, if_true]
theorem whileB_true {c : Ro → Re Bool} {b : Ro → RS} {r r1 r2 : Ro} {k : Nat} (h1 : c r = .ok true r1) (h2 : b r1 = .nx r2) : whileB (k + 1) c b r = whileB k c b r2 := by simp only [whileB, h1, h2]
theorem whileB_false {c : Ro → Re Bool} {b : Ro → RS} {r r1 : Ro} {k : Nat} (h1 : c r = .ok false r1) : whileB (k + 1) c b r = .nx r1 := by simp only [whileB, h1]
theorem whileB_ret {c : Ro → Re Bool} {b : Ro → RS} {r r1 r2 : Ro} {t : T} {k : Nat} (h1 : c r = .ok true r1) (h2 : b r1 = .ret t r2) : whileB (k + 1) c b r = .ret t r2 := by simp only [whileB, h1, h2]
/-- a while of at least a million turns -/
def WBig (W : WhileF) : Prop := ∀ k c b r, k ≤ 1000000 → whileB k c b r ≠ .bad → W c b r = whileB k c b r
theorem whileB_more : ∀ (k : Nat) {j : Nat} {c : Ro → Re Bool} {b : Ro → RS} {r : Ro}, k ≤ j → whileB k c b r ≠ .bad → whileB j c b r = whileB k c b r
  | 0, j, c, b, r, _, h => absurd rfl h
  | k + 1, 0, c, b, r, hk, h => by omega
  | k + 1, j + 1, c, b, r, hk, h => by
    simp only [whileB] at h ⊢
    cases e : c r with
    | ok t r1 =>
      simp only [e] at h ⊢
      cases t with
      | true =>
        simp only at h ⊢
        cases e2 : b r1 with
        | nx r2 => simp only [e2] at h ⊢; exact whileB_more k (by omega) h
        | _ => simp only [e2]
      | false => simp only
    | _ => simp only [e]
theorem wbig_of {n : Nat} (h : 1000000 ≤ n) : WBig (whileB n) := fun k c b r hk hn => whileB_more k (by omega) hn
end MP
set_option linter.all false
set_option Elab.async false
set_option maxRecDepth 100000
set_option maxHeartbeats 1000000
/-! I1: the interpreter, step by step on known slots. -/
namespace MP
open PySem
/-- not unfolded by itself -/
def Rb {α β : Type} (x : Re α) (f : α → Ro → Re β) : Re β := Re.bind x f
def Sb {α : Type} (x : Re α) (f : α → Ro → RS) : RS := Re.andS x f
def tupK (xs : List Dv) (r : Ro) : Re T := if xs.length ≤ line then .ok (.d (.tup xs)) r else .bad
def dispK (xs : List Dv) (r : Ro) : Re T := if xs.length ≤ line then .ok (.fr xs) r else .bad
def tK (o : Option T) (r : Ro) : Re T := match o with
  | some t => .ok t r
  | none => .bad
def bK (o : Option Bool) (r : Ro) : Re T := match o with
  | some k => .ok (.d (.bl k)) r
  | none => .bad
def varK (o : Option Sl) (i : Nat) (r : Ro) : Re T := match o with
  | some (.val x) => .ok (.d x) r
  | some (.own _) => .ok (.rf i) r
  | _ => .bad
def binV (op : Bop) (a b : Option Dv) : Option T := match a, b with
  | some (.int i), some (.int j) => (binI op i j).map fun k => .d (.int k)
  | some (.bl i), some (.bl j) => match op with
    | .sub => some (.d (.int ((if i then 1 else 0) - (if j then 1 else 0))))
    | _ => none
  | some (.tup x), some (.tup y) => match op with
    | .add => if x.length + y.length ≤ line then some (.d (.tup (x ++ y))) else none
    | _ => none
  | some (.lv x), some (.lv y) => match op with
    | .add => if x.length + y.length ≤ line then some (.fr (x ++ y)) else none
    | _ => none
  | some (.tup x), some (.int j) => match op with
    | .mul => if -1000000 ≤ j ∧ j ≤ 1000 ∧ x.length ≤ 1000 then some (.d (.tup (rep x j.toNat))) else none
    | _ => none
  | some (.lv x), some (.int j) => match op with
    | .mul => if -1000000 ≤ j ∧ j ≤ 1000000 ∧ x.length * j.toNat ≤ line then some (.fr (rep x j.toNat)) else none
    | _ => none
  | _, _ => none
def cmpV (op : Cop) (a b : Option Dv) : Option Bool := match a, b with
  | some (.int i), some (.int j) => cmpI op i j
  | some x, some y => match toPy x, toPy y with
    | some p, some q => cmpP op p q
    | _, _ => none
  | _, _ => none
def vwK : Option Sl → Option Dv
  | some (.own xs) => some (.lv xs)
  | _ => none
def sqK : Option Sl → Option (List Dv)
  | some (.own xs) => some xs
  | _ => none
def subK (xs : Option (List Dv)) (y : T) (r : Ro) : Re T := match y with
  | .d (.int i) => match xs with
    | some xs => match getI xs i with
      | some v => .ok (.d v) r
      | none => .bad
    | none => .bad
  | _ => .bad
def andK (x : Re T) (f : Ro → Re T) : Re T := ofB (Re.bind (asB x) fun k r1 => if k then asB (f r1) else .ok false r1)
def orK (x : Re T) (f : Ro → Re T) : Re T := ofB (Re.bind (asB x) fun k r1 => if k then .ok true r1 else asB (f r1))
def notK (x : Re T) : Re T := ofB (Re.bind (asB x) fun k r1 => .ok (!k) r1)
def chkB (x : Re T) : Re T := ofB (asB x)
def iteK (x : Re T) (f g : Ro → Re T) : Re T := Re.bind (asB x) fun k r1 => if k then f r1 else g r1
def negK (x : T) (r : Ro) : Re T := match x with
  | .d (.int i) => .ok (.d (.int (-i))) r
  | _ => .bad
def someO (x : T) (r : Ro) : Re (Option Int) := match x with
  | .d (.int i) => .ok (some i) r
  | _ => .bad
def sliV (x : Option Dv) (l h : Option Int) : Option T := match x with
  | some (.tup xs) => some (.d (.tup (cut xs l h)))
  | some (.lv xs) => some (.fr (cut xs l h))
  | _ => none
/-- a value kept, then -/
def matK {α : Type} (o : Option (Dv × Ro)) (f : Dv → Ro → Re α) : Re α := match o with
  | some (x, r) => f x r
  | none => .bad
def matS (o : Option (Dv × Ro)) (f : Dv → Ro → RS) : RS := match o with
  | some (x, r) => f x r
  | none => .bad
def frzK (o : Option Sl) (i : Nat) (r : Ro) : Option (Dv × Ro) := match o with
  | some (.own xs) => some (.lv xs, r.set i (.val (.lv xs)))
  | _ => none
def holdK (o : Option (Sl × Ro)) (f : Sl → Ro → Re (List Sl)) : Re (List Sl) := match o with
  | some (x, r) => f x r
  | none => .bad
def ioK (o : Option Sl) (x : Re (List Ar)) : Re (List Ar) := match o with
  | some (.own _) => x
  | some (.ownd _) => x
  | _ => .bad
def lendK (o : Option Sl) (x : Option (List Sl)) : Option (List Sl) := match o with
  | some (.own xs) => x.map (.own xs :: ·)
  | some (.ownd kvs) => x.map (.ownd kvs :: ·)
  | _ => none
def callK (F : CallF) (f : Nat) (ds : List Dv) (as : List Ar) (r : Ro) (o : Option (List Sl)) : Re T := match o with
  | some ss => if nodupN (lentIx as) then callT (F f (ss ++ ds.map .val)) as r else .bad
  | none => .bad
def retK (o : Option Ro) (t : T) : Re T := match o with
  | some r => .ok t r
  | none => .bad
def excK (o : Option Ro) (c : Nat) : Re T := match o with
  | some r => .exc c r
  | none => .bad
def popK (o : Option Sl) (i : Nat) (r : Ro) : Re T := match o with
  | some (.own xs) => match xs.getLast? with
    | some x => .ok (.d x) (r.set i (.own xs.dropLast))
    | none => .bad
  | _ => .bad
def ixK (k : Bool) (o : Option Nat) (r : Ro) : Re T := match o with
  | some j => .ok (.d (.int j)) r
  | none => .bad
/-! statements -/
def seqK (x : RS) (f : Ro → RS) : RS := match x with
  | .nx r => f r
  | o => o
def ifK (x : Re T) (f g : Ro → RS) : RS := Re.andS (asB x) fun k r1 => if k then f r1 else g r1
def nxK (o : Option Ro) : RS := match o with
  | some r => .nx r
  | none => .bad
def forK (S : List Nat) (tg : Tg) (b : Fs) (src : Src) (r : Ro) : RS := if gFree (tgs tg ++ S) src.guard then forL tg src.guard b src.items r else .bad
def srcK (o : Option Src) (r : Ro) : Re Src := match o with
  | some s => .ok s r
  | none => .bad
def srcR (o : Option Sl) (i : Nat) : Option Src := match o with
  | some (.own xs) => some ⟨xs, some (i, xs)⟩
  | _ => none
def augK (o : Option Sl) (i : Nat) (op : Bop) (x : Re T) : RS := match o with
  | some (.val (.int a)) => Re.andS x fun t r1 => match t with
    | .d (.int b) => match binI op a b with
      | some k => .nx (r1.set i (.val (.int k)))
      | none => .bad
    | _ => .bad
  | _ => .bad
def appK (o : Option Sl) (i : Nat) (x : Dv) (r : Ro) : RS := match o with
  | some (.own xs) => if xs.length < line then .nx (r.set i (.own (xs ++ [x]))) else .bad
  | _ => .bad
def stK (o : Option Sl) (i : Nat) (j : Option Nat) (x : Dv) (r : Ro) : RS := match o with
  | some (.own xs) => match j with
    | some j => .nx (r.set i (.own (xs.set j x)))
    | none => .bad
  | _ => .bad
def isOwn (o : Option Sl) : Bool := match o with
  | some (.own _) => true
  | _ => false
def ownL (o : Option Sl) : List Dv := match o with
  | some (.own xs) => xs
  | _ => []

section
variable {F : CallF} {W : WhileF} {s : Sl} {r r1 : Ro} {e a b c : E} {es : Es} {x y t u : T} {i j k n : Nat}
theorem q_rb {α β : Type} {z : α} {f : α → Ro → Re β} : Rb (.ok z r) f = f z r := rfl
theorem q_rbx {α β : Type} {f : α → Ro → Re β} : Rb (.exc i r) f = .exc i r := rfl
theorem q_sb {α : Type} {z : α} {f : α → Ro → RS} : Sb (.ok z r) f = f z r := rfl
theorem q_sbx {α : Type} {f : α → Ro → RS} : Sb (.exc i r) f = .exc i r := rfl
/-! expressions -/
theorem q_non : ev F .non r = .ok (.d .non) r := rfl
theorem q_bl {z : Bool} : ev F (.bl z) r = .ok (.d (.bl z)) r := rfl
theorem q_int {z : Int} : ev F (.int z) r = .ok (.d (.int z)) r := rfl
theorem q_str {z : Str} : ev F (.str z) r = .ok (.d (.str z)) r := rfl
theorem q_glb {z : Dv} : ev F (.glb z k) r = .ok (.d z) r := rfl
theorem q_var : ev F (.var i) (s :: r) = varK (s :: r)[i]? i (s :: r) := rfl
theorem q_varV {z : Dv} : varK (some (.val z)) i r = .ok (.d z) r := rfl
theorem q_varO {z : List Dv} : varK (some (.own z)) i r = .ok (.rf i) r := rfl
theorem q_tup : ev F (.tup es) (s :: r) = Rb (evs F es (s :: r)) tupK := by
  show tupF (evs F es) (s :: r) = _
  unfold tupF Rb Re.bind tupK
  cases evs F es (s :: r) <;> rfl
theorem q_disp : ev F (.disp es) (s :: r) = Rb (evs F es (s :: r)) dispK := by
  show dispF (evs F es) (s :: r) = _
  unfold dispF Rb Re.bind dispK
  cases evs F es (s :: r) <;> rfl
theorem q_tupK {xs : List Dv} (h : xs.length ≤ 16777216) : tupK xs r = .ok (.d (.tup xs)) r := if_pos h
theorem q_dispK {xs : List Dv} (h : xs.length ≤ 16777216) : dispK xs r = .ok (.fr xs) r := if_pos h
theorem q_bin {op : Bop} : ev F (.bin op a b) (s :: r) = Rb (ev F a (s :: r)) fun x r1 => Rb (ev F b r1) fun y r2 => tK (binV op (viewT r2 x) (viewT r2 y)) r2 := rfl
theorem q_neg : ev F (.neg a) (s :: r) = Rb (ev F a (s :: r)) negK := rfl
theorem q_negK {z : Int} : negK (.d (.int z)) r = .ok (.d (.int (-z))) r := rfl
theorem q_cmp {op : Cop} : ev F (.cmp op a b) (s :: r) = Rb (ev F a (s :: r)) fun x r1 => Rb (ev F b r1) fun y r2 => bK (cmpV op (viewT r2 x) (viewT r2 y)) r2 := rfl
def chK (o : Option Bool) (r : Ro) (f : Ro → Re T) : Re T := match o with
  | some true => f r
  | some false => .ok (.d (.bl false)) r
  | none => .bad
theorem q_chain {op op' : Cop} : ev F (.chain op op' a b c) (s :: r) = Rb (ev F a (s :: r)) fun x r1 => Rb (ev F b r1) fun y r2 => chK (cmpV op (viewT r2 x) (viewT r2 y)) r2 fun r2 => Rb (ev F c r2) fun z r3 => bK (cmpV op' (viewT r3 y) (viewT r3 z)) r3 := rfl
theorem q_chK {z : Bool} {f : Ro → Re T} : chK (some z) r f = if z = true then f r else .ok (.d (.bl false)) r := by cases z <;> rfl
theorem q_vd {z : Dv} : viewT r (.d z) = some z := rfl
theorem q_vfr {z : List Dv} : viewT r (.fr z) = some (.lv z) := rfl
theorem q_vrf : viewT (s :: r) (.rf i) = vwK (s :: r)[i]? := rfl
theorem q_vwK {z : List Dv} : vwK (some (.own z)) = some (.lv z) := rfl
theorem q_tK : tK (some t) r = .ok t r := rfl
theorem q_bK {z : Bool} : bK (some z) r = .ok (.d (.bl z)) r := rfl
/-! arithmetic -/
section
variable {i j : Int} {xs ys : List Dv}
theorem q_add : binV .add (some (.int i)) (some (.int j)) = some (.d (.int (i + j))) := rfl
theorem q_sub : binV .sub (some (.int i)) (some (.int j)) = some (.d (.int (i - j))) := rfl
theorem q_mul (h : okMul i j = true) : binV .mul (some (.int i)) (some (.int j)) = some (.d (.int (i * j))) := by show ((if okMul i j = true then some (i * j) else none).map _) = _; rw [if_pos h]; rfl
theorem q_fdiv (h : okDiv j = true) : binV .fdiv (some (.int i)) (some (.int j)) = some (.d (.int (i.fdiv j))) := by show ((if okDiv j = true then some (i.fdiv j) else none).map _) = _; rw [if_pos h]; rfl
theorem q_mod (h : j ≠ 0) : binV .mod (some (.int i)) (some (.int j)) = some (.d (.int (i.fmod j))) := by show ((if j ≠ 0 then some (i.fmod j) else none).map _) = _; rw [if_pos h]; rfl
theorem q_pow18 : binV .pow (some (.int 10)) (some (.int 18)) = some (.d (.int 1000000000000000000)) := by
  have h : binI .pow 10 18 = some 1000000000000000000 := by
    simp only [binI]
    rw [if_pos (by decide)]
    rfl
  simp only [binV, h, Option.map_some]
theorem q_tadd (h : xs.length + ys.length ≤ 16777216) : binV .add (some (.tup xs)) (some (.tup ys)) = some (.d (.tup (xs ++ ys))) := if_pos h
theorem q_ladd (h : xs.length + ys.length ≤ 16777216) : binV .add (some (.lv xs)) (some (.lv ys)) = some (.fr (xs ++ ys)) := if_pos h
theorem q_tmul (h : -1000000 ≤ j ∧ j ≤ 1000 ∧ xs.length ≤ 1000) : binV .mul (some (.tup xs)) (some (.int j)) = some (.d (.tup (rep xs j.toNat))) := if_pos h
theorem q_lmul (h : -1000000 ≤ j ∧ j ≤ 1000000 ∧ xs.length * j.toNat ≤ 16777216) : binV .mul (some (.lv xs)) (some (.int j)) = some (.fr (rep xs j.toNat)) := if_pos h
theorem q_eq : cmpV .eq (some (.int i)) (some (.int j)) = some (decide (i = j)) := rfl
theorem q_ne : cmpV .ne (some (.int i)) (some (.int j)) = some (!decide (i = j)) := rfl
theorem q_lt : cmpV .lt (some (.int i)) (some (.int j)) = some (decide (i < j)) := rfl
theorem q_le : cmpV .le (some (.int i)) (some (.int j)) = some (decide (i ≤ j)) := rfl
theorem q_gt : cmpV .gt (some (.int i)) (some (.int j)) = some (decide (j < i)) := rfl
theorem q_ge : cmpV .ge (some (.int i)) (some (.int j)) = some (decide (j ≤ i)) := rfl
end
/-! tests -/
theorem q_and : ev F (.and a b) (s :: r) = andK (ev F a (s :: r)) (fun r1 => ev F b r1) := rfl
theorem q_or : ev F (.or a b) (s :: r) = orK (ev F a (s :: r)) (fun r1 => ev F b r1) := rfl
theorem q_not : ev F (.not a) (s :: r) = notK (ev F a (s :: r)) := rfl
theorem q_ite : ev F (.ite c a b) (s :: r) = iteK (ev F c (s :: r)) (fun r1 => ev F a r1) (fun r1 => ev F b r1) := rfl
theorem q_andK {z : Bool} {f : Ro → Re T} : andK (.ok (.d (.bl z)) r) f = if z = true then chkB (f r) else .ok (.d (.bl false)) r := by cases z <;> rfl
theorem q_orK {z : Bool} {f : Ro → Re T} : orK (.ok (.d (.bl z)) r) f = if z = true then .ok (.d (.bl true)) r else chkB (f r) := by cases z <;> rfl
theorem q_notK {z : Bool} : notK (.ok (.d (.bl z)) r) = .ok (.d (.bl (!z))) r := rfl
theorem q_chkB {z : Bool} : chkB (.ok (.d (.bl z)) r) = .ok (.d (.bl z)) r := rfl
theorem q_iteK {z : Bool} {f g : Ro → Re T} : iteK (.ok (.d (.bl z)) r) f g = if z = true then f r else g r := rfl
theorem q_asB {z : Bool} : asB (.ok (.d (.bl z)) r) = .ok z r := rfl
/-! items -/
theorem q_idx : ev F (.idx a b) (s :: r) = Rb (ev F a (s :: r)) fun x r1 => Rb (ev F b r1) fun y r2 => subK (seqT r2 x) y r2 := by
  show subF (ev F a) (ev F b) (s :: r) = _
  unfold subF Rb subK
  cases ev F a (s :: r) with
  | ok x r1 =>
    simp only [Re.bind]
    all_goals (cases ev F b r1 with
      | ok y r2 => cases y <;> rfl
      | _ => rfl)
  | _ => rfl
theorem q_sqT {xs : List Dv} : seqT r (.d (.tup xs)) = some xs := rfl
theorem q_sqL {xs : List Dv} : seqT r (.d (.lv xs)) = some xs := rfl
theorem q_sqF {xs : List Dv} : seqT r (.fr xs) = some xs := rfl
theorem q_sqS {ns : List Int} : seqT r (.d (.scr ns)) = some (ns.map .int) := rfl
theorem q_sqR : seqT (s :: r) (.rf i) = sqK (s :: r)[i]? := rfl
theorem q_sqK {xs : List Dv} : sqK (some (.own xs)) = some xs := rfl
def giK (o : Option Dv) (r : Ro) : Re T := match o with
  | some v => .ok (.d v) r
  | none => .bad
theorem q_subK {xs : List Dv} {z : Int} : subK (some xs) (.d (.int z)) r = giK (getI xs z) r := by dsimp only [subK, giK]
theorem q_giK {v : Dv} : giK (some v) r = .ok (.d v) r := rfl
theorem getI_nat {xs : List Dv} {m : Nat} (h : m < xs.length) : getI xs (m : Int) = xs[m]? := by
  unfold getI ixN L2.ixN
  rw [if_pos (by omega), if_pos (by omega)]
  simp
theorem getI_ofNat {xs : List Dv} {z : Int} {m : Nat} (e : z = (m : Int)) (h : m < xs.length) : getI xs z = xs[m]? := by subst e; exact getI_nat h
theorem q_g0 {x : Dv} {xs : List Dv} : getI (x :: xs) 0 = some x := by rw [show (0 : Int) = ((0 : Nat) : Int) from rfl, getI_nat (by simp)]; simp
theorem q_g1 {x y : Dv} {xs : List Dv} : getI (x :: y :: xs) 1 = some y := by rw [show (1 : Int) = ((1 : Nat) : Int) from rfl, getI_nat (by simp)]; simp
theorem q_g2 {x y z : Dv} {xs : List Dv} : getI (x :: y :: z :: xs) 2 = some z := by rw [show (2 : Int) = ((2 : Nat) : Int) from rfl, getI_nat (by simp)]; simp
theorem q_g3 {x y z w : Dv} {xs : List Dv} : getI (x :: y :: z :: w :: xs) 3 = some w := by rw [show (3 : Int) = ((3 : Nat) : Int) from rfl, getI_nat (by simp)]; simp
theorem q_gm1 {xs : List Dv} {x : Dv} : getI (xs ++ [x]) (-1) = some x := by
  unfold getI ixN L2.ixN
  rw [if_neg (by omega), if_pos (by simp only [List.length_append, List.length_cons, List.length_nil]; omega)]
  have e : (-1 + ((xs ++ [x]).length : Int)).toNat = xs.length := by simp only [List.length_append, List.length_cons, List.length_nil]; omega
  simp only [Option.bind_some, e]
  simp
/-! slices -/
theorem q_slc {lo hi : Opt} : ev F (.slc a lo hi) (s :: r) = Rb (ev F a (s :: r)) fun x r1 => Rb (evo F lo r1) fun l r2 => Rb (evo F hi r2) fun u r3 => tK (sliV (viewT r3 x) l u) r3 := rfl
theorem q_ono : evo F .no r = .ok none r := rfl
theorem q_oyes : evo F (.yes e) (s :: r) = Rb (ev F e (s :: r)) someO := rfl
theorem q_someO {z : Int} : someO (.d (.int z)) r = .ok (some z) r := rfl
theorem q_sliT {xs : List Dv} {l h : Option Int} : sliV (some (.tup xs)) l h = some (.d (.tup (cut xs l h))) := rfl
theorem q_sliL {xs : List Dv} {l h : Option Int} : sliV (some (.lv xs)) l h = some (.fr (cut xs l h)) := rfl
/-! displays, arguments -/
theorem q_sn : evs F .nil r = .ok [] r := rfl
theorem q_sc : evs F (.cons e es) (s :: r) = Rb (ev F e (s :: r)) fun t r1 => matK (mat r1 t) fun x r2 => Rb (evs F es r2) fun xs r3 => .ok (x :: xs) r3 := rfl
theorem q_mk {α : Type} {z : Dv} {f : Dv → Ro → Re α} : matK (some (z, r)) f = f z r := rfl
theorem q_md {z : Dv} : mat r (.d z) = some (z, r) := rfl
theorem q_mf {z : List Dv} : mat r (.fr z) = some (.lv z, r) := rfl
theorem q_mr : mat (s :: r) (.rf i) = frzK (s :: r)[i]? i (s :: r) := rfl
theorem q_frzK {z : List Dv} : frzK (some (.own z)) i r = some (.lv z, r.set i (.val (.lv z))) := rfl
theorem q_tn : evt F .nil r = .ok [] r := rfl
theorem q_tc : evt F (.cons e es) (s :: r) = Rb (ev F e (s :: r)) fun t r1 => Rb (evt F es r1) fun ts r2 => .ok (t :: ts) r2 := rfl
theorem q_an : eva F .nil r = .ok [] r := rfl
theorem q_ac : eva F (.cons e es) (s :: r) = Rb (ev F e (s :: r)) fun t r1 => matK (mat r1 t) fun x r2 => Rb (eva F es r2) fun xs r3 => .ok (.v x :: xs) r3 := rfl
theorem q_aio : eva F (.io i es) (s :: r) = ioK (s :: r)[i]? (Rb (eva F es (s :: r)) fun xs r3 => .ok (.io i :: xs) r3) := rfl
theorem q_ioK {z : List Dv} {x : Re (List Ar)} : ioK (some (.own z)) x = x := rfl
theorem q_hn : evh F .nil r = .ok [] r := rfl
theorem q_hc : evh F (.cons e es) (s :: r) = Rb (ev F e (s :: r)) fun t r1 => holdK (holdT r1 t) fun x r2 => Rb (evh F es r2) fun ss r3 => .ok (x :: ss) r3 := rfl
theorem q_hk {z : Sl} {f : Sl → Ro → Re (List Sl)} : holdK (some (z, r)) f = f z r := rfl
theorem q_hf {z : List Dv} : holdT r (.fr z) = some (.own z, r) := rfl
theorem q_hd {z : Dv} : holdT r (.d z) = some (.val z, r) := rfl
/-! calls -/
theorem q_call {f : Nat} {ds : List Dv} : ev F (.call f es ds) (s :: r) = Rb (eva F es (s :: r)) fun as r1 => callK F f ds as r1 (lend r1 as) := by
  show callF F f ds (eva F es) (s :: r) = _
  unfold callF Rb callK
  cases eva F es (s :: r) with
  | ok as r1 => simp only [Re.bind]; all_goals (cases lend r1 as <;> rfl)
  | _ => rfl
theorem q_ln : lend r [] = some [] := rfl
theorem q_lv {z : Dv} {as : List Ar} : lend r (.v z :: as) = (lend r as).map (.val z :: ·) := rfl
theorem q_lio {as : List Ar} : lend (s :: r) (.io i :: as) = lendK (s :: r)[i]? (lend (s :: r) as) := by
  simp only [lend]
  cases (s :: r)[i]? with
  | none => rfl
  | some z => cases z <;> rfl
theorem q_lendK {z : List Dv} {x : Option (List Sl)} : lendK (some (.own z)) x = x.map (.own z :: ·) := rfl
theorem q_callK0 {f : Nat} {ds : List Dv} {as : List Ar} {ss : List Sl} : callK F f ds as r (some ss) = if nodupN (lentIx as) = true then callT (F f (ss ++ ds.map .val)) as r else .bad := rfl
theorem q_ix0 : lentIx [] = [] := rfl
theorem q_ixv {z : Dv} {as : List Ar} : lentIx (.v z :: as) = lentIx as := rfl
theorem q_ixi {as : List Ar} : lentIx (.io i :: as) = i :: lentIx as := rfl
theorem q_nd0 : nodupN [] = true := rfl
theorem q_nd1 : nodupN [i] = true := rfl
theorem q_ok {z : Dv} {outs : List Sl} {as : List Ar} : callT (.ok (.d z) outs) as r = retK (unlend (lentIx as) outs r) (.d z) := by simp only [callT]; cases unlend (lentIx as) outs r <;> rfl
theorem q_okF {z : List Dv} {outs : List Sl} {as : List Ar} : callT (.ok (.fr z) outs) as r = retK (unlend (lentIx as) outs r) (.fr z) := by simp only [callT]; cases unlend (lentIx as) outs r <;> rfl
theorem q_okX {outs : List Sl} {as : List Ar} : callT (.exc i outs) as r = excK (unlend (lentIx as) outs r) i := by simp only [callT]; cases unlend (lentIx as) outs r <;> rfl
theorem q_un0 : unlend [] [] r = some r := rfl
theorem q_un1 {is : List Nat} {z : List Dv} {ss : List Sl} : unlend (i :: is) (.own z :: ss) r = unlend is ss (r.set i (.own z)) := rfl
theorem q_retK : retK (some r) t = .ok t r := rfl
theorem q_excK : excK (some r) i = .exc i r := rfl
/-! built-ins -/
theorem q_bi {z : Bi} : ev F (.bi z es) (s :: r) = Rb (evt F es (s :: r)) fun ts r1 => tK (biT r1 z ts) r1 := by
  show biF z (evt F es) (s :: r) = _
  unfold biF Rb tK
  cases evt F es (s :: r) with
  | ok ts r1 => simp only [Re.bind]; all_goals (cases biT r1 z ts <;> rfl)
  | _ => rfl
theorem q_len : biT r .len [t] = (seqT r t).map fun xs => .d (.int xs.length) := rfl
theorem q_abs {z : Int} : biT r .abs [.d (.int z)] = some (.d (.int (if z < 0 then -z else z))) := rfl
theorem q_bint {z : Int} : biT r .int [.d (.int z)] = some (.d (.int z)) := rfl
theorem q_max2 {z w : Int} : biT r .max2 [.d (.int z), .d (.int w)] = some (.d (.int (if w > z then w else z))) := rfl
theorem q_min2 {z w : Int} : biT r .min2 [.d (.int z), .d (.int w)] = some (.d (.int (if w < z then w else z))) := rfl
theorem q_tupleOf : biT r .tupleOf [t] = (seqT r t).map fun xs => .d (.tup xs) := rfl
theorem q_listOf : biT r .listOf [t] = (seqT r t).map fun xs => .fr xs := rfl
theorem q_isi {k : TyK} {z : Dv} : biT r (.isi k) [.d z] = (isTy k z).map fun b => .d (.bl b) := rfl
theorem q_isiF {k : TyK} {z : List Dv} : biT r (.isi k) [.fr z] = (isTy k (.lv z)).map fun b => .d (.bl b) := rfl
def allK (o : Option (List Dv)) : Option T := match o with
  | some xs => match allB xs with
    | some k => some (.d (.bl k))
    | none => none
  | none => none
theorem q_all : biT r .allL [t] = allK (lstT r t) := by
  show (match lstT r t with
    | some xs => (allB xs).map fun k => T.d (.bl k)
    | none => none) = _
  unfold allK
  cases lstT r t with
  | none => rfl
  | some xs => dsimp only; cases allB xs <;> rfl
theorem q_lsL {xs : List Dv} : lstT r (.d (.lv xs)) = some xs := rfl
theorem q_lsF {xs : List Dv} : lstT r (.fr xs) = some xs := rfl
theorem q_lsR : lstT (s :: r) (.rf i) = sqK (s :: r)[i]? := rfl
theorem allB_bl {α : Type} {f : α → Bool} : ∀ xs : List α, allB (xs.map fun x => .bl (f x)) = some (xs.all f)
  | [] => rfl
  | x :: xs => by simp only [List.map_cons, allB, allB_bl xs, List.all_cons, Option.map_some]
theorem q_allK {α : Type} {f : α → Bool} {xs : List α} : allK (some (xs.map fun x => .bl (f x))) = some (.d (.bl (xs.all f))) := by simp only [allK, allB_bl]
def sumK (o : Option (List Dv)) : Option T := match o with
  | some xs => match sumI xs with
    | some k => some (.d (.int k))
    | none => none
  | none => none
theorem q_sum : biT r .sumL [t] = sumK (seqT r t) := by
  show (match seqT r t with
    | some xs => (sumI xs).map fun k => T.d (.int k)
    | none => none) = _
  unfold sumK
  cases seqT r t with
  | none => rfl
  | some xs => dsimp only; cases sumI xs <;> rfl
theorem sumI_int : ∀ xs : List Int, sumI (xs.map .int) = some xs.sum
  | [] => rfl
  | x :: xs => by simp only [List.map_cons, sumI, sumI_int xs, List.sum_cons, Option.map_some]
theorem q_sumK {xs : List Int} : sumK (some (xs.map .int)) = some (.d (.int xs.sum)) := by simp only [sumK, sumI_int]
theorem q_pop : ev F (.mpop i) (s :: r) = popK (s :: r)[i]? i (s :: r) := by
  show popF i (s :: r) = _
  unfold popF popK
  cases (s :: r)[i]? with
  | none => rfl
  | some z => cases z <;> rfl
theorem q_popK {xs : List Dv} {z : Dv} : popK (some (.own (xs ++ [z]))) i r = .ok (.d z) (r.set i (.own xs)) := by
  unfold popK
  simp only [List.getLast?_concat, List.dropLast_concat]
theorem q_comp {it : It} {tg : Tg} {o : Opt} {own : List Nat} : ev F (.comp e tg it o own) (s :: r) = compF (ev F e) tg (evi F it) (evc F o) own (s :: r) := rfl
/-! sources -/
theorem q_iseq : evi F (.seq e) (s :: r) = Rb (ev F e (s :: r)) fun t r1 => srcK (srcT r1 t) r1 := by
  show seqI (ev F e) (s :: r) = _
  unfold seqI Rb srcK
  cases ev F e (s :: r) with
  | ok t r1 => simp only [Re.bind]; all_goals (cases srcT r1 t <;> rfl)
  | _ => rfl
theorem q_srcK {z : Src} : srcK (some z) r = .ok z r := rfl
theorem q_srcL {xs : List Dv} : srcT r (.d (.lv xs)) = some ⟨xs, none⟩ := rfl
theorem q_srcT {xs : List Dv} : srcT r (.d (.tup xs)) = some ⟨xs, none⟩ := rfl
theorem q_srcS {ns : List Int} : srcT r (.d (.scr ns)) = some ⟨ns.map .int, none⟩ := rfl
theorem q_srcF {xs : List Dv} : srcT r (.fr xs) = some ⟨xs, none⟩ := rfl
theorem q_srcR : srcT (s :: r) (.rf i) = srcR (s :: r)[i]? i := rfl
theorem q_srcR' {xs : List Dv} : srcR (some (.own xs)) i = some ⟨xs, some (i, xs)⟩ := rfl
def rgK (x : T) (r : Ro) : Re Src := match x with
  | .d (.int n) => if inR n then .ok ⟨rngUp 0 n.toNat, none⟩ r else .bad
  | _ => .bad
theorem q_rng1 : evi F (.rng1 e) (s :: r) = Rb (ev F e (s :: r)) rgK := by
  show rng1I (ev F e) (s :: r) = _
  unfold rng1I Rb rgK
  cases ev F e (s :: r) with
  | ok t r1 => simp only [Re.bind]; all_goals (cases t <;> rfl)
  | _ => rfl
theorem q_rgK {z : Int} (h : inR z = true) : rgK (.d (.int z)) r = .ok ⟨rngUp 0 z.toNat, none⟩ r := if_pos h
def rg2K (x y : T) (r : Ro) : Re Src := match x, y with
  | .d (.int m), .d (.int n) => if inR m && inR n then .ok ⟨rngUp m (n - m).toNat, none⟩ r else .bad
  | _, _ => .bad
def isI : T → Bool
  | .d (.int _) => true
  | _ => false
theorem q_rng2 {z : Int} (h : ev F a (s :: r) = .ok (.d (.int z)) r1) : evi F (.rng2 a b) (s :: r) = Rb (ev F b r1) fun u r2 => rg2K (.d (.int z)) u r2 := by
  show rng2I (ev F a) (ev F b) (s :: r) = _
  unfold rng2I Rb rg2K
  rw [h]
  simp only [Re.bind]
  cases ev F b r1 with
  | ok u r2 => simp only; cases u <;> first | rfl | (rename_i d; cases d <;> rfl)
  | _ => rfl
theorem q_rg2K {z w : Int} (h : (inR z && inR w) = true) : rg2K (.d (.int z)) (.d (.int w)) r = .ok ⟨rngUp z (w - z).toNat, none⟩ r := if_pos h
def enK (o : Option Src) (r : Ro) : Re Src := match o with
  | some z => .ok ⟨enumD 0 z.items, z.guard⟩ r
  | none => .bad
theorem q_enum : evi F (.enum e) (s :: r) = Rb (ev F e (s :: r)) fun t r1 => enK (srcT r1 t) r1 := by
  show enumI (ev F e) (s :: r) = _
  unfold enumI Rb enK
  cases ev F e (s :: r) with
  | ok t r1 => simp only [Re.bind]; all_goals (cases srcT r1 t <;> rfl)
  | _ => rfl
theorem q_enK {z : Src} : enK (some z) r = .ok ⟨enumD 0 z.items, z.guard⟩ r := rfl
def zK (o : Option (List Dv)) (r : Ro) : Re Src := match o with
  | some zs => .ok ⟨zs, none⟩ r
  | none => .bad
theorem q_zip : evi F (.zip a b) (s :: r) = Rb (ev F a (s :: r)) fun t r1 => matK (mat r1 t) fun x r2 => Rb (ev F b r2) fun u r3 => matK (mat r3 u) fun y r4 => zK (zipT x y) r4 := by
  show zipI (ev F a) (ev F b) (s :: r) = _
  unfold zipI Rb zK
  cases ev F a (s :: r) with
  | ok t r1 =>
    simp only [Re.bind]
    cases mat r1 t with
    | none => rfl
    | some p =>
      obtain ⟨x, r2⟩ := p
      simp only [matK]
      all_goals (cases ev F b r2 with
        | ok u r3 =>
          simp only
          all_goals (cases mat r3 u with
            | none => rfl
            | some q => obtain ⟨y, r4⟩ := q; simp only; all_goals (cases zipT x y <;> rfl))
        | _ => rfl)
  | _ => rfl
theorem q_zT {xs ys : List Dv} : zipT (.tup xs) (.tup ys) = some (zipD xs ys) := rfl
theorem q_zL {xs ys : List Dv} : zipT (.lv xs) (.lv ys) = some (zipD xs ys) := rfl
theorem q_zK {zs : List Dv} : zK (some zs) r = .ok ⟨zs, none⟩ r := rfl
theorem q_cno : evc F .no = none := rfl
theorem q_cyes : evc F (.yes e) = some fun r => asB (ev F e r) := rfl
theorem q_cond0 : condF none r = .ok true r := rfl
theorem q_cond1 {g : Ro → Re Bool} : condF (some g) r = g r := rfl
/-! statements -/
variable {A B : MP.St}
theorem q_seq : exec F W (.seq A B) (s :: r) = seqK (exec F W A (s :: r)) (fun r1 => exec F W B r1) := by
  show seqF (exec F W A) (exec F W B) (s :: r) = _
  unfold seqF seqK
  cases exec F W A (s :: r) <;> rfl
theorem q_seqK {f : Ro → RS} : seqK (.nx r) f = f r := rfl
theorem q_seqR {f : Ro → RS} : seqK (.ret t r) f = .ret t r := rfl
theorem q_seqX {f : Ro → RS} : seqK (.exc i r) f = .exc i r := rfl
theorem q_pass : exec F W .pass r = .nx r := rfl
theorem q_asg : exec F W (.asg i e) (s :: r) = Sb (ev F e (s :: r)) (asgS i) := rfl
theorem q_asgD {z : Dv} : asgS i (.d z) r = .nx (r.set i (.val z)) := rfl
theorem q_asgF {z : List Dv} : asgS i (.fr z) r = .nx (r.set i (.own z)) := rfl
theorem q_asgR : asgS i (.rf j) (s :: r) = matS (frzK (s :: r)[j]? j (s :: r)) fun x r2 => .nx (r2.set i (.val x)) := by
  show (match mat (s :: r) (.rf j) with
    | some (x, r2) => RS.nx (r2.set i (.val x))
    | none => .bad) = _
  rw [q_mr]
  unfold matS
  cases frzK (s :: r)[j]? j (s :: r) <;> rfl
theorem q_ms {z : Dv} {f : Dv → Ro → RS} : matS (some (z, r)) f = f z r := rfl
theorem q_ret : exec F W (.ret e) (s :: r) = Sb (ev F e (s :: r)) (fun t r1 => .ret t r1) := rfl
theorem q_retN : exec F W .retN r = .ret (.d .non) r := rfl
theorem q_expr : exec F W (.expr e) (s :: r) = Sb (ev F e (s :: r)) (fun _ r1 => .nx r1) := rfl
theorem q_ifs : exec F W (.ifs e A B) (s :: r) = ifK (ev F e (s :: r)) (fun r1 => exec F W A r1) (fun r1 => exec F W B r1) := rfl
theorem q_ifK {z : Bool} {f g : Ro → RS} : ifK (.ok (.d (.bl z)) r) f g = if z = true then f r else g r := rfl
theorem q_for {tg : Tg} {it : It} : exec F W (.for_ tg it A) (s :: r) = Sb (evi F it (s :: r)) (forK (sets A) tg (exec F W A)) := rfl
theorem q_forK {S : List Nat} {tg : Tg} {f : Fs} {xs : List Dv} : forK S tg f ⟨xs, none⟩ r = forL tg none f xs r := rfl
theorem q_forG {S : List Nat} {tg : Tg} {f : Fs} {xs ys : List Dv} (h : gFree (tgs tg ++ S) (some (i, ys)) = true) : forK S tg f ⟨xs, some (i, ys)⟩ r = forL tg (some (i, ys)) f xs r := if_pos h
theorem q_while : exec F W (.while_ e A) (s :: r) = W (fun r => asB (ev F e r)) (exec F W A) (s :: r) := rfl
theorem q_raise : exec F W (.raise i) r = .exc i r := rfl
theorem q_ptup {is : List Nat} : exec F W (.ptup is es) (s :: r) = Sb (evh F es (s :: r)) (fun ss r1 => nxK (asgH is ss r1)) := by
  show ptupF is (evh F es) (s :: r) = _
  unfold ptupF Sb nxK
  cases evh F es (s :: r) with
  | ok ss r1 => simp only [Re.andS]; all_goals (cases asgH is ss r1 <;> rfl)
  | _ => rfl
theorem q_nxK : nxK (some r) = .nx r := rfl
theorem q_asgH0 : asgH [] [] r = some r := rfl
theorem q_asgH1 {is : List Nat} {z : Sl} {ss : List Sl} : asgH (i :: is) (z :: ss) r = asgH is ss (r.set i z) := rfl
def atK (is : List Nat) (x : T) (r : Ro) : RS := match x with
  | .d (.tup xs) => nxK (asgs is xs r)
  | _ => .bad
theorem q_atup {is : List Nat} : exec F W (.atup is e) (s :: r) = Sb (ev F e (s :: r)) (atK is) := by
  show atupF is (ev F e) (s :: r) = _
  unfold atupF Sb
  cases ev F e (s :: r) with
  | ok x r1 =>
    simp only [Re.andS]
    cases x with
    | d z => cases z with
      | tup xs => show (match asgs is xs r1 with
          | some r2 => RS.nx r2
          | none => .bad) = nxK (asgs is xs r1); unfold nxK; cases asgs is xs r1 <;> rfl
      | _ => rfl
    | _ => rfl
  | _ => rfl
theorem q_atK {is : List Nat} {xs : List Dv} : atK is (.d (.tup xs)) r = nxK (asgs is xs r) := rfl
theorem q_asgs0 : asgs [] [] r = some r := rfl
theorem q_asgs1 {is : List Nat} {z : Dv} {xs : List Dv} : asgs (i :: is) (z :: xs) r = asgs is xs (r.set i (.val z)) := rfl
theorem q_tg1 {z : Dv} : asgT (.one i) z r = some (r.set i (.val z)) := rfl
theorem q_tgN {is : List Nat} {xs : List Dv} : asgT (.tup is) (.tup xs) r = asgs is xs r := rfl
theorem q_aug {op : Bop} : exec F W (.aug i op e) (s :: r) = augK (s :: r)[i]? i op (ev F e (s :: r)) := by
  show augF i op (ev F e) (s :: r) = _
  unfold augF augK
  cases (s :: r)[i]? with
  | none => rfl
  | some z => cases z with
    | val d => cases d <;> rfl
    | _ => rfl
def ag2 (i : Nat) (z : Option T) (r : Ro) : RS := match z with
  | some (.d (.int k)) => .nx (r.set i (.val (.int k)))
  | _ => .bad
theorem q_augK {op : Bop} {z w : Int} : augK (some (.val (.int z))) i op (.ok (.d (.int w)) r) = ag2 i (binV op (some (.int z)) (some (.int w))) r := by
  show (match binI op z w with
      | some k => RS.nx (r.set i (.val (.int k)))
      | none => .bad) = ag2 i ((binI op z w).map fun k => T.d (.int k)) r
  cases binI op z w <;> rfl
theorem q_ag2 {z : Int} : ag2 i (some (.d (.int z))) r = .nx (r.set i (.val (.int z))) := rfl
def apK (o : Option Sl) (x : RS) : RS := match o with
  | some (.own _) => x
  | _ => .bad
theorem q_apK {z : List Dv} {x : RS} : apK (some (.own z)) x = x := rfl
theorem q_app : exec F W (.app i e) (s :: r) = apK (s :: r)[i]? (Sb (ev F e (s :: r)) fun t r1 => matS (mat r1 t) fun x r2 => appK r2[i]? i x r2) := by
  show appF i (ev F e) (s :: r) = _
  unfold appF apK Sb
  cases (s :: r)[i]? with
  | none => rfl
  | some z => cases z with
    | own d =>
      dsimp only
      cases ev F e (s :: r) with
      | ok t r1 =>
        simp only [Re.andS, matS]
        cases mat r1 t with
        | none => rfl
        | some p => obtain ⟨x, r2⟩ := p; simp only [appK]; all_goals (cases r2[i]? with
          | none => rfl
          | some q => cases q <;> rfl)
      | _ => rfl
    | _ => rfl
theorem q_appK {xs : List Dv} {z : Dv} (h : xs.length < 16777216) : appK (some (.own xs)) i z r = .nx (r.set i (.own (xs ++ [z]))) := if_pos h
def sxK (xs : Option Sl) (u : T) (i : Nat) (x : Dv) (r : Ro) : RS := match u with
  | .d (.int k) => match xs with
    | some (.own xs) => match ixN xs.length k with
      | some j => .nx (r.set i (.own (xs.set j x)))
      | none => .bad
    | _ => .bad
  | _ => .bad
theorem q_setix {ix : E} : exec F W (.setix i ix e) (s :: r) = Sb (ev F e (s :: r)) fun t r1 => matS (mat r1 t) fun x r2 => apK r2[i]? (Sb (ev F ix r2) fun u r3 => sxK r3[i]? u i x r3) := by
  show setixF i (ev F ix) (ev F e) (s :: r) = _
  unfold setixF Sb
  cases ev F e (s :: r) with
  | ok t r1 =>
    simp only [Re.andS, matS]
    cases mat r1 t with
    | none => rfl
    | some p =>
      obtain ⟨x, r2⟩ := p
      simp only [apK]
      cases r2[i]? with
      | none => rfl
      | some q => cases q with
        | own d =>
          dsimp only
          cases ev F ix r2 with
          | ok u r3 => simp only [sxK]; all_goals (cases u with
            | d z => cases z <;> rfl
            | _ => rfl)
          | _ => rfl
        | _ => rfl
  | _ => rfl
def sx2 (j : Option Nat) (xs : List Dv) (i : Nat) (x : Dv) (r : Ro) : RS := match j with
  | some j => .nx (r.set i (.own (xs.set j x)))
  | none => .bad
theorem q_sxK {xs : List Dv} {z : Int} {w : Dv} : sxK (some (.own xs)) (.d (.int z)) i w r = sx2 (ixN xs.length z) xs i w r := by
  unfold sxK sx2; dsimp only
theorem q_sx2 {xs : List Dv} {w : Dv} : sx2 (some j) xs i w r = .nx (r.set i (.own (xs.set j w))) := rfl
theorem ixN_nat {n m : Nat} (h : m < n) : ixN n (m : Int) = some m := by
  unfold ixN L2.ixN
  rw [if_pos (by omega), if_pos (by omega)]; simp
def axK (o : Option Sl) (i : Nat) (u : T) (r1 : Ro) (op : Bop) (f : Re T) : RS := match u with
  | .d (.int k) => match o with
    | some (.own xs) => match getI xs k with
      | some (.int a) => f.andS fun t r2 => match t with
        | .d (.int b) => match binI op a b with
          | some v => match r2[i]? with
            | some (.own ys) => match ixN ys.length k with
              | some j => .nx (r2.set i (.own (ys.set j (.int v))))
              | none => .bad
            | _ => .bad
          | none => .bad
        | _ => .bad
      | _ => .bad
    | _ => .bad
  | _ => .bad
theorem q_augix {ix : E} {op : Bop} : exec F W (.augix i ix op e) (s :: r) = apK (s :: r)[i]? (Sb (ev F ix (s :: r)) fun u r1 => axK r1[i]? i u r1 op (ev F e r1)) := by
  show augixF i (ev F ix) op (ev F e) (s :: r) = _
  unfold augixF apK Sb
  cases (s :: r)[i]? with
  | none => rfl
  | some z => cases z with
    | own d =>
      dsimp only
      cases ev F ix (s :: r) with
      | ok u r1 => simp only [Re.andS, axK]; all_goals (cases u <;> rfl)
      | _ => rfl
    | _ => rfl
theorem q_axK {xs ys : List Dv} {z a b v : Int} {op : Bop} (h1 : getI xs z = some (.int a)) (h2 : binI op a b = some v) (h3 : r[i]? = some (.own ys)) (h4 : ixN ys.length z = some j) :
    axK (some (.own xs)) i (.d (.int z)) r1 op (.ok (.d (.int b)) r) = .nx (r.set i (.own (ys.set j (.int v)))) := by
  simp only [axK, h1, Re.andS, h2, h3, h4]
/-! a call's end -/
theorem q_finN : finish [] (.nx r) = .ok (.d .non) [] := rfl
theorem q_finD {z : Dv} : finish [] (.ret (.d z) r) = .ok (.d z) [] := rfl
theorem q_finF {z : List Dv} : finish [] (.ret (.fr z) r) = .ok (.fr z) [] := rfl
def rvK (o : Option Sl) : FR := match o with
  | some (.own xs) => .ok (.fr xs) []
  | _ => .bad
theorem q_finR : finish [] (.ret (.rf i) r) = rvK r[i]? := by
  simp only [finish, retV, List.any_nil, Bool.false_eq_true, if_false]
  unfold rvK
  cases r[i]? with
  | none => rfl
  | some q => cases q <;> rfl
theorem q_rvK {xs : List Dv} : rvK (some (.own xs)) = .ok (.fr xs) [] := rfl
theorem q_finX : finish [] (.exc i r) = .exc i [] := rfl
theorem q_lp0 : lentPos k [] = [] := rfl
theorem q_lpv {z : Dv} {ss : List Sl} : lentPos k (.val z :: ss) = lentPos (k + 1) ss := rfl
theorem q_lpo {z : List Dv} {ss : List Sl} : lentPos k (.own z :: ss) = k :: lentPos (k + 1) ss := rfl
end
end MP
set_option linter.all false
set_option Elab.async false
set_option maxRecDepth 100000
set_option maxHeartbeats 1000000
/-! I2: comparing trees of numbers. -/
namespace MP
open PySem
instance : DecidableEq Dv := fun a b => if h : Dv.beq a b = true then isTrue (Dv.beq_eq a b h) else isFalse (fun e => h (by rw [e]; exact Dv.beq_self b))
theorem beq_dec (a b : Dv) : Dv.beq a b = decide (a = b) := by
  cases h : Dv.beq a b with
  | true => rw [Dv.beq_eq a b h]; simp
  | false => rw [decide_eq_false]; intro e; rw [e, Dv.beq_self] at h; cases h
mutual
/-- numbers, words, nothing, rows of such: no truth values -/
def itr : Nat → Dv → Bool
  | _, .int _ => true
  | _, .str _ => true
  | _, .non => true
  | k + 1, .tup xs => itrs k xs
  | k + 1, .lv xs => itrs k xs
  | _, _ => false
def itrs : Nat → List Dv → Bool
  | _, [] => true
  | k, x :: xs => itr k x && itrs k xs
end
mutual
theorem itr_py : ∀ (k : Nat) (d : Dv), itr k d = true → ∃ p, toPy d = some p ∧ p.depth ≤ k + 1 ∧ ∀ (e : Dv) (q : PyData), itr k e = true → toPy e = some q → PyData.eqv p q = Dv.beq d e
  | k, .int i, _ => ⟨.int i, by simp [toPy], by simp [PyData.depth], fun e q he hq => by
      cases e with
      | int j => simp only [toPy, Option.some.injEq] at hq; subst hq; simp only [PyData.eqv, Dv.beq]; exact Bool.eq_iff_iff.mpr (by simp)
      | str x => simp only [toPy, Option.some.injEq] at hq; subst hq; simp only [PyData.eqv, Dv.beq]
      | non => simp only [toPy, Option.some.injEq] at hq; subst hq; simp only [PyData.eqv, Dv.beq]
      | tup x => simp only [toPy, Option.map_eq_some_iff] at hq; obtain ⟨z, _, rfl⟩ := hq; simp only [PyData.eqv, Dv.beq]
      | lv x => simp only [toPy, Option.map_eq_some_iff] at hq; obtain ⟨z, _, rfl⟩ := hq; simp only [PyData.eqv, Dv.beq]
      | _ => cases k <;> simp [itr] at he⟩
  | k, .str i, _ => ⟨.str i, by simp [toPy], by simp [PyData.depth], fun e q he hq => by
      cases e with
      | int j => simp only [toPy, Option.some.injEq] at hq; subst hq; simp only [PyData.eqv, Dv.beq]
      | str x => simp only [toPy, Option.some.injEq] at hq; subst hq; simp only [PyData.eqv, Dv.beq]; exact Bool.eq_iff_iff.mpr (by simp)
      | non => simp only [toPy, Option.some.injEq] at hq; subst hq; simp only [PyData.eqv, Dv.beq]
      | tup x => simp only [toPy, Option.map_eq_some_iff] at hq; obtain ⟨z, _, rfl⟩ := hq; simp only [PyData.eqv, Dv.beq]
      | lv x => simp only [toPy, Option.map_eq_some_iff] at hq; obtain ⟨z, _, rfl⟩ := hq; simp only [PyData.eqv, Dv.beq]
      | _ => cases k <;> simp [itr] at he⟩
  | k, .non, _ => ⟨.none, by simp [toPy], by simp [PyData.depth], fun e q he hq => by
      cases e with
      | int j => simp only [toPy, Option.some.injEq] at hq; subst hq; simp only [PyData.eqv, Dv.beq]
      | str x => simp only [toPy, Option.some.injEq] at hq; subst hq; simp only [PyData.eqv, Dv.beq]
      | non => simp only [toPy, Option.some.injEq] at hq; subst hq; simp only [PyData.eqv, Dv.beq]
      | tup x => simp only [toPy, Option.map_eq_some_iff] at hq; obtain ⟨z, _, rfl⟩ := hq; simp only [PyData.eqv, Dv.beq]
      | lv x => simp only [toPy, Option.map_eq_some_iff] at hq; obtain ⟨z, _, rfl⟩ := hq; simp only [PyData.eqv, Dv.beq]
      | _ => cases k <;> simp [itr] at he⟩
  | 0, .tup xs, h => by simp [itr] at h
  | 0, .lv xs, h => by simp [itr] at h
  | k + 1, .tup xs, h => by
    obtain ⟨ps, h1, h2, h3⟩ := itrs_py k xs (by simpa [itr] using h)
    refine ⟨.tuple ps, by simp [toPy, h1], by simp only [PyData.depth]; omega, fun e q he hq => ?_⟩
    cases e with
    | int j => simp only [toPy, Option.some.injEq] at hq; subst hq; simp only [PyData.eqv, Dv.beq]
    | str x => simp only [toPy, Option.some.injEq] at hq; subst hq; simp only [PyData.eqv, Dv.beq]
    | non => simp only [toPy, Option.some.injEq] at hq; subst hq; simp only [PyData.eqv, Dv.beq]
    | tup x =>
      simp only [toPy, Option.map_eq_some_iff] at hq; obtain ⟨z, hz, rfl⟩ := hq
      simp only [PyData.eqv, Dv.beq]; exact h3 x z (by simpa [itr] using he) hz
    | lv x => simp only [toPy, Option.map_eq_some_iff] at hq; obtain ⟨z, _, rfl⟩ := hq; simp only [PyData.eqv, Dv.beq]
    | _ => simp [itr] at he
  | k + 1, .lv xs, h => by
    obtain ⟨ps, h1, h2, h3⟩ := itrs_py k xs (by simpa [itr] using h)
    refine ⟨.list ps, by simp [toPy, h1], by simp only [PyData.depth]; omega, fun e q he hq => ?_⟩
    cases e with
    | int j => simp only [toPy, Option.some.injEq] at hq; subst hq; simp only [PyData.eqv, Dv.beq]
    | str x => simp only [toPy, Option.some.injEq] at hq; subst hq; simp only [PyData.eqv, Dv.beq]
    | non => simp only [toPy, Option.some.injEq] at hq; subst hq; simp only [PyData.eqv, Dv.beq]
    | tup x => simp only [toPy, Option.map_eq_some_iff] at hq; obtain ⟨z, _, rfl⟩ := hq; simp only [PyData.eqv, Dv.beq]
    | lv x =>
      simp only [toPy, Option.map_eq_some_iff] at hq; obtain ⟨z, hz, rfl⟩ := hq
      simp only [PyData.eqv, Dv.beq]; exact h3 x z (by simpa [itr] using he) hz
    | _ => simp [itr] at he
  | k, .bl _, h => by cases k <;> simp [itr] at h
  | k, .fn _, h => by cases k <;> simp [itr] at h
  | k, .clo _ _, h => by cases k <;> simp [itr] at h
  | k, .exc _, h => by cases k <;> simp [itr] at h
  | k, .scr _, h => by cases k <;> simp [itr] at h
theorem itrs_py : ∀ (k : Nat) (ds : List Dv), itrs k ds = true → ∃ ps, toPys ds = some ps ∧ PyData.depthAll ps ≤ k + 1 ∧ ∀ (es : List Dv) (qs : List PyData), itrs k es = true → toPys es = some qs → PyData.eqvAll ps qs = beqs ds es
  | k, [], _ => ⟨[], rfl, by simp [PyData.depthAll], fun es qs he hq => by
      cases es with
      | nil => simp only [toPys, Option.some.injEq] at hq; subst hq; rfl
      | cons e es =>
        simp only [toPys] at hq
        split at hq
        · simp only [Option.some.injEq] at hq; subst hq; rfl
        · cases hq⟩
  | k, d :: ds, h => by
    simp only [itrs, Bool.and_eq_true] at h
    obtain ⟨p, a1, a2, a3⟩ := itr_py k d h.1
    obtain ⟨ps, b1, b2, b3⟩ := itrs_py k ds h.2
    refine ⟨p :: ps, by simp [toPys, a1, b1], by simp only [PyData.depthAll]; omega, fun es qs he hq => ?_⟩
    cases es with
    | nil => simp only [toPys, Option.some.injEq] at hq; subst hq; rfl
    | cons e es =>
      simp only [itrs, Bool.and_eq_true] at he
      simp only [toPys] at hq
      split at hq
      · rename_i y ys hy hys
        simp only [Option.some.injEq] at hq; subst hq
        simp only [PyData.eqvAll, beqs]
        rw [a3 e y he.1 hy, b3 es ys he.2 hys]
      · cases hq
end
theorem cmpV_tree {op : Cop} {a b : Dv} (ha : itr 50 a = true) (hb : itr 50 b = true) (hi : (∃ i, a = .int i) → (∃ j, b = .int j) → False) {p q : PyData} (hp : toPy a = some p) (hq : toPy b = some q) : cmpV op (some a) (some b) = cmpP op p q := by
  cases a with
  | int i => cases b with
    | int j => exact (hi ⟨i, rfl⟩ ⟨j, rfl⟩).elim
    | _ => simp only [cmpV, hp, hq]
  | _ => simp only [cmpV, hp, hq]
theorem q_eqT {a b : Dv} (ha : itr 50 a = true) (hb : itr 50 b = true) : cmpV .eq (some a) (some b) = some (decide (a = b)) := by
  by_cases hi : (∃ i, a = .int i) ∧ (∃ j, b = .int j)
  · obtain ⟨⟨i, rfl⟩, ⟨j, rfl⟩⟩ := hi
    rw [q_eq]; simp
  · obtain ⟨p, p1, p2, p3⟩ := itr_py 50 a ha
    obtain ⟨q, q1, q2, q3⟩ := itr_py 50 b hb
    rw [cmpV_tree ha hb (fun x y => hi ⟨x, y⟩) p1 q1]
    simp only [cmpP, pyEq]
    rw [if_pos ⟨by omega, by omega⟩, p3 b q hb q1, beq_dec]
theorem q_neT {a b : Dv} (ha : itr 50 a = true) (hb : itr 50 b = true) : cmpV .ne (some a) (some b) = some (!decide (a = b)) := by
  by_cases hi : (∃ i, a = .int i) ∧ (∃ j, b = .int j)
  · obtain ⟨⟨i, rfl⟩, ⟨j, rfl⟩⟩ := hi
    rw [q_ne]; simp
  · obtain ⟨p, p1, p2, p3⟩ := itr_py 50 a ha
    obtain ⟨q, q1, q2, q3⟩ := itr_py 50 b hb
    rw [cmpV_tree ha hb (fun x y => hi ⟨x, y⟩) p1 q1]
    simp only [cmpP, pyEq]
    rw [if_pos ⟨by omega, by omega⟩, p3 b q hb q1, beq_dec]
    rfl
theorem any_py : ∀ {ys : List Dv} {x : Dv} {p : PyData} {qs : List PyData}, itrs 49 ys = true → itr 49 x = true → toPy x = some p → toPys ys = some qs → (qs.any fun z => PyData.eqv z p) = decide (x ∈ ys)
  | [], x, p, qs, _, _, _, hq => by simp only [toPys, Option.some.injEq] at hq; subst hq; simp
  | y :: ys, x, p, qs, hy, hx, hp, hq => by
    simp only [itrs, Bool.and_eq_true] at hy
    simp only [toPys] at hq
    split at hq
    · rename_i z zs hz hzs
      simp only [Option.some.injEq] at hq; subst hq
      obtain ⟨p', a1, a2, a3⟩ := itr_py 49 y hy.1
      rw [hz] at a1; cases a1
      rw [List.any_cons, a3 x p hx hp, any_py hy.2 hx hp hzs, beq_dec]
      by_cases e : y = x
      · subst e; simp
      · have e' : ¬ x = y := fun h => e h.symm
        simp [e, e']
    · cases hq
theorem itr_up : ∀ (k : Nat) (d : Dv), itr k d = true → itr (k + 1) d = true := by
  intro k d h
  suffices ∀ (k : Nat), (∀ d, itr k d = true → itr (k + 1) d = true) ∧ (∀ ds, itrs k ds = true → itrs (k + 1) ds = true) from (this k).1 d h
  intro k
  induction k with
  | zero =>
    have h1 : ∀ d, itr 0 d = true → itr 1 d = true := fun d h => by cases d <;> simp_all [itr]
    refine ⟨h1, fun ds => ?_⟩
    induction ds with
    | nil => intro _; rfl
    | cons d ds ih => intro h; simp only [itrs, Bool.and_eq_true] at h ⊢; exact ⟨h1 d h.1, ih h.2⟩
  | succ k ih =>
    have h1 : ∀ d, itr (k + 1) d = true → itr (k + 1 + 1) d = true := fun d h => by
      cases d with
      | tup xs => simp only [itr] at h ⊢; exact ih.2 xs h
      | lv xs => simp only [itr] at h ⊢; exact ih.2 xs h
      | _ => simp_all [itr]
    refine ⟨h1, fun ds => ?_⟩
    induction ds with
    | nil => intro _; rfl
    | cons d ds ih => intro h; simp only [itrs, Bool.and_eq_true] at h ⊢; exact ⟨h1 d h.1, ih h.2⟩
theorem q_inT {x y : Dv} {ys : List Dv} (hs : y = .lv ys ∨ y = .tup ys) (hx : itr 49 x = true) (hy : itrs 49 ys = true) : cmpV .inn (some x) (some y) = some (decide (x ∈ ys)) := by
  obtain ⟨p, p1, p2, p3⟩ := itr_py 49 x hx
  obtain ⟨qs, q1, q2, q3⟩ := itrs_py 49 ys hy
  rcases hs with rfl | rfl
  · rw [cmpV_tree (q := .list qs) (itr_up 49 x hx) (by simpa [itr] using hy) (fun _ ⟨j, h⟩ => by cases h) p1 (by simp only [toPy, q1, Option.map_some])]
    simp only [cmpP, isSeqP]
    rw [if_pos ⟨by omega, by simp only [PyData.depth]; omega⟩, any_py hy hx p1 q1]
  · rw [cmpV_tree (q := .tuple qs) (itr_up 49 x hx) (by simpa [itr] using hy) (fun _ ⟨j, h⟩ => by cases h) p1 (by simp only [toPy, q1, Option.map_some])]
    simp only [cmpP, isSeqP]
    rw [if_pos ⟨by omega, by simp only [PyData.depth]; omega⟩, any_py hy hx p1 q1]
theorem q_ninT {x y : Dv} {ys : List Dv} (hs : y = .lv ys ∨ y = .tup ys) (hx : itr 49 x = true) (hy : itrs 49 ys = true) : cmpV .nin (some x) (some y) = some (!decide (x ∈ ys)) := by
  obtain ⟨p, p1, p2, p3⟩ := itr_py 49 x hx
  obtain ⟨qs, q1, q2, q3⟩ := itrs_py 49 ys hy
  rcases hs with rfl | rfl
  · rw [cmpV_tree (q := .list qs) (itr_up 49 x hx) (by simpa [itr] using hy) (fun _ ⟨j, h⟩ => by cases h) p1 (by simp only [toPy, q1, Option.map_some])]
    simp only [cmpP, isSeqP]
    rw [if_pos ⟨by omega, by simp only [PyData.depth]; omega⟩, any_py hy hx p1 q1]
  · rw [cmpV_tree (q := .tuple qs) (itr_up 49 x hx) (by simpa [itr] using hy) (fun _ ⟨j, h⟩ => by cases h) p1 (by simp only [toPy, q1, Option.map_some])]
    simp only [cmpP, isSeqP]
    rw [if_pos ⟨by omega, by simp only [PyData.depth]; omega⟩, any_py hy hx p1 q1]
theorem itrs_map {α : Type} {k : Nat} {f : α → Dv} : ∀ {xs : List α}, (∀ x, x ∈ xs → itr k (f x) = true) → itrs k (xs.map f) = true
  | [], _ => rfl
  | x :: xs, h => by
    simp only [List.map_cons, itrs, Bool.and_eq_true]
    exact ⟨h x List.mem_cons_self, itrs_map fun y hy => h y (List.mem_cons_of_mem _ hy)⟩
theorem itr_int {k : Nat} {i : Int} : itr k (.int i) = true := by cases k <;> rfl
theorem itrs_int {k : Nat} {xs : List Int} : itrs k (xs.map .int) = true := itrs_map fun _ _ => itr_int
theorem itr_tup {k : Nat} {xs : List Int} : itr (k + 1) (.tup (xs.map .int)) = true := itrs_int
theorem itr_lv {k : Nat} {xs : List Int} : itr (k + 1) (.lv (xs.map .int)) = true := itrs_int
theorem int_inj : ∀ {a b : List Int}, (a.map Dv.int = b.map Dv.int) ↔ a = b := by
  intro a b
  constructor
  · intro h
    induction a generalizing b with
    | nil => cases b with
      | nil => rfl
      | cons y b => cases h
    | cons x a ih => cases b with
      | nil => cases h
      | cons y b =>
        simp only [List.map_cons, List.cons.injEq, Dv.int.injEq] at h
        rw [h.1, ih h.2]
  · intro h; rw [h]
end MP
set_option linter.all false
set_option Elab.async false
set_option maxRecDepth 100000
set_option maxHeartbeats 1000000
/-! I3: polynomials: cut, plus, times, power. -/
namespace MP
open PySem
local macro_rules | `(tactic| walk_at "mp") => `(tactic| simp (config := { failIfUnchanged := false, implicitDefEqProofs := false }) only [q_rb, q_rbx, q_sb, q_sbx, q_non, q_bl, q_int, q_str, q_glb, q_var, q_varV, q_varO, q_tup, q_disp, q_tupK, q_dispK, q_bin, q_neg, q_negK, q_cmp, q_chain, q_chK, q_vd, q_vfr, q_vrf, q_vwK, q_tK, q_bK, q_add, q_sub, q_mul, q_fdiv, q_mod, q_pow18, q_tadd, q_ladd, q_tmul, q_lmul, q_eq, q_ne, q_lt, q_le, q_gt, q_ge,
  q_and, q_or, q_not, q_ite, q_andK, q_orK, q_notK, q_chkB, q_iteK, q_asB, q_idx, q_sqT, q_sqL, q_sqF, q_sqS, q_sqR, q_sqK, q_subK, q_giK, q_g0, q_g1, q_g2, q_g3, q_slc, q_ono, q_oyes, q_someO, q_sliT, q_sliL, q_sn, q_sc, q_mk, q_md, q_mf, q_mr, q_frzK, q_tn, q_tc, q_an, q_ac, q_aio, q_ioK, q_hn, q_hc, q_hk, q_hf, q_hd,
  q_call, q_ln, q_lv, q_lio, q_lendK, q_callK0, q_ix0, q_ixv, q_ixi, q_nd0, q_nd1, q_ok, q_okF, q_okX, q_un0, q_un1, q_retK, q_excK, q_bi, q_len, q_abs, q_bint, q_max2, q_min2, q_tupleOf, q_listOf, q_isi, q_isiF, q_all, q_lsL, q_lsF, q_lsR, q_allK, q_sum, q_sumK, q_pop, q_popK, q_comp, q_iseq, q_srcK, q_srcL, q_srcT, q_srcS, q_srcF, q_srcR, q_srcR', q_rng1, q_rgK, q_rg2K, q_enum, q_enK, q_zip, q_zT, q_zL, q_zK, q_cno, q_cyes, q_cond0, q_cond1,
  q_seq, q_seqK, q_seqR, q_seqX, q_pass, q_asg, q_asgD, q_asgF, q_asgR, q_ms, q_ret, q_retN, q_expr, q_ifs, q_ifK, q_for, q_forK, q_while, q_raise, q_ptup, q_nxK, q_asgH0, q_asgH1, q_atup, q_atK, q_asgs0, q_asgs1, q_tg1, q_tgN, q_aug, q_augK, q_ag2, q_apK, q_app, q_appK, q_setix, q_sxK, q_sx2, q_augix, q_finN, q_finD, q_finF, q_finR, q_rvK, q_finX, q_lp0, q_lpv, q_lpo,
  List.getElem?_cons_zero, List.getElem?_cons_succ, List.set_cons_zero, List.set_cons_succ, List.cons_append, List.nil_append, List.append_nil, List.replicate, List.map_nil, List.map_cons, Option.map_some, Nat.reduceSub, Nat.reduceAdd, List.length_cons, List.length_nil, List.length_map, Nat.reduceLeDiff, if_true, if_false, ite_true, ite_false, Bool.false_eq_true, reduceCtorEq, Nat.zero_add, decide_true, decide_false, Bool.not_true, Bool.not_false, isTy, wipe, Int.reduceNeg, ne_eq, Int.reduceEq, not_false_eq_true, not_true_eq_false, Int.reduceLT, Int.reduceLE, Int.reduceAdd, Int.reduceSub, Int.reduceMul, Nat.reduceLT, Nat.reduceMul, Int.reduceToNat, decide_eq_true_eq, *])
abbrev ip (p : List Int) : Dv := .tup (p.map .int)
abbrev il (p : List Int) : Dv := .lv (p.map .int)
/-! ### plain -/
def stripR : List Int → List Int
  | [] => []
  | a :: l => if a = 0 then stripR l else a :: l
def cutP (p : List Int) : List Int := (stripR p.reverse).reverse
theorem cutP_nil : cutP [] = [] := rfl
theorem cutP_snoc0 {p : List Int} : cutP (p ++ [0]) = cutP p := by unfold cutP; rw [List.reverse_append]; rfl
theorem cutP_snoc {p : List Int} {a : Int} (h : a ≠ 0) : cutP (p ++ [a]) = p ++ [a] := by
  unfold cutP; rw [List.reverse_append]
  show (if a = 0 then _ else _ : List Int).reverse = _
  rw [if_neg h]; simp
theorem snoc_cases {α : Type} (l : List α) : l = [] ∨ ∃ k a, l = k ++ [a] := by
  cases h : l.reverse with
  | nil => left; simpa using h
  | cons a k => right; refine ⟨k.reverse, a, ?_⟩; have := congrArg List.reverse h; simpa using this
def addL : List Int → List Int → Int → List Int
  | a, [], _ => a
  | [], b, m => b.map (m * ·)
  | x :: a, y :: b, m => (x + m * y) :: addL a b m
def plusP (a b : List Int) (m : Int) : List Int := cutP (addL a b m)
def mulA : List Int → List Int → List Int → List Int
  | rest, [], _ => rest
  | rest, a :: one, b => match addL rest b a with
    | [] => []
    | h :: t => h :: mulA t one b
def timesP (a b : List Int) : List Int := cutP (mulA (List.replicate (a.length + b.length) 0) a b)
def powP (p : List Int) : Nat → List Int
  | 0 => [1]
  | n + 1 => timesP (powP p n) p
/-- bounded numbers -/
def small (p : List Int) : Prop := ∀ a, a ∈ p → a.natAbs < 2 ^ 60000
/-! ### cut -/
theorem rep_one {x : Dv} : ∀ n, rep [x] n = List.replicate n x
  | 0 => rfl
  | n + 1 => by simp only [rep, rep_one n, List.cons_append, List.nil_append, List.replicate_succ]
theorem w_cut {F : CallF} {W : WhileF} {z : Sl} : ∀ (p : List Int) (k : Nat), p.length < k → whileB k (fun r => asB (ev F w_cut_0 r)) (exec F W l_cut_1) [z, .own (p.map .int)] = .nx [z, .own ((cutP p).map .int)] := by
  intro p
  generalize hn : p.length = n
  induction n generalizing p with
  | zero =>
    intro k hk
    have e : p = [] := List.eq_nil_of_length_eq_zero hn
    subst e
    cases k with
    | zero => omega
    | succ k =>
      have h1 : cmpV .ne (some (.lv [])) (some (.lv [])) = some false := by rw [q_neT rfl rfl]; rfl
      exact whileB_false (r1 := [z, .own []]) (by simp only [w_cut_0]; walk_at "mp")
  | succ n ih =>
    intro k hk
    rcases snoc_cases p with e | ⟨q, a, rfl⟩
    · subst e; cases hn
    · cases k with
      | zero => omega
      | succ k =>
        have hq : q.length = n := by simpa using hn
        have h1 : cmpV .ne (some (.lv ((q ++ [a]).map .int))) (some (.lv [])) = some true := by
          rw [q_neT itr_lv rfl]
          simp
        have h2 : getI ((q ++ [a]).map .int) (-1) = some (.int a) := by rw [List.map_append]; exact q_gm1
        have hc : asB (ev F w_cut_0 [z, .own ((q ++ [a]).map .int)]) = .ok (decide (a = 0)) [z, .own ((q ++ [a]).map .int)] := by
          clear ih hk hn
          simp only [w_cut_0]; walk_at "mp"
        by_cases ha : a = 0
        · subst ha
          rw [whileB_true (r2 := [z, .own (q.map .int)]) hc (by simp only [l_cut_1, List.map_append, List.map_cons, List.map_nil]; clear ih hk hn hc h1 h2; walk_at "mp"), ih q hq k (by omega), cutP_snoc0]
        · rw [decide_eq_false ha] at hc
          rw [whileB_false hc, cutP_snoc ha]
theorem i_cut {l : Tbl} {W : WhileF} (hW : WBig W) {n : Nat} {p : List Int} (hp : p.length < 1000000) : callN (tbL l) W (n + 1) 4 [.val (il p)] = .ok (.d (ip (cutP p))) [] := by
  rw [callN_eq t_cut rfl rfl]
  simp only [f_cut, b_cut]
  have h0 := w_cut (F := callN (tbL l) W n) (W := W) (z := .val (il p)) p (p.length + 1) (by omega)
  have h := hW (p.length + 1) _ _ _ (by omega) (by rw [h0]; exact fun z => by cases z)
  rw [h0] at h
  clear h0 hW
  walk_at "mp"
/-! ### plus -/
theorem set_mid {α : Type} {pre post : List α} {x y : α} {n : Nat} (h : pre.length = n) : (pre ++ x :: post).set n y = pre ++ y :: post := by
  subst h; simp
theorem get_mid {α : Type} {pre post : List α} {x : α} {n : Nat} (h : pre.length = n) : (pre ++ x :: post)[n]? = some x := by
  subst h; simp
theorem addL_len : ∀ {a b : List Int} {m : Int}, b.length ≤ a.length → (addL a b m).length = a.length
  | a, [], m, _ => by cases a <;> rfl
  | [], _ :: _, _, h => by simp at h
  | x :: a, y :: b, m, h => by simp only [addL, List.length_cons]; rw [addL_len (by simpa using h)]
def okBits (a b : Int) : Prop := okMul a b = true
/-- one row added, place by place, from place k on (a slot's list; whatever the loop's names held) -/
theorem l_plus {F : CallF} {W : WhileF} {A B : Sl} {m : Int} : ∀ (b : List Int) (k : Nat) (pre rest : List Int) (u v : Sl), pre.length = k → b.length ≤ rest.length → (∀ y, y ∈ b → okMul m y = true) →
    ∃ u' v', forL (.tup [4, 5]) none (exec F W l_plus_0) ((b.zipIdx k).map fun p => .tup [.int (0 + (p.2 : Int)), .int p.1]) [A, B, .val (.int m), .own ((pre ++ rest).map .int), u, v] = .nx [A, B, .val (.int m), .own ((pre ++ addL rest b m).map .int), u', v'] := by
  intro b
  induction b with
  | nil => intro k pre rest u v _ _ _; refine ⟨u, v, ?_⟩; cases rest <;> rfl
  | cons y b ih =>
    intro k pre rest u v hk hl hm
    cases rest with
    | nil => simp at hl
    | cons x rest =>
      obtain ⟨u', v', h⟩ := ih (k + 1) (pre ++ [x + m * y]) rest (.val (.int (0 + (k : Int)))) (.val (.int y)) (by simp [hk]) (by simpa using hl) (fun z hz => hm z (List.mem_cons_of_mem _ hz))
      refine ⟨u', v', ?_⟩
      simp only [List.zipIdx_cons, List.map_cons, forL, gOk_none, if_true, l_plus_0]
      have hg : getI ((pre ++ x :: rest).map .int) (0 + (k : Int)) = some (.int x) := by
        rw [getI_ofNat (m := k) (by omega) (by simp; omega), List.map_append, List.map_cons, get_mid (by simpa using hk)]
      have hx : ixN ((pre ++ x :: rest).map Dv.int).length (0 + (k : Int)) = some k := by
        rw [show (0 + (k : Int)) = ((k : Nat) : Int) by omega]; exact ixN_nat (by simp; omega)
      have hmy : okMul m y = true := hm y List.mem_cons_self
      have ha := fun r1 : Ro => q_axK (i := 3) (r1 := r1) (r := [A, B, .val (.int m), .own ((pre ++ x :: rest).map .int), .val (.int (0 + (k : Int))), .val (.int y)]) (op := .add) (a := x) (b := m * y) (v := x + m * y) hg rfl rfl hx
      have hs : ((pre ++ x :: rest).map Dv.int).set k (.int (x + m * y)) = (pre ++ (x + m * y) :: rest).map .int := by
        rw [List.map_append, List.map_cons, set_mid (by simpa using hk), List.map_append, List.map_cons]
      simp only [hs] at ha
      have e : (pre ++ [x + m * y]) ++ rest = pre ++ (x + m * y) :: rest := by simp
      rw [e] at h
      clear ih hl hm hg hx hs
      walk_at "mp"
      have e2 : pre ++ addL (x :: rest) (y :: b) m = pre ++ [x + m * y] ++ addL rest b m := by simp [addL]
      rw [e2]
      exact h
theorem addL_pad {a b : List Int} {m : Int} : addL (a ++ List.replicate (b.length - a.length) 0) b m = addL a b m := by
  induction b generalizing a with
  | nil => cases a <;> simp [addL]
  | cons y b ih =>
    cases a with
    | nil =>
      simp only [List.nil_append, List.length_cons, List.length_nil, Nat.sub_zero, List.replicate_succ, addL, List.map_cons, Int.zero_add]
      have := @ih []
      simp only [List.nil_append, List.length_nil, Nat.sub_zero] at this
      rw [this]
      cases b <;> rfl
    | cons x a =>
      simp only [List.cons_append, List.length_cons, addL]
      rw [Nat.add_sub_add_right, ih]
theorem i_plus {l : Tbl} {W : WhileF} (hW : WBig W) {n : Nat} {a b : List Int} {m : Int} (ha : a.length < 100000) (hb : b.length < 100000) (hm : ∀ y, y ∈ b → okMul m y = true) : callN (tbL l) W (n + 2) 5 [.val (ip a), .val (ip b), .val (.int m)] = .ok (.d (ip (plusP a b m))) [] := by
  rw [callN_eq t_plus rfl rfl]
  simp only [f_plus, b_plus]
  have e0 : (if (b.length : Int) - a.length > 0 then (b.length : Int) - a.length else 0) = ((b.length - a.length : Nat) : Int) := by split <;> omega
  have e1 : (-1000000 : Int) ≤ ((b.length - a.length : Nat) : Int) ∧ ((b.length - a.length : Nat) : Int) ≤ 1000000 ∧ [Dv.int 0].length * (((b.length - a.length : Nat) : Int)).toNat ≤ 16777216 := by simp; omega
  have e2 : rep [Dv.int 0] (b.length - a.length) = (List.replicate (b.length - a.length) 0).map Dv.int := by rw [rep_one, List.map_replicate]
  have e3 : (a.map Dv.int).length + ((List.replicate (b.length - a.length) 0).map Dv.int).length ≤ 16777216 := by simp; omega
  have e4 := q_lmul e1
  have e5 := q_ladd e3
  simp only [Int.toNat_natCast, e2] at e4
  rw [← List.map_append] at e5
  have el : ∀ xs : List Int, enumD 0 (xs.map .int) = (xs.zipIdx 0).map fun p => .tup [.int (0 + (p.2 : Int)), .int p.1] := fun xs => by
    rw [enumD_map, List.zipIdx_map, List.map_map]; rfl
  obtain ⟨u', v', h⟩ := l_plus (W := W) (F := callN (tbL l) W (n + 1)) (A := .val (ip a)) (B := .val (ip b)) (m := m) b 0 [] (a ++ List.replicate (b.length - a.length) 0) .none .none rfl (by simp; omega) hm
  simp only [List.nil_append, addL_pad] at h
  have hlen : (addL a b m).length < 1000000 := by
    rw [← addL_pad, addL_len (by simp; omega)]; simp; omega
  have hc := i_cut (l := l) hW (n := n) hlen
  clear ha hb hm hlen e1 e2 e3
  walk_at "mp"
  rfl
/-! ### times -/
theorem l_times {F : CallF} {W : WhileF} {A B : Sl} {z : Int} {at_ : Nat} : ∀ (b : List Int) (k : Nat) (pre rest : List Int) (u v : Sl), pre.length = at_ + k → b.length ≤ rest.length → (∀ y, y ∈ b → okMul z y = true) →
    ∃ u' v', forL (.tup [5, 6]) none (exec F W l_times_0) ((b.zipIdx k).map fun p => .tup [.int (0 + (p.2 : Int)), .int p.1]) [A, B, .own ((pre ++ rest).map .int), .val (.int (0 + (at_ : Int))), .val (.int z), u, v] = .nx [A, B, .own ((pre ++ addL rest b z).map .int), .val (.int (0 + (at_ : Int))), .val (.int z), u', v'] := by
  intro b
  induction b with
  | nil => intro k pre rest u v _ _ _; refine ⟨u, v, ?_⟩; cases rest <;> rfl
  | cons y b ih =>
    intro k pre rest u v hk hl hm
    cases rest with
    | nil => simp at hl
    | cons x rest =>
      obtain ⟨u', v', h⟩ := ih (k + 1) (pre ++ [x + z * y]) rest (.val (.int (0 + (k : Int)))) (.val (.int y)) (by simp [hk]; omega) (by simpa using hl) (fun z hz => hm z (List.mem_cons_of_mem _ hz))
      refine ⟨u', v', ?_⟩
      simp only [List.zipIdx_cons, List.map_cons, forL, gOk_none, if_true, l_times_0]
      have hg : getI ((pre ++ x :: rest).map .int) (0 + (at_ : Int) + (0 + (k : Int))) = some (.int x) := by
        rw [getI_ofNat (m := at_ + k) (by omega) (by simp; omega), List.map_append, List.map_cons, get_mid (by simpa using hk)]
      have hx : ixN ((pre ++ x :: rest).map Dv.int).length (0 + (at_ : Int) + (0 + (k : Int))) = some (at_ + k) := by
        rw [show (0 + (at_ : Int) + (0 + (k : Int))) = ((at_ + k : Nat) : Int) by omega]; exact ixN_nat (by simp; omega)
      have hmy : okMul z y = true := hm y List.mem_cons_self
      have ha := fun r1 : Ro => q_axK (i := 2) (r1 := r1) (r := [A, B, .own ((pre ++ x :: rest).map .int), .val (.int (0 + (at_ : Int))), .val (.int z), .val (.int (0 + (k : Int))), .val (.int y)]) (op := .add) (a := x) (b := z * y) (v := x + z * y) hg rfl rfl hx
      have hs : ((pre ++ x :: rest).map Dv.int).set (at_ + k) (.int (x + z * y)) = (pre ++ (x + z * y) :: rest).map .int := by
        rw [List.map_append, List.map_cons, set_mid (by simpa using hk), List.map_append, List.map_cons]
      simp only [hs] at ha
      have e : (pre ++ [x + z * y]) ++ rest = pre ++ (x + z * y) :: rest := by simp
      rw [e] at h
      clear ih hl hm hg hx hs
      walk_at "mp"
      have e2 : pre ++ addL (x :: rest) (y :: b) z = pre ++ [x + z * y] ++ addL rest b z := by simp [addL]
      rw [e2]
      exact h
theorem enum_int (xs : List Int) : enumD 0 (xs.map .int) = (xs.zipIdx 0).map fun p => .tup [.int (0 + (p.2 : Int)), .int p.1] := by
  rw [enumD_map, List.zipIdx_map, List.map_map]; rfl
theorem l_times2 {F : CallF} {W : WhileF} {A : Sl} {b : List Int} : ∀ (one : List Int) (k : Nat) (pre rest : List Int) (s3 s4 s5 s6 : Sl), pre.length = k → one.length + b.length ≤ rest.length → (∀ x, x ∈ one → ∀ y, y ∈ b → okMul x y = true) →
    ∃ s3' s4' s5' s6', forL (.tup [3, 4]) none (exec F W l_times_1) ((one.zipIdx k).map fun p => .tup [.int (0 + (p.2 : Int)), .int p.1]) [A, .val (ip b), .own ((pre ++ rest).map .int), s3, s4, s5, s6] = .nx [A, .val (ip b), .own ((pre ++ mulA rest one b).map .int), s3', s4', s5', s6'] := by
  intro one
  induction one with
  | nil => intro k pre rest s3 s4 s5 s6 _ _ _; exact ⟨s3, s4, s5, s6, rfl⟩
  | cons z one ih =>
    intro k pre rest s3 s4 s5 s6 hk hl hm
    obtain ⟨u', v', h1⟩ := l_times (W := W) (F := F) (A := A) (B := .val (ip b)) (z := z) (at_ := k) b 0 pre rest s5 s6 (by omega) (by omega) (hm z List.mem_cons_self)
    have hlen : (addL rest b z).length = rest.length := addL_len (by omega)
    cases hr : addL rest b z with
    | nil => rw [hr] at hlen; simp at hlen hl; omega
    | cons h t =>
      rw [hr] at h1 hlen
      obtain ⟨s3', s4', s5', s6', h2⟩ := ih (k + 1) (pre ++ [h]) t (.val (.int (0 + (k : Int)))) (.val (.int z)) u' v' (by simp [hk]) (by simp at hlen hl; omega) (fun x hx => hm x (List.mem_cons_of_mem _ hx))
      refine ⟨s3', s4', s5', s6', ?_⟩
      have e : (pre ++ [h]) ++ t = pre ++ h :: t := by simp
      rw [e] at h2
      simp only [List.zipIdx_cons, List.map_cons, forL, gOk_none, if_true, l_times_1, mulA, hr]
      have he := enum_int b
      clear ih hl hm hlen
      walk_at "mp"
      have e3 : pre ++ h :: mulA t one b = pre ++ [h] ++ mulA t one b := by simp
      rw [e3]
      exact h2
theorem mulA_len : ∀ {one rest b : List Int}, one.length + b.length ≤ rest.length → (mulA rest one b).length = rest.length
  | [], rest, b, _ => rfl
  | z :: one, rest, b, h => by
    have hlen : (addL rest b z).length = rest.length := addL_len (by simp at h; omega)
    cases hr : addL rest b z with
    | nil => rw [hr] at hlen; simp at hlen h; omega
    | cons x t =>
      simp only [mulA, hr]
      rw [hr] at hlen
      rw [List.length_cons, mulA_len (by simp at h hlen; omega)]
      simpa using hlen
theorem i_times {l : Tbl} {W : WhileF} (hW : WBig W) {n : Nat} {a b : List Int} (ha : a.length < 100000) (hb : b.length < 100000) (hm : ∀ x, x ∈ a → ∀ y, y ∈ b → okMul x y = true) : callN (tbL l) W (n + 2) 6 [.val (ip a), .val (ip b)] = .ok (.d (ip (timesP a b))) [] := by
  rw [callN_eq t_times rfl rfl]
  simp only [f_times, b_times]
  obtain ⟨s3, s4, s5, s6, h⟩ := l_times2 (W := W) (F := callN (tbL l) W (n + 1)) (A := .val (ip a)) (b := b) a 0 [] (List.replicate (a.length + b.length) 0) .none .none .none .none rfl (by simp) hm
  simp only [List.nil_append] at h
  have e1 : (-1000000 : Int) ≤ (a.length : Int) + b.length ∧ (a.length : Int) + b.length ≤ 1000000 ∧ [Dv.int 0].length * ((a.length : Int) + b.length).toNat ≤ 16777216 := by simp; omega
  have e4 := q_lmul e1
  have e2 : rep [Dv.int 0] ((a.length : Int) + b.length).toNat = (List.replicate (a.length + b.length) 0).map Dv.int := by rw [rep_one, List.map_replicate, show ((a.length : Int) + b.length).toNat = a.length + b.length by omega]
  rw [e2] at e4
  have hc := i_cut (l := l) hW (n := n) (p := mulA (List.replicate (a.length + b.length) 0) a b) (by rw [mulA_len (by simp)]; simp; omega)
  have he := enum_int a
  clear e1 e2 ha hb hm
  walk_at "mp"
  rfl
/-! ### power -/
theorem rng_nat (n : Nat) : rngUp 0 n = (List.range n).map fun i => .int (i : Int) := by
  rw [rngUp_eq]; apply List.map_congr_left; intro i _; simp
theorem inR_of {z : Int} (h1 : -1000000 < z) (h2 : z < 1000000) : inR z = true := by
  have a1 : -1000000000 < z := by omega
  have a2 : z < 1000000000 := by omega
  unfold inR
  rw [decide_eq_true a1, decide_eq_true a2]; rfl
theorem l_power {F : CallF} {W : WhileF} {p : List Int} {m : Nat} (ht : ∀ k, k < m → F 6 [.val (ip (powP p k)), .val (ip p)] = .ok (.d (ip (timesP (powP p k) p))) []) : ∀ (ys : List Nat) (k : Nat) (v : Sl), k + ys.length ≤ m → ∃ v', forL (.one 3) none (exec F W l_power_0) (ys.map fun i : Nat => .int (i : Int)) [.val (ip p), .val (.int m), .val (ip (powP p k)), v] = .nx [.val (ip p), .val (.int m), .val (ip (powP p (k + ys.length))), v'] := by
  intro ys
  induction ys with
  | nil => intro k v _; exact ⟨v, rfl⟩
  | cons y ys ih =>
    intro k v hk
    simp only [List.length_cons] at hk
    obtain ⟨v', h2⟩ := ih (k + 1) (.val (.int (y : Int))) (by omega)
    refine ⟨v', ?_⟩
    have e : k + (ys.length + 1) = k + 1 + ys.length := by omega
    have e2 : powP p (k + 1) = timesP (powP p k) p := rfl
    have h3 := ht k (by omega)
    have hb : exec F W l_power_0 [.val (ip p), .val (.int m), .val (ip (powP p k)), .val (.int y)] = .nx [.val (ip p), .val (.int m), .val (ip (powP p (k + 1))), .val (.int y)] := by
      rw [e2]
      clear ih hk ht e e2 h2
      simp only [l_power_0]
      walk_at "mp"
    clear ih hk e2 h3 ht
    simp only [List.map_cons, forL, gOk_none, if_true, List.length_cons, e, q_tg1, List.set_cons_zero, List.set_cons_succ, hb, h2]
theorem i_power {l : Tbl} {W : WhileF} (hW : WBig W) {n : Nat} {p : List Int} {m : Nat} (hm : m < 1000) (hp : p.length < 100) (h : ∀ k, k < m → (powP p k).length < 100000 ∧ ∀ x, x ∈ powP p k → ∀ y, y ∈ p → okMul x y = true) : callN (tbL l) W (n + 3) 7 [.val (ip p), .val (.int m)] = .ok (.d (ip (powP p m))) [] := by
  obtain ⟨v', hk⟩ := l_power (F := callN (tbL l) W (n + 2)) (W := W) (p := p) (m := m) (fun k hk => i_times (l := l) hW (n := n) (h k hk).1 (by omega) (h k hk).2) (List.range m) 0 .none (by simp)
  have hr : inR (m : Int) = true := inR_of (by omega) (by omega)
  have e1 := rng_nat m
  have e2 : ip (powP p 0) = .tup [.int 1] := rfl
  simp only [List.length_range, Nat.zero_add, e2] at hk
  have e3 : ((m : Int)).toNat = m := by omega
  clear h hm hp
  rw [callN_eq t_power rfl rfl]
  simp only [f_power, b_power]
  walk_at "mp"
end MP
set_option linter.all false
set_option Elab.async false
set_option maxRecDepth 100000
set_option maxHeartbeats 1000000
/-! I4: index, any, sorted, sets on rows of numbers. -/
namespace MP
open PySem
section
variable {F : CallF} {W : WhileF} {s : Sl} {r r1 : Ro} {e a b c : E} {es : Es} {x y t u : T} {i j k n : Nat}
def mxK (o : Option Bool) (f : Bool → Re T) : Re T := match o with
  | some k => f k
  | none => .bad
def mx2 (k : Bool) (x y : T) (r : Ro) : Re T := match y with
  | .d y => ixK k (idxT k r x y) r
  | _ => .bad
def mc2 (k : Bool) (x y : T) (r : Ro) : Re T := match y with
  | .d y => ixK k (cntT k r x y) r
  | _ => .bad
theorem q_mindex : ev F (.mindex a b) (s :: r) = Rb (ev F a (s :: r)) fun x r1 => mxK (isTupT r1 x) fun k => Rb (ev F b r1) fun y r2 => mx2 k x y r2 := by
  show idxF (ev F a) (ev F b) (s :: r) = _
  unfold idxF Rb mxK
  cases ev F a (s :: r) with
  | ok x r1 =>
    simp only [Re.bind]
    cases isTupT r1 x with
    | none => rfl
    | some k =>
      simp only
      cases ev F b r1 with
      | ok y r2 => cases y with
        | d y => simp only [mx2, ixK]; all_goals (cases idxT k r2 x y <;> rfl)
        | _ => rfl
      | _ => rfl
  | _ => rfl
theorem q_mcount : ev F (.mcount a b) (s :: r) = Rb (ev F a (s :: r)) fun x r1 => mxK (isTupT r1 x) fun k => Rb (ev F b r1) fun y r2 => mc2 k x y r2 := by
  show cntF (ev F a) (ev F b) (s :: r) = _
  unfold cntF Rb mxK
  cases ev F a (s :: r) with
  | ok x r1 =>
    simp only [Re.bind]
    cases isTupT r1 x with
    | none => rfl
    | some k =>
      simp only
      cases ev F b r1 with
      | ok y r2 => cases y with
        | d y => simp only [mc2, ixK]; all_goals (cases cntT k r2 x y <;> rfl)
        | _ => rfl
      | _ => rfl
  | _ => rfl
theorem q_itT {xs : List Dv} : isTupT r (.d (.tup xs)) = some true := rfl
theorem q_itL {xs : List Dv} : isTupT r (.d (.lv xs)) = some false := rfl
theorem q_itF {xs : List Dv} : isTupT r (.fr xs) = some false := rfl
def itK : Option Sl → Option Bool
  | some (.own _) => some false
  | _ => none
theorem q_itR : isTupT (s :: r) (.rf i) = itK (s :: r)[i]? := by
  unfold isTupT
  rw [q_vrf]
  unfold vwK itK
  cases (s :: r)[i]? with
  | none => rfl
  | some z => cases z <;> rfl
theorem q_itK {xs : List Dv} : itK (some (.own xs)) = some false := rfl
theorem q_mxK {z : Bool} {f : Bool → Re T} : mxK (some z) f = f z := rfl
theorem q_mx2 {z : Bool} {d : Dv} : mx2 z x (.d d) r = ixK z (idxT z r x d) r := rfl
theorem q_mc2 {z : Bool} {d : Dv} : mc2 z x (.d d) r = ixK z (cntT z r x d) r := rfl
theorem q_ixK {z : Bool} : ixK z (some j) r = .ok (.d (.int j)) r := rfl
theorem toPys_int : ∀ p : List Int, toPys (p.map .int) = some (p.map PyData.int)
  | [] => rfl
  | x :: p => by simp only [List.map_cons, toPys, toPy, toPys_int p]
theorem depth_int : ∀ p : List Int, PyData.depthAll (p.map PyData.int) ≤ 1
  | [] => by simp [PyData.depthAll]
  | x :: p => by simp only [List.map_cons, PyData.depthAll, PyData.depth]; have := depth_int p; omega
theorem plc_int {z : Int} : ∀ p : List Int, z ∈ p → plc (p.map PyData.int) (.int z) = some (p.idxOf z)
  | [], h => by cases h
  | x :: p, h => by
    have he : PyData.eqv (.int x) (.int z) = (x == z) := by simp only [PyData.eqv]
    rw [List.map_cons, List.idxOf_cons]
    show (if PyData.eqv (.int x) (.int z) = true then some 0 else (plc (p.map PyData.int) (.int z)).map (· + 1)) = _
    by_cases e : x = z
    · have e' : (x == z) = true := by simpa using e
      rw [if_pos (he.trans e'), e']; rfl
    · have e' : (x == z) = false := by simpa using e
      have hm : z ∈ p := by
        rcases List.mem_cons.mp h with q | q
        · exact absurd q.symm e
        · exact q
      rw [if_neg (by rw [he, e']; exact Bool.false_ne_true), e', plc_int p hm]; rfl
theorem q_idxI {p : List Int} {z : Int} (hl : p.length ≤ 16777216) (hm : z ∈ p) : idxT true r (.d (ip p)) (.int z) = some (p.idxOf z) := by
  unfold idxT itemsT
  simp only [viewT, toPy, if_true, toPys_int]
  rw [if_pos ⟨by have := depth_int p; omega, by simp [PyData.depth], by simpa [line] using hl⟩]
  exact plc_int p hm
theorem cnt_int {z : Int} : ∀ p : List Int, (p.map PyData.int).countP (fun y => PyData.eqv y (.int z)) = p.count z
  | [] => rfl
  | x :: p => by
    have he : PyData.eqv (.int x) (.int z) = (x == z) := by simp only [PyData.eqv]
    rw [List.map_cons, List.countP_cons, cnt_int p, List.count_cons, he]
theorem itI {k : Bool} {p : List Int} {x : T} {z : Int} (hx : viewT r x = some (if k then .tup (p.map .int) else .lv (p.map .int))) (hl : p.length ≤ 16777216) : itemsT k r x (.int z) = some (p.map .int, .int z) := by
  unfold itemsT
  rw [hx]
  cases k
  · simp only [toPy, Bool.false_eq_true, if_false, toPys_int]
    rw [if_pos ⟨by have := depth_int p; omega, by simp [PyData.depth], by simpa [line] using hl⟩]
  · simp only [toPy, if_true, toPys_int]
    rw [if_pos ⟨by have := depth_int p; omega, by simp [PyData.depth], by simpa [line] using hl⟩]
theorem q_cntI {k : Bool} {p : List Int} {x : T} {z : Int} (hx : viewT r x = some (if k then .tup (p.map .int) else .lv (p.map .int))) (hl : p.length ≤ 16777216) : cntT k r x (.int z) = some (p.count z) := by
  unfold cntT
  rw [itI hx hl]
  simp only [cnt_int]
theorem anyI_int : ∀ p : List Int, anyI (p.map .int) = some (p.any fun i => decide (i ≠ 0))
  | [] => rfl
  | x :: p => by simp only [List.map_cons, anyI, anyI_int p, Option.map_some, List.any_cons]
theorem q_any {p : List Int} : biT r .anyS [.d (.tup (p.map .int))] = some (.d (.bl (p.any fun i => decide (i ≠ 0)))) := by simp only [biT, anyI_int, Option.map_some]
end
/-! ### sorting -/
def insG {α : Type} (lt : α → α → Bool) (x : α) : List α → List α
  | [] => [x]
  | y :: r => if lt x y then x :: y :: r else y :: insG lt x r
def sortG {α : Type} (lt : α → α → Bool) (xs : List α) : List α := xs.foldl (fun acc x => insG lt x acc) []
theorem insD_map {α : Type} {f : α → Dv} {up : Bool} {lt : α → α → Bool} {P : α → Prop} (h : ∀ a b, P a → P b → bef up (f a) (f b) = lt a b) {x : α} (hx : P x) : ∀ {ys : List α}, (∀ y, y ∈ ys → P y) → insD up (f x) (ys.map f) = (insG lt x ys).map f
  | [], _ => rfl
  | y :: ys, hy => by
    simp only [List.map_cons, insD, insG, h x y hx (hy y List.mem_cons_self)]
    split
    · rfl
    · rw [insD_map h hx fun z hz => hy z (List.mem_cons_of_mem _ hz)]; rfl
theorem insG_perm {α : Type} {lt : α → α → Bool} {x : α} : ∀ {ys : List α}, (insG lt x ys).Perm (x :: ys)
  | [] => .refl _
  | y :: ys => by
    simp only [insG]
    split
    · exact .refl _
    · exact (insG_perm.cons y).trans (.swap x y ys)
theorem sortG_snoc {α : Type} {lt : α → α → Bool} {xs : List α} {x : α} : sortG lt (xs ++ [x]) = insG lt x (sortG lt xs) := by unfold sortG; rw [List.foldl_append]; rfl
theorem sortG_perm {α : Type} {lt : α → α → Bool} (xs : List α) : (sortG lt xs).Perm xs := by
  have : ∀ ys : List α, (sortG lt ys.reverse).Perm ys.reverse := by
    intro ys
    induction ys with
    | nil => exact .refl _
    | cons y ys ih =>
      rw [List.reverse_cons, sortG_snoc]
      exact (insG_perm.trans (ih.cons y)).trans (List.perm_append_singleton y ys.reverse).symm
  have := this xs.reverse
  rwa [List.reverse_reverse] at this
theorem sortD_map {α : Type} {f : α → Dv} {up : Bool} {lt : α → α → Bool} {P : α → Prop} (h : ∀ a b, P a → P b → bef up (f a) (f b) = lt a b) (xs : List α) (hx : ∀ x, x ∈ xs → P x) : sortD up (xs.map f) = (sortG lt xs).map f := by
  have key : ∀ (ys acc : List α), (∀ y, y ∈ ys → P y) → (∀ y, y ∈ acc → P y) → (ys.map f).foldl (fun acc x => insD up x acc) (acc.map f) = (ys.foldl (fun acc x => insG lt x acc) acc).map f := by
    intro ys
    induction ys with
    | nil => intro acc _ _; rfl
    | cons y ys ih =>
      intro acc h1 h2
      simp only [List.map_cons, List.foldl_cons]
      rw [insD_map h (h1 y List.mem_cons_self) h2]
      exact ih _ (fun z hz => h1 z (List.mem_cons_of_mem _ hz)) fun z hz => by
        rcases List.mem_cons.mp (insG_perm.mem_iff.mp hz) with e | e
        · rw [e]; exact h1 y List.mem_cons_self
        · exact h2 z e
  exact key xs [] hx fun _ h => by cases h
/-- behind an insertion into a row without descents: none still -/
theorem insG_sorted {α : Type} {lt : α → α → Bool} {P : α → Prop} (tr : ∀ a b c, P a → P b → P c → lt b a = false → lt c b = false → lt c a = false) (as : ∀ a b, P a → P b → lt a b = true → lt b a = false) {x : α} (hx : P x) : ∀ {ys : List α}, (∀ y, y ∈ ys → P y) → ys.Pairwise (fun a b => lt b a = false) → (insG lt x ys).Pairwise (fun a b => lt b a = false)
  | [], _, _ => by simp [insG]
  | y :: ys, hP, hs => by
    obtain ⟨h1, h2⟩ := List.pairwise_cons.mp hs
    have hy := hP y List.mem_cons_self
    simp only [insG]
    cases e : lt x y with
    | true =>
      simp only [if_true]
      refine List.pairwise_cons.mpr ⟨fun z hz => ?_, hs⟩
      have xy := as x y hx hy e
      rcases List.mem_cons.mp hz with q | q
      · rw [q]; exact xy
      · exact tr x y z hx hy (hP z hz) xy (h1 z q)
    | false =>
      simp only [Bool.false_eq_true, if_false]
      refine List.pairwise_cons.mpr ⟨fun z hz => ?_, insG_sorted tr as hx (fun z hz => hP z (List.mem_cons_of_mem _ hz)) h2⟩
      rcases List.mem_cons.mp (insG_perm.mem_iff.mp hz) with q | q
      · rw [q]; exact e
      · exact h1 z q
theorem sortG_sorted {α : Type} {lt : α → α → Bool} {P : α → Prop} (tr : ∀ a b c, P a → P b → P c → lt b a = false → lt c b = false → lt c a = false) (as : ∀ a b, P a → P b → lt a b = true → lt b a = false) (xs : List α) (hx : ∀ x, x ∈ xs → P x) : (sortG lt xs).Pairwise (fun a b => lt b a = false) := by
  have : ∀ ys : List α, (∀ y, y ∈ ys → P y) → (sortG lt ys.reverse).Pairwise (fun a b => lt b a = false) := by
    intro ys
    induction ys with
    | nil => intro _; exact .nil
    | cons y ys ih =>
      intro h
      rw [List.reverse_cons, sortG_snoc]
      exact insG_sorted tr as (h y List.mem_cons_self) (fun z hz => h z (List.mem_cons_of_mem _ (List.mem_reverse.mp ((sortG_perm _).mem_iff.mp hz)))) (ih fun z hz => h z (List.mem_cons_of_mem _ hz))
  have := this xs.reverse fun y hy => hx y (List.mem_reverse.mp hy)
  rwa [List.reverse_reverse] at this
def lexI : List Int → List Int → Bool
  | [], _ :: _ => true
  | a :: x, b :: y => decide (a < b) || (decide (a = b) && lexI x y)
  | _, _ => false
theorem lexD_int : ∀ a b : List Int, lexD (a.map .int) (b.map .int) = lexI a b
  | [], [] => rfl
  | [], _ :: _ => rfl
  | _ :: _, [] => rfl
  | x :: a, y :: b => by simp only [List.map_cons, lexD, lexI, lexD_int a b]
theorem lexI_tr : ∀ a b c : List Int, a.length = b.length → b.length = c.length → lexI b a = false → lexI c b = false → lexI c a = false
  | [], [], [], _, _, _, _ => rfl
  | x :: a, y :: b, z :: c, h1, h2, h3, h4 => by
    simp only [lexI, Bool.or_eq_false_iff, Bool.and_eq_false_iff, decide_eq_false_iff_not] at h3 h4 ⊢
    have ih := lexI_tr a b c (by simpa using h1) (by simpa using h2)
    refine ⟨by omega, ?_⟩
    by_cases e : z = x
    · right
      have e1 : y = x := by omega
      have e2 : z = y := by omega
      exact ih (h3.2.resolve_left (fun h => h e1)) (h4.2.resolve_left (fun h => h e2))
    · left; exact e
  | [], _ :: _, _, h, _, _, _ => by simp at h
  | _ :: _, [], _, h, _, _, _ => by simp at h
  | _, [], _ :: _, _, h, _, _ => by simp at h
  | _, _ :: _, [], _, h, _, _ => by simp at h
theorem lexI_as : ∀ a b : List Int, lexI a b = true → lexI b a = false
  | [], [], h => by cases h
  | [], _ :: _, _ => rfl
  | _ :: _, [], h => by cases h
  | x :: a, y :: b, h => by
    simp only [lexI, Bool.or_eq_true, Bool.and_eq_true, decide_eq_true_eq] at h
    simp only [lexI, Bool.or_eq_false_iff, Bool.and_eq_false_iff, decide_eq_false_iff_not]
    rcases h with h | ⟨h1, h2⟩
    · exact ⟨by omega, .inl (by omega)⟩
    · exact ⟨by omega, .inr (lexI_as a b h2)⟩
theorem lexI_anti : ∀ a b : List Int, a.length = b.length → lexI a b = false → lexI b a = false → a = b
  | [], [], _, _, _ => rfl
  | [], _ :: _, h, _, _ => by simp at h
  | _ :: _, [], h, _, _ => by simp at h
  | x :: a, y :: b, h, h1, h2 => by
    simp only [lexI, Bool.or_eq_false_iff, Bool.and_eq_false_iff, decide_eq_false_iff_not] at h1 h2
    have e : x = y := by omega
    rw [e, lexI_anti a b (by simpa using h) (h1.2.resolve_left (fun h => h e)) (h2.2.resolve_left (fun h => h e.symm))]
theorem flatI_int : ∀ p : List Int, flatI (p.map .int) = true
  | [] => rfl
  | x :: p => by simp only [List.map_cons, flatI, flatI_int p]
theorem flatT_ip {p : List Int} (h : p ≠ []) : flatT (ip p) = true := by
  cases p with
  | nil => exact absurd rfl h
  | cons x p => simp only [ip, List.map_cons, flatT, flatI_int]
theorem q_sortT {r : Ro} {t : T} {up : Bool} {xs : List Dv} (h : lstT r t = some xs) (hf : xs.all flatT = true) : biT r (.sortedL up) [t] = some (.fr (sortD up xs)) := by
  simp only [biT, h, hf, Bool.true_or, if_true]
theorem intsOf_int : ∀ p : List Int, intsOf (p.map .int) = some p
  | [] => rfl
  | x :: p => by simp only [List.map_cons, intsOf, intsOf_int p, Option.map_some]
theorem q_sortI {r : Ro} {t : T} {up : Bool} {p : List Int} (h : lstT r t = some (p.map .int)) : biT r (.sortedL up) [t] = some (.fr (sortD up (p.map .int))) := by
  simp only [biT, h, intsOf_int, Option.isSome_some, Bool.or_true, if_true]
/-! ### sets -/
theorem any_beq_iff {x : Dv} {l : List Dv} : l.any (Dv.beq x) = true ↔ x ∈ l := by
  rw [List.any_eq_true]
  constructor
  · rintro ⟨y, h1, h2⟩; rw [Dv.beq_eq _ _ h2]; exact h1
  · intro h; exact ⟨x, h, Dv.beq_self x⟩
theorem distinct_len : ∀ xs : List Dv, (distinct xs).length ≤ xs.length ∧ ((distinct xs).length = xs.length ↔ xs.Nodup)
  | [] => ⟨Nat.le_refl _, by simp [distinct]⟩
  | x :: xs => by
    obtain ⟨h1, h2⟩ := distinct_len xs
    simp only [distinct]
    by_cases h : xs.any (Dv.beq x) = true
    · rw [if_pos h]
      have hm := any_beq_iff.mp h
      refine ⟨by simp; omega, ⟨fun e => by simp at e; omega, fun e => ?_⟩⟩
      exact absurd hm (List.nodup_cons.mp e).1
    · rw [if_neg h]
      have hm : x ∉ xs := fun z => h (any_beq_iff.mpr z)
      rw [List.length_cons, List.length_cons, List.nodup_cons]
      refine ⟨by omega, ⟨fun e => ⟨hm, h2.mp (by omega)⟩, fun e => ?_⟩⟩
      rw [h2.mpr e.2]
theorem q_lenSet {r : Ro} {t : T} {xs : List Dv} (h : lstT r t = some xs) (hf : xs.all flatT = true) (hl : xs.length < 64) : biT r .lenSet [t] = some (.d (.int (distinct xs).length)) := by
  simp only [biT, h, hf, decide_eq_true hl, Bool.and_self, if_true]
end MP
set_option linter.all false
namespace Bv
abbrev BV := List Bool
def bit (v : BV) (i : Nat) : Bool := v[i]?.getD false
def xr (a b : BV) : BV := List.zipWith (fun x y => x ^^ y) a b
def zer (n : Nat) : BV := List.replicate n false
def fi (v : BV) : Nat := v.idxOf true
def words (n : Nat) (R : List BV) : List BV := R.foldl (fun f r => f ++ f.map (xr · r)) [zer n]
theorem snoc_ind {α : Type} {P : List α → Prop} (h0 : P []) (h1 : ∀ l a, P l → P (l ++ [a])) (l : List α) : P l := by
  have : ∀ k : List α, P k.reverse := by
    intro k
    induction k with
    | nil => exact h0
    | cons a k ih => rw [List.reverse_cons]; exact h1 _ _ ih
  have := this l.reverse
  rwa [List.reverse_reverse] at this
theorem ext {n : Nat} {a b : BV} (ha : a.length = n) (hb : b.length = n) (h : ∀ i, i < n → bit a i = bit b i) : a = b := by
  apply List.ext_getElem (by omega)
  intro i h1 h2
  have := h i (by omega)
  unfold bit at this
  rw [List.getElem?_eq_getElem h1, List.getElem?_eq_getElem h2] at this
  simpa using this
theorem bit_out {v : BV} {i : Nat} (h : v.length ≤ i) : bit v i = false := by
  unfold bit; rw [List.getElem?_eq_none h]; rfl
theorem xr_len {n : Nat} {a b : BV} (ha : a.length = n) (hb : b.length = n) : (xr a b).length = n := by
  unfold xr; simp [ha, hb]
theorem bit_xr {n : Nat} {a b : BV} (ha : a.length = n) (hb : b.length = n) (i : Nat) : bit (xr a b) i = (bit a i ^^ bit b i) := by
  unfold bit xr
  rw [List.getElem?_zipWith]
  by_cases h : i < n
  · rw [List.getElem?_eq_getElem (by omega), List.getElem?_eq_getElem (by omega)]; rfl
  · rw [List.getElem?_eq_none (by omega), List.getElem?_eq_none (by omega)]; rfl
theorem zer_len {n : Nat} : (zer n).length = n := by simp [zer]
theorem bit_zer {n i : Nat} : bit (zer n) i = false := by
  unfold bit zer
  rw [List.getElem?_replicate]
  split <;> rfl
theorem xr_self {n : Nat} {a : BV} (ha : a.length = n) : xr a a = zer n := ext (xr_len ha ha) zer_len fun i _ => by rw [bit_xr ha ha, bit_zer]; simp
theorem xr_zer {n : Nat} {a : BV} (ha : a.length = n) : xr a (zer n) = a := ext (xr_len ha zer_len) ha fun i _ => by rw [bit_xr ha zer_len, bit_zer]; simp
theorem zer_xr {n : Nat} {a : BV} (ha : a.length = n) : xr (zer n) a = a := ext (xr_len zer_len ha) ha fun i _ => by rw [bit_xr zer_len ha, bit_zer]; simp
theorem xr_comm {n : Nat} {a b : BV} (ha : a.length = n) (hb : b.length = n) : xr a b = xr b a := ext (xr_len ha hb) (xr_len hb ha) fun i _ => by rw [bit_xr ha hb, bit_xr hb ha, Bool.xor_comm]
theorem xr_assoc {n : Nat} {a b c : BV} (ha : a.length = n) (hb : b.length = n) (hc : c.length = n) : xr (xr a b) c = xr a (xr b c) :=
  ext (xr_len (xr_len ha hb) hc) (xr_len ha (xr_len hb hc)) fun i _ => by rw [bit_xr (xr_len ha hb) hc, bit_xr ha hb, bit_xr ha (xr_len hb hc), bit_xr hb hc, Bool.xor_assoc]
theorem xr_back {n : Nat} {a b : BV} (ha : a.length = n) (hb : b.length = n) : xr (xr a b) b = a := by rw [xr_assoc ha hb hb, xr_self hb, xr_zer ha]

/-! ### spans -/
theorem words_nil {n : Nat} : words n [] = [zer n] := rfl
theorem words_snoc {n : Nat} {R : List BV} {r : BV} : words n (R ++ [r]) = words n R ++ (words n R).map (xr · r) := by
  unfold words; rw [List.foldl_append]; rfl
theorem mem_snoc {n : Nat} {R : List BV} {r v : BV} : v ∈ words n (R ++ [r]) ↔ v ∈ words n R ∨ ∃ u, u ∈ words n R ∧ xr u r = v := by
  rw [words_snoc, List.mem_append, List.mem_map]
def Wd (n : Nat) (R : List BV) : Prop := ∀ r, r ∈ R → r.length = n
theorem Wd.left {n : Nat} {R S : List BV} (h : Wd n (R ++ S)) : Wd n R := fun r hr => h r (List.mem_append_left _ hr)
theorem Wd.last {n : Nat} {R : List BV} {r : BV} (h : Wd n (R ++ [r])) : r.length = n := h r (by simp)
theorem Wd.snoc {n : Nat} {R : List BV} {r : BV} (h : Wd n R) (k : r.length = n) : Wd n (R ++ [r]) := fun x hx => by
  rcases List.mem_append.mp hx with z | z
  · exact h x z
  · simp at z; rw [z]; exact k
theorem words_len {n : Nat} : ∀ {R : List BV}, Wd n R → ∀ v, v ∈ words n R → v.length = n := by
  intro R
  induction R using snoc_ind with
  | h0 => intro _ v hv; simp [words_nil] at hv; rw [hv]; exact zer_len
  | h1 R r ih =>
    intro h v hv
    rcases mem_snoc.mp hv with z | ⟨u, z, rfl⟩
    · exact ih h.left v z
    · exact xr_len (ih h.left u z) h.last
theorem words_zero {n : Nat} : ∀ {R : List BV}, zer n ∈ words n R := by
  intro R
  induction R using snoc_ind with
  | h0 => simp [words_nil]
  | h1 R r ih => exact mem_snoc.mpr (.inl ih)
theorem words_size {n : Nat} : ∀ {R : List BV}, (words n R).length = 2 ^ R.length := by
  intro R
  induction R using snoc_ind with
  | h0 => rfl
  | h1 R r ih => rw [words_snoc]; simp [ih, Nat.pow_succ]; omega
theorem words_add {n : Nat} : ∀ {R : List BV}, Wd n R → ∀ u v, u ∈ words n R → v ∈ words n R → xr u v ∈ words n R := by
  intro R
  induction R using snoc_ind with
  | h0 => intro _ u v hu hv; simp [words_nil] at hu hv ⊢; rw [hu, hv]; exact xr_zer zer_len
  | h1 R r ih =>
    intro h u v hu hv
    have lr := h.last
    have W := words_len h.left
    rcases mem_snoc.mp hu with z | ⟨a, z, rfl⟩ <;> rcases mem_snoc.mp hv with y | ⟨b, y, rfl⟩
    · exact mem_snoc.mpr (.inl (ih h.left u v z y))
    · refine mem_snoc.mpr (.inr ⟨xr u b, ih h.left u b z y, xr_assoc (W u z) (W b y) lr⟩)
    · refine mem_snoc.mpr (.inr ⟨xr a v, ih h.left a v z y, ?_⟩)
      rw [xr_assoc (W a z) (W v y) lr, xr_comm (W v y) lr, ← xr_assoc (W a z) lr (W v y)]
    · refine mem_snoc.mpr (.inl ?_)
      have e : xr (xr a r) (xr b r) = xr a b := by
        rw [xr_comm (W b y) lr, ← xr_assoc (xr_len (W a z) lr) lr (W b y), xr_back (W a z) lr]
      rw [e]; exact ih h.left a b z y
theorem words_gen {n : Nat} : ∀ {R : List BV}, Wd n R → ∀ r, r ∈ R → r ∈ words n R := by
  intro R
  induction R using snoc_ind with
  | h0 => intro _ r hr; simp at hr
  | h1 R a ih =>
    intro h r hr
    rcases List.mem_append.mp hr with z | z
    · exact mem_snoc.mpr (.inl (ih h.left r z))
    · simp at z; subst z
      exact mem_snoc.mpr (.inr ⟨zer n, words_zero, zer_xr h.last⟩)
theorem words_sub {n : Nat} {S : List BV} (hS : Wd n S) : ∀ {R : List BV}, (∀ r, r ∈ R → r ∈ words n S) → ∀ v, v ∈ words n R → v ∈ words n S := by
  intro R
  induction R using snoc_ind with
  | h0 => intro _ v hv; simp [words_nil] at hv; rw [hv]; exact words_zero
  | h1 R a ih =>
    intro h v hv
    have ih := ih fun r hr => h r (List.mem_append_left _ hr)
    rcases mem_snoc.mp hv with z | ⟨u, z, rfl⟩
    · exact ih v z
    · exact words_add hS _ _ (ih u z) (h a (by simp))
theorem words_perm {n : Nat} {R S : List BV} (hR : Wd n R) (p : R.Perm S) (v : BV) : v ∈ words n R ↔ v ∈ words n S := by
  have hS : Wd n S := fun r hr => hR r (p.mem_iff.mpr hr)
  exact ⟨words_sub hS (fun r hr => words_gen hS r (p.mem_iff.mp hr)) v, words_sub hR (fun r hr => words_gen hR r (p.mem_iff.mpr hr)) v⟩
theorem nodup_snoc {n : Nat} {R : List BV} {r : BV} (h : Wd n (R ++ [r])) : (words n (R ++ [r])).Nodup ↔ (words n R).Nodup ∧ r ∉ words n R := by
  have lr := h.last
  have W := words_len h.left
  rw [words_snoc, List.nodup_append]
  constructor
  · rintro ⟨h1, h2, h3⟩
    refine ⟨h1, fun z => ?_⟩
    refine h3 (zer n) words_zero (zer n) ?_ rfl
    rw [List.mem_map]; exact ⟨r, z, xr_self lr⟩
  · rintro ⟨h1, h2⟩
    refine ⟨h1, ?_, ?_⟩
    · refine List.Pairwise.map _ (R := fun a b : BV => a ∈ words n R ∧ b ∈ words n R ∧ a ≠ b) ?_ ?_
      · rintro a b ⟨ha, hb, hn⟩ e
        apply hn
        have := congrArg (xr · r) e
        simp only [xr_back (W a ha) lr, xr_back (W b hb) lr] at this
        exact this
      · exact List.Pairwise.imp_of_mem (fun {a b} ha hb hn => ⟨ha, hb, hn⟩) h1
    · intro a ha b hb e
      rw [List.mem_map] at hb
      obtain ⟨c, hc, rfl⟩ := hb
      apply h2
      have : r = xr c a := by
        rw [e, ← xr_assoc (W c hc) (W c hc) lr, xr_self (W c hc), zer_xr lr]
      rw [this]
      exact words_add h.left _ _ hc ha
/-! ### the first 1 -/
theorem fi_spec {v : BV} (h : true ∈ v) : bit v (fi v) = true ∧ fi v < v.length ∧ ∀ j, j < fi v → bit v j = false := by
  have hl : fi v < v.length := List.idxOf_lt_length_iff.mpr h
  refine ⟨?_, hl, fun j hj => ?_⟩
  · unfold bit; rw [List.getElem?_eq_getElem hl]
    have := List.getElem_idxOf hl
    unfold fi; simpa using this
  · have hlt : j < v.length := by omega
    unfold bit
    rw [List.getElem?_eq_getElem hlt]
    have := List.not_of_lt_findIdx (p := (· == true)) (xs := v) (i := j) hj
    simpa using this
theorem mem_of_bit {v : BV} {k : Nat} (h : bit v k = true) : true ∈ v := by
  unfold bit at h
  cases e : v[k]? with
  | none => rw [e] at h; cases h
  | some b => rw [e] at h; have h : b = true := h; rw [← h]; exact List.mem_of_getElem? e
theorem fi_eq {v : BV} {k : Nat} (h : bit v k = true) (hj : ∀ j, j < k → bit v j = false) : fi v = k := by
  have hm := mem_of_bit h
  obtain ⟨h1, h2, h3⟩ := fi_spec hm
  rcases Nat.lt_trichotomy (fi v) k with z | z | z
  · rw [hj _ z] at h1; cases h1
  · exact z
  · rw [h3 _ z] at h; cases h
theorem zer_of_not {n : Nat} {v : BV} (hl : v.length = n) (h : ¬ true ∈ v) : v = zer n := ext hl zer_len fun i _ => by
  rw [bit_zer]
  cases e : bit v i with
  | false => rfl
  | true => exact absurd (mem_of_bit e) h
/-! ### reduced rows -/
def Cl (f g : BV) : Prop := bit f (fi g) = false ∧ bit g (fi f) = false
structure Red (n : Nat) (F : List BV) : Prop where
  wd : Wd n F
  nz : ∀ f, f ∈ F → true ∈ f
  cl : F.Pairwise Cl
theorem Cl.symm {f g : BV} (h : Cl f g) : Cl g f := ⟨h.2, h.1⟩
theorem Red.left {n : Nat} {F : List BV} {r : BV} (h : Red n (F ++ [r])) : Red n F ∧ r.length = n ∧ true ∈ r ∧ ∀ f, f ∈ F → Cl f r := by
  have := List.pairwise_append.mp h.cl
  exact ⟨⟨h.wd.left, fun f hf => h.nz f (List.mem_append_left _ hf), this.1⟩, h.wd.last, h.nz r (by simp), fun f hf => this.2.2 f hf r (by simp)⟩
theorem Red.perm {n : Nat} {F G : List BV} (h : Red n F) (p : F.Perm G) : Red n G :=
  ⟨fun f hf => h.wd f (p.mem_iff.mpr hf), fun f hf => h.nz f (p.mem_iff.mpr hf), (p.pairwise_iff fun {_ _} h => Cl.symm h).mp h.cl⟩
theorem words_bit {n j : Nat} : ∀ {F : List BV}, Wd n F → (∀ f, f ∈ F → bit f j = false) → ∀ u, u ∈ words n F → bit u j = false := by
  intro F
  induction F using snoc_ind with
  | h0 => intro _ _ u hu; simp [words_nil] at hu; rw [hu]; exact bit_zer
  | h1 F r ih =>
    intro h hb u hu
    have ih := ih h.left fun f hf => hb f (List.mem_append_left _ hf)
    rcases mem_snoc.mp hu with z | ⟨a, z, rfl⟩
    · exact ih u z
    · rw [bit_xr (words_len h.left a z) h.last, ih a z, hb r (by simp)]; rfl
theorem Red.nodup {n : Nat} : ∀ {F : List BV}, Red n F → (words n F).Nodup := by
  intro F
  induction F using snoc_ind with
  | h0 => intro _; simp [words_nil]
  | h1 F r ih =>
    intro h
    obtain ⟨h1, h2, h3, h4⟩ := h.left
    refine (nodup_snoc h.wd).mpr ⟨ih h1, fun z => ?_⟩
    have := words_bit h1.wd (fun f hf => (h4 f hf).1) r z
    rw [(fi_spec h3).1] at this; cases this
theorem Red.zero {n : Nat} : ∀ {F : List BV}, Red n F → ∀ v, v ∈ words n F → (∀ f, f ∈ F → bit v (fi f) = false) → v = zer n := by
  intro F
  induction F using snoc_ind with
  | h0 => intro _ v hv _; simpa [words_nil] using hv
  | h1 F r ih =>
    intro h v hv hb
    obtain ⟨h1, h2, h3, h4⟩ := h.left
    rcases mem_snoc.mp hv with z | ⟨u, z, rfl⟩
    · exact ih h1 v z fun f hf => hb f (List.mem_append_left _ hf)
    · exfalso
      have := hb r (by simp)
      rw [bit_xr (words_len h1.wd u z) h2, words_bit h1.wd (fun f hf => (h4 f hf).1) u z, (fi_spec h3).1] at this
      cases this
/-- a row, with the leads' places cleared -/
def clear (F : List BV) (r : BV) : BV := F.foldl (fun r f => if bit r (fi f) then xr r f else r) r
theorem clear_ok {n : Nat} {G : List BV} (hG : Wd n G) : ∀ {F P : List BV} {r : BV}, Red n (P ++ F) → r.length = n → (∀ f, f ∈ P → bit r (fi f) = false) → (∀ f, f ∈ F → f ∈ words n G) →
    (clear F r).length = n ∧ (∀ f, f ∈ P ++ F → bit (clear F r) (fi f) = false) ∧ xr r (clear F r) ∈ words n G
  | [], P, r, h, hl, hb, _ => ⟨hl, by simpa [clear] using hb, by show xr r r ∈ _; rw [xr_self hl]; exact words_zero⟩
  | f :: F, P, r, h, hl, hb, hg => by
    have hf : f.length = n := h.wd f (by simp)
    have e : P ++ f :: F = (P ++ [f]) ++ F := by simp
    have hcl : ∀ g, g ∈ P → Cl g f := fun g hg => (List.pairwise_append.mp h.cl).2.2 g hg f (by simp)
    have hnz := (fi_spec (h.nz f (by simp))).1
    rw [e] at h ⊢
    have hs : clear (f :: F) r = clear F (if bit r (fi f) then xr r f else r) := rfl
    rw [hs]
    have hl1 : (if bit r (fi f) then xr r f else r).length = n := by split; exact xr_len hl hf; exact hl
    have hb1 : ∀ g, g ∈ P ++ [f] → bit (if bit r (fi f) then xr r f else r) (fi g) = false := by
      intro g hg
      rcases List.mem_append.mp hg with z | z
      · split
        · rw [bit_xr hl hf, hb g z, (hcl g z).2]; rfl
        · exact hb g z
      · simp at z; subst z
        split
        · rename_i q; rw [bit_xr hl hf, q, hnz]; rfl
        · rename_i q; simpa using q
    obtain ⟨k1, k2, k3⟩ := clear_ok hG (F := F) (P := P ++ [f]) (r := if bit r (fi f) then xr r f else r) h hl1 hb1 fun g hg' => hg g (List.mem_cons_of_mem _ hg')
    refine ⟨k1, k2, ?_⟩
    generalize clear F (if bit r (fi f) then xr r f else r) = c at *
    split at k3
    · have : xr r c = xr f (xr (xr r f) c) := by
        rw [xr_comm hl hf, xr_assoc hf hl k1, ← xr_assoc hf hf (xr_len hl k1), xr_self hf, zer_xr (xr_len hl k1)]
      rw [this]
      exact words_add hG _ _ (hg f (by simp)) k3
    · exact k3
/-- one more row -/
def put (F : List BV) (r : BV) : List BV := F.map (fun f => if bit f (fi r) then xr f r else f) ++ [r]
def stepRow (F : List BV) (r : BV) : List BV := if true ∈ clear F r then put F (clear F r) else F
theorem put_ok {n : Nat} {F : List BV} {r : BV} (h : Red n F) (hl : r.length = n) (hn : true ∈ r) (hb : ∀ f, f ∈ F → bit r (fi f) = false) : Red n (put F r) := by
  obtain ⟨r1, r2, r3⟩ := fi_spec hn
  have key : ∀ f, f ∈ F → (if bit f (fi r) then xr f r else f).length = n ∧ fi (if bit f (fi r) then xr f r else f) = fi f ∧ bit (if bit f (fi r) then xr f r else f) (fi f) = true ∧ bit (if bit f (fi r) then xr f r else f) (fi r) = false ∧ ∀ j, bit r j = false → bit (if bit f (fi r) then xr f r else f) j = bit f j := by
    intro f hf
    have fl := h.wd f hf
    obtain ⟨f1, f2, f3⟩ := fi_spec (h.nz f hf)
    split
    · rename_i q
      have lt : fi f < fi r := by
        rcases Nat.lt_trichotomy (fi f) (fi r) with z | z | z
        · exact z
        · rw [← z, hb f hf] at r1; cases r1
        · rw [f3 _ z] at q; cases q
      have b1 : bit (xr f r) (fi f) = true := by rw [bit_xr fl hl, f1, hb f hf]; rfl
      refine ⟨xr_len fl hl, fi_eq b1 fun j hj => ?_, b1, ?_, fun j hj => ?_⟩
      · rw [bit_xr fl hl, f3 j hj, r3 j (by omega)]; rfl
      · rw [bit_xr fl hl, q, r1]; rfl
      · rw [bit_xr fl hl, hj]; simp
    · rename_i q
      exact ⟨fl, rfl, f1, by simpa using q, fun j _ => rfl⟩
  refine ⟨fun g hg => ?_, fun g hg => ?_, ?_⟩
  · rcases List.mem_append.mp hg with z | z
    · obtain ⟨f, hf, rfl⟩ := List.mem_map.mp z; exact (key f hf).1
    · simp at z; rw [z]; exact hl
  · rcases List.mem_append.mp hg with z | z
    · obtain ⟨f, hf, rfl⟩ := List.mem_map.mp z; exact mem_of_bit (key f hf).2.2.1
    · simp at z; rw [z]; exact hn
  · refine List.pairwise_append.mpr ⟨?_, by simp, fun g hg x hx => ?_⟩
    · refine List.Pairwise.map _ (R := fun a b : BV => a ∈ F ∧ b ∈ F ∧ Cl a b) ?_ (List.Pairwise.imp_of_mem (fun {a b} ha hb hn => ⟨ha, hb, hn⟩) h.cl)
      rintro a b ⟨ha, hb', hc⟩
      obtain ⟨a1, a2, a3, a4, a5⟩ := key a ha
      obtain ⟨b1, b2, b3, b4, b5⟩ := key b hb'
      refine ⟨?_, ?_⟩
      · rw [b2, a5 _ (hb b hb')]; exact hc.1
      · rw [a2, b5 _ (hb a ha)]; exact hc.2
    · simp at hx; subst hx
      obtain ⟨f, hf, rfl⟩ := List.mem_map.mp hg
      obtain ⟨a1, a2, a3, a4, a5⟩ := key f hf
      exact ⟨a4, by rw [a2]; exact hb f hf⟩
def stepAll (R : List BV) : List BV := R.foldl stepRow []
theorem stepAll_snoc {R : List BV} {r : BV} : stepAll (R ++ [r]) = stepRow (stepAll R) r := by unfold stepAll; rw [List.foldl_append]; rfl
theorem stepRow_ok {n : Nat} {F : List BV} {r : BV} (h : Red n F) (hl : r.length = n) :
    Red n (stepRow F r) ∧ (∀ v, v ∈ words n (stepRow F r) ↔ v ∈ words n (F ++ [r])) ∧ ((r ∈ words n F ∧ (stepRow F r).length = F.length) ∨ (r ∉ words n F ∧ (stepRow F r).length = F.length + 1)) := by
  obtain ⟨c1, c2, c3⟩ := clear_ok (G := F) h.wd (F := F) (P := []) (r := r) (by simpa using h) hl (fun f hf => by cases hf) fun f hf => words_gen h.wd f hf
  have c2 : ∀ f, f ∈ F → bit (clear F r) (fi f) = false := by simpa using c2
  have W := words_len h.wd
  have er : r = xr (xr r (clear F r)) (clear F r) := by rw [xr_back hl c1]
  have ec : clear F r = xr (xr r (clear F r)) r := by rw [xr_comm (xr_len hl c1) hl, ← xr_assoc hl hl c1, xr_self hl, zer_xr c1]
  have wd' : Wd n (F ++ [r]) := h.wd.snoc hl
  unfold stepRow
  split
  · rename_i hn
    have R1 := put_ok h c1 hn c2
    refine ⟨R1, fun v => ⟨words_sub wd' (fun g hg => ?_) v, words_sub R1.wd (fun g hg => ?_) v⟩, .inr ⟨fun z => ?_, by simp [put]⟩⟩
    · have hc : clear F r ∈ words n (F ++ [r]) := by
        rw [ec]; exact words_add wd' _ _ (mem_snoc.mpr (.inl c3)) (words_gen wd' r (by simp))
      rcases List.mem_append.mp hg with z | z
      · obtain ⟨f, hf, rfl⟩ := List.mem_map.mp z
        have : f ∈ words n (F ++ [r]) := words_gen wd' f (by simp [hf])
        split
        · exact words_add wd' _ _ this hc
        · exact this
      · simp at z; rw [z]; exact hc
    · have hc : clear F r ∈ words n (put F (clear F r)) := words_gen R1.wd _ (by simp [put])
      have hF : ∀ f, f ∈ F → f ∈ words n (put F (clear F r)) := by
        intro f hf
        have hm : (if bit f (fi (clear F r)) then xr f (clear F r) else f) ∈ words n (put F (clear F r)) := words_gen R1.wd _ (List.mem_append_left _ (List.mem_map.mpr ⟨f, hf, rfl⟩))
        split at hm
        · have := words_add R1.wd _ _ hm hc
          rwa [xr_back (h.wd f hf) c1] at this
        · exact hm
      rcases List.mem_append.mp hg with z | z
      · exact hF g z
      · simp at z; rw [z]
        have q := words_add R1.wd _ _ (words_sub R1.wd hF _ c3) hc
        rw [xr_back hl c1] at q; exact q
    · have : clear F r = zer n := h.zero _ (by rw [ec]; exact words_add h.wd _ _ c3 z) c2
      rw [this] at hn
      simp [zer] at hn
  · rename_i hn
    have hz : clear F r = zer n := zer_of_not c1 hn
    have hr : r ∈ words n F := by rw [hz, xr_zer hl] at c3; exact c3
    refine ⟨h, fun v => ⟨fun z => mem_snoc.mpr (.inl z), words_sub h.wd (fun g hg => ?_) v⟩, .inl ⟨hr, rfl⟩⟩
    rcases List.mem_append.mp hg with z | z
    · exact words_gen h.wd g z
    · simp at z; rw [z]; exact hr
theorem stepAll_ok {n : Nat} : ∀ {R : List BV}, Wd n R → Red n (stepAll R) ∧ (∀ v, v ∈ words n (stepAll R) ↔ v ∈ words n R) ∧ (stepAll R).length ≤ R.length ∧ ((stepAll R).length = R.length ↔ (words n R).Nodup) := by
  intro R
  induction R using snoc_ind with
  | h0 => intro _; exact ⟨⟨fun f hf => (by cases hf), fun f hf => (by cases hf), .nil⟩, fun v => .rfl, Nat.le_refl _, by simp [stepAll, words_nil]⟩
  | h1 R r ih =>
    intro h
    obtain ⟨i1, i2, i3, i4⟩ := ih h.left
    rw [stepAll_snoc]
    obtain ⟨k1, k2, k3⟩ := stepRow_ok i1 h.last
    have sub : ∀ v, v ∈ words n (stepAll R ++ [r]) ↔ v ∈ words n (R ++ [r]) := fun v => by
      rw [mem_snoc, mem_snoc]
      constructor
      · rintro (z | ⟨u, z, e⟩)
        · exact .inl ((i2 v).mp z)
        · exact .inr ⟨u, (i2 u).mp z, e⟩
      · rintro (z | ⟨u, z, e⟩)
        · exact .inl ((i2 v).mpr z)
        · exact .inr ⟨u, (i2 u).mpr z, e⟩
    refine ⟨k1, fun v => (k2 v).trans (sub v), ?_, ?_⟩
    · rw [List.length_append]
      rcases k3 with ⟨_, e⟩ | ⟨_, e⟩ <;> rw [e] <;> simp <;> omega
    · rw [nodup_snoc h, ← i4, ← i2]
      rcases k3 with ⟨z, e⟩ | ⟨z, e⟩ <;> rw [e] <;> simp [z] <;> omega
end Bv
set_option linter.all false
namespace Bv
/-! ### parities -/
def xs (f : Nat → Bool) : Nat → Bool
  | 0 => false
  | n + 1 => xs f n ^^ f n
theorem xs_congr {f g : Nat → Bool} : ∀ {n : Nat}, (∀ i, i < n → f i = g i) → xs f n = xs g n
  | 0, _ => rfl
  | n + 1, h => by unfold xs; rw [xs_congr fun i hi => h i (by omega), h n (by omega)]
theorem xs_false {n : Nat} : xs (fun _ => false) n = false := by
  induction n with
  | zero => rfl
  | succ n ih => unfold xs; rw [ih]; rfl
theorem xs_xor {f g : Nat → Bool} : ∀ {n : Nat}, xs (fun i => f i ^^ g i) n = (xs f n ^^ xs g n)
  | 0 => rfl
  | n + 1 => by
    unfold xs; rw [xs_xor]
    generalize xs f n = a; generalize xs g n = b; generalize f n = c; generalize g n = d
    cases a <;> cases b <;> cases c <;> cases d <;> rfl
theorem xs_single {j : Nat} {b : Bool} : ∀ {n : Nat}, xs (fun i => (i == j) && b) n = (decide (j < n) && b)
  | 0 => by simp [xs]
  | n + 1 => by
    unfold xs; rw [xs_single]
    by_cases h : n = j
    · subst h; simp
    · have : (n == j) = false := by simpa using h
      rw [this]
      have e : decide (j < n) = decide (j < n + 1) := by
        by_cases q : j < n
        · rw [decide_eq_true q, decide_eq_true (by omega)]
        · rw [decide_eq_false q, decide_eq_false (by omega)]
      rw [e]; simp
def dot (n : Nat) (u v : BV) : Bool := xs (fun i => bit u i && bit v i) n
theorem dot_comm {n : Nat} {u v : BV} : dot n u v = dot n v u := xs_congr fun i _ => Bool.and_comm _ _
theorem dot_xr {n : Nat} {u v w : BV} (hv : v.length = n) (hw : w.length = n) : dot n u (xr v w) = (dot n u v ^^ dot n u w) := by
  unfold dot
  rw [← xs_xor]
  refine xs_congr fun i _ => ?_
  rw [bit_xr hv hw]
  generalize bit u i = a; generalize bit v i = b; generalize bit w i = c
  cases a <;> cases b <;> cases c <;> rfl
theorem dot_zer {n : Nat} {u : BV} : dot n u (zer n) = false := by
  unfold dot
  rw [← xs_false (n := n)]
  exact xs_congr fun i _ => by rw [bit_zer]; simp
/-- at right angles to all -/
def Orth (n : Nat) (G : List BV) (v : BV) : Prop := ∀ g, g ∈ G → dot n g v = false
theorem Orth.add {n : Nat} {G : List BV} {u v : BV} (hu : u.length = n) (hv : v.length = n) (h : Orth n G u) (k : Orth n G v) : Orth n G (xr u v) := fun g hg => by rw [dot_xr hu hv, h g hg, k g hg]; rfl
theorem Orth.words {n : Nat} {G : List BV} {v : BV} (hG : Wd n G) (h : Orth n G v) : ∀ u, u ∈ words n G → dot n u v = false := by
  induction G using snoc_ind with
  | h0 => intro u hu; simp [words_nil] at hu; rw [hu, dot_comm]; exact dot_zer
  | h1 G g ih =>
    intro u hu
    have ih := ih hG.left fun f hf => h f (List.mem_append_left _ hf)
    rcases mem_snoc.mp hu with z | ⟨a, z, rfl⟩
    · exact ih u z
    · rw [dot_comm, dot_xr (words_len hG.left a z) hG.last, dot_comm, ih a z, dot_comm, h g (by simp)]; rfl
theorem orth_span {n : Nat} {G H : List BV} {v : BV} (hH : Wd n H) (hv : Orth n H v) (hs : ∀ g, g ∈ G → g ∈ words n H) : Orth n G v := fun g hg => hv.words hH g (hs g hg)
/-- two systems, each with a pivot at each place that is none of the other -/
structure Dual (n : Nat) (F : List BV) (p : BV → Nat) (G : List BV) (q : BV → Nat) : Prop where
  wF : Wd n F
  wG : Wd n G
  pF : ∀ f, f ∈ F → bit f (p f) = true
  /-- other pivots are clear -/
  cF : ∀ f, f ∈ F → ∀ g, g ∈ F → f ≠ g → bit f (p g) = false
  /-- every place that is no pivot of F is the pivot of one of G -/
  all : ∀ j, j < n → (∃ f, f ∈ F ∧ p f = j) ∨ ∃ g, g ∈ G ∧ q g = j ∧ bit g j = true ∧ ∀ i, i < n → (∀ f, f ∈ F → p f ≠ i) → i ≠ j → bit g i = false
  ort : ∀ f, f ∈ F → Orth n G f
/-- pivots made clear -/
theorem Dual.reduce {n : Nat} {F G : List BV} {p q : BV → Nat} (D : Dual n F p G q) : ∀ (S : List BV), (∀ f, f ∈ S → f ∈ F) → ∀ v : BV, v.length = n → ∃ s, s ∈ words n F ∧ (∀ f, f ∈ S → bit (xr v s) (p f) = false)
  | [], _, v, hv => ⟨zer n, words_zero, fun f hf => by cases hf⟩
  | f :: S, hS, v, hv => by
    obtain ⟨s, h1, h2⟩ := D.reduce S (fun g hg => hS g (List.mem_cons_of_mem _ hg)) v hv
    have hf := hS f (by simp)
    have ls := words_len D.wF s h1
    have lf := D.wF f hf
    by_cases e : bit (xr v s) (p f) = true
    · refine ⟨xr s f, words_add D.wF _ _ h1 (words_gen D.wF f hf), fun g hg => ?_⟩
      rw [← xr_assoc hv ls lf, bit_xr (xr_len hv ls) lf]
      by_cases hgf : f = g
      · subst hgf; rw [e, D.pF f hf]; rfl
      · rcases List.mem_cons.mp hg with z | z
        · exact absurd z.symm hgf
        · rw [h2 g z, D.cF f hf g (hS g hg) hgf]; rfl
    · refine ⟨s, h1, fun g hg => ?_⟩
      rcases List.mem_cons.mp hg with z | z
      · rw [z]; simpa using e
      · exact h2 g z
theorem Dual.full {n : Nat} {F G : List BV} {p q : BV → Nat} (D : Dual n F p G q) {v : BV} (hv : v.length = n) : v ∈ words n F ↔ Orth n G v := by
  constructor
  · intro h g hg
    have ho : Orth n F g := fun f hf => by rw [dot_comm]; exact D.ort f hf g hg
    rw [dot_comm]
    exact ho.words D.wF v h
  · intro h
    obtain ⟨s, h1, h2⟩ := D.reduce F (fun _ h => h) v hv
    have ls := words_len D.wF s h1
    have hs : Orth n G s := by
      intro g hg
      have ho : Orth n F g := fun f hf => by rw [dot_comm]; exact D.ort f hf g hg
      rw [dot_comm]
      exact ho.words D.wF s h1
    have hu : Orth n G (xr v s) := h.add hv ls hs
    have hz : xr v s = zer n := ext (xr_len hv ls) zer_len fun j hj => by
      rw [bit_zer]
      rcases D.all j hj with ⟨f, hf, rfl⟩ | ⟨g, hg, _, hb, hc⟩
      · exact h2 f hf
      · have k := hu g hg
        unfold dot at k
        rw [xs_congr (g := fun i => (i == j) && bit (xr v s) j) fun i hi => ?_, xs_single, decide_eq_true hj] at k
        · simpa using k
        · by_cases e : i = j
          · subst e; rw [hb]; simp
          · have e' : (i == j) = false := by simpa using e
            rw [e']
            by_cases hp : ∃ f, f ∈ F ∧ p f = i
            · obtain ⟨f, hf, rfl⟩ := hp; rw [h2 f hf]; simp
            · rw [hc i hi (fun f hf z => hp ⟨f, hf, z⟩) e]; simp
    have : v = s := by
      have := congrArg (xr · s) hz
      simp only [xr_back hv ls, zer_xr ls] at this
      exact this
    rw [this]; exact h1
/-! ### the other side -/
def unit (n a : Nat) : BV := (List.range n).map (fun i => i == a)
theorem unit_len {n a : Nat} : (unit n a).length = n := by simp [unit]
theorem bit_unit {n a i : Nat} (hi : i < n) : bit (unit n a) i = (i == a) := by
  unfold bit unit
  rw [List.getElem?_map, List.getElem?_range hi]; rfl
def genRow (n : Nat) (told : List BV) (a : Nat) : BV := told.foldl (fun row t => row.set (fi t) (bit t a)) (unit n a)
theorem genRow_snoc {n a : Nat} {T : List BV} {t : BV} : genRow n (T ++ [t]) a = (genRow n T a).set (fi t) (bit t a) := by unfold genRow; rw [List.foldl_append]; rfl
theorem genRow_len {n a : Nat} : ∀ {T : List BV}, (genRow n T a).length = n := by
  intro T
  induction T using snoc_ind with
  | h0 => exact unit_len
  | h1 T t ih => rw [genRow_snoc, List.length_set, ih]
theorem bit_set {v : BV} {i j : Nat} {b : Bool} (hi : i < v.length) : bit (v.set i b) j = if j = i then b else bit v j := by
  unfold bit
  by_cases e : j = i
  · subst e; rw [if_pos rfl, List.getElem?_set_self hi]; rfl
  · rw [if_neg e, List.getElem?_set_ne (Ne.symm e)]
theorem fi_lt {n : Nat} {F : List BV} (h : Red n F) {f : BV} (hf : f ∈ F) : fi f < n := by
  have := (fi_spec (h.nz f hf)).2.1; rw [h.wd f hf] at this; exact this
theorem pw_ne {α : Type} {R : α → α → Prop} (sy : ∀ {a b}, R a b → R b a) : ∀ {l : List α}, l.Pairwise R → ∀ {a b}, a ∈ l → b ∈ l → a ≠ b → R a b
  | [], _, _, _, h, _, _ => by cases h
  | c :: l, h, a, b, ha, hb, hn => by
    obtain ⟨h1, h2⟩ := List.pairwise_cons.mp h
    rcases List.mem_cons.mp ha with za | za <;> rcases List.mem_cons.mp hb with zb | zb
    · exact absurd (za.trans zb.symm) hn
    · rw [za]; exact h1 b zb
    · rw [zb]; exact sy (h1 a za)
    · exact pw_ne sy h2 za zb hn
theorem red_ne {n : Nat} {F : List BV} (h : Red n F) {f g : BV} (hf : f ∈ F) (hg : g ∈ F) (hne : f ≠ g) : bit f (fi g) = false :=
  (pw_ne (fun k => Cl.symm k) h.cl hf hg hne).1
theorem red_fi {n : Nat} {F : List BV} (h : Red n F) {f g : BV} (hf : f ∈ F) (hg : g ∈ F) (e : fi f = fi g) : f = g := by
  by_cases hne : f = g
  · exact hne
  · have := red_ne h hf hg hne
    rw [← e, (fi_spec (h.nz f hf)).1] at this; cases this
theorem bit_genRow {n a : Nat} : ∀ {T : List BV}, Red n T → (∀ t, t ∈ T → bit (genRow n T a) (fi t) = bit t a) ∧ ∀ j, (∀ t, t ∈ T → fi t ≠ j) → bit (genRow n T a) j = bit (unit n a) j := by
  intro T
  induction T using snoc_ind with
  | h0 => intro _; exact ⟨fun t ht => (by cases ht), fun j _ => rfl⟩
  | h1 T t ih =>
    intro h
    obtain ⟨h1, h2, h3, h4⟩ := h.left
    obtain ⟨i1, i2⟩ := ih h1
    have hlt : fi t < (genRow n T a).length := by rw [genRow_len, ← h2]; exact (fi_spec h3).2.1
    rw [genRow_snoc]
    refine ⟨fun s hs => ?_, fun j hj => ?_⟩
    · rw [bit_set hlt]
      rcases List.mem_append.mp hs with z | z
      · have hne : fi s ≠ fi t := fun e => by
          have := (h4 s z).2
          rw [e, (fi_spec h3).1] at this; cases this
        rw [if_neg hne]; exact i1 s z
      · simp at z; rw [z, if_pos rfl]
    · rw [bit_set hlt, if_neg (fun e => hj t (by simp) e.symm)]
      exact i2 j fun s hs => hj s (List.mem_append_left _ hs)
def isLead (T : List BV) (j : Nat) : Bool := (T.map fi).contains j
def gens (n : Nat) (T : List BV) : List BV := ((List.range n).filter fun j => !isLead T j).map (genRow n T)
theorem isLead_iff {T : List BV} {j : Nat} : isLead T j = true ↔ ∃ t, t ∈ T ∧ fi t = j := by
  unfold isLead; rw [List.contains_iff_mem, List.mem_map]
theorem mem_gens {n : Nat} {T : List BV} {g : BV} : g ∈ gens n T ↔ ∃ a, a < n ∧ (∀ t, t ∈ T → fi t ≠ a) ∧ genRow n T a = g := by
  unfold gens
  rw [List.mem_map]
  constructor
  · rintro ⟨a, h, e⟩
    rw [List.mem_filter, List.mem_range] at h
    refine ⟨a, h.1, fun t ht z => ?_, e⟩
    have := isLead_iff.mpr ⟨t, ht, z⟩
    rw [this] at h; simp at h
  · rintro ⟨a, h, k, e⟩
    refine ⟨a, List.mem_filter.mpr ⟨List.mem_range.mpr h, ?_⟩, e⟩
    cases q : isLead T a with
    | false => rfl
    | true => obtain ⟨t, ht, z⟩ := isLead_iff.mp q; exact absurd z (k t ht)
theorem gens_wd {n : Nat} {T : List BV} : Wd n (gens n T) := fun g hg => by
  obtain ⟨a, _, _, rfl⟩ := mem_gens.mp hg; exact genRow_len
theorem gen_bit {n a j : Nat} {T : List BV} (h : Red n T) (hj : j < n) (hn : ∀ t, t ∈ T → fi t ≠ j) : bit (genRow n T a) j = (j == a) := by
  rw [(bit_genRow h).2 j hn, bit_unit hj]
theorem gen_ort {n a : Nat} {T : List BV} (h : Red n T) (ha : a < n) (hn : ∀ t, t ∈ T → fi t ≠ a) : ∀ t, t ∈ T → dot n t (genRow n T a) = false := by
  intro t ht
  have hl := fi_lt h ht
  unfold dot
  rw [xs_congr (g := fun i => ((i == a) && bit t a) ^^ ((i == fi t) && bit t a)) fun i hi => ?_, xs_xor, xs_single, xs_single, decide_eq_true ha, decide_eq_true hl]
  · cases bit t a <;> rfl
  · by_cases hp : ∃ s, s ∈ T ∧ fi s = i
    · obtain ⟨s, hs, rfl⟩ := hp
      rw [(bit_genRow h).1 s hs]
      have e1 : (fi s == a) = false := by simpa using hn s hs
      rw [e1]
      by_cases e : s = t
      · subst e; rw [(fi_spec (h.nz s hs)).1]; simp
      · have e2 : (fi s == fi t) = false := by
          cases q : fi s == fi t with
          | false => rfl
          | true => exact absurd (red_fi h hs ht (by simpa using q)) e
        rw [e2, red_ne h ht hs (fun z => e z.symm)]; simp
    · have hp' : ∀ s, s ∈ T → fi s ≠ i := fun s hs z => hp ⟨s, hs, z⟩
      rw [gen_bit h hi hp']
      have e2 : (i == fi t) = false := by
        cases q : i == fi t with
        | false => rfl
        | true => exact absurd (by simpa using q : i = fi t).symm (hp' t ht)
      rw [e2]
      by_cases e : i = a
      · subst e; simp
      · have : (i == a) = false := by simpa using e
        rw [this]; simp
/-- a generator's own place -/
noncomputable def own (n : Nat) (T : List BV) (g : BV) : Nat := open Classical in if h : ∃ a, a < n ∧ (∀ t, t ∈ T → fi t ≠ a) ∧ genRow n T a = g then Classical.choose h else 0
theorem own_eq {n a : Nat} {T : List BV} (h : Red n T) (ha : a < n) (hn : ∀ t, t ∈ T → fi t ≠ a) : own n T (genRow n T a) = a := by
  unfold own
  have hx : ∃ b, b < n ∧ (∀ t, t ∈ T → fi t ≠ b) ∧ genRow n T b = genRow n T a := ⟨a, ha, hn, rfl⟩
  rw [dif_pos hx]
  obtain ⟨k1, k2, k3⟩ := Classical.choose_spec hx
  have e := congrArg (bit · a) k3
  simp only [gen_bit h ha hn] at e
  have e : (a == Classical.choose hx) = true := by rw [e]; simp
  exact (by simpa using e : a = Classical.choose hx).symm
theorem dual1 {n : Nat} {T : List BV} (h : Red n T) : Dual n T fi (gens n T) (own n T) where
  wF := h.wd
  wG := gens_wd
  pF f hf := (fi_spec (h.nz f hf)).1
  cF f hf g hg hne := red_ne h hf hg hne
  all j hj := by
    by_cases hp : ∃ f, f ∈ T ∧ fi f = j
    · exact .inl hp
    · have hp' : ∀ s, s ∈ T → fi s ≠ j := fun s hs z => hp ⟨s, hs, z⟩
      refine .inr ⟨genRow n T j, mem_gens.mpr ⟨j, hj, hp', rfl⟩, own_eq h hj hp', by rw [gen_bit h hj hp']; simp, fun i hi hq hij => ?_⟩
      rw [gen_bit h hi hq]; simpa using hij
  ort f hf g hg := by
    obtain ⟨a, h1, h2, rfl⟩ := mem_gens.mp hg
    rw [dot_comm]; exact gen_ort h h1 h2 f hf
theorem dual2 {n : Nat} {T : List BV} (h : Red n T) : Dual n (gens n T) (own n T) T fi where
  wF := gens_wd
  wG := h.wd
  pF g hg := by
    obtain ⟨a, h1, h2, rfl⟩ := mem_gens.mp hg
    rw [own_eq h h1 h2, gen_bit h h1 h2]; simp
  cF f hf g hg hne := by
    obtain ⟨a, h1, h2, rfl⟩ := mem_gens.mp hf
    obtain ⟨b, k1, k2, rfl⟩ := mem_gens.mp hg
    rw [own_eq h k1 k2, gen_bit h k1 k2]
    cases q : b == a with
    | false => rfl
    | true => exact absurd (by rw [(by simpa using q : b = a)]) hne
  all j hj := by
    by_cases hp : ∃ f, f ∈ T ∧ fi f = j
    · obtain ⟨f, hf, e⟩ := hp
      refine .inr ⟨f, hf, e, by rw [← e]; exact (fi_spec (h.nz f hf)).1, fun i hi hq hij => ?_⟩
      by_cases hs : ∃ s, s ∈ T ∧ fi s = i
      · obtain ⟨s, hs, rfl⟩ := hs
        exact red_ne h hf hs (fun z => hij (by rw [← z, e]))
      · have hs' : ∀ s, s ∈ T → fi s ≠ i := fun s hs2 z => hs ⟨s, hs2, z⟩
        exact absurd (own_eq h hi hs') (hq _ (mem_gens.mpr ⟨i, hi, hs', rfl⟩))
    · have hp' : ∀ s, s ∈ T → fi s ≠ j := fun s hs z => hp ⟨s, hs, z⟩
      exact .inl ⟨genRow n T j, mem_gens.mpr ⟨j, hj, hp', rfl⟩, own_eq h hj hp'⟩
  ort g hg f hf := by
    obtain ⟨a, h1, h2, rfl⟩ := mem_gens.mp hg
    exact gen_ort h h1 h2 f hf
theorem gens_nodup {n : Nat} {T : List BV} (h : Red n T) : (gens n T).Nodup := by
  refine List.Pairwise.map _ (R := fun a b : Nat => (a < n ∧ ∀ t, t ∈ T → fi t ≠ a) ∧ (b < n ∧ ∀ t, t ∈ T → fi t ≠ b) ∧ a ≠ b) ?_ (List.Pairwise.imp_of_mem (fun {a b} ha hb hn => ⟨?_, ?_, hn⟩) (List.Pairwise.filter _ List.nodup_range))
  · rintro a b ⟨⟨a1, a2⟩, ⟨b1, b2⟩, hne⟩ e
    have := own_eq h a1 a2
    rw [e, own_eq h b1 b2] at this
    exact hne this.symm
  · rw [List.mem_filter, List.mem_range] at ha
    refine ⟨ha.1, fun t ht z => ?_⟩
    have := isLead_iff.mpr ⟨t, ht, z⟩
    rw [this] at ha; simp at ha
  · rw [List.mem_filter, List.mem_range] at hb
    refine ⟨hb.1, fun t ht z => ?_⟩
    have := isLead_iff.mpr ⟨t, ht, z⟩
    rw [this] at hb; simp at hb
/-- pivots of their own: no word twice -/
theorem pivot_nodup {n : Nat} {p : BV → Nat} : ∀ {F : List BV}, Wd n F → F.Nodup → (∀ f, f ∈ F → bit f (p f) = true) → (∀ f, f ∈ F → ∀ g, g ∈ F → f ≠ g → bit f (p g) = false) → (words n F).Nodup := by
  intro F
  induction F using snoc_ind with
  | h0 => intro _ _ _ _; simp [words_nil]
  | h1 F r ih =>
    intro hw hd hp hc
    obtain ⟨d1, d2, d3⟩ := List.nodup_append.mp hd
    refine (nodup_snoc hw).mpr ⟨ih hw.left d1 (fun f hf => hp f (List.mem_append_left _ hf)) fun f hf g hg => hc f (List.mem_append_left _ hf) g (List.mem_append_left _ hg), fun z => ?_⟩
    have := words_bit hw.left (j := p r) (fun f hf => hc f (List.mem_append_left _ hf) r (by simp) (fun e => d3 f hf r (by simp) e)) r z
    rw [hp r (by simp)] at this; cases this
/-- the rows at right angles -/
def back (n : Nat) (T : List BV) : List BV := stepAll (gens n T)
theorem back_okB {n : Nat} {T : List BV} (h : Red n T) : Red n (back n T) ∧ (∀ v : BV, v.length = n → (v ∈ words n (back n T) ↔ Orth n T v)) ∧ (∀ v : BV, v.length = n → (v ∈ words n T ↔ Orth n (back n T) v)) := by
  obtain ⟨k1, k2, k3, k4⟩ := stepAll_ok (gens_wd (n := n) (T := T))
  refine ⟨k1, fun v hv => (k2 v).trans ((dual2 h).full hv), fun v hv => ((dual1 h).full hv).trans ⟨fun o => ?_, fun o => ?_⟩⟩
  · exact orth_span gens_wd o fun g hg => (k2 g).mp (words_gen k1.wd g hg)
  · exact orth_span k1.wd o fun g hg => (k2 g).mpr (words_gen gens_wd g hg)
end Bv
set_option linter.all false
set_option Elab.async false
set_option maxRecDepth 100000
set_option maxHeartbeats 1000000
/-! I5: sums: the defs on rows of signs. -/
namespace MP
open PySem Bv
local macro_rules | `(tactic| walk_at "mp") => `(tactic| simp (config := { failIfUnchanged := false, implicitDefEqProofs := false }) only [q_rb, q_rbx, q_sb, q_sbx, q_non, q_bl, q_int, q_str, q_glb, q_var, q_varV, q_varO, q_tup, q_disp, q_tupK, q_dispK, q_bin, q_neg, q_negK, q_cmp, q_chain, q_chK, q_vd, q_vfr, q_vrf, q_vwK, q_tK, q_bK, q_add, q_sub, q_mul, q_fdiv, q_mod, q_pow18, q_tadd, q_ladd, q_tmul, q_lmul, q_eq, q_ne, q_lt, q_le, q_gt, q_ge,
  q_and, q_or, q_not, q_ite, q_andK, q_orK, q_notK, q_chkB, q_iteK, q_asB, q_idx, q_sqT, q_sqL, q_sqF, q_sqS, q_sqR, q_sqK, q_subK, q_giK, q_g0, q_g1, q_g2, q_g3, q_slc, q_ono, q_oyes, q_someO, q_sliT, q_sliL, q_sn, q_sc, q_mk, q_md, q_mf, q_mr, q_frzK, q_tn, q_tc, q_an, q_ac, q_aio, q_ioK, q_hn, q_hc, q_hk, q_hf, q_hd,
  q_call, q_ln, q_lv, q_lio, q_lendK, q_callK0, q_ix0, q_ixv, q_ixi, q_nd0, q_nd1, q_ok, q_okF, q_okX, q_un0, q_un1, q_retK, q_excK, q_bi, q_len, q_abs, q_bint, q_max2, q_min2, q_tupleOf, q_listOf, q_isi, q_isiF, q_all, q_lsL, q_lsF, q_lsR, q_allK, q_sum, q_sumK, q_pop, q_popK, q_comp, q_iseq, q_srcK, q_srcL, q_srcT, q_srcS, q_srcF, q_srcR, q_srcR', q_rng1, q_rgK, q_rg2K, q_enum, q_enK, q_zip, q_zT, q_zL, q_zK, q_cno, q_cyes, q_cond0, q_cond1,
  q_seq, q_seqK, q_seqR, q_seqX, q_pass, q_asg, q_asgD, q_asgF, q_asgR, q_ms, q_ret, q_retN, q_expr, q_ifs, q_ifK, q_for, q_forK, q_while, q_raise, q_ptup, q_nxK, q_asgH0, q_asgH1, q_atup, q_atK, q_asgs0, q_asgs1, q_tg1, q_tgN, q_aug, q_augK, q_ag2, q_apK, q_app, q_appK, q_setix, q_sxK, q_sx2, q_augix, q_finN, q_finD, q_finF, q_finR, q_rvK, q_finX, q_lp0, q_lpv, q_lpo,
  q_mindex, q_mcount, q_itT, q_itL, q_itF, q_itR, q_itK, q_mxK, q_mx2, q_mc2, q_ixK, q_any, List.getElem?_cons_zero, List.getElem?_cons_succ, List.set_cons_zero, List.set_cons_succ, List.cons_append, List.nil_append, List.append_nil, List.replicate, List.map_nil, List.map_cons, Option.map_some, Nat.reduceSub, Nat.reduceAdd, List.length_cons, List.length_nil, List.length_map, Nat.reduceLeDiff, if_true, if_false, ite_true, ite_false, Bool.false_eq_true, reduceCtorEq, Nat.zero_add, decide_true, decide_false, Bool.not_true, Bool.not_false, isTy, wipe, Int.reduceNeg, ne_eq, Int.reduceEq, not_false_eq_true, not_true_eq_false, Int.reduceLT, Int.reduceLE, Int.reduceAdd, Int.reduceSub, Int.reduceMul, Nat.reduceLT, Nat.reduceMul, Int.reduceToNat, decide_eq_true_eq, *])
def ob (b : Bool) : Int := if b then 1 else 0
abbrev bv (v : List Bool) : Dv := ip (v.map ob)
abbrev bvs (R : List BV) : Dv := .tup (R.map bv)
theorem ob_one {b : Bool} : decide (ob b = 1) = b := by cases b <;> rfl
theorem bv_inj {a b : BV} : bv a = bv b ↔ a = b := by
  constructor
  · intro h
    simp only [bv, ip, Dv.tup.injEq, int_inj] at h
    induction a generalizing b with
    | nil => cases b with
      | nil => rfl
      | cons y b => cases h
    | cons x a ih => cases b with
      | nil => cases h
      | cons y b =>
        simp only [List.map_cons, List.cons.injEq] at h
        rw [ih h.2]
        have : x = y := by
          have := h.1
          cases x <;> cases y <;> first | rfl | cases this
        rw [this]
  · intro h; rw [h]
theorem i_is_int {l : Tbl} {W : WhileF} {n : Nat} {z : Int} : callN (tbL l) W (n + 1) 0 [.val (.int z)] = .ok (.d (.bl true)) [] := by
  rw [callN_eq t_is_int rfl rfl]
  simp only [f_is_int, b_is_int]
  walk_at "mp"
theorem zipD_bits {a b : BV} : zipD ((a.map ob).map .int) ((b.map ob).map .int) = (a.zip b).map fun p => .tup [.int (ob p.1), .int (ob p.2)] := by
  rw [List.map_map, List.map_map, zipD_map]; rfl
theorem xr_ob {a b : BV} : (a.zip b).map (fun p => Dv.int ((ob p.1 + ob p.2).fmod 2)) = ((xr a b).map ob).map .int := by
  unfold xr
  induction a generalizing b with
  | nil => rfl
  | cons x a ih =>
    cases b with
    | nil => rfl
    | cons y b =>
      simp only [List.zip_cons_cons, List.map_cons, List.zipWith_cons_cons, ih]
      congr 2
      cases x <;> cases y <;> rfl
theorem i_added {l : Tbl} {W : WhileF} {n : Nat} {a b : BV} (ha : a.length < 1000) : callN (tbL l) W (n + 1) 91 [.val (bv a), .val (bv b)] = .ok (.d (bv (xr a b))) [] := by
  rw [callN_eq t_added rfl rfl]
  have hz := @zipD_bits a b
  have hc : compF (ev (callN (tbL l) W n) e_added_0) (.tup [2, 3]) (evi (callN (tbL l) W n) (.zip (.var 0) (.var 1))) none [2, 3] [.val (bv a), .val (bv b), .none, .none] = .ok (.fr (((xr a b).map ob).map .int)) [.val (bv a), .val (bv b), .none, .none] := by
    rw [← xr_ob]
    refine comp_all (g := none) (fun p : Bool × Bool => .tup [.int (ob p.1), .int (ob p.2)]) (fun p : Bool × Bool => .int ((ob p.1 + ob p.2).fmod 2)) (a.zip b) ?_ ?_ rfl (by decide) rfl ?_
    · walk_at "mp"
    · rw [List.length_zip]; unfold line; omega
    · rintro ⟨x, y⟩ _
      refine ⟨_, rfl, rfl, ?_⟩
      simp only [e_added_0]
      walk_at "mp"
  simp only [f_added, b_added]
  clear hz ha
  walk_at "mp"
/-! ### words_of -/
theorem rep_zero (n : Nat) : rep [Dv.int 0] n = ((zer n).map ob).map .int := by
  rw [rep_one]; unfold zer; rw [List.map_replicate, List.map_replicate]; rfl
theorem i_words {l : Tbl} {W : WhileF} {n w : Nat} {R : List BV} (hR : Wd w R) (hne : R ≠ []) (hw : w < 1000) (hl : R.length < 10) : callN (tbL l) W (n + 2) 93 [.val (bvs R)] = .ok (.fr ((words w R).map bv)) [] := by
  rw [callN_eq t_words_of rfl rfl]
  simp only [f_words_of, b_words_of]
  obtain ⟨r', h1, v, rfl⟩ := forL_at (tg := .one 2) (g := none) (body := exec (callN (tbL l) W (n + 1)) W l_words_of_1) bv (fun pre r => ∃ v, r = [.val (bvs R), .own ((words w pre).map bv), v, .none]) R (by
    rintro pre b post r e ⟨v, rfl⟩
    have hpre : Wd w (pre ++ [b]) := fun x hx => hR x (by rw [e]; simp at hx ⊢; rcases hx with hx | hx; exact .inl hx; exact .inr (.inl hx))
    have hlen : (words w pre).length ≤ 1024 := by
      rw [words_size]
      have : pre.length ≤ 10 := by have := congrArg List.length e; simp at this; omega
      exact Nat.le_trans (Nat.pow_le_pow_right (by decide) this) (by decide)
    refine ⟨_, _, rfl, ?_, rfl, .val (bv b), rfl⟩
    have hc : compF (ev (callN (tbL l) W (n + 1)) e_words_of_0) (.one 3) (evi (callN (tbL l) W (n + 1)) (.seq (.var 1))) none [3] [.val (bvs R), .own ((words w pre).map bv), .val (bv b), .none] = .ok (.fr ((words w pre).map fun u => bv (xr u b))) [.val (bvs R), .own ((words w pre).map bv), .val (bv b), .none] := by
      refine comp_all (g := some (1, (words w pre).map bv)) bv (fun u => bv (xr u b)) (words w pre) ?_ (by unfold line; omega) ?_ (by decide) rfl ?_
      · walk_at "mp"
      · exact beqs_self _
      · intro u hu
        refine ⟨_, rfl, rfl, ?_⟩
        have ha := i_added (l := l) (W := W) (n := n) (a := u) (b := b) (by rw [words_len hpre.left u hu]; omega)
        simp only [e_words_of_0]
        clear e hlen
        walk_at "mp"
    have hl2 : ((words w pre).map bv).length + ((words w pre).map fun u => bv (xr u b)).length ≤ 16777216 := by simp; omega
    have h5 := q_ladd hl2
    have e5 : (words w pre).map bv ++ ((words w pre).map fun u => bv (xr u b)) = (words w (pre ++ [b])).map bv := by
      rw [words_snoc, List.map_append, List.map_map]; rfl
    rw [e5] at h5
    clear hlen hl2 e5 e
    simp only [l_words_of_1]
    walk_at "mp") R [] [.val (bvs R), .own ((words w []).map bv), .none, .none] rfl ⟨.none, rfl⟩
  cases R with
  | nil => exact absurd rfl hne
  | cons x R =>
    have hx : x.length = w := hR x List.mem_cons_self
    subst hx
    have e1 : (-1000000 : Int) ≤ (x.length : Int) ∧ (x.length : Int) ≤ 1000 ∧ [Dv.int 0].length ≤ 1000 := by simp; omega
    have e4 := q_tmul e1
    have e2 := rep_zero x.length
    have e6 : ((x.length : Int)).toNat = x.length := by omega
    rw [e6, e2] at e4
    clear e1 e2 e6 hR hne hl
    simp only [words_nil, List.map_cons, List.map_nil] at h1
    have hg : ∀ (xs : List Dv), getI (bv x :: xs) 0 = some (bv x) := fun xs => q_g0
    walk_at "mp"
/-! ### counted -/
def wt (v : BV) : Nat := v.count true
theorem sum_ob : ∀ v : BV, (v.map ob).sum = (wt v : Int)
  | [] => rfl
  | x :: v => by
    rw [List.map_cons, List.sum_cons, sum_ob v]
    unfold wt
    rw [List.count_cons]
    cases x <;> simp [ob]; omega
theorem wt_le {v : BV} : wt v ≤ v.length := List.count_le_length
def cn (w : Nat) (ws : List BV) : List Int := (List.range (w + 1)).map fun m => (ws.countP (fun v => wt v == m) : Int)
theorem cn_perm {w : Nat} {a b : List BV} (p : a.Perm b) : cn w a = cn w b := by
  unfold cn
  apply List.map_congr_left
  intro m _
  rw [p.countP_eq]
theorem cn_step {w : Nat} {ws : List BV} {v : BV} (h : wt v ≤ w) : (cn w ws).set (wt v) ((ws.countP (fun u => wt u == wt v) : Int) + 1) = cn w (ws ++ [v]) := by
  unfold cn
  apply List.ext_getElem?
  intro i
  by_cases hi : i < w + 1
  · by_cases e : wt v = i
    · subst e
      rw [List.getElem?_set_self (by simpa using hi), List.getElem?_map, List.getElem?_range hi, Option.map_some, List.countP_append]
      simp
    · rw [List.getElem?_set_ne e, List.getElem?_map, List.getElem?_map, List.getElem?_range hi, Option.map_some, Option.map_some, List.countP_append]
      have : (wt v == i) = false := by simpa using e
      simp [this]
  · rw [List.getElem?_eq_none (by simp; omega), List.getElem?_eq_none (by simp; omega)]
theorem cn_get {w : Nat} {ws : List BV} {m : Nat} (h : m ≤ w) : (cn w ws)[m]? = some (ws.countP (fun u => wt u == m) : Int) := by
  unfold cn
  rw [List.getElem?_map, List.getElem?_range (by omega)]; rfl
theorem cn_len {w : Nat} {ws : List BV} : (cn w ws).length = w + 1 := by unfold cn; simp
theorem i_counted {l : Tbl} {W : WhileF} {n w : Nat} {ws : List BV} (hws : ∀ v, v ∈ ws → v.length = w) (hw : w < 1000) : callN (tbL l) W (n + 1) 94 [.val (.lv (ws.map bv)), .val (.int w)] = .ok (.d (ip (cn w ws))) [] := by
  rw [callN_eq t_counted rfl rfl]
  simp only [f_counted, b_counted]
  obtain ⟨r', h1, v, rfl⟩ := forL_at (tg := .one 3) (g := none) (body := exec (callN (tbL l) W n) W l_counted_0) bv (fun pre r => ∃ v, r = [.val (.lv (ws.map bv)), .val (.int w), .own ((cn w pre).map .int), v]) ws (by
    rintro pre b post r e ⟨v, rfl⟩
    have hb : b.length = w := hws b (by rw [e]; simp)
    have hwt : wt b ≤ w := by rw [← hb]; exact wt_le
    refine ⟨_, _, rfl, ?_, rfl, .val (bv b), rfl⟩
    have hg : getI ((cn w pre).map .int) (wt b : Int) = some (.int (pre.countP (fun u => wt u == wt b) : Int)) := by
      rw [getI_nat (by rw [List.length_map, cn_len]; omega), List.getElem?_map, cn_get hwt]; rfl
    have hx : ixN ((cn w pre).map Dv.int).length (wt b : Int) = some (wt b) := ixN_nat (by rw [List.length_map, cn_len]; omega)
    have ha := fun r1 : Ro => q_axK (i := 2) (r1 := r1) (r := [.val (.lv (ws.map bv)), .val (.int w), .own ((cn w pre).map .int), .val (bv b)]) (op := .add) (b := 1) (v := (pre.countP (fun u => wt u == wt b) : Int) + 1) hg rfl rfl hx
    have hs : ((cn w pre).map Dv.int).set (wt b) (.int ((pre.countP (fun u => wt u == wt b) : Int) + 1)) = (cn w (pre ++ [b])).map .int := by
      rw [← cn_step hwt, ← List.map_set]
    simp only [hs] at ha
    have e3 := sum_ob b
    clear hg hx hs hwt e
    simp only [l_counted_0]
    walk_at "mp") ws [] [.val (.lv (ws.map bv)), .val (.int w), .own ((cn w []).map .int), .none] rfl ⟨.none, rfl⟩
  have e1 : (-1000000 : Int) ≤ (w : Int) + 1 ∧ (w : Int) + 1 ≤ 1000000 ∧ [Dv.int 0].length * ((w : Int) + 1).toNat ≤ 16777216 := by simp; omega
  have e4 := q_lmul e1
  have e2 : rep [Dv.int 0] ((w : Int) + 1).toNat = (cn w []).map .int := by
    rw [rep_one, show ((w : Int) + 1).toNat = w + 1 by omega]
    unfold cn
    apply List.ext_getElem?
    intro i
    rw [List.getElem?_replicate, List.getElem?_map, List.getElem?_map]
    split
    · rename_i h; rw [List.getElem?_range h]; rfl
    · rename_i h; rw [List.getElem?_eq_none (by simp; omega)]; rfl
  rw [e2] at e4
  clear e1 e2 hws
  walk_at "mp"
end MP
set_option linter.all false
set_option Elab.async false
set_option maxRecDepth 100000
set_option maxHeartbeats 1000000
/-! I6: stepped. -/
namespace MP
open PySem Bv
local macro_rules | `(tactic| walk_at "mp") => `(tactic| simp (config := { failIfUnchanged := false, implicitDefEqProofs := false }) only [q_rb, q_rbx, q_sb, q_sbx, q_non, q_bl, q_int, q_str, q_glb, q_var, q_varV, q_varO, q_tup, q_disp, q_tupK, q_dispK, q_bin, q_neg, q_negK, q_cmp, q_chain, q_chK, q_vd, q_vfr, q_vrf, q_vwK, q_tK, q_bK, q_add, q_sub, q_mul, q_fdiv, q_mod, q_pow18, q_tadd, q_ladd, q_tmul, q_lmul, q_eq, q_ne, q_lt, q_le, q_gt, q_ge,
  q_and, q_or, q_not, q_ite, q_andK, q_orK, q_notK, q_chkB, q_iteK, q_asB, q_idx, q_sqT, q_sqL, q_sqF, q_sqS, q_sqR, q_sqK, q_subK, q_giK, q_g0, q_g1, q_g2, q_g3, q_slc, q_ono, q_oyes, q_someO, q_sliT, q_sliL, q_sn, q_sc, q_mk, q_md, q_mf, q_mr, q_frzK, q_tn, q_tc, q_an, q_ac, q_aio, q_ioK, q_hn, q_hc, q_hk, q_hf, q_hd,
  q_call, q_ln, q_lv, q_lio, q_lendK, q_callK0, q_ix0, q_ixv, q_ixi, q_nd0, q_nd1, q_ok, q_okF, q_okX, q_un0, q_un1, q_retK, q_excK, q_bi, q_len, q_abs, q_bint, q_max2, q_min2, q_tupleOf, q_listOf, q_isi, q_isiF, q_all, q_lsL, q_lsF, q_lsR, q_allK, q_sum, q_sumK, q_pop, q_popK, q_comp, q_iseq, q_srcK, q_srcL, q_srcT, q_srcS, q_srcF, q_srcR, q_srcR', q_rng1, q_rgK, q_rg2K, q_enum, q_enK, q_zip, q_zT, q_zL, q_zK, q_cno, q_cyes, q_cond0, q_cond1,
  q_seq, q_seqK, q_seqR, q_seqX, q_pass, q_asg, q_asgD, q_asgF, q_asgR, q_ms, q_ret, q_retN, q_expr, q_ifs, q_ifK, q_for, q_forK, q_while, q_raise, q_ptup, q_nxK, q_asgH0, q_asgH1, q_atup, q_atK, q_asgs0, q_asgs1, q_tg1, q_tgN, q_aug, q_augK, q_ag2, q_apK, q_app, q_appK, q_setix, q_sxK, q_sx2, q_augix, q_finN, q_finD, q_finF, q_finR, q_rvK, q_finX, q_lp0, q_lpv, q_lpo,
  q_mindex, q_mcount, q_itT, q_itL, q_itF, q_itR, q_itK, q_mxK, q_mx2, q_mc2, q_ixK, q_any, List.getElem?_cons_zero, List.getElem?_cons_succ, List.set_cons_zero, List.set_cons_succ, List.cons_append, List.nil_append, List.append_nil, List.replicate, List.map_nil, List.map_cons, Option.map_some, Nat.reduceSub, Nat.reduceAdd, List.length_cons, List.length_nil, List.length_map, Nat.reduceLeDiff, if_true, if_false, ite_true, ite_false, Bool.false_eq_true, reduceCtorEq, Nat.zero_add, decide_true, decide_false, Bool.not_true, Bool.not_false, isTy, wipe, Int.reduceNeg, ne_eq, Int.reduceEq, not_false_eq_true, not_true_eq_false, Int.reduceLT, Int.reduceLE, Int.reduceAdd, Int.reduceSub, Int.reduceMul, Nat.reduceLT, Nat.reduceMul, Int.reduceToNat, decide_eq_true_eq, *])
theorem ob_mem {v : BV} : (1 : Int) ∈ v.map ob ↔ true ∈ v := by
  rw [List.mem_map]
  constructor
  · rintro ⟨b, h, e⟩
    cases b with
    | true => exact h
    | false => cases e
  · intro h; exact ⟨true, h, rfl⟩
theorem ob_idx : ∀ v : BV, (v.map ob).idxOf 1 = fi v
  | [] => rfl
  | x :: v => by
    have ih := ob_idx v
    unfold fi at ih ⊢
    rw [List.map_cons, List.idxOf_cons, List.idxOf_cons, ih]
    cases x <;> rfl
theorem idx_bv {v : BV} (h : true ∈ v) (hl : v.length < 1000) (r : Ro) : idxT true r (.d (bv v)) (.int 1) = some (fi v) := by
  have := q_idxI (r := r) (p := v.map ob) (z := 1) (by simp; omega) (ob_mem.mpr h)
  rw [ob_idx] at this
  exact this
theorem get_bv {v : BV} {i : Nat} (h : i < v.length) : getI ((v.map ob).map .int) (i : Int) = some (.int (ob (bit v i))) := by
  rw [getI_nat (by simpa using h), List.getElem?_map, List.getElem?_map]
  unfold bit
  rw [List.getElem?_eq_getElem h]; rfl
theorem any_bv {v : BV} : ((v.map ob).any fun i => decide (i ≠ 0)) = decide (true ∈ v) := by
  induction v with
  | nil => simp
  | cons x v ih =>
    rw [List.map_cons, List.any_cons, ih]
    cases x <;> simp [ob]
theorem clear_snoc {P : List BV} {f r : BV} : clear (P ++ [f]) r = if bit (clear P r) (fi f) then xr (clear P r) f else clear P r := by
  unfold clear; rw [List.foldl_append]; rfl
/-- nothing or data -/
def pl : Sl → Bool
  | .none => true
  | .val _ => true
  | _ => false
theorem stepped_in {l : Tbl} {W : WhileF} {n w : Nat} {A s4 : Sl} {F : List BV} {r : BV} (hF : Wd w F) (hnz : ∀ f, f ∈ F → true ∈ f) (hr : r.length = w) (hw : w < 1000) (v : Sl) (hv : pl v = true) : ∃ v', forL (.one 3) (some (1, F.map bv)) (exec (callN (tbL l) W (n + 1)) W l_stepped_1) (F.map bv) [A, .own (F.map bv), .val (bv r), v, s4] = .nx [A, .own (F.map bv), .val (bv (clear F r)), v', s4] ∧ pl v' = true ∧ (clear F r).length = w := by
  obtain ⟨r', h1, v', h3, rfl, h2⟩ := forL_at (tg := .one 3) (g := some (1, F.map bv)) (body := exec (callN (tbL l) W (n + 1)) W l_stepped_1) bv (fun pre q => ∃ v, pl v = true ∧ q = [A, .own (F.map bv), .val (bv (clear pre r)), v, s4] ∧ (clear pre r).length = w) F (by
    rintro pre b post q e ⟨v, _, rfl, hl⟩
    have hb : b ∈ F := by rw [e]; simp
    have hbl := hF b hb
    have hbt := hnz b hb
    have hlt : fi b < w := by rw [← hbl]; exact (fi_spec hbt).2.1
    have hi := idx_bv hbt (by omega)
    have hg := get_bv (v := clear pre r) (i := fi b) (by omega)
    have ha := i_added (l := l) (W := W) (n := n) (a := clear pre r) (b := b) (by omega)
    refine ⟨_, [A, .own (F.map bv), .val (bv (clear (pre ++ [b]) r)), .val (bv b), s4], rfl, ?_, beqs_self _, .val (bv b), rfl, rfl, ?_⟩
    rotate_left
    · rw [clear_snoc]; split
      · exact xr_len hl hbl
      · exact hl
    rw [clear_snoc]
    cases hbit : bit (clear pre r) (fi b) with
    | true =>
      rw [hbit] at hg
      simp only [ob, if_true] at hg
      simp only [l_stepped_1]
      clear hlt hbt hbl hb hl e hbit hF hnz hr hw
      walk_at "mp"
    | false =>
      rw [hbit] at hg
      simp only [ob, Bool.false_eq_true, if_false] at hg
      simp only [l_stepped_1]
      clear hlt hbt hbl hb hl e hbit ha hF hnz hr hw
      walk_at "mp") F [] [A, .own (F.map bv), .val (bv (clear [] r)), v, s4] rfl ⟨v, hv, rfl, hr⟩
  exact ⟨v', h1, h3, h2⟩
def gtB (a b : BV) : Bool := lexI (b.map ob) (a.map ob)
def srt (F : List BV) : List BV := sortG gtB F
theorem srt_perm (F : List BV) : (srt F).Perm F := sortG_perm F
theorem bef_bv (a b : BV) : bef false (bv a) (bv b) = gtB a b := by
  unfold bef gtB
  exact lexD_int _ _
theorem flat_bv {F : List BV} (h : ∀ f, f ∈ F → f ≠ []) : (F.map bv).all flatT = true := by
  rw [List.all_eq_true]
  intro x hx
  obtain ⟨f, hf, rfl⟩ := List.mem_map.mp hx
  exact flatT_ip (by simpa using h f hf)
theorem i_stepped {l : Tbl} {W : WhileF} {n w : Nat} {R : List BV} {d : Dv} (hd : d = .tup (R.map bv) ∨ d = .lv (R.map bv)) (hR : Wd w R) (hw : w < 1000) (hl : R.length < 1000) : callN (tbL l) W (n + 2) 92 [.val d] = .ok (.fr ((srt (stepAll R)).map bv)) [] := by
  obtain ⟨r', h1, v2, v3, v4, _, rfl⟩ := forL_at (tg := .one 2) (g := none) (body := exec (callN (tbL l) W (n + 1)) W l_stepped_2) bv (fun pre q => ∃ v2 v3 v4, pl v3 = true ∧ q = [.val d, .own ((stepAll pre).map bv), v2, v3, v4]) R (by
    rintro pre b post q e ⟨v2, v3, v4, hp, rfl⟩
    have hpre : Wd w pre := fun x hx => hR x (by rw [e]; simp [hx])
    have hb : b.length = w := hR b (by rw [e]; simp)
    obtain ⟨K1, K2, K3, K4⟩ := stepAll_ok hpre
    have hlen : (stepAll pre).length < 1000 := by
      have := congrArg List.length e; simp at this; omega
    rw [stepAll_snoc]
    generalize stepAll pre = F at *
    obtain ⟨v3', h2, hp', hcl⟩ := stepped_in (l := l) (W := W) (n := n) (A := .val d) (s4 := v4) (F := F) (r := b) K1.wd K1.nz hb hw v3 hp
    have hgf : ∀ ys, gFree (tgs (.one 3) ++ sets l_stepped_1) (some (1, ys)) = true := fun _ => rfl
    have hfg : forK (sets l_stepped_1) (.one 3) (exec (callN (tbL l) W (n + 1)) W l_stepped_1) ⟨F.map bv, some (1, F.map bv)⟩ [.val d, .own (F.map bv), .val (bv b), v3, v4] = .nx [.val d, .own (F.map bv), .val (bv (clear F b)), v3', v4] := by
      rw [q_forG (hgf _)]; exact h2
    have han := @any_bv (clear F b)
    by_cases hn : true ∈ clear F b
    · refine ⟨_, [.val d, .own ((put F (clear F b)).map bv), .val (bv (clear F b)), v3', .val (.int (fi (clear F b)))], rfl, ?_, rfl, _, _, _, hp', by unfold stepRow; rw [if_pos hn]⟩
      rw [decide_eq_true hn] at han
      have hi := idx_bv hn (by omega)
      have hlt : fi (clear F b) < w := by rw [← hcl]; exact (fi_spec hn).2.1
      have hc : compF (ev (callN (tbL l) W (n + 1)) e_stepped_0) (.one 3) (evi (callN (tbL l) W (n + 1)) (.seq (.var 1))) none [3] [.val d, .own (F.map bv), .val (bv (clear F b)), v3', .val (.int (fi (clear F b)))] = .ok (.fr (F.map fun f => bv (if bit f (fi (clear F b)) then xr f (clear F b) else f))) [.val d, .own (F.map bv), .val (bv (clear F b)), v3', .val (.int (fi (clear F b)))] := by
        refine comp_all (g := some (1, F.map bv)) bv (fun f => bv (if bit f (fi (clear F b)) then xr f (clear F b) else f)) F ?_ (by unfold line; omega) ?_ (by decide) ?_ ?_
        · clear h2 hfg han hi hlt hn hcl hp' hgf e K1 K2 K3 K4
          walk_at "mp"
        · exact beqs_self _
        · cases v3' <;> first | rfl | cases hp'
        · intro f hf
          refine ⟨_, rfl, rfl, ?_⟩
          have hfl := K1.wd f hf
          have hg := get_bv (v := f) (i := fi (clear F b)) (by omega)
          have ha := i_added (l := l) (W := W) (n := n) (a := f) (b := clear F b) (by omega)
          simp only [e_stepped_0]
          cases hbit : bit f (fi (clear F b)) with
          | true =>
            rw [hbit] at hg
            simp only [ob, if_true] at hg
            clear h2 hfg han hi hlt hn hcl hp' hgf e K1 K2 K3 K4 hbit
            walk_at "mp"
          | false =>
            rw [hbit] at hg
            simp only [ob, Bool.false_eq_true, if_false] at hg
            clear h2 hfg han hi hlt hn hcl hp' hgf e K1 K2 K3 K4 hbit ha
            walk_at "mp"
      have hl2 : (F.map fun f => bv (if bit f (fi (clear F b)) then xr f (clear F b) else f)).length + [bv (clear F b)].length ≤ 16777216 := by simp; omega
      have h5 := q_ladd hl2
      have e5 : (F.map fun f => bv (if bit f (fi (clear F b)) then xr f (clear F b) else f)) ++ [bv (clear F b)] = (put F (clear F b)).map bv := by
        unfold put; rw [List.map_append, List.map_map]; rfl
      rw [e5] at h5
      clear h2 hlt hn hcl hp' hgf e K1 K2 K3 K4 hl2 e5
      simp only [l_stepped_2]
      walk_at "mp"
    · refine ⟨_, [.val d, .own (F.map bv), .val (bv (clear F b)), v3', v4], rfl, ?_, rfl, _, _, _, hp', by unfold stepRow; rw [if_neg hn]⟩
      rw [decide_eq_false hn] at han
      clear h2 hn hcl hp' hgf e K1 K2 K3 K4
      simp only [l_stepped_2]
      walk_at "mp") R [] [.val d, .own ((stepAll []).map bv), .none, .none, .none] rfl ⟨.none, .none, .none, rfl, rfl⟩
  have hs := sortD_map (f := bv) (up := false) (lt := gtB) (P := fun _ => True) (fun a b _ _ => bef_bv a b) (stepAll R) (fun _ _ => trivial)
  obtain ⟨K1, K2, K3, K4⟩ := stepAll_ok hR
  have hf := flat_bv (F := stepAll R) fun f hf z => by have := K1.nz f hf; rw [z] at this; cases this
  have hb : biT [.val d, .own ((stepAll R).map bv), v2, v3, v4] (.sortedL false) [.rf 1] = some (.fr ((srt (stepAll R)).map bv)) := by
    rw [q_sortT (xs := (stepAll R).map bv) rfl hf, hs]; rfl
  have e0 : stepAll [] = [] := rfl
  rw [e0] at h1
  simp only [List.map_nil] at h1
  clear hs hf K1 K2 K3 K4 hR hl
  rw [callN_eq t_stepped rfl rfl]
  simp only [f_stepped, b_stepped]
  rcases hd with rfl | rfl
  · walk_at "mp"
  · walk_at "mp"
end MP
set_option linter.all false
set_option Elab.async false
set_option maxRecDepth 100000
set_option maxHeartbeats 1000000
/-! I7: need_sums, weights, turned, the other side. -/
namespace MP
open PySem Bv
local macro_rules | `(tactic| walk_at "mp") => `(tactic| simp (config := { failIfUnchanged := false, implicitDefEqProofs := false }) only [q_rb, q_rbx, q_sb, q_sbx, q_non, q_bl, q_int, q_str, q_glb, q_var, q_varV, q_varO, q_tup, q_disp, q_tupK, q_dispK, q_bin, q_neg, q_negK, q_cmp, q_chain, q_chK, q_vd, q_vfr, q_vrf, q_vwK, q_tK, q_bK, q_add, q_sub, q_mul, q_fdiv, q_mod, q_pow18, q_tadd, q_ladd, q_tmul, q_lmul, q_eq, q_ne, q_lt, q_le, q_gt, q_ge,
  q_and, q_or, q_not, q_ite, q_andK, q_orK, q_notK, q_chkB, q_iteK, q_asB, q_idx, q_sqT, q_sqL, q_sqF, q_sqS, q_sqR, q_sqK, q_subK, q_giK, q_g0, q_g1, q_g2, q_g3, q_slc, q_ono, q_oyes, q_someO, q_sliT, q_sliL, q_sn, q_sc, q_mk, q_md, q_mf, q_mr, q_frzK, q_tn, q_tc, q_an, q_ac, q_aio, q_ioK, q_hn, q_hc, q_hk, q_hf, q_hd,
  q_call, q_ln, q_lv, q_lio, q_lendK, q_callK0, q_ix0, q_ixv, q_ixi, q_nd0, q_nd1, q_ok, q_okF, q_okX, q_un0, q_un1, q_retK, q_excK, q_bi, q_len, q_abs, q_bint, q_max2, q_min2, q_tupleOf, q_listOf, q_isi, q_isiF, q_all, q_lsL, q_lsF, q_lsR, q_allK, q_sum, q_sumK, q_pop, q_popK, q_comp, q_iseq, q_srcK, q_srcL, q_srcT, q_srcS, q_srcF, q_srcR, q_srcR', q_rng1, q_rgK, q_rg2K, q_enum, q_enK, q_zip, q_zT, q_zL, q_zK, q_cno, q_cyes, q_cond0, q_cond1,
  q_seq, q_seqK, q_seqR, q_seqX, q_pass, q_asg, q_asgD, q_asgF, q_asgR, q_ms, q_ret, q_retN, q_expr, q_ifs, q_ifK, q_for, q_forK, q_while, q_raise, q_ptup, q_nxK, q_asgH0, q_asgH1, q_atup, q_atK, q_asgs0, q_asgs1, q_tg1, q_tgN, q_aug, q_augK, q_ag2, q_apK, q_app, q_appK, q_setix, q_sxK, q_sx2, q_augix, q_finN, q_finD, q_finF, q_finR, q_rvK, q_finX, q_lp0, q_lpv, q_lpo,
  q_mindex, q_mcount, q_itT, q_itL, q_itF, q_itR, q_itK, q_mxK, q_mx2, q_mc2, q_ixK, q_any, List.getElem?_cons_zero, List.getElem?_cons_succ, List.set_cons_zero, List.set_cons_succ, List.cons_append, List.nil_append, List.append_nil, List.replicate, List.map_nil, List.map_cons, Option.map_some, Nat.reduceSub, Nat.reduceAdd, List.length_cons, List.length_nil, List.length_map, Nat.reduceLeDiff, if_true, if_false, ite_true, ite_false, Bool.false_eq_true, reduceCtorEq, Nat.zero_add, decide_true, decide_false, Bool.not_true, Bool.not_false, isTy, wipe, Int.reduceNeg, ne_eq, Int.reduceEq, not_false_eq_true, not_true_eq_false, Int.reduceLT, Int.reduceLE, Int.reduceAdd, Int.reduceSub, Int.reduceMul, Nat.reduceLT, Nat.reduceMul, Int.reduceToNat, decide_eq_true_eq, *])
/-- rows as the law draws them -/
structure Rows (w : Nat) (R : List BV) : Prop where
  wd : Wd w R
  w1 : 1 ≤ w
  w2 : w ≤ 7
  n1 : 1 ≤ R.length
  n2 : R.length ≤ 4
def indep (R : List BV) : Bool := decide ((stepAll R).length = R.length)
theorem srt_len (F : List BV) : (srt F).length = F.length := (srt_perm F).length_eq
theorem isT (k : TyK) (xs : List Dv) : isTy .tuple (.tup xs) = some true := rfl
theorem need_row {l : Tbl} {W : WhileF} {n w : Nat} {R : List BV} (H : Rows w R) {x : BV} {R' : List BV} (hx : x.length = w) (b : BV) (hb : b.length = w) : exec (callN (tbL l) W (n + 1)) W l_need_sums_1 [.val (bvs (x :: R')), .val (bv b), .none] = .nx [.val (bvs (x :: R')), .val (bv b), .none] := by
  have hi : ∀ z : Int, callN (tbL l) W (n + 1) 0 [.val (.int z)] = .ok (.d (.bl true)) [] := fun z => i_is_int
  have hc : compF (ev (callN (tbL l) W (n + 1)) e_need_sums_0) (.one 2) (evi (callN (tbL l) W (n + 1)) (.seq (.var 1))) none [2] [.val (bvs (x :: R')), .val (bv b), .none] = .ok (.fr (b.map fun _ => .bl true)) [.val (bvs (x :: R')), .val (bv b), .none] := by
    refine comp_all (g := none) (fun v : Bool => Dv.int (ob v)) (fun _ => .bl true) b ?_ (by unfold line; have := H.w2; omega) rfl (by decide) rfl ?_
    · have e : (b.map ob).map Dv.int = b.map fun v => Dv.int (ob v) := by rw [List.map_map]; rfl
      clear hx hb H
      walk_at "mp"
    · intro v _
      refine ⟨_, rfl, rfl, ?_⟩
      have h1 : (0 : Int) ≤ ob v := by cases v <;> decide
      have h2 : ob v ≤ 1 := by cases v <;> decide
      simp only [e_need_sums_0]
      clear hx hb H
      walk_at "mp"
  have h1 : (1 : Int) ≤ (x.length : Int) := by have := H.w1; omega
  have h2 : (x.length : Int) ≤ 10 := by have := H.w2; omega
  have h3 : (b.length : Int) = (x.length : Int) := by omega
  have h4 : allK (some (b.map fun _ => Dv.bl true)) = some (.d (.bl true)) := by
    have := @q_allK Bool (fun _ => true) b
    rw [this]; simp
  have hg : getI (bv x :: R'.map bv) 0 = some (bv x) := q_g0
  simp only [l_need_sums_1]
  clear hx hb H
  walk_at "mp"
theorem i_need_sums {l : Tbl} {W : WhileF} {n w : Nat} {R : List BV} (H : Rows w R) : callN (tbL l) W (n + 3) 90 [.val (bvs R)] = if indep R = true then .ok (.d .non) [] else .exc 2 [] := by
  have hne : R ≠ [] := fun z => by have := H.n1; rw [z] at this; simp at this
  cases hR : R with
  | nil => exact absurd hR hne
  | cons x R' =>
    have hx : x.length = w := H.wd x (by rw [hR]; simp)
    rw [← hR]
    obtain ⟨r', h1, v, rfl⟩ := forL_at (tg := .one 1) (g := none) (body := exec (callN (tbL l) W (n + 2)) W l_need_sums_1) bv (fun pre q => ∃ v, q = [.val (bvs R), v, .none]) R (by
      rintro pre b post q e ⟨v, rfl⟩
      refine ⟨_, _, rfl, ?_, rfl, .val (bv b), rfl⟩
      have := need_row (l := l) (W := W) (n := n + 1) H (x := x) (R' := R') hx b (H.wd b (by rw [e]; simp))
      rw [← hR] at this
      exact this) R [] [.val (bvs R), .none, .none] rfl ⟨.none, rfl⟩
    have hs := i_stepped (l := l) (W := W) (n := n) (R := R) (.inl rfl) H.wd (by have := H.w2; omega) (by have := H.n2; omega)
    have a1 : (1 : Int) ≤ (R.length : Int) := by have := H.n1; omega
    have a2 : (R.length : Int) ≤ 5 := by have := H.n2; omega
    have a3 := srt_len (stepAll R)
    have a4 : (((srt (stepAll R)).length : Int) = (R.length : Int)) ↔ (stepAll R).length = R.length := by rw [a3]; omega
    rw [callN_eq t_need_sums rfl rfl]
    simp only [f_need_sums, b_need_sums]
    unfold indep
    by_cases hd : (stepAll R).length = R.length
    · have a5 := a4.mpr hd
      clear a3 a4 hx H hR
      walk_at "mp"
    · have a5 : ¬ (((srt (stepAll R)).length : Int) = (R.length : Int)) := fun z => hd (a4.mp z)
      clear a3 a4 hx H hR
      walk_at "mp"
theorem i_weights {l : Tbl} {W : WhileF} {n w : Nat} {R : List BV} (H : Rows w R) : callN (tbL l) W (n + 4) 95 [.val (bvs R)] = if indep R = true then .ok (.d (ip (cn w (words w R)))) [] else .exc 2 [] := by
  have hne : R ≠ [] := fun z => by have := H.n1; rw [z] at this; simp at this
  cases hR : R with
  | nil => exact absurd hR hne
  | cons x R' =>
    have hx : x.length = w := H.wd x (by rw [hR]; simp)
    have hs := i_need_sums (l := l) (W := W) (n := n) H
    have hwd := i_words (l := l) (W := W) (n := n + 1) H.wd hne (by have := H.w2; omega) (by have := H.n2; omega)
    have hcn := i_counted (l := l) (W := W) (n := n + 2) (w := w) (ws := words w R) (words_len H.wd) (by have := H.w2; omega)
    have hg : ∀ (xs : List Dv), getI (bv x :: xs) 0 = some (bv x) := fun xs => q_g0
    rw [hR] at hs hwd hcn
    subst hx
    rw [callN_eq t_weights rfl rfl]
    simp only [f_weights, b_weights]
    cases hi : indep (x :: R') with
    | true =>
      rw [hi] at hs
      clear H hR
      walk_at "mp"
    | false =>
      rw [hi] at hs
      clear H hR
      walk_at "mp"
end MP
set_option linter.all false
set_option Elab.async false
set_option maxRecDepth 100000
set_option maxHeartbeats 2000000
/-! I8: turned. -/
namespace MP
open PySem Bv
local macro_rules | `(tactic| walk_at "mp") => `(tactic| simp (config := { failIfUnchanged := false, implicitDefEqProofs := false }) only [q_rb, q_rbx, q_sb, q_sbx, q_non, q_bl, q_int, q_str, q_glb, q_var, q_varV, q_varO, q_tup, q_disp, q_tupK, q_dispK, q_bin, q_neg, q_negK, q_cmp, q_chain, q_chK, q_vd, q_vfr, q_vrf, q_vwK, q_tK, q_bK, q_add, q_sub, q_mul, q_fdiv, q_mod, q_pow18, q_tadd, q_ladd, q_tmul, q_lmul, q_eq, q_ne, q_lt, q_le, q_gt, q_ge,
  q_and, q_or, q_not, q_ite, q_andK, q_orK, q_notK, q_chkB, q_iteK, q_asB, q_idx, q_sqT, q_sqL, q_sqF, q_sqS, q_sqR, q_sqK, q_subK, q_giK, q_g0, q_g1, q_g2, q_g3, q_slc, q_ono, q_oyes, q_someO, q_sliT, q_sliL, q_sn, q_sc, q_mk, q_md, q_mf, q_mr, q_frzK, q_tn, q_tc, q_an, q_ac, q_aio, q_ioK, q_hn, q_hc, q_hk, q_hf, q_hd,
  q_call, q_ln, q_lv, q_lio, q_lendK, q_callK0, q_ix0, q_ixv, q_ixi, q_nd0, q_nd1, q_ok, q_okF, q_okX, q_un0, q_un1, q_retK, q_excK, q_bi, q_len, q_abs, q_bint, q_max2, q_min2, q_tupleOf, q_listOf, q_isi, q_isiF, q_all, q_lsL, q_lsF, q_lsR, q_allK, q_sum, q_sumK, q_pop, q_popK, q_comp, q_iseq, q_srcK, q_srcL, q_srcT, q_srcS, q_srcF, q_srcR, q_srcR', q_rng1, q_rgK, q_rg2K, q_enum, q_enK, q_zip, q_zT, q_zL, q_zK, q_cno, q_cyes, q_cond0, q_cond1,
  q_seq, q_seqK, q_seqR, q_seqX, q_pass, q_asg, q_asgD, q_asgF, q_asgR, q_ms, q_ret, q_retN, q_expr, q_ifs, q_ifK, q_for, q_forK, q_while, q_raise, q_ptup, q_nxK, q_asgH0, q_asgH1, q_atup, q_atK, q_asgs0, q_asgs1, q_tg1, q_tgN, q_aug, q_augK, q_ag2, q_apK, q_app, q_appK, q_setix, q_sxK, q_sx2, q_augix, q_finN, q_finD, q_finF, q_finR, q_rvK, q_finX, q_lp0, q_lpv, q_lpo,
  q_mindex, q_mcount, q_itT, q_itL, q_itF, q_itR, q_itK, q_mxK, q_mx2, q_mc2, q_ixK, q_any, List.getElem?_cons_zero, List.getElem?_cons_succ, List.set_cons_zero, List.set_cons_succ, List.cons_append, List.nil_append, List.append_nil, List.replicate, List.map_nil, List.map_cons, Option.map_some, Nat.reduceSub, Nat.reduceAdd, List.length_cons, List.length_nil, List.length_map, Nat.reduceLeDiff, if_true, if_false, ite_true, ite_false, Bool.false_eq_true, reduceCtorEq, Nat.zero_add, decide_true, decide_false, Bool.not_true, Bool.not_false, isTy, wipe, Int.reduceNeg, ne_eq, Int.reduceEq, not_false_eq_true, not_true_eq_false, Int.reduceLT, Int.reduceLE, Int.reduceAdd, Int.reduceSub, Int.reduceMul, Nat.reduceLT, Nat.reduceMul, Int.reduceToNat, decide_eq_true_eq, *])
theorem genRow_snoc' {w a : Nat} {T : List BV} {t : BV} : genRow w (T ++ [t]) a = (genRow w T a).set (fi t) (bit t a) := genRow_snoc
theorem zip_leads (T : List BV) : zipD ((T.map fun t => (fi t : Int)).map .int) (T.map bv) = T.map fun t => .tup [.int (fi t), bv t] := by
  induction T with
  | nil => rfl
  | cons t T ih => simp only [List.map_cons, zipD, ih]
theorem turned_in {F : CallF} {W : WhileF} {w a : Nat} {s0 s1 s2 s3 s4 s7 s8 s9 : Sl} {T : List BV} (hT : Red w T) (ha : a < w) :
    ∃ s7' s8', forL (.tup [7, 8]) none (exec F W l_turned_0) (T.map fun t => .tup [.int (fi t), bv t]) [s0, s1, s2, s3, s4, .val (.int a), .own (((genRow w [] a).map ob).map .int), s7, s8, s9] = .nx [s0, s1, s2, s3, s4, .val (.int a), .own (((genRow w T a).map ob).map .int), s7', s8', s9] := by
  obtain ⟨r', h1, s7', s8', rfl⟩ := forL_at (tg := .tup [7, 8]) (g := none) (body := exec F W l_turned_0) (fun t => Dv.tup [.int (fi t), bv t]) (fun pre q => ∃ s7 s8, q = [s0, s1, s2, s3, s4, .val (.int a), .own (((genRow w pre a).map ob).map .int), s7, s8, s9]) T (by
    rintro pre b post q e ⟨s7, s8, rfl⟩
    have hb : b ∈ T := by rw [e]; simp
    have hbl := hT.wd b hb
    have hlt := fi_lt hT hb
    refine ⟨_, [s0, s1, s2, s3, s4, .val (.int a), .own (((genRow w (pre ++ [b]) a).map ob).map .int), .val (.int (fi b)), .val (bv b), s9], rfl, ?_, rfl, _, _, rfl⟩
    have hg := get_bv (v := b) (i := a) (by omega)
    have hx : ixN ((genRow w pre a).length) (fi b : Int) = some (fi b) := ixN_nat (by rw [genRow_len]; exact hlt)
    have hs : (((genRow w pre a).map ob).map Dv.int).set (fi b) (.int (ob (bit b a))) = ((genRow w (pre ++ [b]) a).map ob).map .int := by
      rw [genRow_snoc, List.map_set, List.map_set]
    simp only [l_turned_0]
    clear e hb hbl hlt hT ha
    walk_at "mp") T [] [s0, s1, s2, s3, s4, .val (.int a), .own (((genRow w [] a).map ob).map .int), s7, s8, s9] rfl ⟨s7, s8, rfl⟩
  exact ⟨s7', s8', h1⟩
/-- told and leads: held, or kept as data -/
def tl (k : Bool) (xs : List Dv) : Sl := if k then .own xs else .val (.lv xs)
theorem unit_ob (w a : Nat) : ((List.range w).map fun i : Nat => Dv.int (if (i : Int) = (a : Int) then 1 else 0)) = ((Bv.unit w a).map ob).map .int := by
  unfold Bv.unit
  rw [List.map_map, List.map_map]
  apply List.map_congr_left
  intro i _
  simp only [Function.comp]
  by_cases h : i = a
  · subst h; simp [ob]
  · have h1 : ¬ ((i : Int) = (a : Int)) := by omega
    have h2 : (i == a) = false := by simpa using h
    rw [if_neg h1, h2]; rfl
theorem nin_leads (T : List BV) (a : Nat) : cmpV .nin (some (.int a)) (some (.lv ((T.map fun t => (fi t : Int)).map .int))) = some (!isLead T a) := by
  rw [q_ninT (.inl rfl) itr_int itrs_int]
  congr 2
  rw [Bool.eq_iff_iff, decide_eq_true_iff, isLead_iff, List.mem_map]
  constructor
  · rintro ⟨z, hz, e⟩
    obtain ⟨t, ht, rfl⟩ := List.mem_map.mp hz
    simp only [Dv.int.injEq] at e
    exact ⟨t, ht, by omega⟩
  · rintro ⟨t, ht, e⟩
    exact ⟨_, List.mem_map.mpr ⟨t, ht, rfl⟩, by rw [e]⟩
theorem turned_loop {F : CallF} {W : WhileF} {w : Nat} {s0 : Sl} {T : List BV} (hT : Red w T) (hw : w < 1000) :
    ∃ k s5 s6 s7 s8, forL (.one 5) none (exec F W l_turned_2) ((List.range w).map fun i : Nat => .int (i : Int)) [s0, tl true (T.map bv), .val (.int w), tl true ((T.map fun t => (fi t : Int)).map .int), .own [], .none, .none, .none, .none, .none] = .nx [s0, tl k (T.map bv), .val (.int w), tl k ((T.map fun t => (fi t : Int)).map .int), .own ((gens w T).map bv), s5, s6, s7, s8, .none] := by
  obtain ⟨r', h1, k, s5, s6, s7, s8, rfl⟩ := forL_at (tg := .one 5) (g := none) (body := exec F W l_turned_2) (fun i : Nat => .int (i : Int)) (fun pre q => ∃ k s5 s6 s7 s8, q = [s0, tl k (T.map bv), .val (.int w), tl k ((T.map fun t => (fi t : Int)).map .int), .own (((pre.filter fun j => !isLead T j).map (genRow w T)).map bv), s5, s6, s7, s8, .none]) (List.range w) (by
    rintro pre a post q e ⟨k, s5, s6, s7, s8, rfl⟩
    have ha : a < w := by
      have : a ∈ List.range w := by rw [e]; simp
      simpa using this
    have hlen : (pre.filter fun j => !isLead T j).length < 1000 := by
      have h1 := List.length_filter_le (fun j => !isLead T j) pre
      have h2 := congrArg List.length e
      simp at h2; omega
    have hn := nin_leads T a
    cases hl : isLead T a with
    | true =>
      refine ⟨_, [s0, tl k (T.map bv), .val (.int w), tl k ((T.map fun t => (fi t : Int)).map .int), .own ((((pre ++ [a]).filter fun j => !isLead T j).map (genRow w T)).map bv), .val (.int a), s6, s7, s8, .none], rfl, ?_, rfl, k, _, _, _, _, rfl⟩
      rw [hl] at hn
      have ef : (pre ++ [a]).filter (fun j => !isLead T j) = pre.filter fun j => !isLead T j := by rw [List.filter_append]; simp [hl]
      rw [ef]
      simp only [l_turned_2]
      clear hl ef e hT ha hlen
      cases k
      · simp only [tl, Bool.false_eq_true, if_false]; walk_at "mp"
      · simp only [tl, if_true]; walk_at "mp"
    | false =>
      rw [hl] at hn
      have ef : (((pre ++ [a]).filter (fun j => !isLead T j)).map (genRow w T)).map bv = ((pre.filter fun j => !isLead T j).map (genRow w T)).map bv ++ [bv (genRow w T a)] := by rw [List.filter_append]; simp [hl]
      obtain ⟨s7', s8', h2⟩ := turned_in (F := F) (W := W) (w := w) (a := a) (s0 := s0) (s1 := tl false (T.map bv)) (s2 := .val (.int w)) (s3 := tl false ((T.map fun t => (fi t : Int)).map .int)) (s4 := .own (((pre.filter fun j => !isLead T j).map (genRow w T)).map bv)) (s7 := s7) (s8 := s8) (s9 := .none) hT ha
      refine ⟨_, [s0, tl false (T.map bv), .val (.int w), tl false ((T.map fun t => (fi t : Int)).map .int), .own ((((pre ++ [a]).filter fun j => !isLead T j).map (genRow w T)).map bv), .val (.int a), .own (((genRow w T a).map ob).map .int), s7', s8', .none], rfl, ?_, rfl, false, _, _, _, _, rfl⟩
      rw [ef]
      have hz := zip_leads T
      have hu := unit_ob w a
      have hr : inR (w : Int) = true := inR_of (by omega) (by omega)
      have hrg := rng_nat w
      have e3 : ((w : Int)).toNat = w := by omega
      have ha2 : (((pre.filter fun j => !isLead T j).map (genRow w T)).map bv).length < 16777216 := by simp; omega
      have h5 := fun r : Ro => q_appK (r := r) (i := 4) (z := bv (genRow w T a)) ha2
      have hc : ∀ s1 s3 s6, compF (ev F e_turned_1) (.one 9) (evi F (.rng1 (.var 2))) none [9] [s0, s1, .val (.int w), s3, .own (((pre.filter fun j => !isLead T j).map (genRow w T)).map bv), .val (.int a), s6, s7, s8, .none] = .ok (.fr (((Bv.unit w a).map ob).map .int)) [s0, s1, .val (.int w), s3, .own (((pre.filter fun j => !isLead T j).map (genRow w T)).map bv), .val (.int a), s6, s7, s8, .none] := by
        intro s1 s3 s6
        rw [← hu]
        refine comp_all (own := [9]) (g := none) (fun i : Nat => .int (i : Int)) (fun i : Nat => Dv.int (if (i : Int) = (a : Int) then 1 else 0)) (List.range w) ?_ (by unfold line; simp; omega) rfl (by decide) rfl ?_
        · clear h2 hz hu hn hl ef e hT ha hlen h5 ha2
          walk_at "mp"
        · intro i _
          refine ⟨_, rfl, rfl, ?_⟩
          simp only [e_turned_1]
          clear h2 hz hu hn hl ef e hT ha hlen h5 ha2 hr hrg e3
          by_cases hi : (i : Int) = (a : Int)
          · walk_at "mp"
          · walk_at "mp"
      simp only [tl, Bool.false_eq_true, if_false] at h2
      have hg0 : genRow w [] a = Bv.unit w a := rfl
      rw [hg0] at h2
      simp only [l_turned_2]
      clear hl ef e hT ha hlen ha2 hu hr hrg e3
      cases k
      · simp only [tl, Bool.false_eq_true, if_false]; walk_at "mp"
      · simp only [tl, if_true, Bool.false_eq_true, if_false]; walk_at "mp") (List.range w) [] [s0, tl true (T.map bv), .val (.int w), tl true ((T.map fun t => (fi t : Int)).map .int), .own [], .none, .none, .none, .none, .none] rfl ⟨true, .none, .none, .none, .none, rfl⟩
  exact ⟨k, s5, s6, s7, s8, h1⟩
/-- the other side's rows in steps -/
def turnR (w : Nat) (R : List BV) : List BV := srt (back w (srt (stepAll R)))
theorem red_srt {w : Nat} {R : List BV} (h : Wd w R) : Red w (srt (stepAll R)) := (stepAll_ok h).1.perm (srt_perm _).symm
theorem gens_len {w : Nat} {T : List BV} : (gens w T).length ≤ w := by
  unfold gens
  rw [List.length_map]
  have := List.length_filter_le (fun j => !isLead T j) (List.range w)
  simpa using this
theorem i_turned {l : Tbl} {W : WhileF} {n w : Nat} {R : List BV} (H : Rows w R) : callN (tbL l) W (n + 3) 96 [.val (bvs R)] = .ok (.d (bvs (turnR w R))) [] := by
  have hne : R ≠ [] := fun z => by have := H.n1; rw [z] at this; simp at this
  have hT := red_srt H.wd
  have hw : w < 1000 := by have := H.w2; omega
  have hs := i_stepped (l := l) (W := W) (n := n) (R := R) (.inl rfl) H.wd hw (by have := H.n2; omega)
  have hs2 := i_stepped (l := l) (W := W) (n := n) (w := w) (R := gens w (srt (stepAll R))) (.inr rfl) gens_wd hw (by have := @gens_len w (srt (stepAll R)); omega)
  have hlen : (srt (stepAll R)).length ≤ 4 := by
    rw [srt_len]; have := (stepAll_ok H.wd).2.2.1; have := H.n2; omega
  cases hR : R with
  | nil => exact absurd hR hne
  | cons x R' =>
    have hx : x.length = w := H.wd x (by rw [hR]; simp)
    have hg : ∀ (xs : List Dv), getI (bv x :: xs) 0 = some (bv x) := fun xs => q_g0
    rw [← hR]
    have hg : getI (R.map bv) 0 = some (bv x) := by rw [hR]; exact hg _
    unfold turnR back
    generalize srt (stepAll R) = T at *
    obtain ⟨k, s5, s6, s7, s8, h1⟩ := turned_loop (F := callN (tbL l) W (n + 2)) (W := W) (s0 := .val (bvs R)) hT hw
    simp only [tl, if_true] at h1
    have hc : compF (ev (callN (tbL l) W (n + 2)) e_turned_3) (.one 6) (evi (callN (tbL l) W (n + 2)) (.seq (.var 1))) none [6] [.val (bvs R), .own (T.map bv), .val (.int x.length), .none, .none, .none, .none, .none, .none, .none] = .ok (.fr ((T.map fun t => (fi t : Int)).map .int)) [.val (bvs R), .own (T.map bv), .val (.int x.length), .none, .none, .none, .none, .none, .none, .none] := by
      have e0 : (T.map fun t => (fi t : Int)).map Dv.int = T.map fun t => Dv.int (fi t) := by rw [List.map_map]; rfl
      rw [e0]
      refine comp_all (g := some (1, T.map bv)) bv (fun t => Dv.int (fi t)) T ?_ (by unfold line; omega) ?_ (by decide) rfl ?_
      · clear h1 hs hs2 hT H hR hx hne e0 hlen
        walk_at "mp"
      · exact beqs_self _
      · intro t ht
        refine ⟨_, rfl, rfl, ?_⟩
        have hi := idx_bv (hT.nz t ht) (by rw [hT.wd t ht]; omega)
        simp only [e_turned_3]
        clear h1 hs hs2 hT H hR hx hne e0 hlen
        walk_at "mp"
    have hr : inR (x.length : Int) = true := inR_of (by omega) (by omega)
    have hrg := rng_nat x.length
    have e3 : ((x.length : Int)).toNat = x.length := by omega
    subst hx
    rw [callN_eq t_turned rfl rfl]
    simp only [f_turned, b_turned]
    clear H hR hne hlen hT hw
    cases k
    · simp only [tl, Bool.false_eq_true, if_false] at h1; walk_at "mp"
    · simp only [tl, if_true] at h1; walk_at "mp"
end MP
set_option linter.all false
set_option Elab.async false
set_option maxRecDepth 100000
set_option maxHeartbeats 2000000
/-! I9: weights of both sides, unseen. -/
namespace MP
open PySem Bv
local macro_rules | `(tactic| walk_at "mp") => `(tactic| simp (config := { failIfUnchanged := false, implicitDefEqProofs := false }) only [q_rb, q_rbx, q_sb, q_sbx, q_non, q_bl, q_int, q_str, q_glb, q_var, q_varV, q_varO, q_tup, q_disp, q_tupK, q_dispK, q_bin, q_neg, q_negK, q_cmp, q_chain, q_chK, q_vd, q_vfr, q_vrf, q_vwK, q_tK, q_bK, q_add, q_sub, q_mul, q_fdiv, q_mod, q_pow18, q_tadd, q_ladd, q_tmul, q_lmul, q_eq, q_ne, q_lt, q_le, q_gt, q_ge,
  q_and, q_or, q_not, q_ite, q_andK, q_orK, q_notK, q_chkB, q_iteK, q_asB, q_idx, q_sqT, q_sqL, q_sqF, q_sqS, q_sqR, q_sqK, q_subK, q_giK, q_g0, q_g1, q_g2, q_g3, q_slc, q_ono, q_oyes, q_someO, q_sliT, q_sliL, q_sn, q_sc, q_mk, q_md, q_mf, q_mr, q_frzK, q_tn, q_tc, q_an, q_ac, q_aio, q_ioK, q_hn, q_hc, q_hk, q_hf, q_hd,
  q_call, q_ln, q_lv, q_lio, q_lendK, q_callK0, q_ix0, q_ixv, q_ixi, q_nd0, q_nd1, q_ok, q_okF, q_okX, q_un0, q_un1, q_retK, q_excK, q_bi, q_len, q_abs, q_bint, q_max2, q_min2, q_tupleOf, q_listOf, q_isi, q_isiF, q_all, q_lsL, q_lsF, q_lsR, q_allK, q_sum, q_sumK, q_pop, q_popK, q_comp, q_iseq, q_srcK, q_srcL, q_srcT, q_srcS, q_srcF, q_srcR, q_srcR', q_rng1, q_rgK, q_rg2K, q_enum, q_enK, q_zip, q_zT, q_zL, q_zK, q_cno, q_cyes, q_cond0, q_cond1,
  q_seq, q_seqK, q_seqR, q_seqX, q_pass, q_asg, q_asgD, q_asgF, q_asgR, q_ms, q_ret, q_retN, q_expr, q_ifs, q_ifK, q_for, q_forK, q_while, q_raise, q_ptup, q_nxK, q_asgH0, q_asgH1, q_atup, q_atK, q_asgs0, q_asgs1, q_tg1, q_tgN, q_aug, q_augK, q_ag2, q_apK, q_app, q_appK, q_setix, q_sxK, q_sx2, q_augix, q_finN, q_finD, q_finF, q_finR, q_rvK, q_finX, q_lp0, q_lpv, q_lpo,
  q_mindex, q_mcount, q_itT, q_itL, q_itF, q_itR, q_itK, q_mxK, q_mx2, q_mc2, q_ixK, q_any, List.getElem?_cons_zero, List.getElem?_cons_succ, List.set_cons_zero, List.set_cons_succ, List.cons_append, List.nil_append, List.append_nil, List.replicate, List.map_nil, List.map_cons, Option.map_some, Nat.reduceSub, Nat.reduceAdd, List.length_cons, List.length_nil, List.length_map, Nat.reduceLeDiff, if_true, if_false, ite_true, ite_false, Bool.false_eq_true, reduceCtorEq, Nat.zero_add, decide_true, decide_false, Bool.not_true, Bool.not_false, isTy, wipe, Int.reduceNeg, ne_eq, Int.reduceEq, not_false_eq_true, not_true_eq_false, Int.reduceLT, Int.reduceLE, Int.reduceAdd, Int.reduceSub, Int.reduceMul, Nat.reduceLT, Nat.reduceMul, Int.reduceToNat, decide_eq_true_eq, *])
theorem okMul_lt {x y : Int} {k m : Nat} (hx : x.natAbs < 2 ^ k) (hy : y.natAbs < 2 ^ m) (h : k + m < 1000000) : okMul x y = true := by
  unfold okMul
  rw [decide_eq_true_eq]
  have h1 : x.natAbs.log2 ≤ k := by
    by_cases e : x.natAbs = 0
    · rw [e]; simp
    · exact Nat.le_of_lt ((Nat.log2_lt e).mpr hx)
  have h2 : y.natAbs.log2 ≤ m := by
    by_cases e : y.natAbs = 0
    · rw [e]; simp
    · exact Nat.le_of_lt ((Nat.log2_lt e).mpr hy)
  omega
theorem okMul_k {x y : Int} (hx : x.natAbs < 1048576) (hy : y.natAbs < 1048576) : okMul x y = true := okMul_lt (k := 20) (m := 20) hx hy (by decide)
theorem i_other_side {l : Tbl} {W : WhileF} {n w : Nat} {R : List BV} (H : Rows w R) (hi : indep R = true) : callN (tbL l) W (n + 4) 97 [.val (bvs R)] = .ok (.d (bvs (turnR w R))) [] := by
  have h1 := i_need_sums (l := l) (W := W) (n := n) H
  have h2 := i_turned (l := l) (W := W) (n := n) H
  rw [if_pos hi] at h1
  rw [callN_eq t_other_side rfl rfl]
  simp only [f_other_side, b_other_side]
  clear H hi
  walk_at "mp"
/-- the words of the other side; the row of noughts alone if there is no row -/
def wordsO (w : Nat) (R : List BV) : List BV := words w R
theorem turn_wd {w : Nat} {R : List BV} (h : Wd w R) : Red w (turnR w R) := (back_okB (red_srt h)).1.perm (srt_perm _).symm
theorem turn_len {w : Nat} {R : List BV} : (turnR w R).length ≤ w := by
  unfold turnR back
  rw [srt_len]
  have := (stepAll_ok (gens_wd (n := w) (T := srt (stepAll R)))).2.2.1
  have := @gens_len w (srt (stepAll R))
  omega
theorem bvs_ne {R : List BV} : cmpV .ne (some (bvs R)) (some (.tup [])) = some (!decide (R = [])) := by
  rw [q_neT ?_ rfl]
  · congr 2
    cases R with
    | nil => rfl
    | cons x R => simp
  · show itrs 49 (R.map bv) = true
    exact itrs_map fun x _ => itr_tup
theorem i_other_weights {l : Tbl} {W : WhileF} {n w : Nat} {R : List BV} (H : Rows w R) (hi : indep R = true) : callN (tbL l) W (n + 4) 98 [.val (bvs R)] = .ok (.d (ip (cn w (words w (turnR w R))))) [] := by
  have hne : R ≠ [] := fun z => by have := H.n1; rw [z] at this; simp at this
  have h1 := i_need_sums (l := l) (W := W) (n := n) H
  have h2 := i_turned (l := l) (W := W) (n := n) H
  have hB := turn_wd H.wd
  rw [if_pos hi] at h1
  have hw : w < 1000 := by have := H.w2; omega
  have hcn := i_counted (l := l) (W := W) (n := n + 2) (w := w) (ws := words w (turnR w R)) (words_len hB.wd) hw
  have h3 := @bvs_ne (turnR w R)
  have hl := @turn_len w R
  cases hR : R with
  | nil => exact absurd hR hne
  | cons x R' =>
    have hx : x.length = w := H.wd x (by rw [hR]; simp)
    have hg : getI (R.map bv) 0 = some (bv x) := by rw [hR]; exact q_g0
    rw [← hR]
    by_cases hb : turnR w R = []
    · rw [hb] at h2 hcn h3 ⊢
      simp only [decide_true, Bool.not_true, List.map_nil, words_nil, List.map_cons] at h3 h2 hcn
      have e1 : (-1000000 : Int) ≤ (w : Int) ∧ (w : Int) ≤ 1000 ∧ [Dv.int 0].length ≤ 1000 := by simp; omega
      have e4 := q_tmul e1
      rw [show ((w : Int)).toNat = w by omega, rep_zero w] at e4
      rw [callN_eq t_other_weights rfl rfl]
      simp only [f_other_weights, b_other_weights]
      subst hx
      clear H hi hne hR hB e1 hl
      walk_at "mp"
      rfl
    · have hwd := i_words (l := l) (W := W) (n := n + 1) hB.wd hb hw (by have := H.w2; omega)
      simp only [hb, decide_false, Bool.not_false] at h3
      rw [callN_eq t_other_weights rfl rfl]
      simp only [f_other_weights, b_other_weights]
      subst hx
      clear H hi hne hR hB hl hb
      walk_at "mp"
/-! ### unseen -/
def ct (ws : List BV) (m : Nat) : Int := (ws.countP (fun v => wt v == m) : Int)
theorem enum_range {f : Nat → Int} : ∀ n : Nat, enumD 0 (((List.range n).map f).map .int) = (List.range n).map fun m => .tup [.int (m : Int), .int (f m)] := by
  intro n
  rw [enum_int]
  apply List.ext_getElem?
  intro i
  simp only [List.getElem?_map, List.getElem?_zipIdx]
  by_cases h : i < n
  · rw [List.getElem?_range h]; simp
  · rw [List.getElem?_eq_none (by simp; omega)]; rfl
def prt (w m : Nat) : List Int := timesP (powP [0, 1] m) (powP [1, -1] (w - m))
def uP (w : Nat) (ws : List BV) (ms : List Nat) : List Int := ms.foldl (fun acc m => if 0 < m then plusP acc (prt w m) (ct ws m) else acc) []
def vP (ws : List BV) (ms : List Nat) : List Int := ms.foldl (fun acc m => plusP acc (powP [1, -2] m) (ct ws m)) []
def okL (p : List Int) : Bool := decide (p.length < 100) && p.all fun x => decide (x.natAbs < 1048576)
theorem okL_ok {p : List Int} (h : okL p = true) : p.length < 100 ∧ ∀ x, x ∈ p → x.natAbs < 1048576 := by
  unfold okL at h
  rw [Bool.and_eq_true, decide_eq_true_eq, List.all_eq_true] at h
  exact ⟨h.1, fun x hx => by simpa using h.2 x hx⟩
theorem pow_ok : ∀ m, m < 8 → okL (powP [0, 1] m) = true ∧ okL (powP [1, -1] m) = true ∧ okL (powP [1, -2] m) = true := by decide +kernel
theorem prt_ok : ∀ m, m < 8 → ∀ k, k < 8 → okL (timesP (powP [0, 1] m) (powP [1, -1] k)) = true := by decide +kernel
theorem i_pow {l : Tbl} {W : WhileF} (hW : WBig W) {n m : Nat} {p : List Int} (hm : m < 8) (hp : p = [0, 1] ∨ p = [1, -1] ∨ p = [1, -2]) : callN (tbL l) W (n + 3) 7 [.val (ip p), .val (.int m)] = .ok (.d (ip (powP p m))) [] := by
  have key : ∀ k, k < 8 → okL (powP p k) = true := fun k hk => by
    have := pow_ok k hk
    rcases hp with rfl | rfl | rfl
    · exact this.1
    · exact this.2.1
    · exact this.2.2
  have hs : ∀ y, y ∈ p → y.natAbs < 1048576 := by rcases hp with rfl | rfl | rfl <;> decide
  have hl : p.length < 100 := by rcases hp with rfl | rfl | rfl <;> decide
  refine i_power hW (by omega) hl fun k hk => ?_
  obtain ⟨h1, h2⟩ := okL_ok (key k (by omega))
  exact ⟨by omega, fun x hx y hy => okMul_k (h2 x hx) (hs y hy)⟩
theorem addL_len2 : ∀ (a b : List Int) (m : Int), (addL a b m).length ≤ max a.length b.length
  | a, [], m => by cases a <;> simp [addL]
  | [], y :: b, m => by simp [addL]
  | x :: a, y :: b, m => by
    have := addL_len2 a b m
    simp only [addL, List.length_cons]; omega
theorem stripR_len : ∀ l : List Int, (stripR l).length ≤ l.length
  | [] => Nat.le_refl _
  | a :: l => by
    simp only [stripR]
    split
    · have := stripR_len l; simp; omega
    · exact Nat.le_refl _
theorem cutP_len (p : List Int) : (cutP p).length ≤ p.length := by
  unfold cutP
  rw [List.length_reverse]
  have := stripR_len p.reverse
  simpa using this
theorem plusP_len (a b : List Int) (m : Int) : (plusP a b m).length ≤ max a.length b.length := Nat.le_trans (cutP_len _) (addL_len2 a b m)
theorem ct_small {ws : List BV} {m : Nat} (h : ws.length ≤ 1024) : (ct ws m).natAbs < 1048576 := by
  unfold ct
  have := List.countP_le_length (p := fun v : BV => wt v == m) (l := ws)
  omega
theorem unseen_loop {l : Tbl} {W : WhileF} (hW : WBig W) {n w : Nat} {s0 : Sl} {ws : List BV} (hw : w < 8) (hl : ws.length ≤ 1024) :
    ∃ s3 s4 s5, forL (.tup [3, 4]) none (exec (callN (tbL l) W (n + 3)) W l_unseen_of_0) ((List.range (w + 1)).map fun m : Nat => Dv.tup [.int (m : Int), .int (ct ws m)]) [s0, .val (.int w), .val (.tup []), .none, .none, .none] = .nx [s0, .val (.int w), .val (ip (uP w ws (List.range (w + 1)))), s3, s4, s5] := by
  obtain ⟨r', h1, s3, s4, s5, rfl, _⟩ := forL_at (tg := .tup [3, 4]) (g := none) (body := exec (callN (tbL l) W (n + 3)) W l_unseen_of_0) (fun m : Nat => Dv.tup [.int (m : Int), .int (ct ws m)]) (fun pre q => ∃ s3 s4 s5, q = [s0, .val (.int w), .val (ip (uP w ws pre)), s3, s4, s5] ∧ (uP w ws pre).length < 1000) (List.range (w + 1)) (by
    rintro pre m post q e ⟨s3, s4, s5, rfl, hlen⟩
    have hm : m < w + 1 := by
      have : m ∈ List.range (w + 1) := by rw [e]; simp
      simpa using this
    have es : uP w ws (pre ++ [m]) = if 0 < m then plusP (uP w ws pre) (prt w m) (ct ws m) else uP w ws pre := by unfold uP; rw [List.foldl_append]; rfl
    by_cases h0 : 0 < m
    · rw [if_pos h0] at es
      have p1 := i_pow (l := l) hW (n := n) (m := m) (p := [0, 1]) (by omega) (.inl rfl)
      have p2 := i_pow (l := l) hW (n := n) (m := w - m) (p := [1, -1]) (by omega) (.inr (.inl rfl))
      obtain ⟨a1, a2⟩ := okL_ok (pow_ok m (by omega)).1
      obtain ⟨b1, b2⟩ := okL_ok (pow_ok (w - m) (by omega)).2.1
      have p3 := i_times (l := l) hW (n := n + 1) (a := powP [0, 1] m) (b := powP [1, -1] (w - m)) (by omega) (by omega) (fun x hx y hy => okMul_k (a2 x hx) (b2 y hy))
      obtain ⟨c1, c2⟩ := okL_ok (prt_ok m (by omega) (w - m) (by omega))
      have p4 := i_plus (l := l) hW (n := n + 1) (a := uP w ws pre) (b := prt w m) (m := ct ws m) (by omega) (by unfold prt; omega) (fun y hy => okMul_k (ct_small hl) (c2 y hy))
      have e1 : (w : Int) - (m : Int) = ((w - m : Nat) : Int) := by omega
      have e2 : (0 : Int) < (m : Int) := by omega
      have hl2 : (uP w ws (pre ++ [m])).length < 1000 := by
        rw [es]
        have := plusP_len (uP w ws pre) (prt w m) (ct ws m)
        have : (prt w m).length < 100 := c1
        omega
      refine ⟨_, [s0, .val (.int w), .val (ip (uP w ws (pre ++ [m]))), .val (.int m), .val (.int (ct ws m)), .val (ip (prt w m))], rfl, ?_, rfl, _, _, _, rfl, hl2⟩
      rw [es]
      have e3 : timesP (powP [0, 1] m) (powP [1, -1] (w - m)) = prt w m := rfl
      rw [e3] at p3
      simp only [ip, List.map_cons, List.map_nil] at p1 p2
      simp only [l_unseen_of_0]
      clear a1 a2 b1 b2 c1 c2 hl hl2 es e hm h0 hlen hw hW e3
      walk_at "mp"
    · rw [if_neg h0] at es
      have e2 : ¬ ((0 : Int) < (m : Int)) := by omega
      refine ⟨_, [s0, .val (.int w), .val (ip (uP w ws (pre ++ [m]))), .val (.int m), .val (.int (ct ws m)), s5], rfl, ?_, rfl, _, _, _, rfl, by rw [es]; exact hlen⟩
      rw [es]
      simp only [l_unseen_of_0]
      clear hl es e hm h0 hlen hw hW
      walk_at "mp") (List.range (w + 1)) [] [s0, .val (.int w), .val (.tup []), .none, .none, .none] rfl ⟨.none, .none, .none, rfl, by show 0 < 1000; decide⟩
  exact ⟨s3, s4, s5, h1⟩
theorem i_unseen_of {l : Tbl} {W : WhileF} (hW : WBig W) {n w : Nat} {R : List BV} (H : Rows w R) : callN (tbL l) W (n + 4) 99 [.val (bvs R)] = .ok (.d (ip (uP w (words w R) (List.range (w + 1))))) [] := by
  have hne : R ≠ [] := fun z => by have := H.n1; rw [z] at this; simp at this
  have hws : (words w R).length ≤ 1024 := by
    rw [words_size]
    exact Nat.le_trans (Nat.pow_le_pow_right (by decide) (Nat.le_trans H.n2 (by decide : 4 ≤ 10))) (by decide)
  obtain ⟨s3, s4, s5, h1⟩ := unseen_loop (l := l) hW (n := n) (w := w) (s0 := .val (bvs R)) (ws := words w R) (by have := H.w2; omega) hws
  have hwd := i_words (l := l) (W := W) (n := n + 1) H.wd hne (by have := H.w2; omega) (by have := H.n2; omega)
  have hcn := i_counted (l := l) (W := W) (n := n + 2) (w := w) (ws := words w R) (words_len H.wd) (by have := H.w2; omega)
  have he := enum_range (f := ct (words w R)) (w + 1)
  cases hR : R with
  | nil => exact absurd hR hne
  | cons x R' =>
    have hx : x.length = w := H.wd x (by rw [hR]; simp)
    have hg : getI (R.map bv) 0 = some (bv x) := by rw [hR]; exact q_g0
    rw [← hR]
    have he2 : enumD 0 ((cn w (words w R)).map .int) = (List.range (w + 1)).map fun m => .tup [.int (m : Int), .int (ct (words w R) m)] := he
    rw [callN_eq t_unseen_of rfl rfl]
    simp only [f_unseen_of, b_unseen_of]
    subst hx
    clear H hne hR he hws hW
    walk_at "mp"
theorem i_unseen {l : Tbl} {W : WhileF} (hW : WBig W) {n w : Nat} {R : List BV} (H : Rows w R) (hi : indep R = true) : callN (tbL l) W (n + 5) 100 [.val (bvs R)] = .ok (.d (ip (uP w (words w R) (List.range (w + 1))))) [] := by
  have h1 := i_need_sums (l := l) (W := W) (n := n + 1) H
  have h2 := i_unseen_of (l := l) hW (n := n) H
  rw [if_pos hi] at h1
  rw [callN_eq t_unseen rfl rfl]
  simp only [f_unseen, b_unseen]
  clear H hi hW
  walk_at "mp"
theorem seen_loop {l : Tbl} {W : WhileF} (hW : WBig W) {n w : Nat} {s0 s3 s6 s7 : Sl} {ws : List BV} (hw : w < 8) (hl : ws.length ≤ 1024) :
    ∃ s4 s5, forL (.tup [4, 5]) none (exec (callN (tbL l) W (n + 3)) W l_unseen_by_other_side_1) ((List.range (w + 1)).map fun m : Nat => Dv.tup [.int (m : Int), .int (ct ws m)]) [s0, .val (.int w), .val (.tup []), s3, .none, .none, s6, s7] = .nx [s0, .val (.int w), .val (ip (vP ws (List.range (w + 1)))), s3, s4, s5, s6, s7] ∧ (vP ws (List.range (w + 1))).length < 1000 := by
  obtain ⟨r', h1, s4, s5, rfl, h2⟩ := forL_at (tg := .tup [4, 5]) (g := none) (body := exec (callN (tbL l) W (n + 3)) W l_unseen_by_other_side_1) (fun m : Nat => Dv.tup [.int (m : Int), .int (ct ws m)]) (fun pre q => ∃ s4 s5, q = [s0, .val (.int w), .val (ip (vP ws pre)), s3, s4, s5, s6, s7] ∧ (vP ws pre).length < 1000) (List.range (w + 1)) (by
    rintro pre m post q e ⟨s4, s5, rfl, hlen⟩
    have hm : m < w + 1 := by
      have : m ∈ List.range (w + 1) := by rw [e]; simp
      simpa using this
    have es : vP ws (pre ++ [m]) = plusP (vP ws pre) (powP [1, -2] m) (ct ws m) := by unfold vP; rw [List.foldl_append]; rfl
    have p1 := i_pow (l := l) hW (n := n) (m := m) (p := [1, -2]) (by omega) (.inr (.inr rfl))
    obtain ⟨c1, c2⟩ := okL_ok (pow_ok m (by omega)).2.2
    have p4 := i_plus (l := l) hW (n := n + 1) (a := vP ws pre) (b := powP [1, -2] m) (m := ct ws m) (by omega) (by omega) (fun y hy => okMul_k (ct_small hl) (c2 y hy))
    have hl2 : (vP ws (pre ++ [m])).length < 1000 := by
      rw [es]
      have := plusP_len (vP ws pre) (powP [1, -2] m) (ct ws m)
      omega
    refine ⟨_, [s0, .val (.int w), .val (ip (vP ws (pre ++ [m]))), s3, .val (.int m), .val (.int (ct ws m)), s6, s7], rfl, ?_, rfl, _, _, rfl, hl2⟩
    rw [es]
    simp only [ip, List.map_cons, List.map_nil] at p1
    simp only [l_unseen_by_other_side_1]
    clear c1 c2 hl hl2 es e hm hlen hw hW
    walk_at "mp") (List.range (w + 1)) [] [s0, .val (.int w), .val (.tup []), s3, .none, .none, s6, s7] rfl ⟨.none, .none, rfl, by show 0 < 1000; decide⟩
  exact ⟨s4, s5, h1, h2⟩
def okDiv_of {j : Int} (h0 : j ≠ 0) (h : j.natAbs < 2 ^ 200) : okDiv j = true := by
  unfold okDiv
  rw [decide_eq_true h0, Bool.true_and, decide_eq_true_eq]
  have := (Nat.log2_lt (n := j.natAbs) (k := 200) (by omega)).mpr h
  omega
/-- how many words the other side has -/
def whole (w : Nat) (R : List BV) : Nat := (words w (turnR w R)).length
def oP (w : Nat) (R : List BV) : List Int := (plusP (vP (words w (turnR w R)) (List.range (w + 1))) (powP [1, -1] w) (-(whole w R : Int))).map fun z => z.fdiv (whole w R : Int)
theorem i_other {l : Tbl} {W : WhileF} (hW : WBig W) {n w : Nat} {R : List BV} (H : Rows w R) (hi : indep R = true) : callN (tbL l) W (n + 4) 101 [.val (bvs R)] = .ok (.d (ip (oP w R))) [] := by
  have hne : R ≠ [] := fun z => by have := H.n1; rw [z] at this; simp at this
  have h1 := i_need_sums (l := l) (W := W) (n := n) H
  have h2 := i_turned (l := l) (W := W) (n := n) H
  have hB := turn_wd H.wd
  rw [if_pos hi] at h1
  have hw : w < 1000 := by have := H.w2; omega
  have hw8 : w < 8 := by have := H.w2; omega
  have hcn := i_counted (l := l) (W := W) (n := n + 2) (w := w) (ws := words w (turnR w R)) (words_len hB.wd) hw
  have h3 := @bvs_ne (turnR w R)
  have hl := @turn_len w R
  have hws : (words w (turnR w R)).length ≤ 1024 := by
    rw [words_size]
    exact Nat.le_trans (Nat.pow_le_pow_right (by decide) (Nat.le_trans hl (by omega : w ≤ 10))) (by decide)
  have hws0 : 0 < (words w (turnR w R)).length := by rw [words_size]; exact Nat.two_pow_pos _
  obtain ⟨s4, s5, hlp, hlen⟩ := seen_loop (l := l) hW (n := n) (w := w) (s0 := .val (bvs R)) (s3 := .val (bvs (turnR w R))) (s6 := .none) (s7 := .none) (ws := words w (turnR w R)) hw8 hws
  have he2 : enumD 0 ((cn w (words w (turnR w R))).map .int) = (List.range (w + 1)).map fun m : Nat => Dv.tup [.int (m : Int), .int (ct (words w (turnR w R)) m)] := enum_range (f := ct (words w (turnR w R))) (w + 1)
  have p1 := i_pow (l := l) hW (n := n) (m := w) (p := [1, -1]) hw8 (.inr (.inl rfl))
  obtain ⟨c1, c2⟩ := okL_ok (pow_ok w hw8).2.1
  have p4 := i_plus (l := l) hW (n := n + 1) (a := vP (words w (turnR w R)) (List.range (w + 1))) (b := powP [1, -1] w) (m := -(whole w R : Int)) (by omega) (by omega) (fun y hy => okMul_k (by unfold whole; omega) (c2 y hy))
  have hdv : okDiv (whole w R : Int) = true := okDiv_of (by unfold whole; omega) (Nat.lt_of_le_of_lt (by unfold whole; omega : _ ≤ 1024) (by
    have : (2 : Nat) ^ 11 ≤ 2 ^ 200 := Nat.pow_le_pow_right (by decide) (by decide)
    have : (2 : Nat) ^ 11 = 2048 := rfl
    omega))
  have hlen2 : (plusP (vP (words w (turnR w R)) (List.range (w + 1))) (powP [1, -1] w) (-(whole w R : Int))).length < 100000 := by
    have := plusP_len (vP (words w (turnR w R)) (List.range (w + 1))) (powP [1, -1] w) (-(whole w R : Int)); omega
  simp only [ip, List.map_cons, List.map_nil] at p1
  cases hR : R with
  | nil => exact absurd hR hne
  | cons x R' =>
    have hx : x.length = w := H.wd x (by rw [hR]; simp)
    have hg : getI (R.map bv) 0 = some (bv x) := by rw [hR]; exact q_g0
    rw [← hR]
    subst hx
    unfold oP
    generalize hV : vP (words x.length (turnR x.length R)) (List.range (x.length + 1)) = V at *
    generalize hQ : plusP V (powP [1, -1] x.length) (-(whole x.length R : Int)) = Q at *
    have hc : ∀ s, compF (ev (callN (tbL l) W (n + 3)) e_unseen_by_other_side_0) (.one 7) (evi (callN (tbL l) W (n + 3)) (.seq (.call 5 (.cons (.var 2) (.cons (.call 7 (.cons (.tup (.cons (.int 1) (.cons (.neg (.int 1)) .nil))) (.cons (.var 1) .nil)) []) (.cons (.neg (.var 6)) .nil))) []))) none [7] [.val (bvs R), .val (.int x.length), .val (ip V), s, s4, s5, .val (.int (whole x.length R)), .none] = .ok (.fr ((Q.map fun z => z.fdiv (whole x.length R : Int)).map .int)) [.val (bvs R), .val (.int x.length), .val (ip V), s, s4, s5, .val (.int (whole x.length R)), .none] := by
      intro s
      rw [List.map_map]
      refine comp_all (own := [7]) (g := none) Dv.int (fun z => Dv.int (z.fdiv (whole x.length R : Int))) Q ?_ (by unfold line; omega) rfl (by decide) rfl ?_
      · clear h1 h2 h3 hcn he2 hlp hdv H hne hi hB hR hQ hV c1 c2 hW hws hws0 hl hlen hlen2 hw hw8
        walk_at "mp"
      · intro z _
        refine ⟨_, rfl, rfl, ?_⟩
        simp only [e_unseen_by_other_side_0]
        clear h1 h2 h3 hcn he2 hlp H hne hi hB hR hQ hV c1 c2 hW hws hws0 hl hlen hlen2 hw hw8 p1 p4
        walk_at "mp"
    by_cases hb : turnR x.length R = []
    · have hwh : whole x.length R = 1 := by unfold whole; rw [hb]; rfl
      rw [hwh] at hc ⊢
      rw [hb] at h2 hcn h3 he2 hlp
      simp only [decide_true, Bool.not_true, List.map_nil, words_nil, List.map_cons] at h3 h2 hcn he2 hlp
      have e1 : (-1000000 : Int) ≤ (x.length : Int) ∧ (x.length : Int) ≤ 1000 ∧ [Dv.int 0].length ≤ 1000 := by simp; omega
      have e4 := q_tmul e1
      rw [show ((x.length : Int)).toNat = x.length by omega, rep_zero x.length] at e4
      have hc := hc (.val (bvs []))
      simp only [Int.ofNat_one] at hc ⊢
      rw [callN_eq t_unseen_by_other_side rfl rfl]
      simp only [f_unseen_by_other_side, b_unseen_by_other_side]
      clear H hi hne hR hB e1 hl hQ hV c1 c2 hW hws hws0 hlen hlen2 hw hw8 hdv p1 p4 hwh hb
      walk_at "mp"
    · have hwd := i_words (l := l) (W := W) (n := n + 1) hB.wd hb hw (by have := H.w2; omega)
      simp only [hb, decide_false, Bool.not_false] at h3
      have hc := hc (.val (bvs (turnR x.length R)))
      have hwl : (words x.length (turnR x.length R)).length = whole x.length R := rfl
      rw [callN_eq t_unseen_by_other_side rfl rfl]
      simp only [f_unseen_by_other_side, b_unseen_by_other_side]
      clear H hi hne hR hB hl hQ hV c1 c2 hW hws hws0 hlen hlen2 hw hw8 hdv p1 p4 hb
      walk_at "mp"
end MP
set_option linter.all false
set_option Elab.async false
set_option maxRecDepth 100000
set_option maxHeartbeats 2000000
/-! I10: the laws' own helpers: draws, alike. -/
namespace MP
open PySem
section
variable {F : CallF} {W : WhileF} {s : Sl} {r r1 : Ro} {e a b c : E} {es : Es} {x y t u : T} {i j k n : Nat}
def inK (o : Option Bool) (v : Option Dv) (r : Ro) : Re T := match o, v with
  | some k, some _ => .ok (.d (.bl k)) r
  | _, _ => .bad
theorem q_isN {neg : Bool} : ev F (.isN a neg) (s :: r) = Rb (ev F a (s :: r)) fun t r1 => inK (isNT neg t) (viewT r1 t) r1 := by
  show isNF neg (ev F a) (s :: r) = _
  unfold isNF Rb inK
  cases ev F a (s :: r) <;> rfl
theorem q_inK {z : Bool} {v : Dv} : inK (some z) (some v) r = .ok (.d (.bl z)) r := rfl
theorem q_isTLt {xs : List Dv} : biT r .isTL [.d (.tup xs)] = some (.d (.bl true)) := rfl
theorem q_isTLl {xs : List Dv} : biT r .isTL [.d (.lv xs)] = some (.d (.bl true)) := rfl
theorem q_isTLf {xs : List Dv} : biT r .isTL [.fr xs] = some (.d (.bl true)) := rfl
theorem q_isTLi {z : Int} : biT r .isTL [.d (.int z)] = some (.d (.bl false)) := rfl
theorem q_neB {z w : Bool} : cmpV .ne (some (.bl z)) (some (.bl w)) = some (!decide (z = w)) := by cases z <;> cases w <;> rfl
theorem q_eqB {z w : Bool} : cmpV .eq (some (.bl z)) (some (.bl w)) = some (decide (z = w)) := by cases z <;> cases w <;> rfl
/-! a call's end with a list lent at place 0 -/
theorem q_f0D {z : Dv} {xs : List Dv} : finish [0] (.ret (.d z) (.own xs :: r)) = .ok (.d z) [.own xs] := rfl
theorem q_f0F {z xs : List Dv} : finish [0] (.ret (.fr z) (.own xs :: r)) = .ok (.fr z) [.own xs] := rfl
theorem q_f0N {xs : List Dv} : finish [0] (.nx (.own xs :: r)) = .ok (.d .non) [.own xs] := rfl
theorem q_f0X {xs : List Dv} : finish [0] (.exc i (.own xs :: r)) = .exc i [.own xs] := rfl
end
local macro_rules | `(tactic| walk_at "mp") => `(tactic| simp (config := { failIfUnchanged := false, implicitDefEqProofs := false }) only [q_rb, q_rbx, q_sb, q_sbx, q_non, q_bl, q_int, q_str, q_glb, q_var, q_varV, q_varO, q_tup, q_disp, q_tupK, q_dispK, q_bin, q_neg, q_negK, q_cmp, q_chain, q_chK, q_vd, q_vfr, q_vrf, q_vwK, q_tK, q_bK, q_add, q_sub, q_mul, q_fdiv, q_mod, q_pow18, q_tadd, q_ladd, q_tmul, q_lmul, q_eq, q_ne, q_lt, q_le, q_gt, q_ge,
  q_and, q_or, q_not, q_ite, q_andK, q_orK, q_notK, q_chkB, q_iteK, q_asB, q_idx, q_sqT, q_sqL, q_sqF, q_sqS, q_sqR, q_sqK, q_subK, q_giK, q_g0, q_g1, q_g2, q_g3, q_slc, q_ono, q_oyes, q_someO, q_sliT, q_sliL, q_sn, q_sc, q_mk, q_md, q_mf, q_mr, q_frzK, q_tn, q_tc, q_an, q_ac, q_aio, q_ioK, q_hn, q_hc, q_hk, q_hf, q_hd,
  q_call, q_ln, q_lv, q_lio, q_lendK, q_callK0, q_ix0, q_ixv, q_ixi, q_nd0, q_nd1, q_ok, q_okF, q_okX, q_un0, q_un1, q_retK, q_excK, q_bi, q_len, q_abs, q_bint, q_max2, q_min2, q_tupleOf, q_listOf, q_isi, q_isiF, q_all, q_lsL, q_lsF, q_lsR, q_allK, q_sum, q_sumK, q_pop, q_popK, q_comp, q_iseq, q_srcK, q_srcL, q_srcT, q_srcS, q_srcF, q_srcR, q_srcR', q_rng1, q_rgK, q_rg2K, q_enum, q_enK, q_zip, q_zT, q_zL, q_zK, q_cno, q_cyes, q_cond0, q_cond1,
  q_seq, q_seqK, q_seqR, q_seqX, q_pass, q_asg, q_asgD, q_asgF, q_asgR, q_ms, q_ret, q_retN, q_expr, q_ifs, q_ifK, q_for, q_forK, q_while, q_raise, q_ptup, q_nxK, q_asgH0, q_asgH1, q_atup, q_atK, q_asgs0, q_asgs1, q_tg1, q_tgN, q_aug, q_augK, q_ag2, q_apK, q_app, q_appK, q_setix, q_sxK, q_sx2, q_augix, q_finN, q_finD, q_finF, q_finR, q_rvK, q_finX, q_lp0, q_lpv, q_lpo,
  q_isN, q_inK, q_isTLt, q_isTLl, q_isTLf, q_isTLi, q_neB, q_eqB, q_f0D, q_f0F, q_f0N, q_f0X, q_mindex, q_mcount, q_itT, q_itL, q_itF, q_itR, q_itK, q_mxK, q_mx2, q_mc2, q_ixK, q_any, List.getElem?_cons_zero, List.getElem?_cons_succ, List.set_cons_zero, List.set_cons_succ, List.cons_append, List.nil_append, List.append_nil, List.replicate, List.map_nil, List.map_cons, Option.map_some, Nat.reduceSub, Nat.reduceAdd, List.length_cons, List.length_nil, List.length_map, Nat.reduceLeDiff, if_true, if_false, ite_true, ite_false, Bool.false_eq_true, reduceCtorEq, Nat.zero_add, decide_true, decide_false, Bool.not_true, Bool.not_false, isTy, wipe, Int.reduceNeg, ne_eq, Int.reduceEq, not_false_eq_true, not_true_eq_false, Int.reduceLT, Int.reduceLE, Int.reduceAdd, Int.reduceSub, Int.reduceMul, Nat.reduceLT, Nat.reduceMul, Int.reduceToNat, decide_eq_true_eq, *])
/-- the law's row: the script, how many are drawn, the mixed number, the rest -/
def rowL (ns : List Int) (i z d : Int) : List Dv := [.scr ns, .int i, .int z, .int d]
structure RowOk (i z : Int) : Prop where
  i0 : 0 ≤ i
  z0 : z.natAbs < 2 ^ 40
theorem fmod_bd {a m : Int} (h : 0 < m) : 0 ≤ a.fmod m ∧ a.fmod m < m := by
  rw [Int.fmod_eq_emod_of_nonneg a (Int.le_of_lt h)]
  exact ⟨Int.emod_nonneg a (by omega), Int.emod_lt_of_pos a h⟩
theorem i_taken {l : Tbl} {W : WhileF} {ns : List Int} {i z d m : Int} (H : RowOk i z) (hm : 0 < m) (hm2 : m < 1000000) : ∃ v i' z' d', RowOk i' z' ∧ 0 ≤ v ∧ v < m ∧ ∀ n, callN (tbL l) W (n + 1) 120 [.own (rowL ns i z d), .val (.int m)] = .ok (.d (.int v)) [.own (rowL ns i' z' d')] := by
  have hm0 : m ≠ 0 := by omega
  have hdv : okDiv m = true := okDiv_of hm0 (Nat.lt_of_lt_of_le (by omega : m.natAbs < 2 ^ 20) (Nat.pow_le_pow_right (by decide) (by decide)))
  have x1 : ixN 4 1 = some 1 := by decide
  have x2 : ixN 4 2 = some 2 := by decide
  have x3 : ixN 4 3 = some 3 := by decide
  have hmz : okMul z 48271 = true := okMul_lt (k := 40) (m := 20) H.z0 (by decide) (by decide)
  have hp : (2147483647 : Int) ≠ 0 := by decide
  have h7 : okDiv 7 = true := by decide
  have zb : ∀ y : Int, (y.fmod 2147483647).natAbs < 2 ^ 40 := fun y => by have := @fmod_bd y 2147483647 (by decide); omega
  by_cases hd : 0 < d
  · refine ⟨d.fmod m, i, z, d.fdiv m, H, (fmod_bd hm).1, (fmod_bd hm).2, fun n => ?_⟩
    rw [callN_eq t__law_taken rfl rfl]
    simp only [f__law_taken, b__law_taken, rowL]
    clear H hm hm2 zb
    walk_at "mp"
  · by_cases hi : (ns.length : Int) < i + 1
    · refine ⟨(((z * 48271 + 11).fmod 2147483647).fdiv 7).fmod m, i + 1, (z * 48271 + 11).fmod 2147483647, d, ⟨by have := H.i0; omega, zb _⟩, (fmod_bd hm).1, (fmod_bd hm).2, fun n => ?_⟩
      rw [callN_eq t__law_taken rfl rfl]
      simp only [f__law_taken, b__law_taken, rowL]
      clear H hm hm2 zb
      walk_at "mp"
    · have hlt : i.toNat < ns.length := by have := H.i0; omega
      obtain ⟨c, hc⟩ : ∃ c, ns[i.toNat]? = some c := ⟨ns[i.toNat], List.getElem?_eq_getElem hlt⟩
      have hg : getI (ns.map .int) (i + 1 - 1) = some (.int c) := by
        rw [getI_ofNat (m := i.toNat) (by have := H.i0; omega) (by simpa using hlt), List.getElem?_map, hc]; rfl
      by_cases hb : (1000000000000000000 : Int) ≤ c
      · refine ⟨c.fmod m, i + 1, (z * 48271 + c + 11).fmod 2147483647, c.fdiv m, ⟨by have := H.i0; omega, zb _⟩, (fmod_bd hm).1, (fmod_bd hm).2, fun n => ?_⟩
        rw [callN_eq t__law_taken rfl rfl]
        simp only [f__law_taken, b__law_taken, rowL]
        clear H hm hm2 zb hlt hc
        walk_at "mp"
      · refine ⟨c.fmod m, i + 1, (z * 48271 + c + 11).fmod 2147483647, d, ⟨by have := H.i0; omega, zb _⟩, (fmod_bd hm).1, (fmod_bd hm).2, fun n => ?_⟩
        rw [callN_eq t__law_taken rfl rfl]
        simp only [f__law_taken, b__law_taken, rowL]
        clear H hm hm2 zb hlt hc
        walk_at "mp"
/-! ### alike -/
mutual
/-- rows of rows of numbers -/
def ntr : Nat → Dv → Bool
  | _, .int _ => true
  | k + 1, .tup xs => decide (xs.length < 1000000) && ntrs k xs
  | k + 1, .lv xs => decide (xs.length < 1000000) && ntrs k xs
  | _, _ => false
def ntrs : Nat → List Dv → Bool
  | _, [] => true
  | k, x :: xs => ntr k x && ntrs k xs
end
theorem ntrs_get : ∀ {k : Nat} {xs : List Dv} {i : Nat} {x : Dv}, ntrs k xs = true → xs[i]? = some x → ntr k x = true
  | k, [], i, x, _, h => by simp at h
  | k, y :: xs, 0, x, h, e => by simp only [ntrs, Bool.and_eq_true] at h; simp at e; rw [← e]; exact h.1
  | k, y :: xs, i + 1, x, h, e => by simp only [ntrs, Bool.and_eq_true] at h; exact ntrs_get h.2 (by simpa using e)
theorem range_all {α : Type} [DecidableEq α] {xs ys : List α} (hl : xs.length = ys.length) {p : Nat → Bool} (hp : ∀ i, i < ys.length → p i = !decide (xs[i]? = ys[i]?)) : ((List.range ys.length).filter p = []) ↔ xs = ys := by
  rw [List.filter_eq_nil_iff]
  constructor
  · intro h
    apply List.ext_getElem?
    intro i
    by_cases hi : i < ys.length
    · have := h i (List.mem_range.mpr hi)
      rw [hp i hi] at this
      simpa using this
    · rw [List.getElem?_eq_none (by omega), List.getElem?_eq_none (by omega)]
  · rintro rfl i hi
    rw [hp i (List.mem_range.mp hi)]; simp
theorem alike_seq {l : Tbl} {W : WhileF} {n : Nat} {xs ys : List Dv} {X Y : Dv} (hX : X = .tup xs ∨ X = .lv xs) (hY : Y = .tup ys ∨ Y = .lv ys) (hl : xs.length = ys.length) (hlen : ys.length < 1000000) (h : ∀ (i : Nat) (x y : Dv), xs[i]? = some x → ys[i]? = some y → callN (tbL l) W n 121 [.val x, .val y] = .ok (.d (.bl (decide (x = y)))) []) :
    compF (ev (callN (tbL l) W n) e__law_alike_1) (.one 2) (evi (callN (tbL l) W n) (.rng1 (.bi .len (.cons (.var 1) .nil)))) (some fun r => asB (ev (callN (tbL l) W n) c__law_alike_0 r)) [2] [.val X, .val Y, .none] = .ok (.fr (((List.range ys.length).filter fun i => !decide (xs[i]? = ys[i]?)).map fun i : Nat => Dv.int (i : Int))) [.val X, .val Y, .none] := by
  have hr : inR (ys.length : Int) = true := inR_of (by omega) (by omega)
  have hrg := rng_nat ys.length
  have e3 : ((ys.length : Int)).toNat = ys.length := by omega
  refine comp_map (own := [2]) (g := none) (fun i : Nat => .int (i : Int)) (fun i => !decide (xs[i]? = ys[i]?)) (fun i : Nat => Dv.int (i : Int)) (List.range ys.length) ?_ (by unfold line; simp; omega) rfl (by decide) rfl ?_
  · clear h hl hlen
    rcases hY with rfl | rfl <;> walk_at "mp"
  · intro i hi
    have hi := List.mem_range.mp hi
    obtain ⟨x, hx⟩ : ∃ x, xs[i]? = some x := ⟨xs[i], List.getElem?_eq_getElem (by omega)⟩
    obtain ⟨y, hy⟩ : ∃ y, ys[i]? = some y := ⟨ys[i], List.getElem?_eq_getElem hi⟩
    have hc := h i x y hx hy
    have g1 : getI xs (i : Int) = some x := by rw [getI_nat (by omega), hx]
    have g2 : getI ys (i : Int) = some y := by rw [getI_nat hi, hy]
    have eo : decide (some x = some y) = decide (x = y) := by simp
    refine ⟨_, rfl, ?_, rfl, fun _ => ?_⟩
    · simp only [c__law_alike_0, hx, hy]
      clear h hl hlen hr hrg e3 hi hx hy
      rcases hX with rfl | rfl <;> rcases hY with rfl | rfl <;> walk_at "mp"
    · simp only [e__law_alike_1]
      walk_at "mp"
theorem ne_lvnil {p : List Nat} : cmpV .eq (some (.lv (p.map fun i : Nat => Dv.int (i : Int)))) (some (.lv [])) = some (decide (p = [])) := by
  rw [q_eqT ?_ rfl]
  · congr 2; cases p <;> simp
  · exact itrs_map fun x _ => itr_int
theorem i_alike {l : Tbl} {W : WhileF} : ∀ (k n : Nat) (x y : Dv), k ≤ 40 → ntr k x = true → ntr k y = true → callN (tbL l) W (n + k + 1) 121 [.val x, .val y] = .ok (.d (.bl (decide (x = y)))) [] := by
  intro k
  induction k with
  | zero =>
    intro n x y _ hx hy
    cases x <;> first | (simp [ntr] at hx; done) | skip
    cases y <;> first | (simp [ntr] at hy; done) | skip
    rename_i a b
    rw [callN_eq t__law_alike rfl rfl]
    simp only [f__law_alike, b__law_alike]
    simp only [Dv.int.injEq]
    have e1 : isNT false (.d (.int b)) = some false := rfl
    walk_at "mp"
  | succ k ih =>
    intro n x y hk hx hy
    have seq : ∀ (xs ys : List Dv) (X Y : Dv), (X = .tup xs ∨ X = .lv xs) → (Y = .tup ys ∨ Y = .lv ys) → decide (xs.length < 1000000) && ntrs k xs = true → decide (ys.length < 1000000) && ntrs k ys = true → xs.length = ys.length → compF (ev (callN (tbL l) W (n + (k + 1))) e__law_alike_1) (.one 2) (evi (callN (tbL l) W (n + (k + 1))) (.rng1 (.bi .len (.cons (.var 1) .nil)))) (some fun r => asB (ev (callN (tbL l) W (n + (k + 1))) c__law_alike_0 r)) [2] [.val X, .val Y, .none] = .ok (.fr (((List.range ys.length).filter fun i => !decide (xs[i]? = ys[i]?)).map fun i : Nat => Dv.int (i : Int))) [.val X, .val Y, .none] := by
      intro xs ys X Y hX hY h1 h2 hl
      simp only [Bool.and_eq_true, decide_eq_true_eq] at h1 h2
      exact alike_seq hX hY hl h2.1 fun i a b ha hb => ih n a b (by omega) (ntrs_get h1.2 ha) (ntrs_get h2.2 hb)
    have go : ∀ (xs ys : List Dv), decide (xs = ys) = decide ((List.range ys.length).filter (fun i => !decide (xs[i]? = ys[i]?)) = []) ∨ xs.length ≠ ys.length := fun xs ys => by
      by_cases hl : xs.length = ys.length
      · left
        rw [Bool.eq_iff_iff, decide_eq_true_iff, decide_eq_true_iff]
        exact (range_all hl fun i _ => rfl).symm
      · exact .inr hl
    have nl := @ne_lvnil
    rw [callN_eq t__law_alike rfl rfl]
    simp only [f__law_alike, b__law_alike]
    have e0 : ∀ z : Int, isNT false (.d (.int z)) = some false := fun _ => rfl
    have ln : ∀ xs ys : List Dv, xs.length ≠ ys.length → ¬ ((xs.length : Int) = (ys.length : Int)) := fun xs ys h z => h (by omega)
    have le : ∀ xs ys : List Dv, xs.length = ys.length → ((xs.length : Int) = (ys.length : Int)) := fun xs ys h => by omega
    have ne : ∀ xs ys : List Dv, xs.length ≠ ys.length → xs ≠ ys := fun xs ys h z => h (by rw [z])
    cases x <;> first | (simp [ntr] at hx; done) | skip
    · rename_i a
      cases y <;> first | (simp [ntr] at hy; done) | skip
      · rename_i b
        simp only [Dv.int.injEq]
        clear ih seq go nl ln le ne hx hy hk
        walk_at "mp"
      · clear ih seq go nl ln le ne hx hy hk; walk_at "mp"
      · clear ih seq go nl ln le ne hx hy hk; walk_at "mp"
    · rename_i xs
      cases y <;> first | (simp [ntr] at hy; done) | skip
      · clear ih seq go nl ln le ne hx hy hk; walk_at "mp"
      · rename_i ys
        simp only [Dv.tup.injEq]
        rcases Nat.decEq xs.length ys.length with hl | hl
        · have h1 := ln xs ys hl
          rw [decide_eq_false (ne xs ys hl)]
          clear ih seq go nl ln le ne hx hy hk hl
          walk_at "mp"
        · have hs := seq xs ys _ _ (.inl rfl) (.inl rfl) (by simpa [ntr] using hx) (by simpa [ntr] using hy) hl
          have hg := (go xs ys).resolve_right (fun z => z hl)
          rw [hg]
          have h1 := le xs ys hl
          clear ih seq go ln le ne hx hy hk hl hg
          walk_at "mp"
      · clear ih seq go nl ln le ne hx hy hk; walk_at "mp"
    · rename_i xs
      cases y <;> first | (simp [ntr] at hy; done) | skip
      · clear ih seq go nl ln le ne hx hy hk; walk_at "mp"
      · clear ih seq go nl ln le ne hx hy hk; walk_at "mp"
      · rename_i ys
        simp only [Dv.lv.injEq]
        rcases Nat.decEq xs.length ys.length with hl | hl
        · have h1 := ln xs ys hl
          rw [decide_eq_false (ne xs ys hl)]
          clear ih seq go nl ln le ne hx hy hk hl
          walk_at "mp"
        · have hs := seq xs ys _ _ (.inr rfl) (.inr rfl) (by simpa [ntr] using hx) (by simpa [ntr] using hy) hl
          have hg := (go xs ys).resolve_right (fun z => z hl)
          rw [hg]
          have h1 := le xs ys hl
          clear ih seq go ln le ne hx hy hk hl hg
          walk_at "mp"
end MP
set_option linter.all false
set_option Elab.async false
set_option maxRecDepth 100000
set_option maxHeartbeats 2000000
/-! I11: the laws' own polynomials, rows, words. -/
namespace MP
open PySem Bv
local macro_rules | `(tactic| walk_at "mp") => `(tactic| simp (config := { failIfUnchanged := false, implicitDefEqProofs := false }) only [q_rb, q_rbx, q_sb, q_sbx, q_non, q_bl, q_int, q_str, q_glb, q_var, q_varV, q_varO, q_tup, q_disp, q_tupK, q_dispK, q_bin, q_neg, q_negK, q_cmp, q_chain, q_chK, q_vd, q_vfr, q_vrf, q_vwK, q_tK, q_bK, q_add, q_sub, q_mul, q_fdiv, q_mod, q_pow18, q_tadd, q_ladd, q_tmul, q_lmul, q_eq, q_ne, q_lt, q_le, q_gt, q_ge,
  q_and, q_or, q_not, q_ite, q_andK, q_orK, q_notK, q_chkB, q_iteK, q_asB, q_idx, q_sqT, q_sqL, q_sqF, q_sqS, q_sqR, q_sqK, q_subK, q_giK, q_g0, q_g1, q_g2, q_g3, q_slc, q_ono, q_oyes, q_someO, q_sliT, q_sliL, q_sn, q_sc, q_mk, q_md, q_mf, q_mr, q_frzK, q_tn, q_tc, q_an, q_ac, q_aio, q_ioK, q_hn, q_hc, q_hk, q_hf, q_hd,
  q_call, q_ln, q_lv, q_lio, q_lendK, q_callK0, q_ix0, q_ixv, q_ixi, q_nd0, q_nd1, q_ok, q_okF, q_okX, q_un0, q_un1, q_retK, q_excK, q_bi, q_len, q_abs, q_bint, q_max2, q_min2, q_tupleOf, q_listOf, q_isi, q_isiF, q_all, q_lsL, q_lsF, q_lsR, q_allK, q_sum, q_sumK, q_pop, q_popK, q_comp, q_iseq, q_srcK, q_srcL, q_srcT, q_srcS, q_srcF, q_srcR, q_srcR', q_rng1, q_rgK, q_rg2K, q_enum, q_enK, q_zip, q_zT, q_zL, q_zK, q_cno, q_cyes, q_cond0, q_cond1,
  q_seq, q_seqK, q_seqR, q_seqX, q_pass, q_asg, q_asgD, q_asgF, q_asgR, q_ms, q_ret, q_retN, q_expr, q_ifs, q_ifK, q_for, q_forK, q_while, q_raise, q_ptup, q_nxK, q_asgH0, q_asgH1, q_atup, q_atK, q_asgs0, q_asgs1, q_tg1, q_tgN, q_aug, q_augK, q_ag2, q_apK, q_app, q_appK, q_setix, q_sxK, q_sx2, q_augix, q_finN, q_finD, q_finF, q_finR, q_rvK, q_finX, q_lp0, q_lpv, q_lpo,
  q_isN, q_inK, q_isTLt, q_isTLl, q_isTLf, q_isTLi, q_neB, q_eqB, q_f0D, q_f0F, q_f0N, q_f0X, q_mindex, q_mcount, q_itT, q_itL, q_itF, q_itR, q_itK, q_mxK, q_mx2, q_mc2, q_ixK, q_any, List.getElem?_cons_zero, List.getElem?_cons_succ, List.set_cons_zero, List.set_cons_succ, List.cons_append, List.nil_append, List.append_nil, List.replicate, List.map_nil, List.map_cons, Option.map_some, Nat.reduceSub, Nat.reduceAdd, List.length_cons, List.length_nil, List.length_map, Nat.reduceLeDiff, if_true, if_false, ite_true, ite_false, Bool.false_eq_true, reduceCtorEq, Nat.zero_add, decide_true, decide_false, Bool.not_true, Bool.not_false, isTy, wipe, Int.reduceNeg, ne_eq, Int.reduceEq, not_false_eq_true, not_true_eq_false, Int.reduceLT, Int.reduceLE, Int.reduceAdd, Int.reduceSub, Int.reduceMul, Nat.reduceLT, Nat.reduceMul, Int.reduceToNat, decide_eq_true_eq, *])
theorem addL_get : ∀ {a b : List Int} {m : Int} {i : Nat}, b.length ≤ a.length → (addL a b m)[i]? = a[i]?.map fun x => x + m * (b[i]?.getD 0)
  | [], [], m, i, _ => by simp [addL]
  | x :: a, [], m, i, _ => by simp [addL]
  | [], _ :: _, m, i, h => by simp at h
  | x :: a, y :: b, m, 0, h => by simp [addL]
  | x :: a, y :: b, m, i + 1, h => by
    simp only [addL, List.getElem?_cons_succ]
    exact addL_get (by simpa using h)
theorem addL_take {a b : List Int} {m : Int} {k : Nat} (h : b.length ≤ a.length) (hk : k < b.length) : ∃ x y, a[k]? = some x ∧ b[k]? = some y ∧ (addL a (b.take k) m)[k]? = some x ∧ (addL a (b.take k) m).set k (x + m * y) = addL a (b.take (k + 1)) m := by
  have hka : k < a.length := by omega
  refine ⟨a[k], b[k], List.getElem?_eq_getElem hka, List.getElem?_eq_getElem hk, ?_, ?_⟩
  · rw [addL_get (by simp; omega), List.getElem?_eq_getElem hka, List.getElem?_take]
    simp
  · apply List.ext_getElem?
    intro i
    by_cases e : k = i
    · subst e
      rw [List.getElem?_set_self (by rw [addL_len (by simp; omega)]; exact hka), addL_get (by simp; omega), List.getElem?_eq_getElem hka, List.getElem?_take, if_pos (by omega), List.getElem?_eq_getElem hk]
      rfl
    · rw [List.getElem?_set_ne e, addL_get (by simp; omega), addL_get (by simp; omega), List.getElem?_take, List.getElem?_take]
      by_cases h1 : i < k
      · rw [if_pos h1, if_pos (by omega)]
      · rw [if_neg h1, if_neg (by omega)]
theorem pp_loop {F : CallF} {W : WhileF} {s0 s5 : Sl} {m : Int} {a b : List Int} (h : b.length ≤ a.length) (hm : ∀ y, y ∈ b → okMul m y = true) :
    ∃ s4, forL (.one 4) none (exec F W l__law_p_plus_1) ((List.range b.length).map fun i : Nat => .int (i : Int)) [s0, .val (ip b), .val (.int m), .own (a.map .int), .none, s5] = .nx [s0, .val (ip b), .val (.int m), .own ((addL a b m).map .int), s4, s5] := by
  obtain ⟨r', h1, s4, rfl⟩ := forL_at (tg := .one 4) (g := none) (body := exec F W l__law_p_plus_1) (fun i : Nat => .int (i : Int)) (fun pre q => ∃ s4, q = [s0, .val (ip b), .val (.int m), .own ((addL a (b.take pre.length) m).map .int), s4, s5]) (List.range b.length) (by
    rintro pre i post q e ⟨s4, rfl⟩
    have hi : i < b.length := by
      have : i ∈ List.range b.length := by rw [e]; simp
      simpa using this
    have hil : pre.length = i := by
      have h2 := congrArg (fun l : List Nat => l[pre.length]?) e
      simp only [List.getElem?_append_right (Nat.le_refl _), Nat.sub_self, List.getElem?_cons_zero] at h2
      have h3 : pre.length < b.length := by have := congrArg List.length e; simp at this; omega
      rw [List.getElem?_range h3] at h2
      exact Option.some.inj h2
    subst hil
    obtain ⟨x, y, hx, hy, h4, h5⟩ := addL_take (m := m) h hi
    have g1 : getI ((addL a (b.take pre.length) m).map .int) (pre.length : Int) = some (.int x) := by
      rw [getI_nat (by rw [List.length_map, addL_len (by simp; omega)]; omega), List.getElem?_map, h4]; rfl
    have g2 : getI (b.map .int) (pre.length : Int) = some (.int y) := by
      rw [getI_nat (by simpa using hi), List.getElem?_map, hy]; rfl
    have hx2 : ixN ((addL a (b.take pre.length) m).length) (pre.length : Int) = some pre.length := ixN_nat (by rw [addL_len (by simp; omega)]; omega)
    have hs : ((addL a (b.take pre.length) m).map Dv.int).set pre.length (.int (x + m * y)) = (addL a (b.take (pre.length + 1)) m).map .int := by
      rw [← h5, List.map_set]
    have hmy : okMul m y = true := hm y (List.mem_of_getElem? hy)
    refine ⟨_, [s0, .val (ip b), .val (.int m), .own ((addL a (b.take (pre ++ [pre.length]).length) m).map .int), .val (.int (pre.length : Int)), s5], rfl, ?_, rfl, _, rfl⟩
    have el : (pre ++ [pre.length]).length = pre.length + 1 := by simp
    rw [el]
    simp only [l__law_p_plus_1]
    clear e hi hx hy h4 h5 hm h el
    walk_at "mp") (List.range b.length) [] [s0, .val (ip b), .val (.int m), .own (a.map .int), .none, s5] rfl ⟨.none, by cases a <;> rfl⟩
  rw [List.length_range, List.take_length] at h1
  exact ⟨s4, h1⟩
theorem cutP_idem_snoc {q : List Int} {x : Int} (h : x ≠ 0) : cutP (q ++ [x]) = q ++ [x] := cutP_snoc h
theorem strip_loop {F : CallF} {W : WhileF} {s0 s1 s2 s4 : Sl} : ∀ (ys : List Dv) (xs : List Int) (s5 : Sl), (xs.length ≤ ys.length ∨ cutP xs = xs) → ∃ s5', forL (.one 5) none (exec F W l__law_p_plus_0) ys [s0, s1, s2, .own (xs.map .int), s4, s5] = .nx [s0, s1, s2, .own ((cutP xs).map .int), s4, s5'] := by
  intro ys
  induction ys with
  | nil =>
    intro xs s5 h
    have e : cutP xs = xs := by
      rcases h with h | h
      · have : xs = [] := List.eq_nil_of_length_eq_zero (by simpa using h)
        rw [this]; rfl
      · exact h
    exact ⟨s5, by rw [e]; rfl⟩
  | cons y ys ih =>
    intro xs s5 h
    rcases snoc_cases xs with e | ⟨q, a, rfl⟩
    · subst e
      obtain ⟨s5', h1⟩ := ih [] (.val y) (.inr rfl)
      refine ⟨s5', ?_⟩
      have hb : exec F W l__law_p_plus_0 [s0, s1, s2, .own (([] : List Int).map .int), s4, .val y] = .nx [s0, s1, s2, .own (([] : List Int).map .int), s4, .val y] := by
        have hn : cmpV .ne (some (.lv [])) (some (.lv [])) = some false := by rw [q_neT rfl rfl]; rfl
        simp only [l__law_p_plus_0]
        clear ih h1
        walk_at "mp"
      simp only [forL, gOk_none, if_true, q_tg1, List.set_cons_zero, List.set_cons_succ, hb, h1]
    · have hn : cmpV .ne (some (.lv ((q ++ [a]).map .int))) (some (.lv [])) = some true := by
        rw [q_neT itr_lv rfl]; simp
      have hg : getI ((q ++ [a]).map .int) (-1) = some (.int a) := by rw [List.map_append]; exact q_gm1
      by_cases ha : a = 0
      · subst ha
        obtain ⟨s5', h1⟩ := ih q (.val y) (by
          rcases h with h | h
          · left; simp at h; omega
          · rw [cutP_snoc0] at h
            have := cutP_len q
            rw [h] at this; simp at this; omega)
        refine ⟨s5', ?_⟩
        have hc : cut ((q ++ [0]).map .int) none (some (-1)) = q.map .int := by
          unfold cut clip
          simp
          rw [show (-1 + ((q.length : Int) + 1)).toNat = (q.map Dv.int).length by simp; omega, List.take_left']
          rfl
        have hb : exec F W l__law_p_plus_0 [s0, s1, s2, .own ((q ++ [0]).map .int), s4, .val y] = .nx [s0, s1, s2, .own (q.map .int), s4, .val y] := by
          simp only [l__law_p_plus_0]
          clear ih h1 h
          walk_at "mp"
        simp only [forL, gOk_none, if_true, q_tg1, List.set_cons_zero, List.set_cons_succ, hb, h1, cutP_snoc0]
      · obtain ⟨s5', h1⟩ := ih (q ++ [a]) (.val y) (.inr (cutP_snoc ha))
        refine ⟨s5', ?_⟩
        have hb : exec F W l__law_p_plus_0 [s0, s1, s2, .own ((q ++ [a]).map .int), s4, .val y] = .nx [s0, s1, s2, .own ((q ++ [a]).map .int), s4, .val y] := by
          simp only [l__law_p_plus_0]
          clear ih h1 h
          walk_at "mp"
        simp only [forL, gOk_none, if_true, q_tg1, List.set_cons_zero, List.set_cons_succ, hb, h1]
theorem i_pplus {l : Tbl} {W : WhileF} {n : Nat} {a b : List Int} {m : Int} (ha : a.length < 100000) (hb : b.length < 100000) (hm : ∀ y, y ∈ b → okMul m y = true) : callN (tbL l) W (n + 1) 129 [.val (ip a), .val (ip b), .val (.int m)] = .ok (.d (ip (plusP a b m))) [] := by
  have e0 : (if (b.length : Int) - a.length > 0 then (b.length : Int) - a.length else 0) = ((b.length - a.length : Nat) : Int) := by split <;> omega
  have e1 : (-1000000 : Int) ≤ ((b.length - a.length : Nat) : Int) ∧ ((b.length - a.length : Nat) : Int) ≤ 1000000 ∧ [Dv.int 0].length * (((b.length - a.length : Nat) : Int)).toNat ≤ 16777216 := by simp; omega
  have e2 : rep [Dv.int 0] (b.length - a.length) = (List.replicate (b.length - a.length) 0).map Dv.int := by rw [rep_one, List.map_replicate]
  have e3 : (a.map Dv.int).length + ((List.replicate (b.length - a.length) 0).map Dv.int).length ≤ 16777216 := by simp; omega
  have e4 := q_lmul e1
  have e5 := q_ladd e3
  simp only [Int.toNat_natCast, e2] at e4
  rw [← List.map_append] at e5
  obtain ⟨s4, h⟩ := pp_loop (F := callN (tbL l) W n) (W := W) (s0 := .val (ip a)) (s5 := .none) (m := m) (a := a ++ List.replicate (b.length - a.length) 0) (b := b) (by simp; omega) hm
  simp only [addL_pad] at h
  obtain ⟨s5, h2⟩ := strip_loop (F := callN (tbL l) W n) (W := W) (s0 := .val (ip a)) (s1 := .val (ip b)) (s2 := .val (.int m)) (s4 := s4) ((addL a b m).map .int) (addL a b m) .none (.inl (by simp))
  have hr : inR (b.length : Int) = true := inR_of (by omega) (by omega)
  have hrg := rng_nat b.length
  have e6 : ((b.length : Int)).toNat = b.length := by omega
  clear ha hb hm e1 e2 e3
  rw [callN_eq t__law_p_plus rfl rfl]
  simp only [f__law_p_plus, b__law_p_plus]
  walk_at "mp"
  rfl
/-- the product, as the laws reckon it -/
def ptS (a b acc : List Int) (i : Nat) : List Int := plusP acc (List.replicate i 0 ++ b) (a[i]?.getD 0)
def ptP (a b : List Int) : List Int := (List.range a.length).foldl (ptS a b) []
theorem ptP_len {a b : List Int} : ∀ (is : List Nat), (∀ i, i ∈ is → i < a.length) → (is.foldl (ptS a b) []).length ≤ a.length + b.length := by
  intro is
  induction is using snoc_ind with
  | h0 => intro _; simp
  | h1 is i ih =>
    intro h
    rw [List.foldl_append]
    have h1 := ih fun j hj => h j (List.mem_append_left _ hj)
    have h2 := plusP_len (is.foldl (ptS a b) []) (List.replicate i 0 ++ b) (a[i]?.getD 0)
    have h3 := h i (by simp)
    simp only [List.length_append, List.length_replicate] at h2
    show (plusP _ _ _).length ≤ _
    omega
theorem rep_int (k : Nat) : rep [Dv.int 0] k = (List.replicate k 0).map .int := by rw [rep_one, List.map_replicate]
theorem i_ptimes {l : Tbl} {W : WhileF} {n k m : Nat} {a b : List Int} (ha : a.length ≤ 1000) (hb : b.length < 50000) (hk : k + m < 1000000) (hx : ∀ x, x ∈ a → x.natAbs < 2 ^ k) (hy : ∀ y, y ∈ b → y.natAbs < 2 ^ m) : callN (tbL l) W (n + 2) 130 [.val (ip a), .val (ip b)] = .ok (.d (ip (ptP a b))) [] := by
  obtain ⟨r', h1, s3, rfl⟩ := forL_at (tg := .one 3) (g := none) (body := exec (callN (tbL l) W (n + 1)) W l__law_p_times_0) (fun i : Nat => .int (i : Int)) (fun pre q => ∃ s3, q = [.val (ip a), .val (ip b), .val (ip (pre.foldl (ptS a b) [])), s3]) (List.range a.length) (by
    rintro pre i post q e ⟨s3, rfl⟩
    have hi : i < a.length := by
      have : i ∈ List.range a.length := by rw [e]; simp
      simpa using this
    have hpre : ∀ j, j ∈ pre → j < a.length := fun j hj => by
      have : j ∈ List.range a.length := by rw [e]; simp [hj]
      simpa using this
    have hl := ptP_len (b := b) pre hpre
    obtain ⟨x, hax⟩ : ∃ x, a[i]? = some x := ⟨a[i], List.getElem?_eq_getElem hi⟩
    have hxm := List.mem_of_getElem? hax
    have p1 := i_pplus (l := l) (W := W) (n := n) (a := pre.foldl (ptS a b) []) (b := List.replicate i 0 ++ b) (m := x) (by omega) (by simp; omega) (fun y hy' => by
      rcases List.mem_append.mp hy' with z | z
      · rw [(List.mem_replicate.mp z).2]
        exact okMul_lt (hx x hxm) (by simpa using Nat.two_pow_pos m) hk
      · exact okMul_lt (hx x hxm) (hy y z) hk)
    have e1 : (-1000000 : Int) ≤ (i : Int) ∧ (i : Int) ≤ 1000 ∧ [Dv.int 0].length ≤ 1000 := by simp; omega
    have e4 := q_tmul e1
    rw [show ((i : Int)).toNat = i by omega, rep_int] at e4
    have e3 : ((List.replicate i (0 : Int)).map Dv.int).length + (b.map Dv.int).length ≤ 16777216 := by simp; omega
    have e5 := q_tadd e3
    rw [← List.map_append] at e5
    have g1 : getI (a.map .int) (i : Int) = some (.int x) := by rw [getI_nat (by simpa using hi), List.getElem?_map, hax]; rfl
    refine ⟨_, [.val (ip a), .val (ip b), .val (ip ((pre ++ [i]).foldl (ptS a b) [])), .val (.int i)], rfl, ?_, rfl, _, rfl⟩
    have ef : (pre ++ [i]).foldl (ptS a b) [] = plusP (pre.foldl (ptS a b) []) (List.replicate i 0 ++ b) x := by
      rw [List.foldl_append]
      show plusP _ _ (a[i]?.getD 0) = _
      rw [hax]; rfl
    rw [ef]
    simp only [l__law_p_times_0]
    clear e hi hpre hl hax hxm e1 e3 ef hx hy hk ha hb
    walk_at "mp") (List.range a.length) [] [.val (ip a), .val (ip b), .val (ip []), .none] rfl ⟨.none, rfl⟩
  have hr : inR (a.length : Int) = true := inR_of (by omega) (by omega)
  have hrg := rng_nat a.length
  have e6 : ((a.length : Int)).toNat = a.length := by omega
  simp only [ip, List.map_nil] at h1
  clear hx hy ha hb
  rw [callN_eq t__law_p_times rfl rfl]
  simp only [f__law_p_times, b__law_p_times]
  walk_at "mp"
  rfl
end MP
set_option linter.all false
set_option Elab.async false
set_option maxRecDepth 100000
set_option maxHeartbeats 2000000
/-! I12: all rows, all sums, as the laws reckon them. -/
namespace MP
open PySem Bv
local macro_rules | `(tactic| walk_at "mp") => `(tactic| simp (config := { failIfUnchanged := false, implicitDefEqProofs := false }) only [q_rb, q_rbx, q_sb, q_sbx, q_non, q_bl, q_int, q_str, q_glb, q_var, q_varV, q_varO, q_tup, q_disp, q_tupK, q_dispK, q_bin, q_neg, q_negK, q_cmp, q_chain, q_chK, q_vd, q_vfr, q_vrf, q_vwK, q_tK, q_bK, q_add, q_sub, q_mul, q_fdiv, q_mod, q_pow18, q_tadd, q_ladd, q_tmul, q_lmul, q_eq, q_ne, q_lt, q_le, q_gt, q_ge,
  q_and, q_or, q_not, q_ite, q_andK, q_orK, q_notK, q_chkB, q_iteK, q_asB, q_idx, q_sqT, q_sqL, q_sqF, q_sqS, q_sqR, q_sqK, q_subK, q_giK, q_g0, q_g1, q_g2, q_g3, q_slc, q_ono, q_oyes, q_someO, q_sliT, q_sliL, q_sn, q_sc, q_mk, q_md, q_mf, q_mr, q_frzK, q_tn, q_tc, q_an, q_ac, q_aio, q_ioK, q_hn, q_hc, q_hk, q_hf, q_hd,
  q_call, q_ln, q_lv, q_lio, q_lendK, q_callK0, q_ix0, q_ixv, q_ixi, q_nd0, q_nd1, q_ok, q_okF, q_okX, q_un0, q_un1, q_retK, q_excK, q_bi, q_len, q_abs, q_bint, q_max2, q_min2, q_tupleOf, q_listOf, q_isi, q_isiF, q_all, q_lsL, q_lsF, q_lsR, q_allK, q_sum, q_sumK, q_pop, q_popK, q_comp, q_iseq, q_srcK, q_srcL, q_srcT, q_srcS, q_srcF, q_srcR, q_srcR', q_rng1, q_rgK, q_rg2K, q_enum, q_enK, q_zip, q_zT, q_zL, q_zK, q_cno, q_cyes, q_cond0, q_cond1,
  q_seq, q_seqK, q_seqR, q_seqX, q_pass, q_asg, q_asgD, q_asgF, q_asgR, q_ms, q_ret, q_retN, q_expr, q_ifs, q_ifK, q_for, q_forK, q_while, q_raise, q_ptup, q_nxK, q_asgH0, q_asgH1, q_atup, q_atK, q_asgs0, q_asgs1, q_tg1, q_tgN, q_aug, q_augK, q_ag2, q_apK, q_app, q_appK, q_setix, q_sxK, q_sx2, q_augix, q_finN, q_finD, q_finF, q_finR, q_rvK, q_finX, q_lp0, q_lpv, q_lpo,
  q_isN, q_inK, q_isTLt, q_isTLl, q_isTLf, q_isTLi, q_neB, q_eqB, q_f0D, q_f0F, q_f0N, q_f0X, q_mindex, q_mcount, q_itT, q_itL, q_itF, q_itR, q_itK, q_mxK, q_mx2, q_mc2, q_ixK, q_any, List.getElem?_cons_zero, List.getElem?_cons_succ, List.set_cons_zero, List.set_cons_succ, List.cons_append, List.nil_append, List.append_nil, List.replicate, List.map_nil, List.map_cons, Option.map_some, Nat.reduceSub, Nat.reduceAdd, List.length_cons, List.length_nil, List.length_map, Nat.reduceLeDiff, if_true, if_false, ite_true, ite_false, Bool.false_eq_true, reduceCtorEq, Nat.zero_add, decide_true, decide_false, Bool.not_true, Bool.not_false, isTy, wipe, Int.reduceNeg, ne_eq, Int.reduceEq, not_false_eq_true, not_true_eq_false, Int.reduceLT, Int.reduceLE, Int.reduceAdd, Int.reduceSub, Int.reduceMul, Nat.reduceLT, Nat.reduceMul, Int.reduceToNat, decide_eq_true_eq, *])
def rowsI (k : Nat) : Nat → List (List Int)
  | 0 => [[]]
  | n + 1 => (rowsI k n).flatMap fun r => (List.range k).map fun c : Nat => r ++ [(c : Int)]
theorem rowsI_len {k : Nat} : ∀ {n : Nat} {r : List Int}, r ∈ rowsI k n → r.length = n
  | 0, r, h => by simp [rowsI] at h; rw [h]; rfl
  | n + 1, r, h => by
    simp only [rowsI, List.mem_flatMap, List.mem_map] at h
    obtain ⟨s, hs, c, _, rfl⟩ := h
    rw [List.length_append, rowsI_len hs]; rfl
theorem rowsI_size {k : Nat} : ∀ n : Nat, (rowsI k n).length = k ^ n
  | 0 => rfl
  | n + 1 => by
    simp only [rowsI, List.length_flatMap, List.length_map, List.length_range]
    have : ∀ l : List (List Int), (l.map fun _ => k).sum = l.length * k := by
      intro l
      induction l with
      | nil => simp
      | cons x l ih => simp only [List.map_cons, List.sum_cons, ih, List.length_cons]; rw [Nat.succ_mul, Nat.add_comm]
    rw [this, rowsI_size n, Nat.pow_succ]
/-- one row longer by each letter -/
def grow (k : Nat) (rs : List (List Int)) : List (List Int) := rs.flatMap fun r => (List.range k).map fun c : Nat => r ++ [(c : Int)]
theorem grow_snoc {k : Nat} {rs : List (List Int)} {r : List Int} : grow k (rs ++ [r]) = grow k rs ++ (List.range k).map fun c : Nat => r ++ [(c : Int)] := by
  unfold grow; rw [List.flatMap_append]; simp
theorem grow_size {k : Nat} {rs : List (List Int)} : (grow k rs).length = rs.length * k := by
  unfold grow
  simp only [List.length_flatMap, List.length_map, List.length_range]
  induction rs with
  | nil => simp
  | cons x l ih => simp only [List.map_cons, List.sum_cons, ih, List.length_cons]; rw [Nat.succ_mul, Nat.add_comm]
theorem rows_in {F : CallF} {W : WhileF} {k : Nat} {s1 s2 s3 : Sl} {g : Option (Nat × List Dv)} {rs : List (List Int)} (hg : ∀ a b c d : Sl, gOk g [.val (.int k), s1, s2, s3, a, b, c] = true) (hk : k < 1000) (hsz : rs.length * k ≤ 16000000) (hrl : ∀ r, r ∈ rs → r.length < 1000) :
    ∀ (s5 s6 : Sl), pl s6 = true → ∃ s5' s6', forL (.one 5) g (exec F W l__law_rows_1) (rs.map ip) [.val (.int k), s1, s2, s3, .own [], s5, s6] = .nx [.val (.int k), s1, s2, s3, .own ((grow k rs).map ip), s5', s6'] ∧ pl s6' = true := by
  intro s5 s6 h6
  obtain ⟨r', h1, s5', s6', rfl, h2⟩ := forL_at (tg := .one 5) (g := g) (body := exec F W l__law_rows_1) ip (fun pre q => ∃ s5 s6, q = [.val (.int k), s1, s2, s3, .own ((grow k pre).map ip), s5, s6] ∧ pl s6 = true) rs (by
    rintro pre r post q e ⟨s5, s6, rfl, h6⟩
    have hrm : r ∈ rs := by rw [e]; simp
    have hr1 := hrl r hrm
    have hin : inR (k : Int) = true := inR_of (by omega) (by omega)
    have hrg := rng_nat k
    have e6 : ((k : Int)).toNat = k := by omega
    have hc : compF (ev F e__law_rows_0) (.one 6) (evi F (.rng1 (.var 0))) none [6] [.val (.int k), s1, s2, s3, .own ((grow k pre).map ip), .val (ip r), s6] = .ok (.fr ((List.range k).map fun c : Nat => ip (r ++ [(c : Int)]))) [.val (.int k), s1, s2, s3, .own ((grow k pre).map ip), .val (ip r), s6] := by
      refine comp_all (own := [6]) (g := none) (fun i : Nat => .int (i : Int)) (fun c : Nat => ip (r ++ [(c : Int)])) (List.range k) ?_ (by unfold line; simp; omega) rfl (by decide) ?_ ?_
      · clear e hrm hsz hrl hg hk hr1
        walk_at "mp"
      · cases s6 <;> first | rfl | cases h6
      · intro c _
        refine ⟨_, rfl, rfl, ?_⟩
        have ht : (r.map Dv.int).length + [Dv.int (c : Int)].length ≤ 16777216 := by simp; omega
        have h5 := q_tadd ht
        have e5 : r.map Dv.int ++ [Dv.int (c : Int)] = (r ++ [(c : Int)]).map .int := by simp
        rw [e5] at h5
        simp only [e__law_rows_0]
        clear e hrm hsz hrl hg hk hr1 ht e5 hin hrg e6
        walk_at "mp"
    have hlen : (grow k pre).length + k ≤ 16777216 := by
      rw [grow_size]
      have h3 : (pre.length + 1) * k ≤ rs.length * k := Nat.mul_le_mul_right k (by have := congrArg List.length e; simp at this; omega)
      rw [Nat.succ_mul] at h3
      omega
    have ht : ((grow k pre).map ip).length + ((List.range k).map fun c : Nat => ip (r ++ [(c : Int)])).length ≤ 16777216 := by simpa using hlen
    have h5 := q_ladd ht
    have e5 : (grow k pre).map ip ++ ((List.range k).map fun c : Nat => ip (r ++ [(c : Int)])) = (grow k (pre ++ [r])).map ip := by
      rw [grow_snoc, List.map_append, List.map_map]; rfl
    rw [e5] at h5
    refine ⟨_, [.val (.int k), s1, s2, s3, .own ((grow k (pre ++ [r])).map ip), .val (ip r), s6], rfl, ?_, hg _ _ _ .none, _, _, rfl, h6⟩
    simp only [l__law_rows_1]
    clear e hrm hsz hrl hg hk hr1 ht e5 hin hrg e6 hlen
    walk_at "mp") rs [] [.val (.int k), s1, s2, s3, .own [], s5, s6] rfl ⟨s5, s6, rfl, h6⟩
  exact ⟨s5', s6', h1, h2⟩
theorem i_rows {l : Tbl} {W : WhileF} {n k m : Nat} (hk : k < 1000) (hk1 : 1 ≤ k) (hm : 1 ≤ m) (hm2 : m < 1000) (hsz : k ^ m ≤ 16000000) : callN (tbL l) W (n + 1) 135 [.val (.int k), .val (.int m)] = .ok (.d (.lv ((rowsI k m).map ip))) [] := by
  have start : ∀ j, j + 1 ≤ m → (rowsI k j).length * k ≤ 16000000 := fun j hj => by
    rw [rowsI_size, ← Nat.pow_succ]
    exact Nat.le_trans (Nat.pow_le_pow_right hk1 hj) hsz
  obtain ⟨r', h1, s1, s4, s5, s6, rfl, _, _⟩ := forL_at (tg := .one 3) (g := none) (body := exec (callN (tbL l) W n) W l__law_rows_2) (fun i : Nat => .int (i : Int)) (fun pre q => ∃ s3 s4 s5 s6, q = [.val (.int k), .val (.int m), (if pre.length = 0 then .own ((rowsI k pre.length).map ip) else .val (.lv ((rowsI k pre.length).map ip))), s3, s4, s5, s6] ∧ pl s6 = true ∧ pre.length ≤ m) (List.range m) (by
    rintro pre i post q e ⟨s3, s4, s5, s6, rfl, h6, hpm⟩
    have hj : pre.length + 1 ≤ m := by have := congrArg List.length e; simp at this; omega
    have el : (pre ++ [i]).length = pre.length + 1 := by simp
    rw [el]
    generalize pre.length = j at *
    have hg1 : rowsI k (j + 1) = grow k (rowsI k j) := rfl
    have hrl : ∀ r, r ∈ rowsI k j → r.length < 1000 := fun r hr => by rw [rowsI_len hr]; omega
    by_cases hz : j = 0
    · rw [if_pos hz]
      obtain ⟨s5', s6', h2, h3⟩ := rows_in (F := callN (tbL l) W n) (W := W) (k := k) (s1 := .val (.int m)) (s2 := .own ((rowsI k j).map ip)) (s3 := .val (.int i)) (g := some (2, (rowsI k j).map ip)) (rs := rowsI k j) (fun a b c d => beqs_self _) hk (start j hj) hrl s5 s6 h6
      have hf := q_forG (S := sets l__law_rows_1) (tg := .one 5) (f := exec (callN (tbL l) W n) W l__law_rows_1) (xs := (rowsI k j).map ip) (i := 2) (ys := (rowsI k j).map ip) (r := [.val (.int k), .val (.int m), .own ((rowsI k j).map ip), .val (.int i), .own [], s5, s6]) rfl
      refine ⟨_, [.val (.int k), .val (.int m), .val (.lv ((rowsI k (j + 1)).map ip)), .val (.int i), .val (.lv ((rowsI k (j + 1)).map ip)), s5', s6'], rfl, ?_, rfl, _, _, _, _, by rw [if_neg (by omega)], h3, by omega⟩
      rw [hg1]
      simp only [l__law_rows_2]
      clear e hrl hg1 hj hpm h6 h3 start hsz el hz
      walk_at "mp"
    · rw [if_neg hz]
      obtain ⟨s5', s6', h2, h3⟩ := rows_in (F := callN (tbL l) W n) (W := W) (k := k) (s1 := .val (.int m)) (s2 := .val (.lv ((rowsI k j).map ip))) (s3 := .val (.int i)) (g := none) (rs := rowsI k j) (fun a b c d => rfl) hk (start j hj) hrl s5 s6 h6
      refine ⟨_, [.val (.int k), .val (.int m), .val (.lv ((rowsI k (j + 1)).map ip)), .val (.int i), .val (.lv ((rowsI k (j + 1)).map ip)), s5', s6'], rfl, ?_, rfl, _, _, _, _, by rw [if_neg (by omega)], h3, by omega⟩
      rw [hg1]
      simp only [l__law_rows_2]
      clear e hrl hg1 hj hpm h6 h3 start hsz el hz
      walk_at "mp") (List.range m) [] [.val (.int k), .val (.int m), .own [.tup []], .none, .none, .none, .none] rfl ⟨.none, .none, .none, .none, rfl, rfl, Nat.zero_le _⟩
  rw [List.length_range, if_neg (by omega)] at h1
  have hr : inR (m : Int) = true := inR_of (by omega) (by omega)
  have hrg := rng_nat m
  have e6 : ((m : Int)).toNat = m := by omega
  clear start hsz hk hk1 hm hm2
  rw [callN_eq t__law_rows rfl rfl]
  simp only [f__law_rows, b__law_rows]
  walk_at "mp"
/-! ### all sums -/
theorem wrd_xr {u b : BV} (h : u.length = b.length) : ((List.range b.length).map fun i => Dv.int ((ob (bit u i) + ob (bit b i)).fmod 2)) = ((xr u b).map ob).map .int := by
  apply List.ext_getElem?
  intro i
  by_cases hi : i < b.length
  · have h1 := bit_xr h rfl i
    unfold bit at h1
    rw [List.getElem?_map, List.getElem?_range hi, List.getElem?_map, List.getElem?_map]
    have hx : i < (xr u b).length := by rw [xr_len h rfl]; exact hi
    rw [List.getElem?_eq_getElem hx] at h1 ⊢
    simp only [Option.map_some, Option.getD_some] at h1 ⊢
    rw [h1]
    unfold bit
    cases (u[i]?.getD false) <;> cases (b[i]?.getD false) <;> rfl
  · rw [List.getElem?_eq_none (by simp; omega), List.getElem?_eq_none (by simp [xr_len h rfl]; omega)]
theorem i_lwords {l : Tbl} {W : WhileF} {n w : Nat} {R : List BV} (hR : Wd w R) (hne : R ≠ []) (hw : w < 1000) (hl : R.length < 10) : callN (tbL l) W (n + 1) 143 [.val (bvs R)] = .ok (.fr ((words w R).map bv)) [] := by
  obtain ⟨r', h1, v, rfl⟩ := forL_at (tg := .one 2) (g := none) (body := exec (callN (tbL l) W n) W l__law_words_2) bv (fun pre r => ∃ v, r = [.val (bvs R), .own ((words w pre).map bv), v, .none, .none]) R (by
    rintro pre b post r e ⟨v, rfl⟩
    have hpre : Wd w (pre ++ [b]) := fun x hx => hR x (by rw [e]; simp at hx ⊢; rcases hx with hx | hx; exact .inl hx; exact .inr (.inl hx))
    have hbl := hpre.last
    have hlen : (words w pre).length ≤ 1024 := by
      rw [words_size]
      have : pre.length ≤ 10 := by have := congrArg List.length e; simp at this; omega
      exact Nat.le_trans (Nat.pow_le_pow_right (by decide) this) (by decide)
    have hr : inR (b.length : Int) = true := inR_of (by omega) (by omega)
    have hrg := rng_nat b.length
    have e6 : ((b.length : Int)).toNat = b.length := by omega
    have hc : compF (ev (callN (tbL l) W n) e__law_words_1) (.one 3) (evi (callN (tbL l) W n) (.seq (.var 1))) none [3] [.val (bvs R), .own ((words w pre).map bv), .val (bv b), .none, .none] = .ok (.fr ((words w pre).map fun u => bv (xr u b))) [.val (bvs R), .own ((words w pre).map bv), .val (bv b), .none, .none] := by
      refine comp_all (own := [3]) (g := some (1, (words w pre).map bv)) bv (fun u => bv (xr u b)) (words w pre) ?_ (by unfold line; omega) ?_ (by decide) rfl ?_
      · clear e hlen
        walk_at "mp"
      · exact beqs_self _
      · intro u hu
        refine ⟨_, rfl, rfl, ?_⟩
        have hul : u.length = b.length := by rw [words_len hpre.left u hu, hbl]
        have hx := wrd_xr hul
        have hc2 : compF (ev (callN (tbL l) W n) e__law_words_0) (.one 4) (evi (callN (tbL l) W n) (.rng1 (.bi .len (.cons (.var 2) .nil)))) none [4] [.val (bvs R), .own ((words w pre).map bv), .val (bv b), .val (bv u), .none] = .ok (.fr (((xr u b).map ob).map .int)) [.val (bvs R), .own ((words w pre).map bv), .val (bv b), .val (bv u), .none] := by
          rw [← hx]
          refine comp_all (own := [4]) (g := none) (fun i : Nat => .int (i : Int)) (fun i => Dv.int ((ob (bit u i) + ob (bit b i)).fmod 2)) (List.range b.length) ?_ (by unfold line; simp; omega) rfl (by decide) rfl ?_
          · clear e hlen hu hul hx hpre hbl
            walk_at "mp"
          · intro i hi
            have hi := List.mem_range.mp hi
            refine ⟨_, rfl, rfl, ?_⟩
            have g1 := get_bv (v := u) (i := i) (by omega)
            have g2 := get_bv (v := b) (i := i) hi
            simp only [e__law_words_0]
            clear e hlen hu hul hx hpre hi hr hrg e6 hbl
            walk_at "mp"
        simp only [e__law_words_1]
        clear e hlen hu hul hx hpre hbl
        walk_at "mp"
    have hl2 : ((words w pre).map bv).length + ((words w pre).map fun u => bv (xr u b)).length ≤ 16777216 := by simp; omega
    have h5 := q_ladd hl2
    have e5 : (words w pre).map bv ++ ((words w pre).map fun u => bv (xr u b)) = (words w (pre ++ [b])).map bv := by
      rw [words_snoc, List.map_append, List.map_map]; rfl
    rw [e5] at h5
    refine ⟨_, [.val (bvs R), .own ((words w (pre ++ [b])).map bv), .val (bv b), .none, .none], rfl, ?_, rfl, .val (bv b), rfl⟩
    clear hlen hl2 e5 e hpre hr hrg e6 hbl
    simp only [l__law_words_2]
    walk_at "mp") R [] [.val (bvs R), .own ((words w []).map bv), .none, .none, .none] rfl ⟨.none, rfl⟩
  cases R with
  | nil => exact absurd rfl hne
  | cons x R =>
    have hx : x.length = w := hR x List.mem_cons_self
    subst hx
    have e1 : (-1000000 : Int) ≤ (x.length : Int) ∧ (x.length : Int) ≤ 1000 ∧ [Dv.int 0].length ≤ 1000 := by simp; omega
    have e4 := q_tmul e1
    have e2 := rep_zero x.length
    have e6 : ((x.length : Int)).toNat = x.length := by omega
    rw [e6, e2] at e4
    clear e1 e2 e6 hR hne hl
    simp only [words_nil, List.map_cons, List.map_nil] at h1
    have hg : ∀ (xs : List Dv), getI (bv x :: xs) 0 = some (bv x) := fun xs => q_g0
    rw [callN_eq t__law_words rfl rfl]
    simp only [f__law_words, b__law_words]
    walk_at "mp"
end MP
set_option linter.all false
set_option Elab.async false
set_option maxRecDepth 100000
set_option maxHeartbeats 2000000
/-! K6C: polynomials by their values; sums over words; the two sides. -/
namespace MP
open PySem Bv
/-! ### values -/
def evalP : List Int → Int → Int
  | [], _ => 0
  | a :: p, x => a + x * evalP p x
theorem ev_append : ∀ (p q : List Int) (x : Int), evalP (p ++ q) x = evalP p x + x ^ p.length * evalP q x
  | [], q, x => by simp [evalP]
  | a :: p, q, x => by
    simp only [List.cons_append, evalP, ev_append p q x, List.length_cons, Int.pow_succ]
    grind
theorem ev_cut (p : List Int) (x : Int) : evalP (cutP p) x = evalP p x := by
  induction p using snoc_ind with
  | h0 => rfl
  | h1 p a ih =>
    by_cases h : a = 0
    · subst h; rw [cutP_snoc0, ih, ev_append]; simp [evalP]
    · rw [cutP_snoc h]
theorem ev_smul : ∀ (b : List Int) (m x : Int), evalP (b.map (m * ·)) x = m * evalP b x
  | [], m, x => by simp [evalP]
  | y :: b, m, x => by simp only [List.map_cons, evalP, ev_smul b m x]; grind
theorem ev_addL : ∀ (a b : List Int) (m x : Int), evalP (addL a b m) x = evalP a x + m * evalP b x
  | a, [], m, x => by cases a <;> simp [addL, evalP]
  | [], y :: b, m, x => by
    show evalP ((y :: b).map (m * ·)) x = _
    rw [ev_smul]; simp [evalP]
  | z :: a, y :: b, m, x => by simp only [addL, evalP, ev_addL a b m x]; grind
theorem ev_plusP (a b : List Int) (m x : Int) : evalP (plusP a b m) x = evalP a x + m * evalP b x := by unfold plusP; rw [ev_cut, ev_addL]
theorem ev_mulA : ∀ {one rest b : List Int} {x : Int}, one.length + b.length ≤ rest.length → evalP (mulA rest one b) x = evalP rest x + evalP one x * evalP b x
  | [], rest, b, x, _ => by simp [mulA, evalP]
  | z :: one, rest, b, x, h => by
    have hlen : (addL rest b z).length = rest.length := addL_len (by simp at h; omega)
    have he := ev_addL rest b z x
    cases hr : addL rest b z with
    | nil => rw [hr] at hlen; simp at hlen h; omega
    | cons y t =>
      rw [hr] at hlen he
      simp only [mulA, hr, evalP]
      simp only [evalP] at he
      rw [ev_mulA (by simp at h hlen; omega)]
      grind
theorem ev_rep (n : Nat) (x : Int) : evalP (List.replicate n 0) x = 0 := by
  induction n with
  | zero => rfl
  | succ n ih => simp only [List.replicate_succ, evalP, ih]; simp
theorem ev_times (a b : List Int) (x : Int) : evalP (timesP a b) x = evalP a x * evalP b x := by
  unfold timesP
  rw [ev_cut, ev_mulA (by simp), ev_rep]; simp
theorem ev_pow (p : List Int) (x : Int) : ∀ n : Nat, evalP (powP p n) x = evalP p x ^ n
  | 0 => by simp [powP, evalP]
  | n + 1 => by simp only [powP, ev_times, ev_pow p x n, Int.pow_succ]
theorem ev_ptP (a b : List Int) (x : Int) : evalP (ptP a b) x = evalP a x * evalP b x := by
  have key : ∀ n, n ≤ a.length → evalP ((List.range n).foldl (ptS a b) []) x = evalP (a.take n) x * evalP b x := by
    intro n
    induction n with
    | zero => intro _; simp [evalP]
    | succ n ih =>
      intro hn
      have hlt : n < a.length := by omega
      rw [List.range_succ, List.foldl_append, List.take_succ, List.getElem?_eq_getElem hlt, ev_append]
      show evalP (plusP _ _ _) x = _
      rw [ev_plusP, ih (by omega), ev_append, ev_rep, List.length_replicate, List.getElem?_eq_getElem hlt]
      simp only [Option.getD_some, Option.toList_some, evalP, List.length_take, Nat.min_eq_left (Nat.le_of_lt hlt)]
      grind
  unfold ptP
  rw [key a.length (Nat.le_refl _), List.take_length]
/-! ### a polynomial is told by its values -/
theorem big_div {a : Int} {N : Int} (h : ∀ x : Int, N ≤ x → ∃ y, a + x * y = 0) : a = 0 := by
  obtain ⟨y, hy⟩ := h (max N (a.natAbs + 1)) (by omega)
  by_cases h0 : y = 0
  · subst h0; simpa using hy
  · exfalso
    have hx : (a.natAbs : Int) + 1 ≤ max N (a.natAbs + 1) := by omega
    generalize max N ((a.natAbs : Int) + 1) = X at *
    have h1 : a = -(X * y) := by omega
    have h2 : a.natAbs = X.natAbs * y.natAbs := by rw [h1, Int.natAbs_neg, Int.natAbs_mul]
    have h3 : 1 ≤ y.natAbs := by omega
    have h4 : X.natAbs * 1 ≤ X.natAbs * y.natAbs := Nat.mul_le_mul_left _ h3
    omega
theorem stripR_snoc (a : Int) : ∀ l : List Int, stripR (l ++ [a]) = if stripR l = [] then stripR [a] else stripR l ++ [a]
  | [] => by simp [stripR]
  | b :: l => by
    rw [List.cons_append]
    by_cases h : b = 0
    · have e1 : stripR (b :: (l ++ [a])) = stripR (l ++ [a]) := if_pos h
      have e2 : stripR (b :: l) = stripR l := if_pos h
      rw [e1, e2]; exact stripR_snoc a l
    · have e1 : stripR (b :: (l ++ [a])) = b :: (l ++ [a]) := if_neg h
      have e2 : stripR (b :: l) = b :: l := if_neg h
      rw [e1, e2, if_neg (by simp)]; rfl
theorem cutP_cons (a : Int) (p : List Int) : cutP (a :: p) = if cutP p = [] then (if a = 0 then [] else [a]) else a :: cutP p := by
  unfold cutP
  rw [List.reverse_cons, stripR_snoc]
  by_cases h : stripR p.reverse = []
  · rw [if_pos h, if_pos (by rw [h]; rfl)]
    simp only [stripR]
    split <;> rfl
  · rw [if_neg h, if_neg (by simpa using h)]
    simp
theorem same_val : ∀ {p q : List Int} {N : Int}, (∀ x, N ≤ x → evalP p x = evalP q x) → cutP p = cutP q
  | [], [], N, _ => rfl
  | [], b :: q, N, h => by
    have hb : b = 0 := big_div (N := N) fun x hx => ⟨evalP q x, by have := h x hx; simp only [evalP] at this; omega⟩
    subst hb
    have := same_val (p := []) (q := q) (N := max N 1) fun x hx => by
      have h1 := h x (by omega)
      simp only [evalP] at h1 ⊢
      have h2 : x * evalP q x = 0 := by omega
      rcases Int.mul_eq_zero.mp h2 with z | z <;> omega
    rw [cutP_cons, ← this]; rfl
  | a :: p, [], N, h => by
    have hb : a = 0 := big_div (N := N) fun x hx => ⟨evalP p x, by have := h x hx; simp only [evalP] at this; omega⟩
    subst hb
    have := same_val (p := p) (q := []) (N := max N 1) fun x hx => by
      have h1 := h x (by omega)
      simp only [evalP] at h1 ⊢
      have h2 : x * evalP p x = 0 := by omega
      rcases Int.mul_eq_zero.mp h2 with z | z <;> omega
    rw [cutP_cons, this]; rfl
  | a :: p, b :: q, N, h => by
    have hab : a - b = 0 := big_div (N := N) fun x hx => ⟨evalP p x - evalP q x, by
      have := h x hx
      simp only [evalP] at this
      rw [Int.mul_sub]; omega⟩
    have hab : a = b := by omega
    subst hab
    have := same_val (p := p) (q := q) (N := max N 1) fun x hx => by
      have h1 := h x (by omega)
      simp only [evalP] at h1
      have h2 : x * (evalP p x - evalP q x) = 0 := by rw [Int.mul_sub]; omega
      rcases Int.mul_eq_zero.mp h2 with z | z <;> omega
    rw [cutP_cons, cutP_cons, this]
theorem cutP_idem (p : List Int) : cutP (cutP p) = cutP p := same_val (N := 0) fun x _ => ev_cut p x
/-- without noughts at the end -/
def Nm (p : List Int) : Prop := cutP p = p
theorem Nm.eq {p q : List Int} (hp : Nm p) (hq : Nm q) (h : ∀ x, evalP p x = evalP q x) : p = q := by
  have := same_val (p := p) (q := q) (N := 0) fun x _ => h x
  rwa [hp, hq] at this
theorem nm_plus (a b : List Int) (m : Int) : Nm (plusP a b m) := cutP_idem _
theorem nm_smul {p : List Int} {m : Int} (hm : m ≠ 0) (h : Nm p) : Nm (p.map (m * ·)) := by
  rcases snoc_cases p with e | ⟨q, a, rfl⟩
  · subst e; rfl
  · have ha : a ≠ 0 := fun z => by
      subst z
      unfold Nm at h
      rw [cutP_snoc0] at h
      have := cutP_len q
      rw [h] at this; simp at this; omega
    unfold Nm
    rw [List.map_append, List.map_cons, List.map_nil, cutP_snoc (by
      intro z
      rcases Int.mul_eq_zero.mp z with e | e
      · exact hm e
      · exact ha e)]
/-! ### sums -/
def Sg {α : Type} (l : List α) (f : α → Int) : Int := (l.map f).sum
theorem Sg_nil {α : Type} {f : α → Int} : Sg [] f = 0 := rfl
theorem Sg_cons {α : Type} {a : α} {l : List α} {f : α → Int} : Sg (a :: l) f = f a + Sg l f := by simp [Sg]
theorem Sg_append {α : Type} {l k : List α} {f : α → Int} : Sg (l ++ k) f = Sg l f + Sg k f := by simp [Sg]
theorem Sg_map {α β : Type} {l : List β} {g : β → α} {f : α → Int} : Sg (l.map g) f = Sg l fun b => f (g b) := by unfold Sg; rw [List.map_map]; rfl
theorem Sg_congr {α : Type} {l : List α} {f g : α → Int} (h : ∀ a, a ∈ l → f a = g a) : Sg l f = Sg l g := by unfold Sg; rw [List.map_congr_left h]
theorem Sg_add {α : Type} {l : List α} {f g : α → Int} : Sg l (fun a => f a + g a) = Sg l f + Sg l g := by
  induction l with
  | nil => rfl
  | cons a l ih => simp only [Sg_cons, ih]; omega
theorem Sg_mul {α : Type} {l : List α} {c : Int} {f : α → Int} : Sg l (fun a => c * f a) = c * Sg l f := by
  induction l with
  | nil => simp [Sg]
  | cons a l ih => simp only [Sg_cons, ih]; grind
theorem Sg_mulr {α : Type} {l : List α} {c : Int} {f : α → Int} : Sg l (fun a => f a * c) = Sg l f * c := by
  induction l with
  | nil => simp [Sg]
  | cons a l ih => simp only [Sg_cons, ih]; grind
theorem Sg_zero {α : Type} {l : List α} : Sg l (fun _ => 0) = 0 := by
  induction l with
  | nil => rfl
  | cons a l ih => simp only [Sg_cons, ih]; rfl
theorem Sg_swap {α β : Type} {l : List α} {k : List β} {f : α → β → Int} : Sg l (fun a => Sg k fun b => f a b) = Sg k fun b => Sg l fun a => f a b := by
  induction l with
  | nil => simp only [Sg_nil, Sg_zero]
  | cons a l ih => simp only [Sg_cons, ih, Sg_add]
theorem Sg_perm {α : Type} {l k : List α} (p : l.Perm k) {f : α → Int} : Sg l f = Sg k f := by
  induction p with
  | nil => rfl
  | cons a _ ih => rw [Sg_cons, Sg_cons, ih]
  | swap a b l => simp only [Sg_cons]; omega
  | trans _ _ h1 h2 => exact h1.trans h2
theorem Sg_filter {α : Type} {l : List α} {p : α → Bool} {f : α → Int} : Sg (l.filter p) f = Sg l fun a => if p a then f a else 0 := by
  induction l with
  | nil => rfl
  | cons a l ih =>
    cases h : p a with
    | true => rw [List.filter_cons_of_pos h, Sg_cons, Sg_cons, ih, h]; rfl
    | false => rw [List.filter_cons_of_neg (by rw [h]; simp), Sg_cons, ih, h]; simp
theorem Sg_const {α : Type} {l : List α} {c : Int} : Sg l (fun _ => c) = l.length * c := by
  induction l with
  | nil => simp [Sg]
  | cons a l ih => simp only [Sg_cons, ih, List.length_cons]; grind
/-- counted by weight -/
theorem ct_sum {h : Nat → Int} : ∀ {ws : List BV} {n : Nat}, (∀ v, v ∈ ws → wt v < n) → Sg (List.range n) (fun m => ct ws m * h m) = Sg ws fun v => h (wt v)
  | [], n, _ => by
    rw [Sg_nil, ← Sg_zero (l := List.range n)]
    exact Sg_congr fun m _ => by simp [ct]
  | v :: ws, n, hw => by
    have e : ∀ m, ct (v :: ws) m * h m = ct ws m * h m + (if wt v == m then h m else 0) := fun m => by
      unfold ct
      rw [List.countP_cons]
      by_cases q : (wt v == m) = true
      · rw [if_pos q, if_pos q]; simp only [Int.natCast_add]; grind
      · rw [if_neg q, if_neg q]; simp
    rw [Sg_congr (g := fun m => ct ws m * h m + (if wt v == m then h m else 0)) fun m _ => e m, Sg_add, ct_sum fun u hu => hw u (List.mem_cons_of_mem _ hu), Sg_cons]
    have : ∀ n : Nat, wt v < n → Sg (List.range n) (fun m => if wt v == m then h m else 0) = h (wt v) := by
      intro n
      induction n with
      | zero => intro z; omega
      | succ n ih =>
        intro z
        rw [List.range_succ, Sg_append, Sg_cons, Sg_nil]
        by_cases q : wt v = n
        · subst q
          rw [Sg_congr (g := fun _ => 0) fun m hm => by
            have := List.mem_range.mp hm
            have e : (wt v == m) = false := by simp; omega
            rw [e]; rfl, Sg_zero]
          simp
        · rw [ih (by omega)]
          have e : (wt v == n) = false := by simpa using q
          rw [e]; simp
    rw [this n (hw v List.mem_cons_self)]
    omega
/-! ### words' polynomials -/
def gx (x : Int) (b : Bool) : Int := if b then x else 1 - x
def prodG (x : Int) : BV → Int
  | [] => 1
  | b :: v => gx x b * prodG x v
theorem prodG_wt (x : Int) : ∀ v : BV, prodG x v = x ^ wt v * (1 - x) ^ (v.length - wt v)
  | [] => by simp [prodG, wt]
  | b :: v => by
    have hle : wt v ≤ v.length := wt_le
    have ih := prodG_wt x v
    simp only [prodG, ih]
    cases b with
    | true =>
      have e : wt (true :: v) = wt v + 1 := by unfold wt; rw [List.count_cons]; rfl
      rw [e, List.length_cons, show v.length + 1 - (wt v + 1) = v.length - wt v by omega, Int.pow_succ]
      unfold gx; simp only [if_true]; grind
    | false =>
      have e : wt (false :: v) = wt v := by unfold wt; rw [List.count_cons]; rfl
      rw [e, List.length_cons, show v.length + 1 - wt v = (v.length - wt v) + 1 by omega, Int.pow_succ]
      unfold gx; simp only [Bool.false_eq_true, if_false]; grind
def partP (v : BV) : List Int := v.foldl (fun acc b => ptP acc (if b then [0, 1] else [1, -1])) [1]
theorem ev_part (x : Int) (v : BV) : evalP (partP v) x = prodG x v := by
  have key : ∀ (v : BV) (acc : List Int), evalP (v.foldl (fun acc b => ptP acc (if b then [0, 1] else [1, -1])) acc) x = evalP acc x * prodG x v := by
    intro v
    induction v with
    | nil => intro acc; simp [prodG]
    | cons b v ih =>
      intro acc
      rw [List.foldl_cons, ih, ev_ptP]
      cases b
      · simp only [Bool.false_eq_true, if_false, evalP, prodG, gx]; grind
      · simp only [if_true, evalP, prodG, gx]; grind
  unfold partP
  rw [key]; simp [evalP]
def foundP (ws : List BV) : List Int := ws.foldl (fun acc v => plusP acc (partP v) 1) []
theorem ev_found (x : Int) (ws : List BV) : evalP (foundP ws) x = Sg ws (prodG x) := by
  unfold foundP
  induction ws using snoc_ind with
  | h0 => rfl
  | h1 ws v ih => rw [List.foldl_append, Sg_append, Sg_cons, Sg_nil]; show evalP (plusP _ _ _) x = _; rw [ev_plusP, ih, ev_part]; omega
theorem nm_found (ws : List BV) : Nm (foundP ws) := by
  unfold foundP
  rcases snoc_cases ws with e | ⟨k, a, rfl⟩
  · subst e; rfl
  · rw [List.foldl_append]; exact nm_plus _ _ _
theorem ev_uP (w : Nat) (ws : List BV) (x : Int) (ms : List Nat) : evalP (uP w ws ms) x = Sg ms fun m => ct ws m * (if 0 < m then x ^ m * (1 - x) ^ (w - m) else 0) := by
  unfold uP
  induction ms using snoc_ind with
  | h0 => rfl
  | h1 ms m ih =>
    rw [List.foldl_append, Sg_append, Sg_cons, Sg_nil, ← ih]
    show evalP (if 0 < m then _ else _) x = _
    by_cases h : 0 < m
    · rw [if_pos h, if_pos h, ev_plusP]
      unfold prt
      rw [ev_times, ev_pow, ev_pow]
      simp only [evalP]
      grind
    · rw [if_neg h, if_neg h]; simp
theorem nm_uP (w : Nat) (ws : List BV) (ms : List Nat) : Nm (uP w ws ms) := by
  unfold uP
  induction ms using snoc_ind with
  | h0 => rfl
  | h1 ms m ih =>
    rw [List.foldl_append]
    show Nm (if 0 < m then _ else _)
    split
    · exact nm_plus _ _ _
    · exact ih
theorem wt_zero {w : Nat} {v : BV} (h : v.length = w) (hz : wt v = 0) : v = zer w := by
  refine zer_of_not h fun z => ?_
  unfold wt at hz
  have := List.count_pos_iff.mpr z
  omega
theorem wt_zer (w : Nat) : wt (zer w) = 0 := by unfold wt zer; simp [List.count_replicate]
theorem words_head {w : Nat} : ∀ R : List BV, ∃ t, words w R = zer w :: t := by
  intro R
  induction R using snoc_ind with
  | h0 => exact ⟨[], rfl⟩
  | h1 R r ih =>
    obtain ⟨t, e⟩ := ih
    refine ⟨t ++ (words w R).map (xr · r), ?_⟩
    rw [words_snoc]
    conv => lhs; arg 1; rw [e]
    rfl
/-- the first equation: the weights' polynomial is the words' one -/
theorem u_found {w : Nat} {R : List BV} (hR : Wd w R) (hn : (words w R).Nodup) : uP w (words w R) (List.range (w + 1)) = foundP (words w R).tail := by
  obtain ⟨t, e⟩ := words_head (w := w) R
  have hl := words_len hR
  refine (nm_uP _ _ _).eq (nm_found _) fun x => ?_
  rw [ev_uP, ev_found, ct_sum (ws := words w R) (h := fun m => if 0 < m then x ^ m * (1 - x) ^ (w - m) else 0) (n := w + 1) fun v hv => by have := @wt_le v; rw [hl v hv] at this; omega]
  rw [e] at hn hl ⊢
  rw [Sg_cons, List.tail_cons, wt_zer, if_neg (Nat.lt_irrefl 0), Int.zero_add]
  refine Sg_congr fun v hv => ?_
  have hv0 : 0 < wt v := by
    rcases Nat.eq_zero_or_pos (wt v) with z | z
    · have := wt_zero (hl v (List.mem_cons_of_mem _ hv)) z
      exact absurd hv (this ▸ (List.nodup_cons.mp hn).1)
    · exact z
  rw [if_pos hv0, prodG_wt, hl v (List.mem_cons_of_mem _ hv)]
end MP
set_option linter.all false
set_option Elab.async false
set_option maxRecDepth 100000
set_option maxHeartbeats 2000000
/-! K6D: the other side's weights; order. -/
namespace MP
open PySem Bv
/-! ### all rows -/
def everyB : Nat → List BV
  | 0 => [[]]
  | n + 1 => (everyB n).map (false :: ·) ++ (everyB n).map (true :: ·)
theorem mem_everyB : ∀ {n : Nat} {v : BV}, v ∈ everyB n ↔ v.length = n
  | 0, v => by simp [everyB]
  | n + 1, [] => by simp [everyB]
  | n + 1, b :: v => by
    simp only [everyB, List.mem_append, List.mem_map, List.cons.injEq, List.length_cons]
    have ih := @mem_everyB n
    constructor
    · rintro (⟨u, h, _, rfl⟩ | ⟨u, h, _, rfl⟩) <;> rw [ih.mp h]
    · intro h
      have := ih.mpr (show v.length = n by omega)
      cases b
      · exact .inl ⟨v, this, rfl, rfl⟩
      · exact .inr ⟨v, this, rfl, rfl⟩
theorem sorted_everyB : ∀ n : Nat, (everyB n).Pairwise fun a b => lexI (a.map ob) (b.map ob) = true
  | 0 => by simp [everyB]
  | n + 1 => by
    have ih := sorted_everyB n
    simp only [everyB]
    refine List.pairwise_append.mpr ⟨?_, ?_, ?_⟩
    · exact List.Pairwise.map _ (fun a b h => by simp only [List.map_cons, lexI]; simp [h]) ih
    · exact List.Pairwise.map _ (fun a b h => by simp only [List.map_cons, lexI]; simp [h]) ih
    · intro a ha b hb
      obtain ⟨u, _, rfl⟩ := List.mem_map.mp ha
      obtain ⟨v, _, rfl⟩ := List.mem_map.mp hb
      simp only [List.map_cons, lexI]
      have : decide (ob false < ob true) = true := by decide
      rw [this]; rfl
theorem lexI_irr : ∀ a : List Int, lexI a a = false
  | [] => rfl
  | x :: a => by simp [lexI, lexI_irr a]
theorem nodup_everyB (n : Nat) : (everyB n).Nodup := by
  refine List.Pairwise.imp ?_ (sorted_everyB n)
  intro a b h e
  subst e
  rw [lexI_irr] at h; cases h
theorem grow_app {k : Nat} {a b : List (List Int)} : grow k (a ++ b) = grow k a ++ grow k b := by unfold grow; rw [List.flatMap_append]
theorem grow_cons {k : Nat} {z : Int} {a : List (List Int)} : grow k (a.map (z :: ·)) = (grow k a).map (z :: ·) := by
  unfold grow
  rw [List.flatMap_map, List.map_flatMap]
  congr 1
  funext r
  rw [List.map_map]
  rfl
theorem rowsI_succ {k n : Nat} : rowsI k (n + 1) = grow k (rowsI k n) := rfl
theorem rowsI_two : ∀ n : Nat, rowsI 2 n = (everyB n).map (·.map ob)
  | 0 => rfl
  | n + 1 => by
    have key : ∀ n, grow 2 ((everyB n).map (·.map ob)) = (everyB (n + 1)).map (·.map ob) := by
      intro n
      induction n with
      | zero => rfl
      | succ n ih =>
        have e : (everyB (n + 1)).map (·.map ob) = ((everyB n).map (·.map ob)).map ((0 : Int) :: ·) ++ ((everyB n).map (·.map ob)).map ((1 : Int) :: ·) := by
          simp only [everyB, List.map_append, List.map_map]; rfl
        rw [e, grow_app, grow_cons, grow_cons, ih]
        have e2 : everyB (n + 1 + 1) = (everyB (n + 1)).map (false :: ·) ++ (everyB (n + 1)).map (true :: ·) := rfl
        rw [e2, List.map_append, List.map_map, List.map_map, List.map_map, List.map_map]; rfl
    rw [rowsI_succ, rowsI_two n]
    exact key n
/-! ### characters -/
def chi (b : Bool) : Int := if b then -1 else 1
theorem chi_xor (a b : Bool) : chi (a ^^ b) = chi a * chi b := by cases a <;> cases b <;> rfl
theorem xs_cons {f : Nat → Bool} : ∀ n : Nat, xs f (n + 1) = (f 0 ^^ xs (fun i => f (i + 1)) n)
  | 0 => by simp [xs]
  | n + 1 => by
    have h := xs_cons (f := f) n
    have e1 : xs f (n + 1 + 1) = (xs f (n + 1) ^^ f (n + 1)) := rfl
    have e2 : xs (fun i => f (i + 1)) (n + 1) = (xs (fun i => f (i + 1)) n ^^ f (n + 1)) := rfl
    rw [e1, h, e2]
    cases f 0 <;> cases xs (fun i => f (i + 1)) n <;> cases f (n + 1) <;> rfl
theorem bit_cons0 {b : Bool} {v : BV} : bit (b :: v) 0 = b := rfl
theorem bit_consS {b : Bool} {v : BV} {i : Nat} : bit (b :: v) (i + 1) = bit v i := rfl
theorem dot_cons {n : Nat} {a b : Bool} {u v : BV} : dot (n + 1) (a :: u) (b :: v) = ((a && b) ^^ dot n u v) := by
  unfold dot
  rw [xs_cons]
  rfl
theorem mac1 (x : Int) : ∀ (n : Nat) (d : BV), d.length = n → Sg (everyB n) (fun v => chi (dot n d v) * prodG x v) = (1 - 2 * x) ^ wt d
  | 0, [], _ => by simp [everyB, Sg, dot, xs, chi, prodG, wt]
  | n + 1, [], h => by simp at h
  | 0, _ :: _, h => by simp at h
  | n + 1, b :: d, h => by
    have ih := mac1 x n d (by simpa using h)
    simp only [everyB]
    rw [Sg_append, Sg_map, Sg_map]
    have e1 : Sg (everyB n) (fun v => chi (dot (n + 1) (b :: d) (false :: v)) * prodG x (false :: v)) = (1 - x) * Sg (everyB n) (fun v => chi (dot n d v) * prodG x v) := by
      rw [← Sg_mul]
      refine Sg_congr fun v _ => ?_
      rw [dot_cons, Bool.and_false, Bool.false_xor]
      simp only [prodG, gx, Bool.false_eq_true, if_false]; grind
    have e2 : Sg (everyB n) (fun v => chi (dot (n + 1) (b :: d) (true :: v)) * prodG x (true :: v)) = chi b * x * Sg (everyB n) (fun v => chi (dot n d v) * prodG x v) := by
      rw [← Sg_mul]
      refine Sg_congr fun v _ => ?_
      rw [dot_cons, Bool.and_true, chi_xor]
      simp only [prodG, gx, if_true]; grind
    rw [e1, e2, ih]
    have e3 : wt (b :: d) = wt d + (if b then 1 else 0) := by unfold wt; rw [List.count_cons]; cases b <;> rfl
    rw [e3]
    cases b
    · simp only [chi, Bool.false_eq_true, if_false, Nat.add_zero]; grind
    · simp only [chi, if_true, Int.pow_succ]; grind
theorem mac2 {w : Nat} {v : BV} (hv : v.length = w) : ∀ {B : List BV}, Wd w B → (Orth w B v → Sg (words w B) (fun d => chi (dot w d v)) = (words w B).length) ∧ (¬ Orth w B v → Sg (words w B) (fun d => chi (dot w d v)) = 0) := by
  intro B
  induction B using snoc_ind with
  | h0 =>
    intro _
    refine ⟨fun _ => ?_, fun h => absurd (fun g hg => by cases hg) h⟩
    rw [words_nil, Sg_cons, Sg_nil, dot_comm, dot_zer]; rfl
  | h1 B r ih =>
    intro h
    have ih := ih h.left
    have hs : Sg (words w (B ++ [r])) (fun d => chi (dot w d v)) = Sg (words w B) (fun d => chi (dot w d v)) * (1 + chi (dot w r v)) := by
      have h2 : Sg (words w B) (fun u => chi (dot w (xr u r) v)) = Sg (words w B) (fun d => chi (dot w d v)) * chi (dot w r v) := by
        rw [← Sg_mulr]
        refine Sg_congr fun u hu => ?_
        rw [dot_comm, dot_xr (words_len h.left u hu) h.last, chi_xor, dot_comm, dot_comm (u := v)]
      rw [words_snoc, Sg_append, Sg_map, h2]
      generalize Sg (words w B) (fun d => chi (dot w d v)) = A
      grind
    rw [hs]
    have hl : ((words w (B ++ [r])).length : Int) = (words w B).length * 2 := by rw [words_snoc]; simp; omega
    constructor
    · intro ho
      rw [ih.1 (fun g hg => ho g (List.mem_append_left _ hg)), ho r (by simp), hl]; rfl
    · intro ho
      cases e : dot w r v with
      | true => simp [chi]
      | false =>
        rw [ih.2 (fun z => ho fun g hg => by
          rcases List.mem_append.mp hg with q | q
          · exact z g q
          · simp at q; rw [q]; exact e)]
        simp
theorem ev_vP (ws : List BV) (x : Int) (ms : List Nat) : evalP (vP ws ms) x = Sg ms fun m => ct ws m * (1 - 2 * x) ^ m := by
  unfold vP
  induction ms using snoc_ind with
  | h0 => rfl
  | h1 ms m ih =>
    rw [List.foldl_append, Sg_append, Sg_cons, Sg_nil, ← ih]
    show evalP (plusP _ _ _) x = _
    rw [ev_plusP, ev_pow]
    simp only [evalP]
    grind
/-! ### the two sides -/
theorem orth_iff {w : Nat} {G H : List BV} (hG : Wd w G) (hH : Wd w H) (h : ∀ v, v ∈ words w G ↔ v ∈ words w H) (v : BV) : Orth w G v ↔ Orth w H v :=
  ⟨fun o => orth_span hG o fun g hg => (h g).mpr (words_gen hH g hg), fun o => orth_span hH o fun g hg => (h g).mp (words_gen hG g hg)⟩
theorem turn_mem {w : Nat} {R : List BV} (hR : Wd w R) {v : BV} (hv : v.length = w) : (v ∈ words w (turnR w R) ↔ Orth w R v) ∧ (v ∈ words w R ↔ Orth w (turnR w R) v) := by
  have hT := red_srt hR
  obtain ⟨k1, k2, k3⟩ := back_okB hT
  obtain ⟨s1, s2, _⟩ := stepAll_ok hR
  have ts : ∀ v, v ∈ words w (srt (stepAll R)) ↔ v ∈ words w R := fun v => (words_perm hT.wd (srt_perm _) v).trans (s2 v)
  have bs : ∀ v, v ∈ words w (turnR w R) ↔ v ∈ words w (back w (srt (stepAll R))) := fun v => words_perm (turn_wd hR).wd (srt_perm _) v
  constructor
  · rw [bs, k2 v hv]
    exact orth_iff hT.wd hR ts v
  · rw [← ts, k3 v hv]
    exact orth_iff k1.wd (turn_wd hR).wd (fun v => (bs v).symm) v
/-- the rows at right angles, in the laws' order -/
def orthB (w : Nat) (R : List BV) (v : BV) : Bool := R.all fun g => !dot w g v
theorem orthB_iff {w : Nat} {R : List BV} {v : BV} : orthB w R v = true ↔ Orth w R v := by
  unfold orthB Orth
  rw [List.all_eq_true]
  constructor
  · intro h g hg; simpa using h g hg
  · intro h g hg; rw [h g hg]; rfl
def othersB (w : Nat) (R : List BV) : List BV := (everyB w).filter (orthB w R)
theorem mem_others {w : Nat} {R : List BV} {v : BV} : v ∈ othersB w R ↔ v.length = w ∧ Orth w R v := by
  unfold othersB
  rw [List.mem_filter, mem_everyB, orthB_iff]
theorem nodup_perm {α : Type} [DecidableEq α] {a b : List α} (ha : a.Nodup) (hb : b.Nodup) (h : ∀ x, x ∈ a ↔ x ∈ b) : a.Perm b := by
  rw [List.perm_iff_count]
  intro x
  rw [ha.count, hb.count]
  by_cases e : x ∈ a
  · rw [if_pos e, if_pos ((h x).mp e)]
  · rw [if_neg e, if_neg (fun z => e ((h x).mpr z))]
theorem turn_perm {w : Nat} {R : List BV} (hR : Wd w R) : (words w (turnR w R)).Perm (othersB w R) := by
  have hB := turn_wd hR
  refine nodup_perm hB.nodup ((nodup_everyB w).filter _) fun v => ?_
  rw [mem_others]
  constructor
  · intro h
    have hv := words_len hB.wd v h
    exact ⟨hv, (turn_mem hR hv).1.mp h⟩
  · rintro ⟨hv, h⟩
    exact (turn_mem hR hv).1.mpr h
theorem words_perm_orth {w : Nat} {R : List BV} (hR : Wd w R) (hn : (words w R).Nodup) : (words w R).Perm (othersB w (turnR w R)) := by
  refine nodup_perm hn ((nodup_everyB w).filter _) fun v => ?_
  rw [mem_others]
  constructor
  · intro h
    have hv := words_len hR v h
    exact ⟨hv, (turn_mem hR hv).2.mp h⟩
  · rintro ⟨hv, h⟩
    exact (turn_mem hR hv).2.mpr h
/-- the sum over one side by the other -/
theorem mac {w : Nat} {R : List BV} (hR : Wd w R) (hn : (words w R).Nodup) (x : Int) : Sg (words w (turnR w R)) (fun d => (1 - 2 * x) ^ wt d) = (whole w R : Int) * Sg (words w R) (prodG x) := by
  have hB := turn_wd hR
  have e1 : Sg (words w (turnR w R)) (fun d => (1 - 2 * x) ^ wt d) = Sg (words w (turnR w R)) fun d => Sg (everyB w) fun v => chi (dot w d v) * prodG x v :=
    Sg_congr fun d hd => (mac1 x w d (words_len hB.wd d hd)).symm
  rw [e1, Sg_swap]
  have e2 : Sg (everyB w) (fun v => Sg (words w (turnR w R)) fun d => chi (dot w d v) * prodG x v) = Sg (everyB w) fun v => if orthB w (turnR w R) v then (whole w R : Int) * prodG x v else 0 := by
    refine Sg_congr fun v hv => ?_
    have hvl := mem_everyB.mp hv
    rw [Sg_mulr]
    have m := mac2 hvl hB.wd
    by_cases h : orthB w (turnR w R) v = true
    · rw [if_pos h, m.1 (orthB_iff.mp h)]; rfl
    · rw [if_neg h, m.2 (fun z => h (orthB_iff.mpr z))]; simp
  rw [e2, ← Sg_filter (p := orthB w (turnR w R)) (f := fun v => (whole w R : Int) * prodG x v), Sg_mul]
  congr 1
  exact (Sg_perm (words_perm_orth hR hn)).symm
theorem fdiv_mul {N a : Int} (h : N ≠ 0) : (N * a).fdiv N = a := Int.mul_fdiv_cancel_left a h
/-- the second equation -/
theorem o_found {w : Nat} {R : List BV} (hR : Wd w R) (hn : (words w R).Nodup) : oP w R = foundP (words w R).tail := by
  have hB := turn_wd hR
  have hN : (whole w R : Int) ≠ 0 := by
    have : 0 < (words w (turnR w R)).length := by rw [words_size]; exact Nat.two_pow_pos _
    unfold whole; omega
  have e : plusP (vP (words w (turnR w R)) (List.range (w + 1))) (powP [1, -1] w) (-(whole w R : Int)) = (foundP (words w R).tail).map ((whole w R : Int) * ·) := by
    refine (nm_plus _ _ _).eq (nm_smul hN (nm_found _)) fun x => ?_
    rw [ev_plusP, ev_vP, ct_sum (ws := words w (turnR w R)) (h := fun m => (1 - 2 * x) ^ m) (n := w + 1) fun v hv => by have := @wt_le v; rw [words_len hB.wd v hv] at this; omega,
      mac hR hn, ev_pow, ev_smul, ev_found]
    obtain ⟨t, et⟩ := words_head (w := w) R
    rw [et, Sg_cons, List.tail_cons, prodG_wt, wt_zer, zer_len]
    simp only [evalP]
    generalize Sg t (prodG x) = S
    have e5 : (1 - x) = 1 + x * (-1 + x * 0) := by omega
    rw [Nat.sub_zero, ← e5]
    generalize (1 - x) ^ w = Q
    have : x ^ 0 = 1 := Int.pow_zero x
    rw [this]
    grind
  unfold oP
  rw [e, List.map_map]
  have : ((fun z : Int => z.fdiv (whole w R : Int)) ∘ fun z => (whole w R : Int) * z) = id := by
    funext z; exact fdiv_mul hN
  rw [this, List.map_id]
/-! ### order -/
def ltB (a b : BV) : Bool := lexI (a.map ob) (b.map ob)
theorem lexI_tot : ∀ a b : List Int, a.length = b.length → a ≠ b → lexI a b = true ∨ lexI b a = true := by
  intro a b hl hn
  cases h1 : lexI a b with
  | true => exact .inl rfl
  | false =>
    cases h2 : lexI b a with
    | true => exact .inr rfl
    | false => exact absurd (lexI_anti a b hl h1 h2) hn
theorem ob_inj {a b : BV} : a.map ob = b.map ob ↔ a = b := by
  have h := @bv_inj a b
  simp only [bv, ip, Dv.tup.injEq, int_inj] at h
  exact h
/-- two rows without descents, of the same words: one -/
theorem sorted_eq : ∀ {a b : List BV} {w : Nat}, (∀ v, v ∈ a → v.length = w) → a.Perm b → a.Pairwise (fun u v => ltB v u = false) → b.Pairwise (fun u v => ltB v u = false) → a = b
  | [], b, w, _, p, _, _ => by rw [List.nil_perm.mp p]
  | x :: a, [], w, _, p, _, _ => absurd p.length_eq (by simp)
  | x :: a, y :: b, w, hl, p, ha, hb => by
    obtain ⟨a1, a2⟩ := List.pairwise_cons.mp ha
    obtain ⟨b1, b2⟩ := List.pairwise_cons.mp hb
    have hx : x ∈ y :: b := p.mem_iff.mp List.mem_cons_self
    have hy : y ∈ x :: a := p.mem_iff.mpr List.mem_cons_self
    have lx := hl x List.mem_cons_self
    have ly := hl y hy
    have e : x = y := by
      rcases List.mem_cons.mp hx with z | z
      · exact z
      · rcases List.mem_cons.mp hy with q | q
        · exact q.symm
        · have h1 := b1 x z
          have h2 := a1 y q
          exact ob_inj.mp (lexI_anti _ _ (by simp [lx, ly]) h1 h2)
    subst e
    rw [sorted_eq (fun v hv => hl v (List.mem_cons_of_mem _ hv)) (p.cons_inv) a2 b2]
def srtUp (ws : List BV) : List BV := sortG ltB ws
theorem srtUp_others {w : Nat} {R : List BV} (hR : Wd w R) : srtUp (words w (turnR w R)) = othersB w R := by
  have hB := turn_wd hR
  have hl := words_len hB.wd
  have P : ∀ v, v ∈ srtUp (words w (turnR w R)) → v.length = w := fun v hv => hl v ((sortG_perm _).mem_iff.mp hv)
  refine sorted_eq (w := w) P ((sortG_perm _).trans (turn_perm hR)) ?_ ?_
  · exact sortG_sorted (lt := ltB) (P := fun v : BV => v.length = w) (fun a b c ha hb hc h1 h2 => lexI_tr (a.map ob) (b.map ob) (c.map ob) (by simp [ha, hb]) (by simp [hb, hc]) h1 h2) (fun a b _ _ h => lexI_as (a.map ob) (b.map ob) h) _ hl
  · refine List.Pairwise.imp (fun h => lexI_as _ _ h) (List.Pairwise.filter _ (sorted_everyB w))
/-- the leads rise -/
theorem lex_at : ∀ {a b : BV} {k : Nat}, a.length = b.length → (∀ j, j < k → bit a j = bit b j) → bit a k = false → bit b k = true → ltB a b = true
  | [], b, k, h, _, _, h2 => by
    have : b = [] := List.eq_nil_of_length_eq_zero (by simpa using h.symm)
    subst this; cases h2
  | _ :: _, [], _, h, _, _, _ => by simp at h
  | x :: a, y :: b, 0, h, _, h1, h2 => by
    rw [bit_cons0] at h1 h2
    subst h1 h2
    show (decide (ob false < ob true) || (decide (ob false = ob true) && lexI (a.map ob) (b.map ob))) = true
    rw [show decide (ob false < ob true) = true by decide]; rfl
  | x :: a, y :: b, k + 1, h, h0, h1, h2 => by
    have e : x = y := h0 0 (by omega)
    subst e
    have ih := lex_at (a := a) (b := b) (k := k) (by simpa using h) (fun j hj => h0 (j + 1) (by omega)) h1 h2
    show (decide (ob x < ob x) || (decide (ob x = ob x) && lexI (a.map ob) (b.map ob))) = true
    unfold ltB at ih
    rw [ih]; simp
theorem leads_rise {w : Nat} {F : List BV} (h : Red w F) : (srt F).Pairwise fun f g => fi f < fi g := by
  have hs := h.perm (srt_perm F).symm
  have hl : ∀ v, v ∈ F → v.length = w := h.wd
  have so : (srt F).Pairwise (fun a b => gtB b a = false) := sortG_sorted (lt := gtB) (P := fun v : BV => v.length = w) (fun a b c ha hb hc h1 h2 => lexI_tr (c.map ob) (b.map ob) (a.map ob) (by simp [hb, hc]) (by simp [ha, hb]) h2 h1) (fun a b _ _ h => lexI_as (b.map ob) (a.map ob) h) F hl
  refine List.Pairwise.imp_of_mem (R := fun f g => gtB g f = false ∧ Cl f g) ?_ (List.Pairwise.and so hs.cl)
  rintro f g hf hg ⟨h1, h2⟩
  obtain ⟨f1, f2, f3⟩ := fi_spec (hs.nz f hf)
  obtain ⟨g1, g2, g3⟩ := fi_spec (hs.nz g hg)
  rcases Nat.lt_trichotomy (fi f) (fi g) with z | z | z
  · exact z
  · exfalso
    have := h2.1
    rw [← z, f1] at this; cases this
  · exfalso
    have hlt : ltB f g = true := lex_at (k := fi g) (by rw [hs.wd f hf, hs.wd g hg]) (fun j hj => by rw [f3 j (by omega), g3 j hj]) h2.1 g1
    unfold gtB at h1
    unfold ltB at hlt
    rw [hlt] at h1; cases h1
/-- each lead's place holds one 1 -/
theorem lead_sum {w : Nat} : ∀ {F : List BV}, Red w F → ∀ f, f ∈ F → (F.map fun g => ob (bit g (fi f))).sum = 1
  | [], _, f, hf => by cases hf
  | x :: F, h, f, hf => by
    obtain ⟨c1, c2⟩ := List.pairwise_cons.mp h.cl
    have hF : Red w F := ⟨fun g hg => h.wd g (List.mem_cons_of_mem _ hg), fun g hg => h.nz g (List.mem_cons_of_mem _ hg), c2⟩
    rw [List.map_cons, List.sum_cons]
    rcases List.mem_cons.mp hf with e | e
    · rw [e, (fi_spec (h.nz x List.mem_cons_self)).1]
      have z : (F.map fun g => ob (bit g (fi x))).sum = 0 := by
        have : F.map (fun g => ob (bit g (fi x))) = F.map fun _ => (0 : Int) := List.map_congr_left fun g hg => by rw [(c1 g hg).2]; rfl
        rw [this]
        have := Sg_zero (l := F)
        unfold Sg at this; exact this
      rw [z]; rfl
    · rw [lead_sum hF f e, (c1 f e).1]; rfl
end MP
set_option linter.all false
set_option Elab.async false
set_option maxRecDepth 100000
/-! LB06: the law's own defs (printed by gen.py). -/
namespace K06
open PySem MP
def e_law_0 : MP.E :=
  (.call 120 (.io 1 (.cons (.int 2) .nil)) [])
def e_law_1 : MP.E :=
  (.bi .tupleOf (.cons (.comp e_law_0 (.one 21) (.rng1 (.var 2)) .no [21]) .nil))
def e_law_2 : MP.E :=
  (.bin .mul (.idx (.var 10) (.var 21)) (.idx (.var 20) (.var 21)))
def c_law_3 : MP.E :=
  (.cmp .eq (.bin .mod (.bi .sumL (.cons (.comp e_law_2 (.one 21) (.rng1 (.var 2)) .no [21]) .nil)) (.int 2)) (.int 1))
def e_law_4 : MP.E :=
  (.int 1)
def l_law_5 : MP.St :=
  (.seq (.asg 11 (.comp e_law_4 (.one 20) (.seq (.var 3)) (.yes c_law_3) [20]))
  (.seq (.asg 9 (.bin .add (.var 9) (.ite (.cmp .eq (.var 11) (.disp .nil)) (.disp (.cons (.var 10) .nil)) (.disp .nil))))
  .pass))
def l_law_6 : MP.St :=
  (.seq (.setix 12 (.bi .sumL (.cons (.var 10) .nil)) (.bin .add (.idx (.var 12) (.bi .sumL (.cons (.var 10) .nil))) (.int 1)))
  .pass)
def l_law_7 : MP.St :=
  (.seq (.setix 13 (.bi .sumL (.cons (.var 10) .nil)) (.bin .add (.idx (.var 13) (.bi .sumL (.cons (.var 10) .nil))) (.int 1)))
  .pass)
def e_law_8 : MP.E :=
  (.idx (.var 10) (.var 21))
def c_law_9 : MP.E :=
  (.cmp .ne (.bi .sumL (.cons (.comp e_law_8 (.one 10) (.seq (.var 14)) .no [10]) .nil)) (.int 1))
def e_law_10 : MP.E :=
  (.var 21)
def e_law_11 : MP.E :=
  (.mindex (.var 10) (.int 1))
def l_law_12 : MP.St :=
  (.seq (.asg 17 (.call 130 (.cons (.var 17) (.cons (.ite (.cmp .eq (.var 18) (.int 1)) (.tup (.cons (.int 0) (.cons (.int 1) .nil))) (.tup (.cons (.int 1) (.cons (.neg (.int 1)) .nil)))) .nil)) []))
  .pass)
def l_law_13 : MP.St :=
  (.seq (.asg 17 (.tup (.cons (.int 1) .nil)))
  (.seq (.for_ (.one 18) (.seq (.var 10))
  l_law_12)
  (.seq (.asg 16 (.call 129 (.cons (.var 16) (.cons (.var 17) (.cons (.int 1) .nil))) []))
  .pass)))
def s_law_20 : MP.St := .pass
def s_law_19 : MP.St :=
  (.seq (.ret (.call 121 (.cons (.disp (.cons (.call 100 (.cons (.var 3) .nil) []) (.cons (.call 101 (.cons (.var 3) .nil) []) .nil))) (.cons (.disp (.cons (.var 16) (.cons (.var 16) .nil))) .nil)) []))
  s_law_20)
def s_law_18 : MP.St :=
  (.seq (.for_ (.one 10) (.seq (.slc (.var 4) (.yes (.int 1)) .no))
  l_law_13)
  s_law_19)
def s_law_17 : MP.St :=
  (.seq (.asg 16 (.tup .nil))
  s_law_18)
def s_law_16 : MP.St :=
  (.seq (.ifs (.cmp .ne (.var 14) (.tup .nil))
  (.seq (.ifs (.or (.cmp .ne (.bi (.sortedL true) (.cons (.call 143 (.cons (.var 14) .nil) []) .nil)) (.var 9)) (.cmp .ne (.bi .len (.cons (.call 143 (.cons (.var 14) .nil) []) .nil)) (.bi .len (.cons (.var 9) .nil))))
  (.seq (.ret (.bl false))
  .pass)
  .pass)
  (.seq (.asg 15 (.comp e_law_11 (.one 10) (.seq (.var 14)) .no [10]))
  (.seq (.ifs (.or (.cmp .ne (.var 15) (.bi (.sortedL true) (.cons (.var 15) .nil))) (.cmp .ne (.comp e_law_10 (.one 21) (.seq (.var 15)) (.yes c_law_9) [21]) (.disp .nil)))
  (.seq (.ret (.bl false))
  .pass)
  .pass)
  .pass)))
  .pass)
  s_law_17)
def s_law_15 : MP.St :=
  (.seq (.ifs (.or (.not (.bi (.isi .tuple) (.cons (.var 14) .nil))) (.cmp .ne (.cmp .eq (.var 14) (.tup .nil)) (.cmp .eq (.bi .len (.cons (.var 9) .nil)) (.int 1))))
  (.seq (.ret (.bl false))
  .pass)
  .pass)
  s_law_16)
def s_law_14 : MP.St :=
  (.seq (.asg 14 (.call 97 (.cons (.var 3) .nil) []))
  s_law_15)
def s_law_13 : MP.St :=
  (.seq (.ifs (.not (.call 121 (.cons (.disp (.cons (.var 6) (.cons (.call 98 (.cons (.var 3) .nil) []) .nil))) (.cons (.disp (.cons (.bi .tupleOf (.cons (.var 12) .nil)) (.cons (.bi .tupleOf (.cons (.var 13) .nil)) .nil))) .nil)) []))
  (.seq (.ret (.bl false))
  .pass)
  .pass)
  s_law_14)
def s_law_12 : MP.St :=
  (.seq (.for_ (.one 10) (.seq (.var 9))
  l_law_7)
  s_law_13)
def s_law_11 : MP.St :=
  (.seq (.for_ (.one 10) (.seq (.var 4))
  l_law_6)
  s_law_12)
def s_law_10 : MP.St :=
  (.seq (.ptup [12, 13] (.cons (.bin .mul (.disp (.cons (.int 0) .nil)) (.bin .add (.var 2) (.int 1))) (.cons (.bin .mul (.disp (.cons (.int 0) .nil)) (.bin .add (.var 2) (.int 1))) .nil)))
  s_law_11)
def s_law_9 : MP.St :=
  (.seq (.for_ (.one 10) (.seq (.var 8))
  l_law_5)
  s_law_10)
def s_law_8 : MP.St :=
  (.seq (.asg 9 (.disp .nil))
  s_law_9)
def s_law_7 : MP.St :=
  (.seq (.asg 8 (.call 135 (.cons (.int 2) (.cons (.var 2) .nil)) []))
  s_law_8)
def s_law_6 : MP.St :=
  (.seq (.ifs (.cmp .eq (.var 5) (.str "bad"))
  (.seq (.ret (.bl true))
  .pass)
  .pass)
  s_law_7)
def s_law_5 : MP.St :=
  (.seq (.ifs (.cmp .ne (.cmp .eq (.var 5) (.str "bad")) (.cmp .lt (.bi .lenSet (.cons (.var 4) .nil)) (.bi .len (.cons (.var 4) .nil))))
  (.seq (.ret (.bl false))
  .pass)
  .pass)
  s_law_6)
def s_law_4 : MP.St :=
  (.seq (.try1 (.seq (.asg 6 (.call 95 (.cons (.var 3) .nil) []))
  .pass) 2 7 (.asg 5 (.str "bad")))
  s_law_5)
def s_law_3 : MP.St :=
  (.seq (.ptup [4, 5] (.cons (.call 143 (.cons (.var 3) .nil) []) (.cons (.str "") .nil)))
  s_law_4)
def s_law_2 : MP.St :=
  (.seq (.asg 3 (.bi .tupleOf (.cons (.comp e_law_1 (.one 19) (.rng1 (.bin .add (.int 1) (.call 120 (.io 1 (.cons (.int 4) .nil)) []))) .no [19]) .nil)))
  s_law_3)
def s_law_1 : MP.St :=
  (.seq (.asg 2 (.bin .add (.int 1) (.call 120 (.io 1 (.cons (.int 7) .nil)) [])))
  s_law_2)
def s_law_0 : MP.St :=
  (.seq (.asg 1 (.disp (.cons (.var 0) (.cons (.int 0) (.cons (.int 5906) (.cons (.int 0) .nil))))))
  s_law_1)
def b_law : MP.St := s_law_0
def f_law : Df := ⟨1, 22, b_law⟩
end K06
set_option linter.all false
set_option Elab.async false
set_option maxRecDepth 100000
set_option maxHeartbeats 2000000
/-! I13: k06's law on the interpreter. -/
namespace MP
open PySem
/-- a comprehension whose parts draw: what holds of the items, of the state -/
theorem compL_ex {tg : Tg} {own : List Nat} {elt : Fe} (J : Ro → Prop) (G : Dv → Prop) : ∀ (xs : List Dv) (r : Ro), J (wipe own r) →
    (∀ x w, x ∈ xs → J w → ∃ r1 y r2, asgT tg x w = some r1 ∧ elt r1 = .ok (.d y) r2 ∧ G y ∧ J (wipe own r2)) →
    ∃ ys r', compL tg own none (fun r => .ok true r) elt xs r = .ok ys r' ∧ ys.length = xs.length ∧ (∀ y, y ∈ ys → G y) ∧ J (wipe own r')
  | [], r, hJ, _ => ⟨[], r, by simp only [compL, gOk_none, if_true], rfl, fun y hy => (by cases hy), hJ⟩
  | x :: xs, r, hJ, h => by
    obtain ⟨r1, y, r2, h1, h2, h3, h4⟩ := h x _ List.mem_cons_self hJ
    obtain ⟨ys, r', k1, k2, k3, k4⟩ := compL_ex J G xs r2 h4 fun x' w hx' => h x' w (List.mem_cons_of_mem _ hx')
    refine ⟨y :: ys, r', ?_, by simp [k2], fun z hz => ?_, k4⟩
    · simp only [compL, gOk_none, if_true, h1, h2, mat, k1]
    · rcases List.mem_cons.mp hz with e | e
      · rw [e]; exact h3
      · exact k3 z e
def noneAt (r : Ro) : List Nat → Bool
  | [] => true
  | i :: is => (match r[i]? with
    | some (.val _) => false
    | _ => true) && noneAt r is
theorem restore_none {r0 : Ro} : ∀ {own : List Nat} {r : Ro}, noneAt r0 own = true → restore r0 own r = wipe own r
  | [], r, _ => rfl
  | i :: is, r, h => by
    simp only [noneAt, Bool.and_eq_true] at h
    simp only [restore, wipe]
    rw [restore_none h.2]
    have : keepV r0 i = .none := by
      unfold keepV
      cases e : r0[i]? with
      | none => rfl
      | some s => cases s with
        | val x => rw [e] at h; cases h.1
        | _ => rfl
    rw [this]
theorem comp_ex {fe : Fe} {tg : Tg} {fi : Ro → Re Src} {own : List Nat} {r r0 : Ro} {xs : List Dv} (J : Ro → Prop) (G : Dv → Prop) (hi : fi r = .ok ⟨xs, none⟩ r0) (hl : xs.length ≤ line) (hn : noneAt r0 own = true) (hJ : J (wipe own r0))
    (h : ∀ x w, x ∈ xs → J w → ∃ r1 y r2, asgT tg x w = some r1 ∧ fe r1 = .ok (.d y) r2 ∧ G y ∧ J (wipe own r2)) :
    ∃ ys r', compF fe tg fi none own r = .ok (.fr ys) r' ∧ ys.length = xs.length ∧ (∀ y, y ∈ ys → G y) ∧ J r' := by
  obtain ⟨ys, r', k1, k2, k3, k4⟩ := compL_ex (tg := tg) (own := own) (elt := fe) J G xs r0 hJ h
  refine ⟨ys, wipe own r', ?_, k2, k3, k4⟩
  unfold compF
  rw [hi]
  have hc : condF none = fun r => Re.ok true r := rfl
  simp only [if_pos hl, hc, k1]
  rw [restore_none hn]
end MP
namespace MP
section
variable {F : CallF} {W : WhileF} {s : Sl} {r r1 : Ro} {A H : MP.St} {t : T} {i c x : Nat}
def tryK (o : RS) (c x : Nat) (h : Fs) : RS := match o with
  | .exc a r1 => if isSub a c then hndF x h a r1 else .exc a r1
  | o => o
def hdK (x : Nat) (o : RS) : RS := match o with
  | .nx r2 => .nx (r2.set x .none)
  | .ret (.d v) r2 => .ret (.d v) r2
  | _ => .bad
theorem q_try : exec F W (.try1 A c x H) (s :: r) = tryK (exec F W A (s :: r)) c x (exec F W H) := by
  show try1F (exec F W A) c x (exec F W H) (s :: r) = _
  unfold try1F tryK
  cases exec F W A (s :: r) <;> rfl
theorem q_tryN {h : Fs} : tryK (.nx r) c x h = .nx r := rfl
theorem q_tryR {h : Fs} : tryK (.ret t r) c x h = .ret t r := rfl
theorem q_tryX {h : Fs} : tryK (.exc i r) c x h = if isSub i c = true then hdK x (h (r.set x (.val (.exc i)))) else .exc i r := by
  unfold tryK hndF hdK
  dsimp only
  all_goals (split <;> first | rfl | (cases h (r.set x (.val (.exc i))) <;> rfl))
theorem q_hdN : hdK x (.nx r) = .nx (r.set x .none) := rfl
end
end MP
namespace K06
open PySem MP Bv
local macro_rules | `(tactic| walk_at "mp") => `(tactic| simp (config := { failIfUnchanged := false, implicitDefEqProofs := false }) only [q_rb, q_rbx, q_sb, q_sbx, q_non, q_bl, q_int, q_str, q_glb, q_var, q_varV, q_varO, q_tup, q_disp, q_tupK, q_dispK, q_bin, q_neg, q_negK, q_cmp, q_chain, q_chK, q_vd, q_vfr, q_vrf, q_vwK, q_tK, q_bK, q_add, q_sub, q_mul, q_fdiv, q_mod, q_pow18, q_tadd, q_ladd, q_tmul, q_lmul, q_eq, q_ne, q_lt, q_le, q_gt, q_ge,
  q_and, q_or, q_not, q_ite, q_andK, q_orK, q_notK, q_chkB, q_iteK, q_asB, q_idx, q_sqT, q_sqL, q_sqF, q_sqS, q_sqR, q_sqK, q_subK, q_giK, q_g0, q_g1, q_g2, q_g3, q_slc, q_ono, q_oyes, q_someO, q_sliT, q_sliL, q_sn, q_sc, q_mk, q_md, q_mf, q_mr, q_frzK, q_tn, q_tc, q_an, q_ac, q_aio, q_ioK, q_hn, q_hc, q_hk, q_hf, q_hd,
  q_call, q_ln, q_lv, q_lio, q_lendK, q_callK0, q_ix0, q_ixv, q_ixi, q_nd0, q_nd1, q_ok, q_okF, q_okX, q_un0, q_un1, q_retK, q_excK, q_bi, q_len, q_abs, q_bint, q_max2, q_min2, q_tupleOf, q_listOf, q_isi, q_isiF, q_all, q_lsL, q_lsF, q_lsR, q_allK, q_sum, q_sumK, q_pop, q_popK, q_comp, q_iseq, q_srcK, q_srcL, q_srcT, q_srcS, q_srcF, q_srcR, q_srcR', q_rng1, q_rgK, q_rg2K, q_enum, q_enK, q_zip, q_zT, q_zL, q_zK, q_cno, q_cyes, q_cond0, q_cond1,
  q_seq, q_seqK, q_seqR, q_seqX, q_pass, q_asg, q_asgD, q_asgF, q_asgR, q_ms, q_ret, q_retN, q_expr, q_ifs, q_ifK, q_for, q_forK, q_while, q_raise, q_ptup, q_nxK, q_asgH0, q_asgH1, q_atup, q_atK, q_asgs0, q_asgs1, q_tg1, q_tgN, q_aug, q_augK, q_ag2, q_apK, q_app, q_appK, q_setix, q_sxK, q_sx2, q_augix, q_finN, q_finD, q_finF, q_finR, q_rvK, q_finX, q_lp0, q_lpv, q_lpo,
  q_try, q_tryN, q_tryR, q_tryX, q_hdN, q_isN, q_inK, q_isTLt, q_isTLl, q_isTLf, q_isTLi, q_neB, q_eqB, q_f0D, q_f0F, q_f0N, q_f0X, q_mindex, q_mcount, q_itT, q_itL, q_itF, q_itR, q_itK, q_mxK, q_mx2, q_mc2, q_ixK, q_any, List.getElem?_cons_zero, List.getElem?_cons_succ, List.set_cons_zero, List.set_cons_succ, List.cons_append, List.nil_append, List.append_nil, List.replicate, List.map_nil, List.map_cons, Option.map_some, Nat.reduceSub, Nat.reduceAdd, List.length_cons, List.length_nil, List.length_map, Nat.reduceLeDiff, if_true, if_false, ite_true, ite_false, Bool.false_eq_true, reduceCtorEq, Nat.zero_add, decide_true, decide_false, Bool.not_true, Bool.not_false, isTy, wipe, Int.reduceNeg, ne_eq, Int.reduceEq, not_false_eq_true, not_true_eq_false, Int.reduceLT, Int.reduceLE, Int.reduceAdd, Int.reduceSub, Int.reduceMul, Nat.reduceLT, Nat.reduceMul, Int.reduceToNat, decide_eq_true_eq, *])
theorem x1 : ixN 4 1 = some 1 := by decide
/-- a drawn sign -/
theorem draw2 {l : Tbl} {W : WhileF} {ns : List Int} {i z d : Int} (H : RowOk i z) : ∃ b i' z' d', RowOk i' z' ∧ ∀ n, callN (tbL l) W (n + 1) 120 [.own (rowL ns i z d), .val (.int 2)] = .ok (.d (.int (ob b))) [.own (rowL ns i' z' d')] := by
  obtain ⟨v, i', z', d', h1, h2, h3, h4⟩ := i_taken (l := l) (W := W) (ns := ns) (d := d) (m := 2) H (by decide) (by decide)
  have hv : v = 0 ∨ v = 1 := by omega
  rcases hv with e | e
  · exact ⟨false, i', z', d', h1, fun n => by rw [h4, e]; rfl⟩
  · exact ⟨true, i', z', d', h1, fun n => by rw [h4, e]; rfl⟩
theorem draw {l : Tbl} {W : WhileF} {ns : List Int} {i z d : Int} (H : RowOk i z) (m : Int) (h0 : 0 < m) (hm : m < 1000000) : ∃ (v : Nat) (i' z' d' : Int), RowOk i' z' ∧ (v : Int) < m ∧ ∀ n, callN (tbL l) W (n + 1) 120 [.own (rowL ns i z d), .val (.int m)] = .ok (.d (.int v)) [.own (rowL ns i' z' d')] := by
  obtain ⟨v, i', z', d', h1, h2, h3, h4⟩ := i_taken (l := l) (W := W) (ns := ns) (d := d) (m := m) H (by omega) (by omega)
  refine ⟨v.toNat, i', z', d', h1, by omega, fun n => ?_⟩
  rw [h4, show ((v.toNat : Nat) : Int) = v by omega]
/-- slots 3 to 21 -/
def tailN : List Sl := List.replicate 18 .none
abbrev st0 (ns : List Int) (row wide rows turn at_ : Sl) : Ro := [.val (.scr ns), row, wide, rows, .none, .none, .none, .none, .none, .none, .none, .none, .none, .none, .none, .none, .none, .none, .none, turn, .none, at_]
theorem row_of {ys : List Dv} {w : Nat} (hl : ys.length = w) (h : ∀ y, y ∈ ys → ∃ b, y = .int (ob b)) : ∃ v : BV, v.length = w ∧ ys = (v.map ob).map .int := by
  induction ys generalizing w with
  | nil => exact ⟨[], by simpa using hl, rfl⟩
  | cons y ys ih =>
    cases w with
    | zero => simp at hl
    | succ w =>
      obtain ⟨v, h1, h2⟩ := ih (w := w) (by simpa using hl) fun z hz => h z (List.mem_cons_of_mem _ hz)
      obtain ⟨b, hb⟩ := h y List.mem_cons_self
      exact ⟨b :: v, by simp [h1], by rw [hb, h2]; rfl⟩
theorem rows_of {ys : List Dv} {k w : Nat} (hl : ys.length = k) (h : ∀ y, y ∈ ys → ∃ v : BV, v.length = w ∧ y = bv v) : ∃ R : List BV, R.length = k ∧ Wd w R ∧ ys = R.map bv := by
  induction ys generalizing k with
  | nil => exact ⟨[], by simpa using hl, fun r hr => (by cases hr), rfl⟩
  | cons y ys ih =>
    cases k with
    | zero => simp at hl
    | succ k =>
      obtain ⟨R, h1, h2, h3⟩ := ih (k := k) (by simpa using hl) fun z hz => h z (List.mem_cons_of_mem _ hz)
      obtain ⟨v, hv, hy⟩ := h y List.mem_cons_self
      refine ⟨v :: R, by simp [h1], fun r hr => ?_, by rw [hy, h3]; rfl⟩
      rcases List.mem_cons.mp hr with e | e
      · rw [e]; exact hv
      · exact h2 r e
theorem seg1 {l : Tbl} {W : WhileF} {n : Nat} {ns : List Int} : ∃ (w : Nat) (R : List BV) (row : Sl), Rows w R ∧ exec (callN (tbL l) W (n + 1)) W s_law_0 (st0 ns .none .none .none .none .none) = exec (callN (tbL l) W (n + 1)) W s_law_3 (st0 ns row (.val (.int w)) (.val (bvs R)) .none .none) := by
  obtain ⟨v7, i1, z1, d1, H1, hv7, t7⟩ := draw (l := l) (W := W) (ns := ns) (i := 0) (z := 5906) (d := 0) ⟨by decide, by decide⟩ 7 (by decide) (by decide)
  obtain ⟨v4, i2, z2, d2, H2, hv4, t4⟩ := draw (l := l) (W := W) (ns := ns) (d := d1) H1 4 (by decide) (by decide)
  have t7 := t7 n
  have t4 := t4 n
  simp only [rowL] at t7
  -- the outer comprehension's state: the row's slot changes
  have e1 : (1 : Int) + (v7 : Int) = ((v7 + 1 : Nat) : Int) := by omega
  have e2 : (1 : Int) + (v4 : Int) = ((v4 + 1 : Nat) : Int) := by omega
  have hr7 : inR ((v7 + 1 : Nat) : Int) = true := inR_of (by omega) (by omega)
  have hr4 : inR ((v4 + 1 : Nat) : Int) = true := inR_of (by omega) (by omega)
  have hg7 := rng_nat (v7 + 1)
  have hg4 := rng_nat (v4 + 1)
  have e3 : (((v7 + 1 : Nat) : Int)).toNat = v7 + 1 := by omega
  have e4 : (((v4 + 1 : Nat) : Int)).toNat = v4 + 1 := by omega
  let J : Sl → Ro → Prop := fun t q => ∃ i z d, RowOk i z ∧ q = st0 ns (.own (rowL ns i z d)) (.val (.int ((v7 + 1 : Nat) : Int))) .none t .none
  have inner : ∀ t i z d, RowOk i z → ∃ ys q, compF (ev (callN (tbL l) W (n + 1)) e_law_0) (.one 21) (evi (callN (tbL l) W (n + 1)) (.rng1 (.var 2))) none [21] (st0 ns (.own (rowL ns i z d)) (.val (.int ((v7 + 1 : Nat) : Int))) .none t .none) = .ok (.fr ys) q ∧ ys.length = v7 + 1 ∧ (∀ y, y ∈ ys → ∃ b, y = .int (ob b)) ∧ J t q := by
    intro t i z d H
    obtain ⟨ys, q, k1, k2, k3, k4⟩ := comp_ex (fe := ev (callN (tbL l) W (n + 1)) e_law_0) (tg := .one 21) (own := [21]) (r := st0 ns (.own (rowL ns i z d)) (.val (.int ((v7 + 1 : Nat) : Int))) .none t .none) (fi := evi (callN (tbL l) W (n + 1)) (.rng1 (.var 2))) (J t) (fun y => ∃ b, y = .int (ob b)) (xs := (List.range (v7 + 1)).map fun i : Nat => .int (i : Int)) (r0 := st0 ns (.own (rowL ns i z d)) (.val (.int ((v7 + 1 : Nat) : Int))) .none t .none)
      (by clear H t7 t4 H1 H2 e1 e2 hr4 hg4 e4; walk_at "mp") (by unfold line; simp; omega) rfl ⟨i, z, d, H, rfl⟩ (by
        rintro x w _ ⟨i, z, d, H, rfl⟩
        obtain ⟨b, i', z', d', h1, h2⟩ := draw2 (l := l) (W := W) (ns := ns) (d := d) H
        have h2 := h2 n
        refine ⟨_, .int (ob b), st0 ns (.own (rowL ns i' z' d')) (.val (.int ((v7 + 1 : Nat) : Int))) .none t (.val x), rfl, ?_, ⟨b, rfl⟩, i', z', d', h1, rfl⟩
        simp only [e_law_0]
        clear H h1 t7 t4 H1 H2 e1 e2 hr4 hg4 e4 hr7 hg7 e3 hv7 hv4
        walk_at "mp")
    exact ⟨ys, q, k1, by simpa using k2, k3, k4⟩
  obtain ⟨Ys, q, k1, k2, k3, i3, z3, d3, H3, rfl⟩ := comp_ex (fe := ev (callN (tbL l) W (n + 1)) e_law_1) (tg := .one 19) (own := [19]) (r := st0 ns (.own (rowL ns i1 z1 d1)) (.val (.int ((v7 + 1 : Nat) : Int))) .none .none .none) (fi := evi (callN (tbL l) W (n + 1)) (.rng1 (.bin .add (.int 1) (.call 120 (.io 1 (.cons (.int 4) .nil)) [])))) (J .none) (fun y => ∃ v : BV, v.length = v7 + 1 ∧ y = bv v) (xs := (List.range (v4 + 1)).map fun i : Nat => .int (i : Int)) (r0 := st0 ns (.own (rowL ns i2 z2 d2)) (.val (.int ((v7 + 1 : Nat) : Int))) .none .none .none)
      (by
        clear t7 H1 H2 e1 hr7 hg7 e3 inner J
        walk_at "mp") (by unfold line; simp; omega) rfl ⟨i2, z2, d2, H2, rfl⟩ (by
        rintro x w _ ⟨i, z, d, H, rfl⟩
        obtain ⟨ys, q, h1, h2, h3, i', z', d', h4, rfl⟩ := inner (.val x) i z d H
        obtain ⟨v, hv, rfl⟩ := row_of h2 h3
        refine ⟨_, bv v, st0 ns (.own (rowL ns i' z' d')) (.val (.int ((v7 + 1 : Nat) : Int))) .none (.val x) .none, rfl, ?_, ⟨v, hv, rfl⟩, i', z', d', h4, rfl⟩
        simp only [e_law_1]
        clear H h2 h3 h4 t7 t4 H1 H2 e1 e2 hr4 hg4 e4 hr7 hg7 e3 hv7 hv4 inner J
        walk_at "mp")
  obtain ⟨R, r1, r2, rfl⟩ := rows_of (k := v4 + 1) (by simpa using k2) k3
  refine ⟨v7 + 1, R, .own (rowL ns i3 z3 d3), ⟨r2, by omega, by omega, by omega, by omega⟩, ?_⟩
  simp only [s_law_0, s_law_1, s_law_2]
  clear H1 H2 H3 inner J k2 k3 r1 r2 hr4 hg4 e4 hr7 hg7 e3 hv7 hv4 t4 e2
  simp only [rowL] at k1 ⊢
  walk_at "mp"

abbrev mk (ns : List Int) (row : Sl) (w : Nat) (R : List BV) (s4 s5 s6 s8 s9 s10 s11 s12 s13 s14 s15 s16 s17 s18 s20 s21 : Sl) : Ro :=
  [.val (.scr ns), row, .val (.int w), .val (bvs R), s4, s5, s6, .none, s8, s9, s10, s11, s12, s13, s14, s15, s16, s17, s18, .none, s20, s21]
theorem words16 {w : Nat} {R : List BV} (H : Rows w R) : (words w R).length ≤ 16 := by
  rw [words_size]
  exact Nat.le_trans (Nat.pow_le_pow_right (by decide) H.n2) (by decide)
theorem flat_words {w : Nat} {ws : List BV} (hw : 1 ≤ w) (h : ∀ v, v ∈ ws → v.length = w) : (ws.map bv).all flatT = true :=
  flat_bv fun f hf z => by have := h f hf; rw [z] at this; simp at this; omega
theorem nodup_bv {ws : List BV} : (ws.map bv).Nodup ↔ ws.Nodup := by
  constructor
  · intro h
    exact List.Pairwise.of_map _ (fun a b hab e => hab (by rw [e])) h
  · intro h
    exact List.Pairwise.map _ (fun a b hab e => hab (bv_inj.mp e)) h
theorem indep_iff {w : Nat} {R : List BV} (hR : Wd w R) : indep R = true ↔ (words w R).Nodup := by
  unfold indep
  rw [decide_eq_true_iff]
  exact (stepAll_ok hR).2.2.2
/-- fewer unlike words: they lean on one another -/
theorem set_lt {w : Nat} {R : List BV} (hR : Wd w R) : decide (((distinct ((words w R).map bv)).length : Int) < ((words w R).length : Int)) = !indep R := by
  obtain ⟨h1, h2⟩ := distinct_len ((words w R).map bv)
  rw [nodup_bv, ← indep_iff hR] at h2
  rw [List.length_map] at h1 h2
  cases h : indep R with
  | true =>
    have := h2.mpr h
    rw [decide_eq_false (by omega)]; rfl
  | false =>
    rw [decide_eq_true (by
      have : ¬ (distinct ((words w R).map bv)).length = (words w R).length := fun z => by have := h2.mp z; rw [h] at this; cases this
      omega)]; rfl
theorem s1 : cmpV .eq (some (.str "")) (some (.str "bad")) = some false := by rw [q_eqT rfl rfl]; decide +kernel
theorem s2 : cmpV .eq (some (.str "bad")) (some (.str "bad")) = some true := by rw [q_eqT rfl rfl]; decide +kernel
theorem sub22 : isSub 2 2 = true := rfl
theorem seg2 {l : Tbl} {W : WhileF} {n w : Nat} {ns : List Int} {R : List BV} {row : Sl} (H : Rows w R) :
    (indep R = false → ∃ r, exec (callN (tbL l) W (n + 4)) W s_law_3 (st0 ns row (.val (.int w)) (.val (bvs R)) .none .none) = .ret (.d (.bl true)) r) ∧
    (indep R = true → exec (callN (tbL l) W (n + 4)) W s_law_3 (st0 ns row (.val (.int w)) (.val (bvs R)) .none .none) = exec (callN (tbL l) W (n + 4)) W s_law_7 (mk ns row w R (.own ((words w R).map bv)) (.val (.str "")) (.val (ip (cn w (words w R)))) .none .none .none .none .none .none .none .none .none .none .none .none .none)) := by
  have hne : R ≠ [] := fun z => by have := H.n1; rw [z] at this; simp at this
  have hwd := i_lwords (l := l) (W := W) (n := n + 3) H.wd hne (by have := H.w2; omega) (by have := H.n2; omega)
  have hwt := i_weights (l := l) (W := W) (n := n) H
  have hset : ∀ s5 s6, biT (mk ns row w R (.own ((words w R).map bv)) s5 s6 .none .none .none .none .none .none .none .none .none .none .none .none .none) .lenSet [.rf 4] = some (.d (.int (distinct ((words w R).map bv)).length)) := fun s5 s6 => q_lenSet rfl (flat_words H.w1 (words_len H.wd)) (by rw [List.length_map]; have := words16 H; omega)
  have hlt := set_lt H.wd
  have z1 := s1
  have z2 := s2
  have z3 := sub22
  constructor
  · intro hi
    rw [hi] at hwt hlt
    rw [if_neg Bool.false_ne_true] at hwt
    simp only [Bool.not_false, decide_eq_true_eq] at hlt
    refine ⟨mk ns row w R (.own ((words w R).map bv)) (.val (.str "bad")) .none .none .none .none .none .none .none .none .none .none .none .none .none .none, ?_⟩
    simp only [s_law_3, s_law_4, s_law_5, s_law_6]
    clear H hne hi
    walk_at "mp"
  · intro hi
    rw [hi] at hwt hlt
    rw [if_pos rfl] at hwt
    simp only [Bool.not_true, decide_eq_false_iff_not] at hlt
    simp only [s_law_3, s_law_4, s_law_5, s_law_6]
    clear H hne hi
    walk_at "mp"

/-! ### the other side, by all rows -/
theorem rows_bv (w : Nat) : (rowsI 2 w).map ip = (everyB w).map bv := by rw [rowsI_two, List.map_map]; rfl
def inn (w : Nat) (u v : BV) : Int := ((List.range w).map fun i => ob (bit u i) * ob (bit v i)).sum
theorem inn_dot {w : Nat} {u v : BV} : decide ((inn w u v).fmod 2 = 1) = dot w v u := by
  have key : ∀ w, 0 ≤ inn w u v ∧ (inn w u v % 2 = if dot w v u then 1 else 0) := by
    intro w
    induction w with
    | zero => exact ⟨by show (0 : Int) ≤ 0; decide, rfl⟩
    | succ w ih =>
      have e : inn (w + 1) u v = inn w u v + ob (bit u w) * ob (bit v w) := by
        unfold inn; rw [List.range_succ, List.map_append, List.sum_append]; simp
      have e2 : dot (w + 1) v u = (dot w v u ^^ (bit v w && bit u w)) := rfl
      rw [e, e2]
      generalize dot w v u = D at *
      generalize inn w u v = I at *
      cases bit u w <;> cases bit v w <;> cases D <;> simp [ob] at ih ⊢ <;> omega
  obtain ⟨h1, h2⟩ := key w
  rw [Int.fmod_eq_emod_of_nonneg _ (by decide), h2]
  cases dot w v u <;> rfl
theorem ob_mul (a b : Bool) : okMul (ob a) (ob b) = true := okMul_k (by cases a <;> decide) (by cases b <;> decide)
theorem seg3_in {F : CallF} {w : Nat} {ns : List Int} {R : List BV} {row s4 s5 s6 s8 s9 s11 s12 s13 s14 s15 s16 s17 s18 : Sl} (hw : w < 1000) {v : BV} (hv : v.length = w) (g : BV) (hg : g.length = w) :
    compF (ev F e_law_2) (.one 21) (evi F (.rng1 (.var 2))) none [21] (mk ns row w R s4 s5 s6 s8 s9 (.val (bv v)) s11 s12 s13 s14 s15 s16 s17 s18 (.val (bv g)) .none) = .ok (.fr (((List.range w).map fun i => ob (bit v i) * ob (bit g i)).map .int)) (mk ns row w R s4 s5 s6 s8 s9 (.val (bv v)) s11 s12 s13 s14 s15 s16 s17 s18 (.val (bv g)) .none) := by
  have hr : inR (w : Int) = true := inR_of (by omega) (by omega)
  have hrg := rng_nat w
  have e3 : ((w : Int)).toNat = w := by omega
  rw [List.map_map]
  refine comp_all (own := [21]) (g := none) (fun i : Nat => .int (i : Int)) (fun i : Nat => Dv.int (ob (bit v i) * ob (bit g i))) (List.range w) ?_ (by unfold line; simp; omega) rfl (by decide) rfl ?_
  · clear hv hg hw
    walk_at "mp"
  · intro i hi
    have hi := List.mem_range.mp hi
    refine ⟨_, rfl, rfl, ?_⟩
    have g1 := get_bv (v := v) (i := i) (by omega)
    have g2 := get_bv (v := g) (i := i) (by omega)
    have hm := ob_mul (bit v i) (bit g i)
    simp only [e_law_2]
    clear hv hg hw hi hr hrg e3
    walk_at "mp"
theorem seg3_odd {F : CallF} {w : Nat} {ns : List Int} {R : List BV} {row s4 s5 s6 s8 s9 s11 s12 s13 s14 s15 s16 s17 s18 : Sl} (H : Rows w R) {v : BV} (hv : v.length = w) :
    compF (ev F e_law_4) (.one 20) (evi F (.seq (.var 3))) (some fun r => asB (ev F c_law_3 r)) [20] (mk ns row w R s4 s5 s6 s8 s9 (.val (bv v)) s11 s12 s13 s14 s15 s16 s17 s18 .none .none) = .ok (.fr ((R.filter fun g => dot w g v).map fun _ => .int 1)) (mk ns row w R s4 s5 s6 s8 s9 (.val (bv v)) s11 s12 s13 s14 s15 s16 s17 s18 .none .none) := by
  have hw : w < 1000 := by have := H.w2; omega
  refine comp_map (own := [20]) (g := none) bv (fun g => dot w g v) (fun _ => Dv.int 1) R ?_ (by unfold line; have := H.n2; omega) rfl (by decide) rfl ?_
  · clear H hv hw
    walk_at "mp"
  · intro g hg
    have hc := seg3_in (F := F) (ns := ns) (R := R) (row := row) (s4 := s4) (s5 := s5) (s6 := s6) (s8 := s8) (s9 := s9) (s11 := s11) (s12 := s12) (s13 := s13) (s14 := s14) (s15 := s15) (s16 := s16) (s17 := s17) (s18 := s18) hw hv g (H.wd g hg)
    refine ⟨_, rfl, ?_, rfl, fun _ => ?_⟩
    · have hd := @inn_dot w v g
      have hsum : ((List.range w).map fun i => ob (bit v i) * ob (bit g i)).sum = inn w v g := rfl
      simp only [c_law_3]
      clear H hv hw hg
      walk_at "mp"
    · simp only [e_law_4]
      walk_at "mp"
theorem odd_nil {R : List BV} {p : BV → Bool} : cmpV .eq (some (.lv ((R.filter p).map fun _ => Dv.int 1))) (some (.lv [])) = some (R.all fun g => !p g) := by
  rw [q_eqT ?_ rfl]
  · congr 1
    induction R with
    | nil => rfl
    | cons g R ih =>
      cases h : p g with
      | true => rw [List.filter_cons_of_pos h, List.all_cons, h]; simp
      | false => rw [List.filter_cons_of_neg (by rw [h]; simp), List.all_cons, h, ih]; rfl
  · exact itrs_map fun _ _ => itr_int
theorem seg3 {l : Tbl} {W : WhileF} {n w : Nat} {ns : List Int} {R : List BV} {row s4 s5 s6 : Sl} (H : Rows w R) : ∃ s8 s10 s11, pl s10 = true ∧ exec (callN (tbL l) W (n + 1)) W s_law_7 (mk ns row w R s4 s5 s6 .none .none .none .none .none .none .none .none .none .none .none .none .none) = exec (callN (tbL l) W (n + 1)) W s_law_10 (mk ns row w R s4 s5 s6 s8 (.own ((othersB w R).map bv)) s10 s11 .none .none .none .none .none .none .none .none .none) := by
  have hrw := i_rows (l := l) (W := W) (n := n) (k := 2) (m := w) (by decide) (by decide) H.w1 (by have := H.w2; omega) (Nat.le_trans (Nat.pow_le_pow_right (by decide) H.w2) (by decide))
  rw [rows_bv] at hrw
  have e2 : ((2 : Nat) : Int) = 2 := rfl
  rw [e2] at hrw
  obtain ⟨r', h1, s10, s11, rfl, _, p1⟩ := forL_at (tg := .one 10) (g := none) (body := exec (callN (tbL l) W (n + 1)) W l_law_5) bv (fun pre q => ∃ s10 s11, q = mk ns row w R s4 s5 s6 (.val (.lv ((everyB w).map bv))) (.own ((pre.filter (orthB w R)).map bv)) s10 s11 .none .none .none .none .none .none .none .none .none ∧ pre.length ≤ (everyB w).length ∧ pl s10 = true) (everyB w) (by
    rintro pre v post q e ⟨s10, s11, rfl, hpl, _⟩
    have hv : v.length = w := mem_everyB.mp (by rw [e]; simp)
    have hc := seg3_odd (F := callN (tbL l) W (n + 1)) (ns := ns) (row := row) (s4 := s4) (s5 := s5) (s6 := s6) (s8 := .val (.lv ((everyB w).map bv))) (s9 := .own ((pre.filter (orthB w R)).map bv)) (s11 := s11) (s12 := .none) (s13 := .none) (s14 := .none) (s15 := .none) (s16 := .none) (s17 := .none) (s18 := .none) H hv
    have ho := @odd_nil R fun g => dot w g v
    have hlen : ((pre.filter (orthB w R)).map bv).length + 1 ≤ 16777216 := by
      have a1 := List.length_filter_le (orthB w R) pre
      have a2 : (everyB w).length ≤ 16000000 := by
        have := congrArg List.length (rowsI_two w)
        rw [rowsI_size, List.length_map] at this
        rw [← this]
        exact Nat.le_trans (Nat.pow_le_pow_right (by decide) H.w2) (by decide)
      rw [List.length_map]; omega
    have hlen0 : ((pre.filter (orthB w R)).map bv).length + ([] : List Dv).length ≤ 16777216 := by simp at hlen ⊢; omega
    have hlen1 : ((pre.filter (orthB w R)).map bv).length + [bv v].length ≤ 16777216 := hlen
    have h5 := q_ladd hlen1
    have h6 := q_ladd hlen0
    have ob_eq : (R.all fun g => !dot w g v) = orthB w R v := rfl
    rw [ob_eq] at ho
    refine ⟨_, mk ns row w R s4 s5 s6 (.val (.lv ((everyB w).map bv))) (.own (((pre ++ [v]).filter (orthB w R)).map bv)) (.val (bv v)) (.own ((R.filter fun g => dot w g v).map fun _ => .int 1)) .none .none .none .none .none .none .none .none .none, rfl, ?_, rfl, _, _, rfl, by rw [e]; simp, rfl⟩
    simp only [l_law_5]
    cases h : orthB w R v with
    | true =>
      have ef : ((pre ++ [v]).filter (orthB w R)).map bv = (pre.filter (orthB w R)).map bv ++ [bv v] := by rw [List.filter_append]; simp [h]
      rw [ef]
      rw [h] at ho
      clear e hlen hlen0 hlen1 h6 ef ob_eq H hv hpl
      walk_at "mp"
    | false =>
      have ef : ((pre ++ [v]).filter (orthB w R)).map bv = (pre.filter (orthB w R)).map bv := by rw [List.filter_append]; simp [h]
      rw [ef]
      rw [h] at ho
      rw [List.append_nil] at h6
      clear e hlen hlen0 hlen1 h5 ef ob_eq H hv hpl
      walk_at "mp") (everyB w) [] (mk ns row w R s4 s5 s6 (.val (.lv ((everyB w).map bv))) (.own []) .none .none .none .none .none .none .none .none .none .none .none) rfl ⟨.none, .none, rfl, Nat.zero_le _, rfl⟩
  refine ⟨.val (.lv ((everyB w).map bv)), s10, s11, p1, ?_⟩
  replace h1 : forL (.one 10) none (exec (callN (tbL l) W (n + 1)) W l_law_5) ((everyB w).map bv) (mk ns row w R s4 s5 s6 (.val (.lv ((everyB w).map bv))) (.own []) .none .none .none .none .none .none .none .none .none .none .none) = .nx (mk ns row w R s4 s5 s6 (.val (.lv ((everyB w).map bv))) (.own ((othersB w R).map bv)) s10 s11 .none .none .none .none .none .none .none .none .none) := h1
  simp only [s_law_7, s_law_8, s_law_9]
  clear H e2 p1
  walk_at "mp"

/-! ### the laws' own counts -/
theorem due_loop {F : CallF} {W : WhileF} {w : Nat} {ns : List Int} {R ws : List BV} {row s5 s6 s8 s9 s10 s11 s13 s14 s15 s16 s17 s18 s20 s21 : Sl} (hl : ∀ v, v ∈ ws → v.length = w) (hp : pl s10 = true) :
    ∃ s10', pl s10' = true ∧ forL (.one 10) (some (4, ws.map bv)) (exec F W l_law_6) (ws.map bv) (mk ns row w R (.own (ws.map bv)) s5 s6 s8 s9 s10 s11 (.own ((cn w []).map .int)) s13 s14 s15 s16 s17 s18 s20 s21) = .nx (mk ns row w R (.own (ws.map bv)) s5 s6 s8 s9 s10' s11 (.own ((cn w ws).map .int)) s13 s14 s15 s16 s17 s18 s20 s21) := by
  obtain ⟨r', h1, s10', h2, rfl⟩ := forL_at (tg := .one 10) (g := some (4, ws.map bv)) (body := exec F W l_law_6) bv (fun pre q => ∃ s10, pl s10 = true ∧ q = mk ns row w R (.own (ws.map bv)) s5 s6 s8 s9 s10 s11 (.own ((cn w pre).map .int)) s13 s14 s15 s16 s17 s18 s20 s21) ws (by
    rintro pre b post q e ⟨s10, _, rfl⟩
    have hb : b.length = w := hl b (by rw [e]; simp)
    have hwt : wt b ≤ w := by rw [← hb]; exact wt_le
    have hg : getI ((cn w pre).map .int) (wt b : Int) = some (.int (pre.countP (fun u => wt u == wt b) : Int)) := by
      rw [getI_nat (by rw [List.length_map, cn_len]; omega), List.getElem?_map, cn_get hwt]; rfl
    have hx : ixN (cn w pre).length (wt b : Int) = some (wt b) := ixN_nat (by rw [cn_len]; omega)
    have hs : ((cn w pre).map Dv.int).set (wt b) (.int ((pre.countP (fun u => wt u == wt b) : Int) + 1)) = (cn w (pre ++ [b])).map .int := by
      rw [← cn_step hwt, ← List.map_set]
    have e3 := sum_ob b
    refine ⟨_, mk ns row w R (.own (ws.map bv)) s5 s6 s8 s9 (.val (bv b)) s11 (.own ((cn w (pre ++ [b])).map .int)) s13 s14 s15 s16 s17 s18 s20 s21, rfl, ?_, beqs_self _, _, rfl, rfl⟩
    clear hb hwt e hl
    simp only [l_law_6]
    walk_at "mp") ws [] (mk ns row w R (.own (ws.map bv)) s5 s6 s8 s9 s10 s11 (.own ((cn w []).map .int)) s13 s14 s15 s16 s17 s18 s20 s21) rfl ⟨s10, hp, rfl⟩
  exact ⟨s10', h2, h1⟩
theorem more_loop {F : CallF} {W : WhileF} {w : Nat} {ns : List Int} {R ws : List BV} {row s4 s5 s6 s8 s10 s11 s12 s14 s15 s16 s17 s18 s20 s21 : Sl} (hl : ∀ v, v ∈ ws → v.length = w) (hp : pl s10 = true) :
    ∃ s10', pl s10' = true ∧ forL (.one 10) (some (9, ws.map bv)) (exec F W l_law_7) (ws.map bv) (mk ns row w R s4 s5 s6 s8 (.own (ws.map bv)) s10 s11 s12 (.own ((cn w []).map .int)) s14 s15 s16 s17 s18 s20 s21) = .nx (mk ns row w R s4 s5 s6 s8 (.own (ws.map bv)) s10' s11 s12 (.own ((cn w ws).map .int)) s14 s15 s16 s17 s18 s20 s21) := by
  obtain ⟨r', h1, s10', h2, rfl⟩ := forL_at (tg := .one 10) (g := some (9, ws.map bv)) (body := exec F W l_law_7) bv (fun pre q => ∃ s10, pl s10 = true ∧ q = mk ns row w R s4 s5 s6 s8 (.own (ws.map bv)) s10 s11 s12 (.own ((cn w pre).map .int)) s14 s15 s16 s17 s18 s20 s21) ws (by
    rintro pre b post q e ⟨s10, _, rfl⟩
    have hb : b.length = w := hl b (by rw [e]; simp)
    have hwt : wt b ≤ w := by rw [← hb]; exact wt_le
    have hg : getI ((cn w pre).map .int) (wt b : Int) = some (.int (pre.countP (fun u => wt u == wt b) : Int)) := by
      rw [getI_nat (by rw [List.length_map, cn_len]; omega), List.getElem?_map, cn_get hwt]; rfl
    have hx : ixN (cn w pre).length (wt b : Int) = some (wt b) := ixN_nat (by rw [cn_len]; omega)
    have hs : ((cn w pre).map Dv.int).set (wt b) (.int ((pre.countP (fun u => wt u == wt b) : Int) + 1)) = (cn w (pre ++ [b])).map .int := by
      rw [← cn_step hwt, ← List.map_set]
    have e3 := sum_ob b
    refine ⟨_, mk ns row w R s4 s5 s6 s8 (.own (ws.map bv)) (.val (bv b)) s11 s12 (.own ((cn w (pre ++ [b])).map .int)) s14 s15 s16 s17 s18 s20 s21, rfl, ?_, beqs_self _, _, rfl, rfl⟩
    clear hb hwt e hl
    simp only [l_law_7]
    walk_at "mp") ws [] (mk ns row w R s4 s5 s6 s8 (.own (ws.map bv)) s10 s11 s12 (.own ((cn w []).map .int)) s14 s15 s16 s17 s18 s20 s21) rfl ⟨s10, hp, rfl⟩
  exact ⟨s10', h2, h1⟩
theorem zeros {w : Nat} (hw : w < 1000) : binV .mul (some (.lv [.int 0])) (some (.int ((w : Int) + 1))) = some (.fr ((cn w []).map .int)) := by
  have e1 : (-1000000 : Int) ≤ (w : Int) + 1 ∧ (w : Int) + 1 ≤ 1000000 ∧ [Dv.int 0].length * ((w : Int) + 1).toNat ≤ 16777216 := by simp; omega
  rw [q_lmul e1]
  congr 2
  rw [rep_one, show ((w : Int) + 1).toNat = w + 1 by omega]
  unfold cn
  apply List.ext_getElem?
  intro i
  rw [List.getElem?_replicate, List.getElem?_map, List.getElem?_map]
  split
  · rename_i h; rw [List.getElem?_range h]; rfl
  · rename_i h; rw [List.getElem?_eq_none (by simp; omega)]; rfl
theorem seg4 {F : CallF} {W : WhileF} {w : Nat} {ns : List Int} {R ws os : List BV} {row s5 s6 s8 s10 s11 : Sl} (hw : w < 1000) (h1 : ∀ v, v ∈ ws → v.length = w) (h2 : ∀ v, v ∈ os → v.length = w) (hp : pl s10 = true) : ∃ s10', pl s10' = true ∧ exec F W s_law_10 (mk ns row w R (.own (ws.map bv)) s5 s6 s8 (.own (os.map bv)) s10 s11 .none .none .none .none .none .none .none .none .none) = exec F W s_law_13 (mk ns row w R (.own (ws.map bv)) s5 s6 s8 (.own (os.map bv)) s10' s11 (.own ((cn w ws).map .int)) (.own ((cn w os).map .int)) .none .none .none .none .none .none .none) := by
  obtain ⟨t10, p1, k1⟩ := due_loop (F := F) (W := W) (w := w) (ns := ns) (R := R) (row := row) (s5 := s5) (s6 := s6) (s8 := s8) (s9 := .own (os.map bv)) (s10 := s10) (s11 := s11) (s13 := .own ((cn w []).map .int)) (s14 := .none) (s15 := .none) (s16 := .none) (s17 := .none) (s18 := .none) (s20 := .none) (s21 := .none) h1 hp
  obtain ⟨u10, p2, k2⟩ := more_loop (F := F) (W := W) (w := w) (ns := ns) (R := R) (row := row) (s4 := .own (ws.map bv)) (s5 := s5) (s6 := s6) (s8 := s8) (s10 := t10) (s11 := s11) (s12 := .own ((cn w ws).map .int)) (s14 := .none) (s15 := .none) (s16 := .none) (s17 := .none) (s18 := .none) (s20 := .none) (s21 := .none) h2 p1
  have hz := zeros hw
  have f1 : ∀ xs r, forK (sets l_law_6) (.one 10) (exec F W l_law_6) ⟨xs, some (4, xs)⟩ r = forL (.one 10) (some (4, xs)) (exec F W l_law_6) xs r := fun xs r => q_forG rfl
  have f2 : ∀ xs r, forK (sets l_law_7) (.one 10) (exec F W l_law_7) ⟨xs, some (9, xs)⟩ r = forL (.one 10) (some (9, xs)) (exec F W l_law_7) xs r := fun xs r => q_forG rfl
  refine ⟨u10, p2, ?_⟩
  simp only [s_law_10, s_law_11, s_law_12]
  clear h1 h2 hw p1 p2 hp
  walk_at "mp"
/-! ### alike, and the other side -/
theorem ntr_ip {k : Nat} {p : List Int} (h : p.length < 1000000) : ntr (k + 1) (ip p) = true := by
  have : ∀ q : List Int, ntrs k (q.map .int) = true := by
    intro q
    induction q with
    | nil => rfl
    | cons x q ih => simp only [List.map_cons, ntrs, ih, Bool.and_true]; cases k <;> rfl
  simp only [ip, ntr, this, List.length_map, decide_eq_true h, Bool.and_true]
theorem alike2 {l : Tbl} {W : WhileF} {n : Nat} {a b c d : List Int} (ha : a.length < 1000000) (hb : b.length < 1000000) (hc : c.length < 1000000) (hd : d.length < 1000000) (h1 : a = c) (h2 : b = d) : callN (tbL l) W (n + 3) 121 [.val (.lv [ip a, ip b]), .val (.lv [ip c, ip d])] = .ok (.d (.bl true)) [] := by
  subst h1 h2
  have h : ntr 2 (.lv [ip a, ip b]) = true := by
    show (decide (2 < 1000000) && (ntr 1 (ip a) && (ntr 1 (ip b) && true))) = true
    rw [ntr_ip ha, ntr_ip hb]; rfl
  rw [i_alike 2 n _ _ (by decide) h h]; simp
theorem seg5 {l : Tbl} {W : WhileF} {n w : Nat} {ns : List Int} {R : List BV} {row s4 s5 s8 s9 s10 s11 : Sl} (H : Rows w R) (hi : indep R = true) : exec (callN (tbL l) W (n + 4)) W s_law_13 (mk ns row w R s4 s5 (.val (ip (cn w (words w R)))) s8 s9 s10 s11 (.own ((cn w (words w R)).map .int)) (.own ((cn w (othersB w R)).map .int)) .none .none .none .none .none .none .none) = exec (callN (tbL l) W (n + 4)) W s_law_14 (mk ns row w R s4 s5 (.val (ip (cn w (words w R)))) s8 s9 s10 s11 (.own ((cn w (words w R)).map .int)) (.own ((cn w (othersB w R)).map .int)) .none .none .none .none .none .none .none) := by
  have how := i_other_weights (l := l) (W := W) (n := n) H hi
  have hcl : ∀ ws, (cn w ws).length < 1000000 := fun ws => by rw [cn_len]; have := H.w2; omega
  have hal := alike2 (l := l) (W := W) (n := n + 1) (a := cn w (words w R)) (b := cn w (words w (turnR w R))) (c := cn w (words w R)) (d := cn w (othersB w R)) (hcl _) (hcl _) (hcl _) (hcl _) rfl (cn_perm (turn_perm H.wd))
  simp only [s_law_13]
  clear H hi hcl
  walk_at "mp"
theorem eq_nil {R : List BV} : cmpV .eq (some (bvs R)) (some (.tup [])) = some (decide (R = [])) := by
  rw [q_eqT ?_ rfl]
  · congr 1
    cases R with
    | nil => rfl
    | cons x R => simp
  · show itrs 49 (R.map bv) = true
    exact itrs_map fun x _ => itr_tup
theorem others_len {w : Nat} {R : List BV} (hR : Wd w R) : (othersB w R).length = 2 ^ (turnR w R).length := by
  rw [← (turn_perm hR).length_eq, words_size]
theorem others_one {w : Nat} {R : List BV} (hR : Wd w R) : decide (turnR w R = []) = decide (((othersB w R).length : Int) = 1) := by
  rw [others_len hR]
  cases h : turnR w R with
  | nil => rfl
  | cons x B =>
    have : 2 ^ (x :: B).length = 2 * 2 ^ B.length := by rw [List.length_cons, Nat.pow_succ]; omega
    have h2 : 0 < 2 ^ B.length := Nat.two_pow_pos _
    rw [decide_eq_false (by simp), decide_eq_false (by omega)]
theorem seg6 {l : Tbl} {W : WhileF} {n w : Nat} {ns : List Int} {R : List BV} {row s4 s5 s6 s8 s10 s11 s12 s13 : Sl} (H : Rows w R) (hi : indep R = true) : exec (callN (tbL l) W (n + 4)) W s_law_14 (mk ns row w R s4 s5 s6 s8 (.own ((othersB w R).map bv)) s10 s11 s12 s13 .none .none .none .none .none .none .none) = exec (callN (tbL l) W (n + 4)) W s_law_16 (mk ns row w R s4 s5 s6 s8 (.own ((othersB w R).map bv)) s10 s11 s12 s13 (.val (bvs (turnR w R))) .none .none .none .none .none .none) := by
  have hos := i_other_side (l := l) (W := W) (n := n) H hi
  have h1 := @eq_nil (turnR w R)
  have h2 := others_one H.wd
  simp only [s_law_14, s_law_15]
  clear H hi
  by_cases h : ((othersB w R).length : Int) = 1
  · rw [decide_eq_true h] at h2
    rw [h2] at h1
    clear h2
    walk_at "mp"
  · rw [decide_eq_false h] at h2
    rw [h2] at h1
    clear h2
    walk_at "mp"
/-! ### the other side's rows -/
theorem sort_up {ws : List BV} : sortD true (ws.map bv) = (srtUp ws).map bv :=
  sortD_map (f := bv) (up := true) (lt := ltB) (P := fun _ => True) (fun a b _ _ => lexD_int _ _) ws fun _ _ => trivial
theorem insG_end {α : Type} {lt : α → α → Bool} {x : α} : ∀ {ys : List α}, (∀ y, y ∈ ys → lt x y = false) → insG lt x ys = ys ++ [x]
  | [], _ => rfl
  | y :: ys, h => by
    simp only [insG]
    rw [h y List.mem_cons_self]
    simp only [Bool.false_eq_true, if_false, List.cons_append]
    rw [insG_end fun z hz => h z (List.mem_cons_of_mem _ hz)]
theorem sortG_id {α : Type} {lt : α → α → Bool} {xs : List α} (h : xs.Pairwise fun a b => lt b a = false) : sortG lt xs = xs := by
  induction xs using snoc_ind with
  | h0 => rfl
  | h1 xs x ih =>
    obtain ⟨h1, _, h3⟩ := List.pairwise_append.mp h
    rw [sortG_snoc, ih h1, insG_end fun y hy => h3 y hy x (by simp)]
theorem sort_ints {p : List Int} (h : p.Pairwise fun a b => a < b) : sortD true (p.map .int) = p.map .int := by
  rw [sortD_map (f := Dv.int) (up := true) (lt := fun a b => decide (a < b)) (P := fun _ => True) (fun a b _ _ => rfl) p fun _ _ => trivial, sortG_id]
  exact List.Pairwise.imp (fun h => by simp; omega) h
theorem itr_bv {k : Nat} {ws : List BV} : itr (k + 2) (.lv (ws.map bv)) = true := by
  show itrs (k + 1) (ws.map bv) = true
  exact itrs_map fun x _ => itr_tup
theorem ne_self {d : Dv} (h : itr 50 d = true) : cmpV .ne (some d) (some d) = some false := by rw [q_neT h h]; simp
theorem seg7_leads {F : CallF} {w : Nat} {ns : List Int} {R B : List BV} {row s4 s5 s6 s8 s9 s10 s11 s12 s13 s16 s17 s18 : Sl} (hB : Red w B) (hw : w < 1000) (hl : B.length < 1000) (hp : pl s10 = true) :
    compF (ev F e_law_11) (.one 10) (evi F (.seq (.var 14))) none [10] (mk ns row w R s4 s5 s6 s8 s9 s10 s11 s12 s13 (.val (bvs B)) .none s16 s17 s18 .none .none) = .ok (.fr ((B.map fun f => (fi f : Int)).map .int)) (mk ns row w R s4 s5 s6 s8 s9 s10 s11 s12 s13 (.val (bvs B)) .none s16 s17 s18 .none .none) := by
  rw [List.map_map]
  refine comp_all (own := [10]) (g := none) bv (fun f => Dv.int (fi f : Int)) B ?_ (by unfold line; omega) rfl (by decide) ?_ ?_
  · clear hB hw hl hp
    walk_at "mp"
  · cases s10 <;> first | rfl | cases hp
  · intro f hf
    refine ⟨_, rfl, rfl, ?_⟩
    have hi := idx_bv (hB.nz f hf) (by rw [hB.wd f hf]; omega)
    simp only [e_law_11]
    clear hB hw hl hf hp
    walk_at "mp"
theorem seg7_sum {F : CallF} {w a : Nat} {ns : List Int} {R B : List BV} {row s4 s5 s6 s8 s9 s10 s11 s12 s13 s15 s16 s17 s18 : Sl} (hB : Wd w B) (ha : a < w) (hl : B.length < 1000) (hp : pl s10 = true) :
    compF (ev F e_law_8) (.one 10) (evi F (.seq (.var 14))) none [10] (mk ns row w R s4 s5 s6 s8 s9 s10 s11 s12 s13 (.val (bvs B)) s15 s16 s17 s18 .none (.val (.int a))) = .ok (.fr ((B.map fun g => ob (bit g a)).map .int)) (mk ns row w R s4 s5 s6 s8 s9 s10 s11 s12 s13 (.val (bvs B)) s15 s16 s17 s18 .none (.val (.int a))) := by
  rw [List.map_map]
  refine comp_all (own := [10]) (g := none) bv (fun g => Dv.int (ob (bit g a))) B ?_ (by unfold line; omega) rfl (by decide) ?_ ?_
  · clear hB ha hl hp
    walk_at "mp"
  · cases s10 <;> first | rfl | cases hp
  · intro g hg
    refine ⟨_, rfl, rfl, ?_⟩
    have g1 := get_bv (v := g) (i := a) (by rw [hB g hg]; exact ha)
    simp only [e_law_8]
    clear hB ha hl hg hp
    walk_at "mp"
theorem seg7_at {F : CallF} {w : Nat} {ns : List Int} {R B : List BV} {row s4 s5 s6 s8 s9 s10 s11 s12 s13 s16 s17 s18 : Sl} (hB : Red w B) (hl : B.length < 1000) (hp : pl s10 = true) :
    compF (ev F e_law_10) (.one 21) (evi F (.seq (.var 15))) (some fun r => asB (ev F c_law_9 r)) [21] (mk ns row w R s4 s5 s6 s8 s9 s10 s11 s12 s13 (.val (bvs B)) (.own ((B.map fun f => (fi f : Int)).map .int)) s16 s17 s18 .none .none) = .ok (.fr []) (mk ns row w R s4 s5 s6 s8 s9 s10 s11 s12 s13 (.val (bvs B)) (.own ((B.map fun f => (fi f : Int)).map .int)) s16 s17 s18 .none .none) := by
  have hm : (B.map fun f => (fi f : Int)).map Dv.int = B.map fun f => Dv.int (fi f : Int) := by rw [List.map_map]; rfl
  rw [hm]
  have := comp_map (fe := ev F e_law_10) (tg := .one 21) (fi := evi F (.seq (.var 15))) (c := some fun r => asB (ev F c_law_9 r)) (own := [21]) (r := mk ns row w R s4 s5 s6 s8 s9 s10 s11 s12 s13 (.val (bvs B)) (.own (B.map fun f => Dv.int (fi f : Int))) s16 s17 s18 .none .none) (g := some (15, B.map fun f => Dv.int (fi f : Int))) (fun f : BV => Dv.int (fi f : Int)) (fun _ => false) (fun f => Dv.int (fi f : Int)) B (by
    clear hB hl hm hp
    walk_at "mp") (by unfold line; omega) (beqs_self _) (by decide) rfl (by
    intro f hf
    refine ⟨_, rfl, ?_, rfl, fun h => by cases h⟩
    have h1 := seg7_sum (F := F) (ns := ns) (R := R) (row := row) (s4 := s4) (s5 := s5) (s6 := s6) (s8 := s8) (s9 := s9) (s10 := s10) (s11 := s11) (s12 := s12) (s13 := s13) (s15 := .own (B.map fun f => Dv.int (fi f : Int))) (s16 := s16) (s17 := s17) (s18 := s18) hB.wd (fi_lt hB hf) hl hp
    have h2 := lead_sum hB f hf
    simp only [c_law_9]
    clear hB hl hf hm hp
    walk_at "mp")
  rw [List.filter_eq_nil_iff.mpr (fun _ _ h => by cases h)] at this
  exact this
theorem seg7 {l : Tbl} {W : WhileF} {n w : Nat} {ns : List Int} {R : List BV} {row s4 s5 s6 s8 s10 s11 s12 s13 : Sl} (H : Rows w R) (hp : pl s10 = true) : ∃ s15, exec (callN (tbL l) W (n + 4)) W s_law_16 (mk ns row w R s4 s5 s6 s8 (.own ((othersB w R).map bv)) s10 s11 s12 s13 (.val (bvs (turnR w R))) .none .none .none .none .none .none) = exec (callN (tbL l) W (n + 4)) W s_law_17 (mk ns row w R s4 s5 s6 s8 (.own ((othersB w R).map bv)) s10 s11 s12 s13 (.val (bvs (turnR w R))) s15 .none .none .none .none .none) := by
  have hB := turn_wd H.wd
  have hl := @turn_len w R
  have h3 := @bvs_ne (turnR w R)
  have hw : w < 1000 := by have := H.w2; omega
  by_cases hb : turnR w R = []
  · rw [decide_eq_true hb] at h3
    refine ⟨.none, ?_⟩
    simp only [s_law_16]
    clear H hp hB hl hw hb
    walk_at "mp"
  · rw [decide_eq_false hb] at h3
    refine ⟨.own (((turnR w R).map fun f => (fi f : Int)).map .int), ?_⟩
    have hwd := i_lwords (l := l) (W := W) (n := n + 3) hB.wd hb hw (by have := H.w2; omega)
    have hso : ∀ r, biT r (.sortedL true) [.fr ((words w (turnR w R)).map bv)] = some (.fr ((othersB w R).map bv)) := fun r => by
      rw [q_sortT (xs := (words w (turnR w R)).map bv) rfl (flat_words H.w1 (words_len hB.wd)), sort_up, srtUp_others H.wd]
    have hn1 := ne_self (d := .lv ((othersB w R).map bv)) itr_bv
    have hlen : ((words w (turnR w R)).length : Int) = ((othersB w R).length : Int) := by rw [(turn_perm H.wd).length_eq]
    have hld := seg7_leads (F := callN (tbL l) W (n + 4)) (ns := ns) (R := R) (row := row) (s4 := s4) (s5 := s5) (s6 := s6) (s8 := s8) (s9 := .own ((othersB w R).map bv)) (s10 := s10) (s11 := s11) (s12 := s12) (s13 := s13) (s16 := .none) (s17 := .none) (s18 := .none) hB hw (by omega) hp
    have hat := seg7_at (F := callN (tbL l) W (n + 4)) (ns := ns) (R := R) (row := row) (s4 := s4) (s5 := s5) (s6 := s6) (s8 := s8) (s9 := .own ((othersB w R).map bv)) (s10 := s10) (s11 := s11) (s12 := s12) (s13 := s13) (s16 := .none) (s17 := .none) (s18 := .none) hB (by omega) hp
    have hlr : ((turnR w R).map fun f => (fi f : Int)).Pairwise fun a b => a < b := by
      refine List.Pairwise.map _ (fun a b h => ?_) (leads_rise (back_okB (red_srt H.wd)).1)
      exact Int.ofNat_lt.mpr h
    have hsi : ∀ s15, biT (mk ns row w R s4 s5 s6 s8 (.own ((othersB w R).map bv)) s10 s11 s12 s13 (.val (bvs (turnR w R))) (.own (((turnR w R).map fun f => (fi f : Int)).map .int)) .none .none .none s15 .none) (.sortedL true) [.rf 15] = some (.fr (((turnR w R).map fun f => (fi f : Int)).map .int)) := fun s15 => by
      rw [q_sortI (p := (turnR w R).map fun f => (fi f : Int)) rfl, sort_ints hlr]
    have hn2 := ne_self (d := .lv (((turnR w R).map fun f => (fi f : Int)).map .int)) itr_lv
    have hn3 : cmpV .ne (some (.lv [])) (some (.lv [])) = some false := by rw [q_neT rfl rfl]; rfl
    simp only [s_law_16]
    clear H hp hB hl hw hb hlr
    walk_at "mp"

/-! ### the words' polynomials -/
theorem part_ok : ∀ k, k < 8 → ∀ v, v ∈ everyB k → okL (partP v) = true := by decide +kernel
theorem part_step {v : BV} {b : Bool} : partP (v ++ [b]) = ptP (partP v) (if b then [0, 1] else [1, -1]) := by unfold partP; rw [List.foldl_append]; rfl
theorem part_loop {l : Tbl} {W : WhileF} {n : Nat} {v : BV} (hv : v.length < 8) {s0 s1 s2 s3 s4 s5 s6 s8 s9 s10 s11 s12 s13 s14 s15 s16 s18 s20 s21 : Sl} :
    ∃ s18', forL (.one 18) none (exec (callN (tbL l) W (n + 2)) W l_law_12) ((v.map ob).map .int) [s0, s1, s2, s3, s4, s5, s6, .none, s8, s9, s10, s11, s12, s13, s14, s15, s16, .val (ip [1]), s18, .none, s20, s21] = .nx [s0, s1, s2, s3, s4, s5, s6, .none, s8, s9, s10, s11, s12, s13, s14, s15, s16, .val (ip (partP v)), s18', .none, s20, s21] := by
  have hm : (v.map ob).map Dv.int = v.map fun b => Dv.int (ob b) := by rw [List.map_map]; rfl
  rw [hm]
  obtain ⟨r', h1, s18', rfl⟩ := forL_at (tg := .one 18) (g := none) (body := exec (callN (tbL l) W (n + 2)) W l_law_12) (fun b => Dv.int (ob b)) (fun pre q => ∃ s18, q = [s0, s1, s2, s3, s4, s5, s6, .none, s8, s9, s10, s11, s12, s13, s14, s15, s16, .val (ip (partP pre)), s18, .none, s20, s21]) v (by
    rintro pre b post q e ⟨s18, rfl⟩
    have hpl : pre.length < 8 := by have := congrArg List.length e; simp at this; omega
    obtain ⟨c1, c2⟩ := okL_ok (part_ok pre.length hpl pre (mem_everyB.mpr rfl))
    refine ⟨_, [s0, s1, s2, s3, s4, s5, s6, .none, s8, s9, s10, s11, s12, s13, s14, s15, s16, .val (ip (partP (pre ++ [b]))), .val (.int (ob b)), .none, s20, s21], rfl, ?_, rfl, _, rfl⟩
    rw [part_step]
    cases b with
    | true =>
      have p1 := i_ptimes (l := l) (W := W) (n := n) (k := 20) (m := 20) (a := partP pre) (b := [0, 1]) (by omega) (by decide) (by decide) c2 (by decide)
      simp only [l_law_12, if_true, ob, ip, List.map_cons, List.map_nil] at p1 ⊢
      clear c1 c2 hpl e hv
      walk_at "mp"
    | false =>
      have p1 := i_ptimes (l := l) (W := W) (n := n) (k := 20) (m := 20) (a := partP pre) (b := [1, -1]) (by omega) (by decide) (by decide) c2 (by decide)
      simp only [l_law_12, Bool.false_eq_true, if_false, ob, ip, List.map_cons, List.map_nil] at p1 ⊢
      clear c1 c2 hpl e hv
      walk_at "mp") v [] [s0, s1, s2, s3, s4, s5, s6, .none, s8, s9, s10, s11, s12, s13, s14, s15, s16, .val (ip [1]), s18, .none, s20, s21] rfl ⟨s18, rfl⟩
  exact ⟨s18', h1⟩
theorem found_loop {l : Tbl} {W : WhileF} {n w : Nat} {ns : List Int} {R ws : List BV} {row s4 s5 s6 s8 s9 s10 s11 s12 s13 s14 s15 : Sl} (hw : w < 8) (hl : ∀ v, v ∈ ws → v.length = w) :
    ∃ s10' s17 s18, forL (.one 10) none (exec (callN (tbL l) W (n + 2)) W l_law_13) (ws.map bv) (mk ns row w R s4 s5 s6 s8 s9 s10 s11 s12 s13 s14 s15 (.val (ip [])) .none .none .none .none) = .nx (mk ns row w R s4 s5 s6 s8 s9 s10' s11 s12 s13 s14 s15 (.val (ip (foundP ws))) s17 s18 .none .none) := by
  obtain ⟨r', h1, s10', s17, s18, rfl, _⟩ := forL_at (tg := .one 10) (g := none) (body := exec (callN (tbL l) W (n + 2)) W l_law_13) bv (fun pre q => ∃ s10 s17 s18, q = mk ns row w R s4 s5 s6 s8 s9 s10 s11 s12 s13 s14 s15 (.val (ip (foundP pre))) s17 s18 .none .none ∧ (foundP pre).length < 1000) ws (by
    rintro pre v post q e ⟨s10, s17, s18, rfl, hlen⟩
    have hv : v.length = w := hl v (by rw [e]; simp)
    obtain ⟨c1, c2⟩ := okL_ok (part_ok v.length (by omega) v (mem_everyB.mpr rfl))
    obtain ⟨s18', h2⟩ := part_loop (l := l) (W := W) (n := n) (v := v) (by omega) (s0 := .val (.scr ns)) (s1 := row) (s2 := .val (.int w)) (s3 := .val (bvs R)) (s4 := s4) (s5 := s5) (s6 := s6) (s8 := s8) (s9 := s9) (s10 := .val (bv v)) (s11 := s11) (s12 := s12) (s13 := s13) (s14 := s14) (s15 := s15) (s16 := .val (ip (foundP pre))) (s18 := s18) (s20 := .none) (s21 := .none)
    have p1 := i_pplus (l := l) (W := W) (n := n + 1) (a := foundP pre) (b := partP v) (m := 1) (by omega) (by omega) (fun y hy => okMul_k (by decide) (c2 y hy))
    have ef : foundP (pre ++ [v]) = plusP (foundP pre) (partP v) 1 := by unfold foundP; rw [List.foldl_append]; rfl
    refine ⟨_, mk ns row w R s4 s5 s6 s8 s9 (.val (bv v)) s11 s12 s13 s14 s15 (.val (ip (foundP (pre ++ [v])))) (.val (ip (partP v))) s18' .none .none, rfl, ?_, rfl, _, _, _, rfl, ?_⟩
    · rw [ef]
      have e1 : ip [1] = .tup [.int 1] := rfl
      rw [e1] at h2
      simp only [l_law_13]
      clear c1 c2 hv e hl hlen ef hw e1
      walk_at "mp"
    · rw [ef]
      have := plusP_len (foundP pre) (partP v) 1
      omega) ws [] (mk ns row w R s4 s5 s6 s8 s9 s10 s11 s12 s13 s14 s15 (.val (ip [])) .none .none .none .none) rfl ⟨s10, .none, .none, rfl, by show 0 < 1000; decide⟩
  exact ⟨s10', s17, s18, h1⟩
theorem found_len {ws : List BV} {w : Nat} (hw : w < 8) (hl : ∀ v, v ∈ ws → v.length = w) : (foundP ws).length < 1000 := by
  unfold foundP
  induction ws using snoc_ind with
  | h0 => decide
  | h1 ws v ih =>
    rw [List.foldl_append]
    have h1 := ih fun u hu => hl u (List.mem_append_left _ hu)
    obtain ⟨c1, c2⟩ := okL_ok (part_ok v.length (by rw [hl v (by simp)]; exact hw) v (mem_everyB.mpr rfl))
    have h2 := plusP_len (ws.foldl (fun acc v => plusP acc (partP v) 1) []) (partP v) 1
    show (plusP _ _ _).length < 1000
    omega
theorem seg8 {l : Tbl} {W : WhileF} (hW : WBig W) {n w : Nat} {ns : List Int} {R : List BV} {row s5 s6 s8 s9 s10 s11 s12 s13 s14 s15 : Sl} (H : Rows w R) (hi : indep R = true) : ∃ r, exec (callN (tbL l) W (n + 5)) W s_law_17 (mk ns row w R (.own ((words w R).map bv)) s5 s6 s8 s9 s10 s11 s12 s13 s14 s15 .none .none .none .none .none) = .ret (.d (.bl true)) r := by
  have hn := (indep_iff H.wd).mp hi
  have hwl := words_len H.wd
  have hw : w < 8 := by have := H.w2; omega
  have ht : ∀ v, v ∈ (words w R).tail → v.length = w := fun v hv => hwl v (List.mem_of_mem_tail hv)
  obtain ⟨s10', s17, s18, h1⟩ := found_loop (l := l) (W := W) (n := n + 3) (w := w) (ns := ns) (R := R) (ws := (words w R).tail) (row := row) (s4 := .own ((words w R).map bv)) (s5 := s5) (s6 := s6) (s8 := s8) (s9 := s9) (s10 := s10) (s11 := s11) (s12 := s12) (s13 := s13) (s14 := s14) (s15 := s15) hw ht
  have hu := i_unseen (l := l) hW (n := n) H hi
  have ho := i_other (l := l) hW (n := n + 1) H hi
  rw [u_found H.wd hn] at hu
  rw [o_found H.wd hn] at ho
  have hfl := found_len hw ht
  have hal := alike2 (l := l) (W := W) (n := n + 2) (a := foundP (words w R).tail) (b := foundP (words w R).tail) (c := foundP (words w R).tail) (d := foundP (words w R).tail) (by omega) (by omega) (by omega) (by omega) rfl rfl
  have hcut : cut ((words w R).map bv) (some 1) none = (words w R).tail.map bv := by
    obtain ⟨t, e⟩ := words_head (w := w) R
    rw [e]
    unfold cut clip
    simp
    rw [show t.length = (t.map bv).length by simp, List.take_length]
  have e1 : ip [] = .tup [] := rfl
  rw [e1] at h1
  refine ⟨mk ns row w R (.own ((words w R).map bv)) s5 s6 s8 s9 s10' s11 s12 s13 s14 s15 (.val (ip (foundP (words w R).tail))) s17 s18 .none .none, ?_⟩
  simp only [s_law_17, s_law_18, s_law_19]
  clear H hi hn hwl hw ht hfl hW e1
  walk_at "mp"
/-- the law -/
theorem pure {l : Tbl} {W : WhileF} (hl : l 150 = some f_law) (hW : WBig W) (n : Nat) (ns : List Int) : callN (tbL l) W (n + 6) 150 [.val (.scr ns)] = .ok (.d (.bl true)) [] := by
  have ht : tbL l 150 = some f_law := by show (if 150 ≤ 150 then l 150 else _) = _; rw [if_pos (Nat.le_refl _)]; exact hl
  rw [callN_eq ht rfl rfl]
  obtain ⟨w, R, row, H, h1⟩ := seg1 (l := l) (W := W) (n := n + 4) (ns := ns)
  have h2 := seg2 (l := l) (W := W) (n := n + 1) (ns := ns) (row := row) H
  have hst : [Sl.val (Dv.scr ns)] ++ List.replicate (f_law.slots - f_law.args) Sl.none = st0 ns .none .none .none .none .none := rfl
  rw [hst]
  show finish [] (exec _ W s_law_0 _) = _
  rw [h1]
  cases hi : indep R with
  | false =>
    obtain ⟨r, h3⟩ := h2.1 hi
    rw [h3]; rfl
  | true =>
    rw [h2.2 hi]
    obtain ⟨s8, s10, s11, p1, h3⟩ := seg3 (l := l) (W := W) (n := n + 4) (ns := ns) (row := row) (s4 := .own ((words w R).map bv)) (s5 := .val (.str "")) (s6 := .val (ip (cn w (words w R)))) H
    rw [h3]
    obtain ⟨t10, p2, h4⟩ := seg4 (F := callN (tbL l) W (n + 5)) (W := W) (w := w) (ns := ns) (R := R) (ws := words w R) (os := othersB w R) (row := row) (s5 := .val (.str "")) (s6 := .val (ip (cn w (words w R)))) (s8 := s8) (s10 := s10) (s11 := s11) (by have := H.w2; omega) (words_len H.wd) (fun v hv => (mem_others.mp hv).1) p1
    rw [h4]
    have h5 := seg5 (l := l) (W := W) (n := n + 1) (ns := ns) (row := row) (s4 := .own ((words w R).map bv)) (s5 := .val (.str "")) (s8 := s8) (s9 := .own ((othersB w R).map bv)) (s10 := t10) (s11 := s11) H hi
    rw [h5]
    have h6 := seg6 (l := l) (W := W) (n := n + 1) (ns := ns) (row := row) (s4 := .own ((words w R).map bv)) (s5 := .val (.str "")) (s6 := .val (ip (cn w (words w R)))) (s8 := s8) (s10 := t10) (s11 := s11) (s12 := .own ((cn w (words w R)).map .int)) (s13 := .own ((cn w (othersB w R)).map .int)) H hi
    rw [h6]
    obtain ⟨s15, h7⟩ := seg7 (l := l) (W := W) (n := n + 1) (ns := ns) (row := row) (s4 := .own ((words w R).map bv)) (s5 := .val (.str "")) (s6 := .val (ip (cn w (words w R)))) (s8 := s8) (s10 := t10) (s11 := s11) (s12 := .own ((cn w (words w R)).map .int)) (s13 := .own ((cn w (othersB w R)).map .int)) H p2
    rw [h7]
    obtain ⟨r, h8⟩ := seg8 (l := l) hW (n := n) (ns := ns) (row := row) (s5 := .val (.str "")) (s6 := .val (ip (cn w (words w R)))) (s8 := s8) (s9 := .own ((othersB w R).map bv)) (s10 := t10) (s11 := s11) (s12 := .own ((cn w (words w R)).map .int)) (s13 := .own ((cn w (othersB w R)).map .int)) (s14 := .val (bvs (turnR w R))) (s15 := s15) H hi
    rw [h8]; rfl
end K06
set_option linter.all false
set_option Elab.async false
set_option maxRecDepth 100000
set_option maxHeartbeats 4000000
/-! LE06: the law's table, the head's run, the end (printed by gen.py). -/
namespace K06
open PySem PySem.Spec PyProof.Rows L2 PySem.SeqAt MP
def top (i : Nat) : Stmt := PySem.Challenge.pw_everynoise_k06_whole_unseen.main.body.getD i (.Pass ⟨0, 0, 0, 0⟩)
def d_is_int : Fdef := ⟨0, "is_int", ["value"], ["value"], [], [], b_is_int, defArgs (top 4), defBody (top 4), defScope (top 4)⟩
def d_cut : Fdef := ⟨4, "cut", ["numbers"], ["numbers", "found"], [], [], b_cut, defArgs (top 5), defBody (top 5), defScope (top 5)⟩
def d_plus : Fdef := ⟨5, "plus", ["one", "other", "many"], ["one", "other", "many", "found", "at", "number"], [1], [], b_plus, defArgs (top 6), defBody (top 6), defScope (top 6)⟩
def d_times : Fdef := ⟨6, "times", ["one", "other"], ["one", "other", "found", "at", "number", "spot", "more"], [], [], b_times, defArgs (top 7), defBody (top 7), defScope (top 7)⟩
def d_power : Fdef := ⟨7, "power", ["one", "many"], ["one", "many", "found", "turn"], [], [], b_power, defArgs (top 8), defBody (top 8), defScope (top 8)⟩
def d_need_sums : Fdef := ⟨90, "need_sums", ["value"], ["value", "row", "one"], [], [], b_need_sums, defArgs (top 12), defBody (top 12), defScope (top 12)⟩
def d_added : Fdef := ⟨91, "added", ["one", "other"], ["one", "other", "a", "b"], [], [], b_added, defArgs (top 13), defBody (top 13), defScope (top 13)⟩
def d_stepped : Fdef := ⟨92, "stepped", ["rows"], ["rows", "found", "row", "lead", "at"], [], [], b_stepped, defArgs (top 14), defBody (top 14), defScope (top 14)⟩
def d_words_of : Fdef := ⟨93, "words_of", ["rows"], ["rows", "found", "row", "word"], [], [], b_words_of, defArgs (top 15), defBody (top 15), defScope (top 15)⟩
def d_counted : Fdef := ⟨94, "counted", ["words", "many"], ["words", "many", "found", "word"], [], [], b_counted, defArgs (top 16), defBody (top 16), defScope (top 16)⟩
def d_weights : Fdef := ⟨95, "weights", ["rows"], ["rows"], [], [], b_weights, defArgs (top 17), defBody (top 17), defScope (top 17)⟩
def d_turned : Fdef := ⟨96, "turned", ["rows"], ["rows", "told", "wide", "leads", "found", "at", "row", "lead", "one", "spot"], [], [], b_turned, defArgs (top 18), defBody (top 18), defScope (top 18)⟩
def d_other_side : Fdef := ⟨97, "other_side", ["rows"], ["rows"], [], [], b_other_side, defArgs (top 19), defBody (top 19), defScope (top 19)⟩
def d_other_weights : Fdef := ⟨98, "other_weights", ["rows"], ["rows", "told", "wide"], [], [], b_other_weights, defArgs (top 20), defBody (top 20), defScope (top 20)⟩
def d_unseen_of : Fdef := ⟨99, "unseen_of", ["rows"], ["rows", "wide", "found", "many", "count", "part"], [], [], b_unseen_of, defArgs (top 21), defBody (top 21), defScope (top 21)⟩
def d_unseen : Fdef := ⟨100, "unseen", ["rows"], ["rows"], [], [], b_unseen, defArgs (top 22), defBody (top 22), defScope (top 22)⟩
def d_unseen_by_other_side : Fdef := ⟨101, "unseen_by_other_side", ["rows"], ["rows", "wide", "found", "told", "many", "count", "whole", "number"], [], [], b_unseen_by_other_side, defArgs (top 23), defBody (top 23), defScope (top 23)⟩
def d__law_taken : Fdef := ⟨120, "_law_taken", ["_law_row", "_law_many"], ["_law_row", "_law_many", "_law_found", "_law_cell"], [], [0], b__law_taken, defArgs (top 25), defBody (top 25), defScope (top 25)⟩
def d__law_alike : Fdef := ⟨121, "_law_alike", ["_law_found", "_law_due"], ["_law_found", "_law_due", "_law_k"], [], [], b__law_alike, defArgs (top 26), defBody (top 26), defScope (top 26)⟩
def d__law_p_plus : Fdef := ⟨129, "_law_p_plus", ["_law_one", "_law_other", "_law_many"], ["_law_one", "_law_other", "_law_many", "_law_found", "_law_at", "_law_turn"], [], [], b__law_p_plus, defArgs (top 27), defBody (top 27), defScope (top 27)⟩
def d__law_p_times : Fdef := ⟨130, "_law_p_times", ["_law_one", "_law_other"], ["_law_one", "_law_other", "_law_found", "_law_at"], [], [], b__law_p_times, defArgs (top 28), defBody (top 28), defScope (top 28)⟩
def d__law_rows : Fdef := ⟨135, "_law_rows", ["_law_wide", "_law_many"], ["_law_wide", "_law_many", "_law_found", "_law_turn", "_law_longer", "_law_one", "_law_letter"], [], [], b__law_rows, defArgs (top 29), defBody (top 29), defScope (top 29)⟩
def d__law_words : Fdef := ⟨143, "_law_words", ["_law_rows_here"], ["_law_rows_here", "_law_found", "_law_one", "_law_word", "_law_at"], [], [], b__law_words, defArgs (top 30), defBody (top 30), defScope (top 30)⟩
def d_law : Fdef := ⟨150, "law", ["_law_script"], ["_law_script", "_law_row", "_law_wide", "_law_rows_here", "_law_words_here", "_law_word", "_law_told", "e", "_law_every", "_law_others", "_law_one", "_law_odd", "_law_due", "_law_more", "_law_back", "_law_leads", "_law_found", "_law_part", "_law_sign", "_law_turn", "_law_some", "_law_at"], [], [], b_law, defArgs (top 31), defBody (top 31), defScope (top 31)⟩
def own (i : Nat) : Option Df := if i = 150 then some f_law else none
def txt : Txt := ⟨[d_is_int, d_cut, d_plus, d_times, d_power, d_need_sums, d_added, d_stepped, d_words_of, d_counted, d_weights, d_turned, d_other_side, d_other_weights, d_unseen_of, d_unseen, d_unseen_by_other_side, d__law_taken, d__law_alike, d__law_p_plus, d__law_p_times, d__law_rows, d__law_words, d_law], [("MOST_WIDE", (.int (10))), ("MOST_HIGH", (.int (5)))], [("NoiseError", 0), ("BadCode", 2)], tbL own⟩
theorem sc_is_int : FnScope d_is_int.N d_is_int.ps d_is_int.scope := ⟨rfl, rfl, rfl, by decide +kernel, rfl, by decide +kernel, by decide +kernel⟩
theorem bd_is_int : BindP d_is_int := by
  intro kV doc pm an cdv ct us hl; exact match us, hl with | [_], _ => rfl
theorem sc_cut : FnScope d_cut.N d_cut.ps d_cut.scope := ⟨rfl, rfl, rfl, by decide +kernel, rfl, by decide +kernel, by decide +kernel⟩
theorem bd_cut : BindP d_cut := by
  intro kV doc pm an cdv ct us hl; exact match us, hl with | [_], _ => rfl
theorem sc_plus : FnScope d_plus.N d_plus.ps d_plus.scope := ⟨rfl, rfl, rfl, by decide +kernel, rfl, by decide +kernel, by decide +kernel⟩
theorem bd_plus : BindP d_plus := by
  intro j hj T kV doc pm an cdv ct us its h1 h2
  match j, hj with
  | 0, _ => exact match us, its, h1, h2 with | [_, _], [_], _, _ => ⟨_, rfl, rfl⟩
  | 1, _ => exact match us, its, h1, h2 with | [_, _, _], [_], _, _ => ⟨_, rfl, rfl⟩
theorem sc_times : FnScope d_times.N d_times.ps d_times.scope := ⟨rfl, rfl, rfl, by decide +kernel, rfl, by decide +kernel, by decide +kernel⟩
theorem bd_times : BindP d_times := by
  intro kV doc pm an cdv ct us hl; exact match us, hl with | [_, _], _ => rfl
theorem sc_power : FnScope d_power.N d_power.ps d_power.scope := ⟨rfl, rfl, rfl, by decide +kernel, rfl, by decide +kernel, by decide +kernel⟩
theorem bd_power : BindP d_power := by
  intro kV doc pm an cdv ct us hl; exact match us, hl with | [_, _], _ => rfl
theorem sc_need_sums : FnScope d_need_sums.N d_need_sums.ps d_need_sums.scope := ⟨rfl, rfl, rfl, by decide +kernel, rfl, by decide +kernel, by decide +kernel⟩
theorem bd_need_sums : BindP d_need_sums := by
  intro kV doc pm an cdv ct us hl; exact match us, hl with | [_], _ => rfl
theorem sc_added : FnScope d_added.N d_added.ps d_added.scope := ⟨rfl, rfl, rfl, by decide +kernel, rfl, by decide +kernel, by decide +kernel⟩
theorem bd_added : BindP d_added := by
  intro kV doc pm an cdv ct us hl; exact match us, hl with | [_, _], _ => rfl
theorem sc_stepped : FnScope d_stepped.N d_stepped.ps d_stepped.scope := ⟨rfl, rfl, rfl, by decide +kernel, rfl, by decide +kernel, by decide +kernel⟩
theorem bd_stepped : BindP d_stepped := by
  intro kV doc pm an cdv ct us hl; exact match us, hl with | [_], _ => rfl
theorem sc_words_of : FnScope d_words_of.N d_words_of.ps d_words_of.scope := ⟨rfl, rfl, rfl, by decide +kernel, rfl, by decide +kernel, by decide +kernel⟩
theorem bd_words_of : BindP d_words_of := by
  intro kV doc pm an cdv ct us hl; exact match us, hl with | [_], _ => rfl
theorem sc_counted : FnScope d_counted.N d_counted.ps d_counted.scope := ⟨rfl, rfl, rfl, by decide +kernel, rfl, by decide +kernel, by decide +kernel⟩
theorem bd_counted : BindP d_counted := by
  intro kV doc pm an cdv ct us hl; exact match us, hl with | [_, _], _ => rfl
theorem sc_weights : FnScope d_weights.N d_weights.ps d_weights.scope := ⟨rfl, rfl, rfl, by decide +kernel, rfl, by decide +kernel, by decide +kernel⟩
theorem bd_weights : BindP d_weights := by
  intro kV doc pm an cdv ct us hl; exact match us, hl with | [_], _ => rfl
theorem sc_turned : FnScope d_turned.N d_turned.ps d_turned.scope := ⟨rfl, rfl, rfl, by decide +kernel, rfl, by decide +kernel, by decide +kernel⟩
theorem bd_turned : BindP d_turned := by
  intro kV doc pm an cdv ct us hl; exact match us, hl with | [_], _ => rfl
theorem sc_other_side : FnScope d_other_side.N d_other_side.ps d_other_side.scope := ⟨rfl, rfl, rfl, by decide +kernel, rfl, by decide +kernel, by decide +kernel⟩
theorem bd_other_side : BindP d_other_side := by
  intro kV doc pm an cdv ct us hl; exact match us, hl with | [_], _ => rfl
theorem sc_other_weights : FnScope d_other_weights.N d_other_weights.ps d_other_weights.scope := ⟨rfl, rfl, rfl, by decide +kernel, rfl, by decide +kernel, by decide +kernel⟩
theorem bd_other_weights : BindP d_other_weights := by
  intro kV doc pm an cdv ct us hl; exact match us, hl with | [_], _ => rfl
theorem sc_unseen_of : FnScope d_unseen_of.N d_unseen_of.ps d_unseen_of.scope := ⟨rfl, rfl, rfl, by decide +kernel, rfl, by decide +kernel, by decide +kernel⟩
theorem bd_unseen_of : BindP d_unseen_of := by
  intro kV doc pm an cdv ct us hl; exact match us, hl with | [_], _ => rfl
theorem sc_unseen : FnScope d_unseen.N d_unseen.ps d_unseen.scope := ⟨rfl, rfl, rfl, by decide +kernel, rfl, by decide +kernel, by decide +kernel⟩
theorem bd_unseen : BindP d_unseen := by
  intro kV doc pm an cdv ct us hl; exact match us, hl with | [_], _ => rfl
theorem sc_unseen_by_other_side : FnScope d_unseen_by_other_side.N d_unseen_by_other_side.ps d_unseen_by_other_side.scope := ⟨rfl, rfl, rfl, by decide +kernel, rfl, by decide +kernel, by decide +kernel⟩
theorem bd_unseen_by_other_side : BindP d_unseen_by_other_side := by
  intro kV doc pm an cdv ct us hl; exact match us, hl with | [_], _ => rfl
theorem sc__law_taken : FnScope d__law_taken.N d__law_taken.ps d__law_taken.scope := ⟨rfl, rfl, rfl, by decide +kernel, rfl, by decide +kernel, by decide +kernel⟩
theorem bd__law_taken : BindP d__law_taken := by
  intro kV doc pm an cdv ct us hl; exact match us, hl with | [_, _], _ => rfl
theorem sc__law_alike : FnScope d__law_alike.N d__law_alike.ps d__law_alike.scope := ⟨rfl, rfl, rfl, by decide +kernel, rfl, by decide +kernel, by decide +kernel⟩
theorem bd__law_alike : BindP d__law_alike := by
  intro kV doc pm an cdv ct us hl; exact match us, hl with | [_, _], _ => rfl
theorem sc__law_p_plus : FnScope d__law_p_plus.N d__law_p_plus.ps d__law_p_plus.scope := ⟨rfl, rfl, rfl, by decide +kernel, rfl, by decide +kernel, by decide +kernel⟩
theorem bd__law_p_plus : BindP d__law_p_plus := by
  intro kV doc pm an cdv ct us hl; exact match us, hl with | [_, _, _], _ => rfl
theorem sc__law_p_times : FnScope d__law_p_times.N d__law_p_times.ps d__law_p_times.scope := ⟨rfl, rfl, rfl, by decide +kernel, rfl, by decide +kernel, by decide +kernel⟩
theorem bd__law_p_times : BindP d__law_p_times := by
  intro kV doc pm an cdv ct us hl; exact match us, hl with | [_, _], _ => rfl
theorem sc__law_rows : FnScope d__law_rows.N d__law_rows.ps d__law_rows.scope := ⟨rfl, rfl, rfl, by decide +kernel, rfl, by decide +kernel, by decide +kernel⟩
theorem bd__law_rows : BindP d__law_rows := by
  intro kV doc pm an cdv ct us hl; exact match us, hl with | [_, _], _ => rfl
theorem sc__law_words : FnScope d__law_words.N d__law_words.ps d__law_words.scope := ⟨rfl, rfl, rfl, by decide +kernel, rfl, by decide +kernel, by decide +kernel⟩
theorem bd__law_words : BindP d__law_words := by
  intro kV doc pm an cdv ct us hl; exact match us, hl with | [_], _ => rfl
theorem sc_law : FnScope d_law.N d_law.ps d_law.scope := ⟨rfl, rfl, rfl, by decide +kernel, rfl, by decide +kernel, by decide +kernel⟩
theorem bd_law : BindP d_law := by
  intro kV doc pm an cdv ct us hl; exact match us, hl with | [_], _ => rfl
theorem tr_all : txt.ds.map (fun d => trS txt.gs d.N 200 d.scope d.stmts) = txt.ds.map (fun d => some d.body) := by kernel_rfl
theorem tb_all : txt.ds.map (fun d => txt.tb d.idx) = txt.ds.map (fun d => some ⟨d.ps.length, d.N.length, d.body⟩) := by kernel_rfl
theorem ok : txt.Ok where
  sc := by
    intro d hd
    rcases List.mem_cons.mp hd with rfl | hd; · exact sc_is_int
    rcases List.mem_cons.mp hd with rfl | hd; · exact sc_cut
    rcases List.mem_cons.mp hd with rfl | hd; · exact sc_plus
    rcases List.mem_cons.mp hd with rfl | hd; · exact sc_times
    rcases List.mem_cons.mp hd with rfl | hd; · exact sc_power
    rcases List.mem_cons.mp hd with rfl | hd; · exact sc_need_sums
    rcases List.mem_cons.mp hd with rfl | hd; · exact sc_added
    rcases List.mem_cons.mp hd with rfl | hd; · exact sc_stepped
    rcases List.mem_cons.mp hd with rfl | hd; · exact sc_words_of
    rcases List.mem_cons.mp hd with rfl | hd; · exact sc_counted
    rcases List.mem_cons.mp hd with rfl | hd; · exact sc_weights
    rcases List.mem_cons.mp hd with rfl | hd; · exact sc_turned
    rcases List.mem_cons.mp hd with rfl | hd; · exact sc_other_side
    rcases List.mem_cons.mp hd with rfl | hd; · exact sc_other_weights
    rcases List.mem_cons.mp hd with rfl | hd; · exact sc_unseen_of
    rcases List.mem_cons.mp hd with rfl | hd; · exact sc_unseen
    rcases List.mem_cons.mp hd with rfl | hd; · exact sc_unseen_by_other_side
    rcases List.mem_cons.mp hd with rfl | hd; · exact sc__law_taken
    rcases List.mem_cons.mp hd with rfl | hd; · exact sc__law_alike
    rcases List.mem_cons.mp hd with rfl | hd; · exact sc__law_p_plus
    rcases List.mem_cons.mp hd with rfl | hd; · exact sc__law_p_times
    rcases List.mem_cons.mp hd with rfl | hd; · exact sc__law_rows
    rcases List.mem_cons.mp hd with rfl | hd; · exact sc__law_words
    rcases List.mem_cons.mp hd with rfl | hd; · exact sc_law
    cases hd
  tr := List.map_inj_left.mp tr_all
  tb := List.map_inj_left.mp tb_all
  bd := by
    intro d hd
    rcases List.mem_cons.mp hd with rfl | hd; · exact bd_is_int
    rcases List.mem_cons.mp hd with rfl | hd; · exact bd_cut
    rcases List.mem_cons.mp hd with rfl | hd; · exact bd_plus
    rcases List.mem_cons.mp hd with rfl | hd; · exact bd_times
    rcases List.mem_cons.mp hd with rfl | hd; · exact bd_power
    rcases List.mem_cons.mp hd with rfl | hd; · exact bd_need_sums
    rcases List.mem_cons.mp hd with rfl | hd; · exact bd_added
    rcases List.mem_cons.mp hd with rfl | hd; · exact bd_stepped
    rcases List.mem_cons.mp hd with rfl | hd; · exact bd_words_of
    rcases List.mem_cons.mp hd with rfl | hd; · exact bd_counted
    rcases List.mem_cons.mp hd with rfl | hd; · exact bd_weights
    rcases List.mem_cons.mp hd with rfl | hd; · exact bd_turned
    rcases List.mem_cons.mp hd with rfl | hd; · exact bd_other_side
    rcases List.mem_cons.mp hd with rfl | hd; · exact bd_other_weights
    rcases List.mem_cons.mp hd with rfl | hd; · exact bd_unseen_of
    rcases List.mem_cons.mp hd with rfl | hd; · exact bd_unseen
    rcases List.mem_cons.mp hd with rfl | hd; · exact bd_unseen_by_other_side
    rcases List.mem_cons.mp hd with rfl | hd; · exact bd__law_taken
    rcases List.mem_cons.mp hd with rfl | hd; · exact bd__law_alike
    rcases List.mem_cons.mp hd with rfl | hd; · exact bd__law_p_plus
    rcases List.mem_cons.mp hd with rfl | hd; · exact bd__law_p_times
    rcases List.mem_cons.mp hd with rfl | hd; · exact bd__law_rows
    rcases List.mem_cons.mp hd with rfl | hd; · exact bd__law_words
    rcases List.mem_cons.mp hd with rfl | hd; · exact bd_law
    cases hd
def names0 : List Str := ["NoiseError", "BadCode", "is_int", "cut", "plus", "times", "power", "MOST_WIDE", "MOST_HIGH", "need_sums", "added", "stepped", "words_of", "counted", "weights", "turned", "other_side", "other_weights", "unseen_of", "unseen", "unseen_by_other_side", "_law_taken", "_law_alike", "_law_p_plus", "_law_p_times", "_law_rows", "_law_words"]
def names : List Str := names0
theorem cn : ∀ q, q ∈ txt.clss → ∀ p, p ∈ txt.clss → q.2 = p.2 → q = p := by decide +kernel
abbrev R : PySem.W.OpenRow := PySem.W.OpenLaw.row PySem.Challenge.rw_everynoise_k06_whole_unseen
abbrev hk : PySem.W.Hook := He.hookX 5 txt.facts txt.fns [] [] txt.ex
def ob (s : PySem.W.SharedT) : He.AlX := He.obsX 5 txt.facts txt.fns [] [] txt.ex (HandSHeadRun.getT s)
theorem ob_eq (s : PySem.W.SharedT) : ob s = hk.obs s.abs := He.obsX_eq (HandSHeadRun.getT_eq s)
theorem run (w : World) : HandSHeadRun.RunEq R (PySem.W.view R.prog [31]) hk ob 6000 names w := by
  intro os
  kernel_rfl
theorem end_ (pure : ∀ ns : List Int, ns.length ≤ 63 → callN txt.tb (whileB 1000000) 230 150 [.val (.scr ns)] = .ok (.d (.bl true)) []) : PySem.Challenge.rw_everynoise_k06_whole_unseen.Holds := by
  w_on; o_law
  refine HandSHeadRun.head_any (r := PySem.W.OpenLaw.row PySem.Challenge.rw_everynoise_k06_whole_unseen) (q := PySem.W.view (PySem.W.OpenLaw.row PySem.Challenge.rw_everynoise_k06_whole_unseen).prog [31]) (H := hk) (ob := ob) (M := 6000) (loose := names) (d := HandSHeadRun.topDef (PySem.W.OpenLaw.row PySem.Challenge.rw_everynoise_k06_whole_unseen).prog 31) (kwd := []) ob_eq
    (by kernel_rfl) (fun s => by kernel_rfl) run (by kernel_rfl) (by kernel_rfl) (by kernel_rfl) (by rfl) (by first | assumption | decide +kernel) (by decide +kernel) ⟨rfl, rfl, rfl, rfl, rfl, by decide +kernel⟩ ?hw ?hc
  case hw => w_witness2
  case hc =>
    exact walk_own (l := PySem.Challenge.rw_everynoise_k06_whole_unseen) (n := 63) (t := txt) (tf := []) (dl := d_law) (x := "_law_script") (N := 230) (Wf := whileB 1000000) (fun c b r => .inr ⟨_, rfl⟩) rfl (by decide) (by kernel_rfl) ⟨rfl, by decide, by decide⟩ ok cn (by simp [txt]) (by kernel_rfl) rfl rfl pure
end K06
theorem PySem.Challenge.cw_everynoise_k06_whole_unseen_holds : PySem.Challenge.rw_everynoise_k06_whole_unseen.Holds := by
  exact K06.end_ fun ns _ => K06.pure (l := K06.own) rfl (MP.wbig_of (Nat.le_refl _)) 224 ns
