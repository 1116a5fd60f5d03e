import PyProof.Rows.All
import PySem.Syntax
import PyProof.EqLayable
import PyProof.StrBlockL
import KE.IntText
import Wide.All
import OpenK.AllK
import Wide.FinOn
import HandS.ForMost
import HandS.Exc
import HandS.ExcOwn
import HandS.Deep
import HandS.TupAny
import HandS.TupLe
import HandS.TryMany
import HandS.Defaults
import HandS.IsInst
import HandS.Zip
import HandS.Flow
import HandS.Keys
import HandS.TupMul
import HandS.Style
import HandS.Text
import HandS.SortInts
import HandS.RaiseMore
import HandS.WordsDict
import HandS.SetFor
import HandS.TupSets
import HandS.Strs
import HandS.CallSlots
import HandS.ExcIs
import KE.GoesEnum
import KE.GoesMore
import HandS.NoneIn
import HandS.More
import HandS.Iter
import HandS.HeadHook2
import HandS.HeadHook3
import HandS.Ends
import HandS.HeadEnd
import HandS.Head2
import PyProof.ExcBaseAll.IndexError
import HandS.Head0
import HandS.Head1
import HandS.Words
import PySem.Challenge.RW_askedrows_k01_plans
set_option Elab.async false
set_option linter.all false
set_option maxRecDepth 100000
set_option maxHeartbeats 0
section
namespace Mn
open PySem
inductive Val where
  | non | bl (b : Bool) | int (i : Int) | str (x : Str) | tup (l : List Val) | exc (c : Str) | ref (a : Nat)
mutual
def Val.beq : Val → Val → Bool
  | .non, .non => true
  | .bl a, .bl b => a == b
  | .int a, .int b => a == b
  | .str a, .str b => decide (a = b)
  | .tup a, .tup b => Val.beqs a b
  | .exc a, .exc b => decide (a = b)
  | .ref a, .ref b => a == b
  | _, _ => false
def Val.beqs : List Val → List Val → Bool
  | [], [] => true
  | a :: r, b :: s => Val.beq a b && Val.beqs r s
  | _, _ => false
end
mutual
theorem Val.eq_of_beq : ∀ a b : Val, Val.beq a b = true → a = b
  | .non, b, h => by cases b <;> simp [Val.beq] at h ⊢
  | .bl x, b, h => by cases b <;> simp [Val.beq] at h ⊢; exact h
  | .int x, b, h => by cases b <;> simp [Val.beq] at h ⊢; exact h
  | .str x, b, h => by cases b <;> simp [Val.beq] at h ⊢; exact h
  | .tup x, b, h => by
    cases b <;> simp [Val.beq] at h ⊢
    exact Val.eq_of_beqs _ _ h
  | .exc x, b, h => by cases b <;> simp [Val.beq] at h ⊢; exact h
  | .ref x, b, h => by cases b <;> simp [Val.beq] at h ⊢; exact h
theorem Val.eq_of_beqs : ∀ a b : List Val, Val.beqs a b = true → a = b
  | [], b, h => by cases b <;> simp [Val.beqs] at h ⊢
  | x :: r, b, h => by
    cases b with
    | nil => simp [Val.beqs] at h
    | cons y s =>
      simp [Val.beqs] at h
      rw [Val.eq_of_beq _ _ h.1, Val.eq_of_beqs _ _ h.2]
end
mutual
theorem Val.beq_refl : ∀ a : Val, Val.beq a a = true
  | .non => rfl
  | .bl x => by simp [Val.beq]
  | .int x => by simp [Val.beq]
  | .str x => by simp [Val.beq]
  | .tup x => by simp [Val.beq]; exact Val.beqs_refl x
  | .exc x => by simp [Val.beq]
  | .ref x => by simp [Val.beq]
theorem Val.beqs_refl : ∀ a : List Val, Val.beqs a a = true
  | [] => rfl
  | x :: r => by simp [Val.beqs]; exact ⟨Val.beq_refl x, Val.beqs_refl r⟩
end
instance : DecidableEq Val := fun a b => if h : Val.beq a b = true then isTrue (Val.eq_of_beq a b h) else isFalse fun e => h (e ▸ Val.beq_refl a)
abbrev Key := Sum Int Str
inductive Obj where
  | lst (l : List Val)
  | frz (l : List Val)
  | dic (l : List (Key × Val))
  | ins (c : Str) (fs : List (Str × Val))
abbrev Hp := List Obj
inductive B where
  | v (x : Val) | l (xs : List Val) | d (kvs : List (Key × Val)) | sl (i : Nat)
abbrev Slots := List (Option B)
inductive R (α : Type) where
  | bad
  | ok (a : α) (s : Slots) (h : Hp)
  | err (c : Str) (s : Slots) (h : Hp)
abbrev M (α : Type) := Slots → Hp → R α
def ret {α : Type} (a : α) : M α := fun s h => .ok a s h
def bad {α : Type} : M α := fun _ _ => .bad
def bind {α β : Type} (m : M α) (f : α → M β) : M β := fun s h => match m s h with
  | .bad => .bad
  | .ok a s' h' => f a s' h'
  | .err c s' h' => .err c s' h'
def ofO {α : Type} : Option α → M α
  | some a => ret a
  | none => bad
inductive View where
  | val (x : Val) | lst (l : List Val) | dic (l : List (Key × Val))
def viewV (h : Hp) : Val → Option View
  | .ref a => match h[a]? with
    | some (.lst l) => some (.lst l)
    | some (.frz l) => some (.lst l)
    | some (.dic l) => some (.dic l)
    | some (.ins _ _) => some (.val (.ref a))
    | none => none
  | x => some (.val x)
def viewS (s : Slots) (h : Hp) (i : Nat) : Option View := match s[i]? with
  | some (some (.l xs)) => some (.lst xs)
  | some (some (.d k)) => some (.dic k)
  | some (some (.v x)) => viewV h x
  | _ => none
def view (s : Slots) (h : Hp) : B → Option View
  | .v x => viewV h x
  | .l xs => some (.lst xs)
  | .d k => some (.dic k)
  | .sl i => viewS s h i
def viewM (b : B) : M View := fun s h => match view s h b with
  | some w => .ok w s h
  | none => .bad
def ldSlot (i : Nat) : M B := fun s h => match s[i]? with
  | some (some (.v x)) => .ok (.v x) s h
  | some (some (.l _)) => .ok (.sl i) s h
  | some (some (.d _)) => .ok (.sl i) s h
  | _ => .bad
def toVal : B → M Val
  | .v x => ret x
  | .l xs => fun s h => .ok (.ref h.length) s (h ++ [.lst xs])
  | .d k => fun s h => .ok (.ref h.length) s (h ++ [.dic k])
  | .sl i => fun s h => match s[i]? with
    | some (some (.v x)) => .ok x s h
    | some (some (.l xs)) => .ok (.ref h.length) (s.set i (some (.v (.ref h.length)))) (h ++ [.lst xs])
    | some (some (.d k)) => .ok (.ref h.length) (s.set i (some (.v (.ref h.length)))) (h ++ [.dic k])
    | _ => .bad
def toArg : B → M B
  | .sl i => bind (toVal (.sl i)) fun x => ret (.v x)
  | b => ret b
def toRet : B → M B
  | .sl i => fun s h => match s[i]? with
    | some (some (.sl _)) => .bad
    | some (some b) => .ok b s h
    | _ => .bad
  | b => ret b
def asVal : B → M Val
  | .v x => ret x
  | _ => bad
def truth : B → M Bool
  | .v (.bl b) => ret b
  | _ => bad
def mapO {α β : Type} (f : α → Option β) : List α → Option (List β)
  | [] => some []
  | a :: r => match f a with
    | some b => (match mapO f r with
      | some bs => some (b :: bs)
      | none => none)
    | none => none
def toD (h : Hp) : Nat → Val → Option PyData
  | 0, _ => none
  | n + 1, v => match v with
    | .non => some .none
    | .bl b => some (.bool b)
    | .int i => some (.int i)
    | .str x => some (.str x)
    | .exc _ => none
    | .tup l => (mapO (toD h n) l).map .tuple
    | .ref a => match h[a]? with
      | some (.lst l) => (mapO (toD h n) l).map .list
      | some (.frz l) => (mapO (toD h n) l).map .list
      | _ => none
def toDW (h : Hp) : View → Option PyData
  | .val x => toD h 60 x
  | .lst l => (mapO (toD h 59) l).map .list
  | .dic _ => none
def keyOf : Val → Option Key
  | .int i => some (.inl i)
  | .str x => some (.inr x)
  | _ => none
def ofKey : Key → Val
  | .inl i => .int i
  | .inr x => .str x
def lookK (k : Key) : List (Key × Val) → Option Val
  | [] => none
  | (j, v) :: r => if k = j then some v else lookK k r
def putK (k : Key) (v : Val) (l : List (Key × Val)) : List (Key × Val) :=
  if (l.any fun p => decide (p.1 = k)) = true then l.map (fun p => if p.1 = k then (p.1, v) else p) else l ++ [(k, v)]
def lookF (f : Str) : List (Str × Val) → Option Val
  | [] => none
  | (g, v) :: r => if f = g then some v else lookF f r
def putF (f : Str) (v : Val) : List (Str × Val) → List (Str × Val)
  | [] => [(f, v)]
  | (g, w) :: r => if f = g then (g, v) :: r else (g, w) :: putF f v r
def limit : Nat := 16777216
def isSub (a b : Str) : Bool := !(Builtin.Str.occurrences b a 0 b.length 1).isEmpty
def cmpV (op : CmpOp) (x y : View) : M Bool := fun s h => match op with
  | .Eq => (match toDW h x, toDW h y with
    | some d, some e => .ok (PyData.eqv d e) s h
    | _, _ => .bad)
  | .NotEq => (match toDW h x, toDW h y with
    | some d, some e => .ok (!PyData.eqv d e) s h
    | _, _ => .bad)
  | .Lt => (match x, y with
    | .val (.int i), .val (.int j) => .ok (decide (i < j)) s h
    | .val (.tup [.int a, .int b]), .val (.tup [.int c, .int d]) => .ok (decide (a < c ∨ a = c ∧ b < d)) s h
    | _, _ => .bad)
  | .LtE => (match x, y with
    | .val (.int i), .val (.int j) => .ok (decide (i ≤ j)) s h
    | _, _ => .bad)
  | .Gt => (match x, y with
    | .val (.int i), .val (.int j) => .ok (decide (j < i)) s h
    | _, _ => .bad)
  | .GtE => (match x, y with
    | .val (.int i), .val (.int j) => .ok (decide (j ≤ i)) s h
    | _, _ => .bad)
  | .Is => (match x, y with
    | .val a, .val .non => .ok (decide (a = .non)) s h
    | .lst _, .val .non => .ok false s h
    | .dic _, .val .non => .ok false s h
    | .val (.bl a), .val (.bl b) => .ok (decide (a = b)) s h
    | _, _ => .bad)
  | .IsNot => (match x, y with
    | .val a, .val .non => .ok (!decide (a = .non)) s h
    | .lst _, .val .non => .ok true s h
    | .dic _, .val .non => .ok true s h
    | .val (.bl a), .val (.bl b) => .ok (!decide (a = b)) s h
    | _, _ => .bad)
  | .In => isIn x y s h
  | .NotIn => bind (isIn x y) (fun b => ret (!b)) s h
where
  isIn (x y : View) : M Bool := fun s h => match y with
    | .lst l => (match toDW h x, mapO (toD h 59) l with
      | some d, some ds => .ok (ds.any fun z => PyData.eqv z d) s h
      | _, _ => .bad)
    | .val (.tup l) => (match toDW h x, mapO (toD h 59) l with
      | some d, some ds => .ok (ds.any fun z => PyData.eqv z d) s h
      | _, _ => .bad)
    | .val (.str b) => (match x with
      | .val (.str a) => .ok (isSub a b) s h
      | _ => .bad)
    | .dic k => (match x with
      | .val v => (match keyOf v with
        | some j => .ok (lookK j k).isSome s h
        | none => .bad)
      | _ => .bad)
    | _ => .bad
def mulOk (i j : Int) : Bool := (decide (-(2 ^ 64) < i) && decide (i < 2 ^ 64)) || (decide (-(2 ^ 64) < j) && decide (j < 2 ^ 64))
def repL {α : Type} (n : Nat) (l : List α) : List α := (List.replicate n l).flatten
def repS (n : Nat) (x : Str) : Str := ⟨(repL n x.cps.toList).toArray⟩
def binV (op : Operator) (x y : View) : M B := match op with
  | .Add => (match x, y with
    | .val (.int i), .val (.int j) => ret (.v (.int (i + j)))
    | .val (.str a), .val (.str b) => if a.length + b.length ≤ limit then ret (.v (.str (a ++ b))) else bad
    | .val (.tup a), .val (.tup b) => if a.length + b.length ≤ limit then ret (.v (.tup (a ++ b))) else bad
    | .lst a, .lst b => if a.length + b.length ≤ limit then ret (.l (a ++ b)) else bad
    | _, _ => bad)
  | .Sub => (match x, y with
    | .val (.int i), .val (.int j) => ret (.v (.int (i - j)))
    | _, _ => bad)
  | .Mult => (match x, y with
    | .val (.int i), .val (.int j) => if mulOk i j then ret (.v (.int (i * j))) else bad
    | .lst a, .val (.int j) => if a.length * j.toNat ≤ limit ∧ -1000 ≤ j ∧ j ≤ 1000 then ret (.l (repL j.toNat a)) else bad
    | .val (.tup a), .val (.int j) => if a ≠ [] ∧ 1 ≤ j ∧ j ≤ 1000 ∧ a.length ≤ 1000 then ret (.v (.tup (repL j.toNat a))) else bad
    | _, _ => bad)
  | .FloorDiv => (match x, y with
    | .val (.int i), .val (.int j) => if 0 < j ∧ j < 1073741824 then ret (.v (.int (i / j))) else bad
    | _, _ => bad)
  | .Mod => (match x, y with
    | .val (.int i), .val (.int j) => if 0 < j then ret (.v (.int (i % j))) else bad
    | _, _ => bad)
  | .Pow => (match x, y with
    | .val (.int i), .val (.int j) => if 0 ≤ j ∧ j ≤ 1000000 ∧ i.natAbs < 2 ^ 64 then ret (.v (.int (i ^ j.toNat))) else bad
    | _, _ => bad)
  | _ => bad
def iopV (op : Operator) (x y : View) : M B := match op with
  | .Add => (match x, y with
    | .val (.int i), .val (.int j) => ret (.v (.int (i + j)))
    | .val (.str a), .val (.str b) => if a.length + b.length ≤ limit then ret (.v (.str (a ++ b))) else bad
    | _, _ => bad)
  | .Sub => (match x, y with
    | .val (.int i), .val (.int j) => ret (.v (.int (i - j)))
    | _, _ => bad)
  | .Mult => (match x, y with
    | .val (.int i), .val (.int j) => if mulOk i j then ret (.v (.int (i * j))) else bad
    | _, _ => bad)
  | .FloorDiv => (match x, y with
    | .val (.int i), .val (.int j) => if 0 < j ∧ j < 1073741824 then ret (.v (.int (i / j))) else bad
    | _, _ => bad)
  | .Mod => (match x, y with
    | .val (.int i), .val (.int j) => if 0 < j then ret (.v (.int (i % j))) else bad
    | _, _ => bad)
  | _ => bad
def ixN (n : Nat) (i : Int) : Option Nat := if 0 ≤ i then (if i < n then some i.toNat else none) else if -(n : Int) ≤ i then some (i + n).toNat else none
def idxV (x y : View) : M B := match x, y with
  | .lst l, .val (.int i) => (match (ixN l.length i).bind fun j => l[j]? with
    | some v => ret (.v v)
    | none => bad)
  | .val (.tup l), .val (.int i) => (match (ixN l.length i).bind fun j => l[j]? with
    | some v => ret (.v v)
    | none => bad)
  | .val (.str z), .val (.int i) => (match (ixN z.length i).bind fun j => z.cps.toList[j]? with
    | some c => if z.length ≤ limit then ret (.v (.str ⟨#[c]⟩)) else bad
    | none => bad)
  | .dic k, .val v => (match (keyOf v).bind fun j => lookK j k with
    | some w => ret (.v w)
    | none => bad)
  | _, _ => bad
def cutAt (n d : Nat) : Option Int → Nat
  | none => d
  | some i => if i < 0 then (i + (n : Int)).toNat else min i.toNat n
def cutL {α : Type} (l : List α) (lo hi : Option Int) : List α := (l.drop (cutAt l.length 0 lo)).take (cutAt l.length l.length hi - cutAt l.length 0 lo)
def sliV (x : View) (lo hi : Option Int) : M B := match x with
  | .lst l => ret (.l (cutL l lo hi))
  | .val (.tup l) => ret (.v (.tup (cutL l lo hi)))
  | .val (.str z) => if z.length ≤ limit then ret (.v (.str ⟨(cutL z.cps.toList lo hi).toArray⟩)) else bad
  | _ => bad
def isoI : View → M Int
  | .val (.int i) => ret i
  | _ => bad
inductive RC where
  | bad | ok (b : B) (h : Hp) | err (c : Str) (h : Hp)
structure Env where
  gv : Str → Option Val
  gd : Str → Option (List (Str × Val))
  call : Str → List B → Hp → RC
  meth : Str → Str → Option Str
  att : Str → Str → Bool
  init : Str → Option Str
  sub : Str → Str → Bool
  isx : Str → Bool
def doCall (G : Env) (f : Str) (args : List B) : M B := fun s h => match G.call f args h with
  | .bad => .bad
  | .ok b h' => .ok b s h'
  | .err c h' => .err c s h'
def allInts : List Val → Option (List Int)
  | [] => some []
  | .int i :: r => (allInts r).map (i :: ·)
  | _ :: _ => none
def allBools : List Val → Option (List Bool)
  | [] => some []
  | .bl i :: r => (allBools r).map (i :: ·)
  | _ :: _ => none
def allStrs : List Val → Option (List Str)
  | [] => some []
  | .str i :: r => (allStrs r).map (i :: ·)
  | _ :: _ => none
def allPairs : List Val → Option (List (Int × Int))
  | [] => some []
  | .tup [.int a, .int b] :: r => (allPairs r).map ((a, b) :: ·)
  | _ :: _ => none
def leP (a b : Int × Int) : Bool := decide (a.1 < b.1 ∨ a.1 = b.1 ∧ a.2 ≤ b.2)
def leS (a b : Str) : Bool := !decide (b.cps.toList < a.cps.toList)
def insO {α : Type} (le : α → α → Bool) (a : α) : List α → List α
  | [] => [a]
  | b :: r => if le a b then a :: b :: r else b :: insO le a r
def sortO {α : Type} (le : α → α → Bool) : List α → List α
  | [] => []
  | a :: r => insO le a (sortO le r)
def leI (a b : Int) : Bool := decide (a ≤ b)
def dedup {α : Type} [DecidableEq α] : List α → List α
  | [] => []
  | a :: r => if a ∈ r then dedup r else a :: dedup r
def minL : Int → List Int → Int
  | a, [] => a
  | a, b :: r => minL (if b < a then b else a) r
def maxL : Int → List Int → Int
  | a, [] => a
  | a, b :: r => maxL (if b > a then b else a) r
def pairV (p : Int × Int) : Val := .tup [.int p.1, .int p.2]
def seqOf : View → Option (List Val)
  | .lst l => some l
  | .val (.tup l) => some l
  | _ => none
def itemsOf : View → Option (List Val)
  | .lst l => some l
  | .val (.tup l) => some l
  | .val (.str z) => some (z.cps.toList.map fun c => .str ⟨#[c]⟩)
  | _ => none
def isTy (t : Str) (w : View) : Option Bool :=
  if t = "int" then some (match w with | .val (.int _) => true | .val (.bl _) => true | _ => false)
  else if t = "bool" then some (match w with | .val (.bl _) => true | _ => false)
  else if t = "str" then some (match w with | .val (.str _) => true | _ => false)
  else if t = "tuple" then some (match w with | .val (.tup _) => true | _ => false)
  else if t = "list" then some (match w with | .lst _ => true | _ => false)
  else none
def isInst (G : Env) (t : Str) (w : View) : M Bool := match w with
  | .val (.exc c) => ret (G.sub c t)
  | .val (.ref _) => bad
  | .val .non => (match isTy t w with
    | some b => ret b
    | none => ret false)
  | w => ofO (isTy t w)
inductive F1 where
  | len | all | sum | min | max | sorted | sset | skeys | list | tuple | int | str | abs | dict
def f1V (f : F1) (w : View) : M B := match f with
  | .len => (match w with
    | .lst l => ret (.v (.int l.length))
    | .dic k => ret (.v (.int k.length))
    | .val (.tup l) => ret (.v (.int l.length))
    | .val (.str z) => if z.length ≤ limit then ret (.v (.int z.length)) else bad
    | _ => bad)
  | .all => (match w with
    | .lst l => (match allBools l with
      | some bs => ret (.v (.bl (bs.all id)))
      | none => bad)
    | _ => bad)
  | .sum => (match w with
    | .lst l => (match allInts l with
      | some ns => ret (.v (.int ns.sum))
      | none => bad)
    | _ => bad)
  | .min => (match w with
    | .lst l => (match allInts l with
      | some (a :: r) => ret (.v (.int (minL a r)))
      | _ => bad)
    | _ => bad)
  | .max => (match w with
    | .lst l => (match allInts l with
      | some (a :: r) => ret (.v (.int (maxL a r)))
      | _ => bad)
    | _ => bad)
  | .sorted => (match w with
    | .lst l => (match allInts l with
      | some ns => ret (.l ((sortO leI ns).map .int))
      | none => bad)
    | _ => bad)
  | .sset => (match seqOf w with
    | some l => (match allInts l with
      | some ns => if ns.length < 64 then ret (.l ((sortO leI (dedup ns)).map .int)) else bad
      | none => bad)
    | none => bad)
  | .skeys => (match w with
    | .dic k => (match allStrs (k.map fun p => ofKey p.1) with
      | some xs => ret (.l ((sortO leS xs).map .str))
      | none => bad)
    | _ => bad)
  | .list => (match seqOf w with
    | some l => ret (.l l)
    | none => bad)
  | .tuple => (match seqOf w with
    | some l => ret (.v (.tup l))
    | none => bad)
  | .int => (match w with
    | .val (.int i) => ret (.v (.int i))
    | .val (.bl b) => ret (.v (.int (if b then 1 else 0)))
    | .val (.str z) => (match intText? z with
      | some n => if z.length ≤ 640 then ret (.v (.int n)) else bad
      | none => bad)
    | _ => bad)
  | .str => (match w with
    | .val (.int i) => if i.natAbs.log2 < 1920 then ret (.v (.str (toString i : String))) else bad
    | .val (.str z) => ret (.v (.str z))
    | _ => bad)
  | .abs => (match w with
    | .val (.int i) => ret (.v (.int (if i < 0 then -i else i)))
    | _ => bad)
  | .dict => (match w with
    | .dic k => ret (.d k)
    | _ => bad)
inductive Tg where
  | one (i : Nat) | many (l : List Nat)
inductive E where
  | slot (i : Nat) | cst (v : Val) | glo (x : Str)
  | bin (op : Operator) (a b : E) | neg (a : E) | not (a : E) | and (a b : E) | or (a b : E)
  | ife (c a b : E) | cmp (op : CmpOp) (a b : E) | cmp2 (o1 o2 : CmpOp) (a b c : E)
  | tup (l : List E) | lst (l : List E) | dct (l : List (Val × E))
  | idx (a i : E) | sli (a : E) (lo hi : Option E) | rev (a : E)
  | gix (d : Str) (i : E) | gin (d : Str) (i : E) (yes : Bool)
  | att (a : E) (f : Str)
  | call (f : Str) (l : List E) | meth (o : E) (m : Str) (l : List E) | new (c : Str) (l : List E)
  | isi (a : E) (t : Str) | f1 (f : F1) (a : E) | min2 (a b : E) | max2 (a b : E)
  | get2 (o k d : E) | join (o a : E) | split (o a : E) | index (o a : E) | count (o a : E)
  | comp (e : E) (t : Tg) (it : E) (c : Option E) (own : List Nat)
  | dcomp (k v : E) (t : Tg) (it : E) (c : Option E) (own : List Nat)
  | rng (a b c : E) | zip (a b : E) | enu (a : E)
  | nev
abbrev Srcs := List (B × List Val)
def chk : Srcs → M Unit
  | [] => ret ()
  | (b, l) :: r => fun s h => match view s h b with
    | some (.lst q) => if q = l then chk r s h else .bad
    | _ => .bad
def srcOf (b : B) (l : List Val) : Srcs := match b with
  | .v (.ref _) => [(b, l)]
  | .sl _ => [(b, l)]
  | _ => []
def setSlot (i : Nat) (b : B) : M Unit := fun s h => if i < s.length then .ok () (s.set i (some b)) h else .bad
def setSlots : List Nat → List Val → M Unit
  | [], [] => ret ()
  | i :: r, x :: xs => bind (setSlot i (.v x)) fun _ => setSlots r xs
  | _, _ => bad
def setTg (t : Tg) (x : Val) : M Unit := match t with
  | .one i => setSlot i (.v x)
  | .many l => match x with
    | .tup xs => setSlots l xs
    | _ => bad
def wipe (own : List Nat) (s : Slots) : Slots := own.foldl (fun s i => s.set i none) s
def back (own : List Nat) (s0 s : Slots) : Slots := own.foldl (fun s i => match s0[i]? with
  | some o => s.set i o
  | none => s) s
def wipeM (own : List Nat) : M Unit := fun s h => .ok () (wipe own s) h
def srcOff (own : List Nat) (src : Srcs) : Bool := src.all fun p => match p.1 with
  | .sl i => !own.contains i
  | _ => true
def compL {α : Type} (own : List Nat) (src : Srcs) (t : Tg) (tst : M Bool) (elt : M α) : List Val → M (List α)
  | [] => bind (wipeM own) fun _ => bind (chk src) fun _ => ret []
  | x :: r => bind (wipeM own) fun _ => bind (chk src) fun _ => bind (setTg t x) fun _ => bind tst fun b =>
    if b = true then bind elt fun y => bind (compL own src t tst elt r) fun ys => ret (y :: ys) else compL own src t tst elt r
def inBlock {α : Type} (own : List Nat) (src : Srcs) (m : M α) : M α := fun s h => if srcOff own src = true then match m s h with
  | .ok a s' h' => .ok a (back own s s') h'
  | _ => .bad else .bad
def rangeL (a c : Int) : Nat → List Val
  | 0 => []
  | n + 1 => .int a :: rangeL (a + c) c n
def rangeN (a b c : Int) : Option Nat :=
  if -(2 ^ 62) ≤ a ∧ a < 2 ^ 62 ∧ -(2 ^ 62) ≤ b ∧ b < 2 ^ 62 then
    (if c = 1 then some (b - a).toNat else if c = -1 then some (a - b).toNat else none)
  else none
def enumL (n : Nat) : List Val → List Val
  | [] => []
  | x :: r => .tup [.int n, x] :: enumL (n + 1) r
def zipL : List Val → List Val → List Val
  | x :: r, y :: q => .tup [x, y] :: zipL r q
  | _, _ => []
def viewsM (x : B) : M View := viewM x
def op2 {α : Type} (x y : B) (f : View → View → M α) : M α := fun s h => match view s h x, view s h y with
  | some a, some b => f a b s h
  | _, _ => .bad
def attV (G : Env) (f : Str) (v : Val) : M B := fun s h => match v with
  | .ref a => (match h[a]? with
    | some (.ins c fs) => if G.att c f = true then (match lookF f fs with
      | some w => .ok (.v w) s h
      | none => .bad) else .bad
    | _ => .bad)
  | _ => .bad
def methV (G : Env) (m : Str) (v : Val) : M Str := fun s h => match v with
  | .ref a => (match h[a]? with
    | some (.ins c fs) => (match lookF m fs with
      | some _ => .bad
      | none => (match G.meth c m with
        | some f => .ok f s h
        | none => .bad))
    | _ => .bad)
  | _ => .bad
def newV (G : Env) (c : Str) (args : List B) : M B := fun s h => match G.init c with
  | some f => (match G.call f (.v (.ref h.length) :: args) (h ++ [.ins c []]) with
    | .ok (.v .non) h' => .ok (.v (.ref h.length)) s h'
    | .ok _ _ => .bad
    | .err e h' => .err e s h'
    | .bad => .bad)
  | none => .bad
def firstAt (d : PyData) : Nat → List PyData → Option Nat
  | _, [] => none
  | n, z :: r => if PyData.eqv z d = true then some n else firstAt d (n + 1) r
def indexV (w x : View) : M B := fun s h => match w with
  | .lst l => (match toDW h x, mapO (toD h 59) l with
    | some d, some ds => (match firstAt d 0 ds with
      | some i => .ok (.v (.int (i : Nat))) s h
      | none => .bad)
    | _, _ => .bad)
  | _ => .bad
def countV (w x : View) : M B := match w, x with
  | .lst l, .val (.bl b) => (match allBools l with
    | some bs => ret (.v (.int (bs.count b : Nat)))
    | none => bad)
  | _, _ => bad
def getV (w : View) (k : Val) (d : B) : M B := match w with
  | .dic kvs => (match keyOf k with
    | some j => (match lookK j kvs with
      | some v => ret (.v v)
      | none => ret d)
    | none => bad)
  | _ => bad
def joinV (w x : View) : M B := match w with
  | .val (.str a) => (match (seqOf x).bind allStrs with
    | some ys => if (ys.map (·.length)).sum + ys.length * a.length ≤ limit then ret (.v (.str (Txt.join a ys))) else bad
    | none => bad)
  | _ => bad
def splitV (w x : View) : M B := match w, x with
  | .val (.str a), .val (.str b) => if (b.length == 0) = false ∧ a.length + 2 ≤ limit then ret (.l ((Txt.split a b).map .str)) else bad
  | _, _ => bad
def gixV (G : Env) (d : Str) (x : View) : M B := match G.gd d, x with
  | some kvs, .val (.str z) => (match lookF z kvs with
    | some v => ret (.v v)
    | none => bad)
  | _, _ => bad
def ginV (G : Env) (d : Str) (x : View) : M Bool := match G.gd d, x with
  | some kvs, .val (.str z) => ret (lookF z kvs).isSome
  | _, _ => bad
def optI (m : Option (M B)) : M (Option Int) := match m with
  | none => ret none
  | some m => bind m fun x => bind (viewM x) fun w => bind (isoI w) fun i => ret (some i)
def mergeD : List (Key × Val) → List (Val × Val) → Option (List (Key × Val))
  | acc, [] => some acc
  | acc, (k, v) :: r => match keyOf k with
    | some j => mergeD (putK j v acc) r
    | none => none
def rngI (a b c : M B) : M (List Val × Srcs) := bind a fun x => bind (viewM x) fun u => bind (isoI u) fun i => bind b fun y => bind (viewM y) fun v => bind (isoI v) fun j =>
  bind c fun z => bind (viewM z) fun w => bind (isoI w) fun k => match rangeN i j k with
    | some n => ret (rangeL i k n, [])
    | none => bad
def zipI (a b : M B) : M (List Val × Srcs) := bind a fun x => bind b fun y => op2 x y fun v w => match itemsOf v, itemsOf w with
  | some l, some q => ret (zipL l q, srcOf x l ++ srcOf y q)
  | _, _ => bad
def enuI (m : M (List Val × Srcs)) : M (List Val × Srcs) := bind m fun p => ret (enumL 0 p.1, p.2)
def seqI (m : M B) : M (List Val × Srcs) := bind m fun x => bind (viewM x) fun w => match itemsOf w with
  | some l => ret (l, srcOf x l)
  | none => bad
def lstI (m : M (List Val × Srcs)) : M View := bind m fun p => ret (.lst p.1)
structure Dn where
  v : M B
  it : M (List Val × Srcs)
  w : M View
def mk (m : M B) : Dn := ⟨m, seqI m, bind m viewM⟩
def mkI (i : M (List Val × Srcs)) : Dn := ⟨bad, i, lstI i⟩
def densL : List Dn → M (List Val)
  | [] => ret []
  | e :: r => bind e.v fun b => bind (toVal b) fun x => bind (densL r) fun xs => ret (x :: xs)
def densA : List Dn → M (List B)
  | [] => ret []
  | e :: r => bind e.v fun b => bind (toArg b) fun x => bind (densA r) fun xs => ret (x :: xs)
def densP : List (Val × Dn) → M (List (Val × Val))
  | [] => ret []
  | (k, e) :: r => bind e.v fun b => bind (toVal b) fun x => bind (densP r) fun xs => ret ((k, x) :: xs)
def tstD : Option Dn → M Bool
  | none => ret true
  | some e => bind e.v truth
def optD : Option Dn → M (Option Int)
  | none => ret none
  | some m => bind m.v fun x => bind (viewM x) fun w => bind (isoI w) fun i => ret (some i)
def binM (op : Operator) (a b : M B) : M B := bind a fun x => bind b fun y => op2 x y (binV op)
def negM (a : M B) : M B := bind a fun x => bind (viewM x) fun w => bind (isoI w) fun i => ret (.v (.int (-i)))
def notM (a : M B) : M B := bind a fun x => bind (truth x) fun b => ret (.v (.bl (!b)))
def andM (a b : M B) : M B := bind a fun x => bind (truth x) fun t => if t = true then b else ret (.v (.bl false))
def orM (a b : M B) : M B := bind a fun x => bind (truth x) fun t => if t = true then ret (.v (.bl true)) else b
def ifeM (c a b : M B) : M B := bind c fun x => bind (truth x) fun t => if t = true then a else b
def cmpM (op : CmpOp) (a b : M B) : M B := bind a fun x => bind b fun y => bind (op2 x y (cmpV op)) fun t => ret (.v (.bl t))
def cmp2M (o1 o2 : CmpOp) (a b c : M B) : M B := bind a fun x => bind b fun y => bind (op2 x y (cmpV o1)) fun t =>
  if t = true then bind c fun z => bind (op2 y z (cmpV o2)) fun u => ret (.v (.bl u)) else ret (.v (.bl false))
def tupM (l : List Dn) : M B := bind (densL l) fun xs => if xs.length ≤ limit then ret (.v (.tup xs)) else bad
def lstM (l : List Dn) : M B := bind (densL l) fun xs => if xs.length ≤ limit then ret (.l xs) else bad
def mkD (ps : List (Val × Val)) : M B := match mergeD [] ps with
  | some k => ret (.d k)
  | none => bad
def dctM (l : List (Val × Dn)) : M B := bind (densP l) mkD
def idxM (a i : M B) : M B := bind a fun x => bind i fun y => op2 x y idxV
def sliM (a : M B) (lo hi : Option Dn) : M B := bind a fun x => bind (optD lo) fun p => bind (optD hi) fun q => bind (viewM x) fun w => sliV w p q
def revM (a : M B) : M B := bind a fun x => bind (viewM x) fun w => match w with
  | .lst l => ret (.l l.reverse)
  | _ => bad
def gixM (G : Env) (d : Str) (i : M B) : M B := bind i fun x => bind (viewM x) fun w => gixV G d w
def ginM (G : Env) (d : Str) (i : M B) (yes : Bool) : M B := bind i fun x => bind (viewM x) fun w => bind (ginV G d w) fun b => ret (.v (.bl (b == yes)))
def attM (G : Env) (a : M B) (f : Str) : M B := bind a fun x => bind (asVal x) fun v => attV G f v
def callM (G : Env) (f : Str) (l : List Dn) : M B := bind (densA l) fun xs => doCall G f xs
def methM (G : Env) (o : M B) (m : Str) (l : List Dn) : M B := bind o fun x => bind (asVal x) fun v => bind (methV G m v) fun f => bind (densA l) fun xs => doCall G f (.v v :: xs)
def newM (G : Env) (c : Str) (l : List Dn) : M B := bind (densA l) fun xs => newV G c xs
def isiM (G : Env) (a : M B) (t : Str) : M B := bind a fun x => bind (viewM x) fun w => bind (isInst G t w) fun b => ret (.v (.bl b))
def f1M (G : Env) (f : F1) (a : M View) : M B := bind a fun p => match f, p with
  | .len, .val (.ref a) => bind (methV G "__len__" (.ref a)) fun g => doCall G g [.v (.ref a)]
  | f, p => f1V f p
def min2M (a b : M B) : M B := bind a fun x => bind b fun y => op2 x y fun v w => bind (isoI v) fun i => bind (isoI w) fun j => ret (.v (.int (if j < i then j else i)))
def max2M (a b : M B) : M B := bind a fun x => bind b fun y => op2 x y fun v w => bind (isoI v) fun i => bind (isoI w) fun j => ret (.v (.int (if j > i then j else i)))
def lstB (b : B) : M Unit := bind (viewM b) fun w => match w with
  | .lst _ => ret ()
  | _ => bad
def dicB (b : B) : M Unit := bind (viewM b) fun w => match w with
  | .dic _ => ret ()
  | _ => bad
def strB (b : B) : M Unit := bind (viewM b) fun w => match w with
  | .val (.str _) => ret ()
  | _ => bad
def get2M (o k d : M B) : M B := bind o fun x => bind (dicB x) fun _ => bind k fun y => bind (asVal y) fun kv => bind d fun z => bind (viewM x) fun w => getV w kv z
def two (t : B → M Unit) (f : View → View → M B) (o a : M B) : M B := bind o fun x => bind (t x) fun _ => bind a fun y => op2 x y f
def compM (e : M B) (t : Tg) (it : M (List Val × Srcs)) (c : Option Dn) (own : List Nat) : M B :=
  bind it fun p => inBlock own p.2 (bind (compL own p.2 t (tstD c) (bind e toVal) p.1) fun xs => if xs.length ≤ limit then ret (.l xs) else bad)
def dcompM (k v : M B) (t : Tg) (it : M (List Val × Srcs)) (c : Option Dn) (own : List Nat) : M B :=
  bind it fun p => inBlock own p.2 (bind (compL own p.2 t (tstD c) (bind k fun x => bind (asVal x) fun kv => bind v fun y => bind (toVal y) fun w => ret (kv, w)) p.1) mkD)
mutual
def dn (G : Env) : E → Dn
  | .slot i => mk (ldSlot i)
  | .cst v => mk (ret (.v v))
  | .glo x => mk (ofO ((G.gv x).map .v))
  | .bin op a b => mk (binM op (dn G a).v (dn G b).v)
  | .neg a => mk (negM (dn G a).v)
  | .not a => mk (notM (dn G a).v)
  | .and a b => mk (andM (dn G a).v (dn G b).v)
  | .or a b => mk (orM (dn G a).v (dn G b).v)
  | .ife c a b => mk (ifeM (dn G c).v (dn G a).v (dn G b).v)
  | .cmp op a b => mk (cmpM op (dn G a).v (dn G b).v)
  | .cmp2 o1 o2 a b c => mk (cmp2M o1 o2 (dn G a).v (dn G b).v (dn G c).v)
  | .tup l => mk (tupM (dnL G l))
  | .lst l => mk (lstM (dnL G l))
  | .dct l => mk (dctM (dnP G l))
  | .idx a i => mk (idxM (dn G a).v (dn G i).v)
  | .sli a lo hi => mk (sliM (dn G a).v (dnO G lo) (dnO G hi))
  | .rev a => mk (revM (dn G a).v)
  | .gix d i => mk (gixM G d (dn G i).v)
  | .gin d i yes => mk (ginM G d (dn G i).v yes)
  | .att a f => mk (attM G (dn G a).v f)
  | .call f l => mk (callM G f (dnL G l))
  | .meth o m l => mk (methM G (dn G o).v m (dnL G l))
  | .new c l => mk (newM G c (dnL G l))
  | .isi a t => mk (isiM G (dn G a).v t)
  | .f1 f a => mk (f1M G f (dn G a).w)
  | .min2 a b => mk (min2M (dn G a).v (dn G b).v)
  | .max2 a b => mk (max2M (dn G a).v (dn G b).v)
  | .get2 o k d => mk (get2M (dn G o).v (dn G k).v (dn G d).v)
  | .join o a => mk (two strB joinV (dn G o).v (dn G a).v)
  | .split o a => mk (two strB splitV (dn G o).v (dn G a).v)
  | .index o a => mk (two lstB indexV (dn G o).v (dn G a).v)
  | .count o a => mk (two lstB countV (dn G o).v (dn G a).v)
  | .comp e t it c own => mk (compM (dn G e).v t (dn G it).it (dnO G c) own)
  | .dcomp k v t it c own => mk (dcompM (dn G k).v (dn G v).v t (dn G it).it (dnO G c) own)
  | .rng a b c => mkI (rngI (dn G a).v (dn G b).v (dn G c).v)
  | .zip a b => mkI (zipI (dn G a).v (dn G b).v)
  | .enu a => mkI (enuI (dn G a).it)
  | .nev => mk bad
termination_by structural x => x
def dnL (G : Env) : List E → List Dn
  | [] => []
  | e :: r => dn G e :: dnL G r
termination_by structural x => x
def dnP (G : Env) : List (Val × E) → List (Val × Dn)
  | [] => []
  | p :: r => dnQ G p :: dnP G r
termination_by structural x => x
def dnQ (G : Env) : Val × E → Val × Dn
  | (k, e) => (k, dn G e)
termination_by structural x => x
def dnO (G : Env) : Option E → Option Dn
  | none => none
  | some e => some (dn G e)
termination_by structural x => x
end
abbrev den (G : Env) (e : E) : M B := (dn G e).v
inductive T where
  | nam (i : Nat) | tup (l : List Nat) | star (i j : Nat) | att (o : E) (f : Str) | sub (o i : E)
inductive HS where
  | exc (i : Nat) | cst (i : Nat) (v : Val) | app (i : Nat) (v : Val)
inductive S where
  | ex (e : E) | rt (e : E) | rtn | asg (t : T) (e : E) | aug (t : T) (op : Operator) (e : E)
  | ite (c : E) (a b : List S) | whl (c : E) (b : List S) | for_ (t : Tg) (it : E) (b : List S)
  | brk | pas | rai (c : Str)
  | try_ (b : List S) (hs : List (Str × Option Nat × List HS))
  | app (o e : E) | ext (o e : E) | ins (o i e : E) | pop (o : E) | nev
inductive Fl where
  | nx | brk | rt (b : B)
def modL (f : List Val → Option (List Val)) (b : B) : M Fl := fun s h => match b with
  | .v (.ref a) => (match h[a]? with
    | some (.lst l) => (match f l with
      | some l' => .ok .nx s (h.set a (.lst l'))
      | none => .bad)
    | _ => .bad)
  | .sl i => (match s[i]? with
    | some (some (.l xs)) => (match f xs with
      | some l' => .ok .nx (s.set i (some (.l l'))) h
      | none => .bad)
    | some (some (.v (.ref a))) => (match h[a]? with
      | some (.lst l) => (match f l with
        | some l' => .ok .nx s (h.set a (.lst l'))
        | none => .bad)
      | _ => .bad)
    | _ => .bad)
  | .l xs => (match f xs with
    | some _ => .ok .nx s h
    | none => .bad)
  | _ => .bad
def appL (x : Val) (l : List Val) : Option (List Val) := if l.length < limit then some (l ++ [x]) else none
def extL (xs : List Val) (l : List Val) : Option (List Val) := if l.length + xs.length ≤ limit then some (l ++ xs) else none
def insL (i : Int) (x : Val) (l : List Val) : Option (List Val) := if l.length < limit ∧ 0 ≤ i ∧ i < 2 ^ 62 then some (l.take i.toNat ++ [x] ++ l.drop i.toNat) else none
def popL (l : List Val) : Option (List Val) := match l with
  | [] => none
  | a :: r => some ((a :: r).dropLast)
def appM (o e : M B) : M Fl := bind o fun b => bind (lstB b) fun _ => bind e fun y => bind (toVal y) fun x => modL (appL x) b
def extM (o e : M B) : M Fl := bind o fun b => bind (lstB b) fun _ => bind e fun y => bind (viewM y) fun w => match w with
  | .lst xs => modL (extL xs) b
  | _ => bad
def insM (o i e : M B) : M Fl := bind o fun b => bind (lstB b) fun _ => bind i fun z => bind (viewM z) fun w => bind (isoI w) fun k => bind e fun y => bind (toVal y) fun x => modL (insL k x) b
def popM (o : M B) : M Fl := bind o fun b => bind (lstB b) fun _ => modL popL b
def putAt (G : Env) (f : Str) (x : Val) (v : Val) : M Fl := fun s h => match v with
  | .ref a => (match h[a]? with
    | some (.ins c fs) => if G.att c f = true ∧ fs.length < 900 then .ok .nx s (h.set a (.ins c (putF f x fs))) else .bad
    | _ => .bad)
  | _ => .bad
def putIx (x : Val) (b : B) (i : View) : M Fl := fun s h => match b with
  | .v (.ref a) => (match h[a]?, i with
    | some (.lst l), .val (.int k) => (match ixN l.length k with
      | some j => .ok .nx s (h.set a (.lst (l.set j x)))
      | none => .bad)
    | some (.dic kvs), .val v => (match keyOf v with
      | some j => if kvs.length < limit then .ok .nx s (h.set a (.dic (putK j x kvs))) else .bad
      | none => .bad)
    | _, _ => .bad)
  | .sl p => (match s[p]?, i with
    | some (some (.l l)), .val (.int k) => (match ixN l.length k with
      | some j => .ok .nx (s.set p (some (.l (l.set j x)))) h
      | none => .bad)
    | some (some (.d kvs)), .val v => (match keyOf v with
      | some j => if kvs.length < limit then .ok .nx (s.set p (some (.d (putK j x kvs)))) h else .bad
      | none => .bad)
    | _, _ => .bad)
  | _ => .bad
def nx (m : M Unit) : M Fl := bind m fun _ => ret .nx
def unpack (l : List Nat) (w : View) : M Fl := match seqOf w with
  | some xs => nx (setSlots l xs)
  | none => bad
def unstar (i j : Nat) (w : View) : M Fl := match seqOf w with
  | some (x :: xs) => nx (bind (setSlot i (.v x)) fun _ => setSlot j (.l xs))
  | _ => bad
def asgNam (i : Nat) (b : B) : M Fl := bind (toArg b) fun x => nx (setSlot i x)
def loop (c : M Bool) (b : M Fl) : Nat → M Fl
  | 0 => bad
  | n + 1 => bind c fun t => if t = true then bind b fun f => match f with
    | .nx => loop c b n
    | .brk => ret .nx
    | .rt r => ret (.rt r)
  else ret .nx
def turnsMost : Nat := 1000000
def forL (src : Srcs) (t : Tg) (b : M Fl) : List Val → M Fl
  | [] => bind (chk src) fun _ => ret .nx
  | x :: r => bind (chk src) fun _ => bind (setTg t x) fun _ => bind b fun f => match f with
    | .nx => forL src t b r
    | .brk => ret .nx
    | .rt r => ret (.rt r)
def hsOne (c : Str) : HS → M Fl
  | .exc i => nx (setSlot i (.v (.exc c)))
  | .cst i v => nx (setSlot i (.v v))
  | .app i v => bind (ldSlot i) fun b => modL (appL v) b
def hsAll (c : Str) : List HS → M Fl
  | [] => ret .nx
  | x :: r => bind (hsOne c x) fun _ => hsAll c r
def handle (G : Env) (c : Str) : List (Str × Option Nat × List HS) → M Fl
  | [] => fun s h => .err c s h
  | (d, n, hs) :: r => if G.sub c d = true then bind (hsAll c hs) fun f => (match n with
      | none => ret f
      | some i => fun s h => .ok f (s.set i none) h)
    else handle G c r
def tryM (G : Env) (b : M Fl) (hs : List (Str × Option Nat × List HS)) : M Fl := fun s h => match b s h with
  | .err c s' h' => if G.isx c = true then handle G c hs s' h' else .bad
  | r => r
def seqM (a b : M Fl) : M Fl := bind a fun f => match f with
  | .nx => b
  | f => ret f
def asgM (G : Env) (t : T) (m : M B) : M Fl := match t with
  | .nam i => bind m (asgNam i)
  | .tup l => bind m fun b => bind (viewM b) (unpack l)
  | .star i j => bind m fun b => bind (viewM b) (unstar i j)
  | .att o f => bind m fun b => bind (toVal b) fun x => bind (den G o) fun y => bind (asVal y) fun v => putAt G f x v
  | .sub o i => bind m fun b => bind (toVal b) fun x => bind (den G o) fun y => bind (den G i) fun z => bind (viewM z) fun w => putIx x y w
def getIx (x y : View) : M B := match x, y with
  | .lst l, .val (.int i) => (match (ixN l.length i).bind fun j => l[j]? with
    | some v => ret (.v v)
    | none => bad)
  | .dic k, .val v => (match (keyOf v).bind fun j => lookK j k with
    | some w => ret (.v w)
    | none => bad)
  | _, _ => bad
def augM (G : Env) (t : T) (op : Operator) (m : M B) : M Fl := match t with
  | .nam i => bind (ldSlot i) fun x => bind m fun y => bind (op2 x y (iopV op)) (asgNam i)
  | .att o f => bind (den G o) fun y => bind (asVal y) fun v => bind (attV G f v) fun x => bind m fun z => bind (op2 x z (iopV op)) fun r => bind (asVal r) fun x => putAt G f x v
  | .sub o i => bind (den G o) fun y => bind (den G i) fun z => bind (op2 y z getIx) fun x => bind m fun u => bind (op2 x u (iopV op)) fun r => bind (asVal r) fun x => bind (viewM z) fun w => putIx x y w
  | _ => bad
def tgN : Tg → List Nat
  | .one i => [i]
  | .many l => l
def tN : T → List Nat
  | .nam i => [i]
  | .tup l => l
  | .star i j => [i, j]
  | _ => []
def hsN : HS → List Nat
  | .exc i => [i]
  | .cst i _ => [i]
  | .app _ _ => []
def hN : List (Str × Option Nat × List HS) → List Nat
  | [] => []
  | (_, n, hs) :: r => n.toList ++ hs.flatMap hsN ++ hN r
mutual
def asgS : S → List Nat
  | .asg t _ => tN t
  | .aug t _ _ => tN t
  | .ite _ a b => asgSs a ++ asgSs b
  | .whl _ b => asgSs b
  | .for_ t _ b => tgN t ++ asgSs b
  | .try_ b hs => asgSs b ++ hN hs
  | _ => []
termination_by structural x => x
def asgSs : List S → List Nat
  | [] => []
  | x :: r => asgS x ++ asgSs r
termination_by structural x => x
end
mutual
def ex (G : Env) : S → M Fl
  | .ex e => bind (den G e) fun _ => ret .nx
  | .rt e => bind (den G e) fun b => bind (toRet b) fun x => ret (.rt x)
  | .rtn => ret (.rt (.v .non))
  | .asg t e => asgM G t (den G e)
  | .aug t op e => augM G t op (den G e)
  | .ite c a b => bind (den G c) fun x => bind (truth x) fun t => if t = true then exs G a else exs G b
  | .whl c b => loop (bind (den G c) truth) (exs G b) turnsMost
  | .for_ t it b => bind (dn G it).it fun p => if srcOff (tgN t ++ asgSs b) p.2 = true then forL p.2 t (exs G b) p.1 else bad
  | .brk => ret .brk
  | .pas => ret .nx
  | .rai c => fun s h => .err c s h
  | .try_ b hs => tryM G (exs G b) hs
  | .app o e => appM (den G o) (den G e)
  | .ext o e => extM (den G o) (den G e)
  | .ins o i e => insM (den G o) (den G i) (den G e)
  | .pop o => popM (den G o)
  | .nev => bad
termination_by structural x => x
def exs (G : Env) : List S → M Fl
  | [] => ret .nx
  | x :: r => seqM (ex G x) (exs G r)
termination_by structural x => x
end
structure Fn where
  np : Nat
  ns : Nat
  body : List S
def endOf : R Fl → RC
  | .ok .nx _ h => .ok (.v .non) h
  | .ok (.rt b) _ h => .ok b h
  | .ok .brk _ _ => .bad
  | .err c _ h => .err c h
  | .bad => .bad
def runFn (G : Env) (f : Fn) (args : List B) (h : Hp) : RC :=
  if args.length = f.np then endOf (exs G f.body (args.map some ++ List.replicate (f.ns - f.np) none) h) else .bad
structure Txt0 where
  fn : Str → Option Fn
  gv : Str → Option Val
  gd : Str → Option (List (Str × Val))
  meth : Str → Str → Option Str
  att : Str → Str → Bool
  init : Str → Option Str
  sub : Str → Str → Bool
  isx : Str → Bool
def envOf (t : Txt0) (call : Str → List B → Hp → RC) : Env := ⟨t.gv, t.gd, call, t.meth, t.att, t.init, t.sub, t.isx⟩
def call (t : Txt0) : Nat → Str → List B → Hp → RC
  | 0 => fun _ _ _ => .bad
  | k + 1 => fun f args h => match t.fn f with
    | some fd => runFn (envOf t (call t k)) fd args h
    | none => .bad
end Mn
end
section
namespace Ms
open PySem PySem.Spec PyProof.Rows L2
structure Ct where
  K : PySem.W.Frag
  cl : Str → Addr
  ex : Str → Bool
def ExV (cls : Value) (a : Addr) : HO := .ext fun h => ∃ (oe : Obj) (vs : Array Value), h.get? a = some oe ∧ Zc cls none oe ∧ oe.data = .fields vs
section
variable (C : Ct) (μ : List Addr) (H : Hp)
mutual
def RV : Mn.Val → V → Prop
  | .non, v => v = .non
  | .bl b, v => v = .bl b
  | .int i, v => v = .int i
  | .str x, v => v = .str x ∧ PyData.strOk x = true
  | .tup l, v => ∃ a hs, v = .ref a ∧ SqT C.K H a hs ∧ RVs l hs
  | .exc c, v => C.ex c = true ∧ ∃ a, v = .ref a ∧ H a = some (ExV (Value.ref (C.cl c)) a)
  | .ref i, v => ∃ a, v = .ref a ∧ μ[i]? = some a
def RVs : List Mn.Val → List V → Prop
  | [], vs => vs = []
  | x :: r, vs => ∃ v vr, vs = v :: vr ∧ RV x v ∧ RVs r vr
end
def RKs : List (Mn.Key × Mn.Val) → List (Key × V) → Prop
  | [], vs => vs = []
  | (k, x) :: r, vs => ∃ v vr, vs = (k, v) :: vr ∧ RV C μ H x v ∧ RKs r vr
def RFs : List (Str × Mn.Val) → List (Str × V) → Prop
  | [], vs => vs = []
  | (k, x) :: r, vs => ∃ v vr, vs = (k, v) :: vr ∧ RV C μ H x v ∧ RFs r vr
def RO : Mn.Obj → Addr → Prop
  | .lst l, a => ∃ hs, H a = some (.lst hs) ∧ RVs C μ H l hs
  | .frz l, a => ∃ o hs, H a = some (.frz o (.lst hs)) ∧ RVs C μ H l hs
  | .dic k, a => ∃ hk, H a = some (.dK hk) ∧ RKs C μ H k hk
  | .ins c fs, a => ∃ dx hf, H a = some (.ins (C.cl c) dx hf) ∧ RFs C μ H fs hf
def RB0 : Mn.B → V → Prop
  | .v x, v => RV C μ H x v
  | .l xs, v => ∃ a hs, v = .ref a ∧ H a = some (.lst hs) ∧ RVs C μ H xs hs ∧ a ∉ μ
  | .d k, v => ∃ a hk, v = .ref a ∧ H a = some (.dK hk) ∧ RKs C μ H k hk ∧ a ∉ μ
  | .sl _, _ => False
end
def isOwn : Mn.B → Prop
  | .l _ => True
  | .d _ => True
  | _ => False
def Own (ρ : Mn.Slots) (σ : L2.St) (a : Addr) : Prop := ∃ (i : Nat) (b : Mn.B), ρ[i]? = some (some b) ∧ isOwn b ∧ σ[i]? = some (some (V.ref a))
structure Sta (C : Ct) (μ : List Addr) (ρ : Mn.Slots) (h : Mn.Hp) (σ : L2.St) (H : Hp) : Prop where
  nd : μ.Nodup
  len : μ.length = h.length
  obj : ∀ (i : Nat) (o : Mn.Obj), h[i]? = some o → ∃ a, μ[i]? = some a ∧ RO C μ H o a
  slen : ρ.length = σ.length
  slot : ∀ (i : Nat) (b : Mn.B), ρ[i]? = some (some b) → ∃ v, σ[i]? = some (some v) ∧ RB0 C μ H b v
  own : ∀ (i j : Nat) (b c : Mn.B) (a : Addr), ρ[i]? = some (some b) → isOwn b → σ[i]? = some (some (V.ref a)) → ρ[j]? = some (some c) → isOwn c → σ[j]? = some (some (V.ref a)) → i = j
structure Fra (μ : List Addr) (ρ : Mn.Slots) (σ : L2.St) (H : Hp) (μ' : List Addr) (ρ' : Mn.Slots) (σ' : L2.St) (H' : Hp) : Prop where
  pre : ∃ ν, μ' = μ ++ ν
  keep : ∀ a o, H a = some o → a ∉ μ → ¬ Own ρ σ a → H' a = some o ∧ a ∉ μ' ∧ ¬ Own ρ' σ' a
  live : ∀ a, H' a = none → H a = none
def RB (C : Ct) (μ : List Addr) (ρ : Mn.Slots) (σ : L2.St) (H : Hp) : Mn.B → V → Prop
  | .v x, v => RV C μ H x v
  | .l xs, v => ∃ a hs, v = .ref a ∧ H a = some (.lst hs) ∧ RVs C μ H xs hs ∧ a ∉ μ ∧ ¬ Own ρ σ a
  | .d k, v => ∃ a hk, v = .ref a ∧ H a = some (.dK hk) ∧ RKs C μ H k hk ∧ a ∉ μ ∧ ¬ Own ρ σ a
  | .sl i, v => σ[i]? = some (some v)
section
variable {C : Ct} {μ : List Addr} {H : Hp}
theorem RVs.length : ∀ {l : List Mn.Val} {vs : List V}, RVs C μ H l vs → l.length = vs.length
  | [], vs, h => by
    rw [show vs = [] from h]
    rfl
  | x :: r, vs, h => by
    obtain ⟨v, vr, rfl, _, h2⟩ := h
    rw [List.length_cons, List.length_cons, RVs.length h2]
theorem RVs.get : ∀ {l : List Mn.Val} {vs : List V} {i : Nat} {x : Mn.Val}, RVs C μ H l vs → l[i]? = some x → ∃ v, vs[i]? = some v ∧ RV C μ H x v
  | [], _, _, _, _, e => by simp at e
  | y :: r, vs, 0, x, h, e => by
    obtain ⟨v, vr, rfl, h1, h2⟩ := h
    simp at e
    subst e
    exact ⟨v, rfl, h1⟩
  | y :: r, vs, i + 1, x, h, e => by
    obtain ⟨v, vr, rfl, h1, h2⟩ := h
    obtain ⟨u, e1, e2⟩ := RVs.get (i := i) h2 (by simpa using e)
    exact ⟨u, by simpa using e1, e2⟩
theorem RVs.append : ∀ {l q : List Mn.Val} {vs us : List V}, RVs C μ H l vs → RVs C μ H q us → RVs C μ H (l ++ q) (vs ++ us)
  | [], q, vs, us, h, h2 => by
    rw [show vs = [] from h]
    exact h2
  | x :: r, q, vs, us, h, h2 => by
    obtain ⟨v, vr, rfl, a, b⟩ := h
    exact ⟨v, vr ++ us, rfl, a, RVs.append b h2⟩
theorem RVs.set : ∀ {l : List Mn.Val} {vs : List V} {x : Mn.Val} {v : V} (i : Nat), RVs C μ H l vs → RV C μ H x v → RVs C μ H (l.set i x) (vs.set i v)
  | [], vs, x, v, i, h, _ => by
    rw [show vs = [] from h]
    rfl
  | y :: r, vs, x, v, 0, h, h2 => by
    obtain ⟨u, vr, rfl, a, b⟩ := h
    exact ⟨v, vr, rfl, h2, b⟩
  | y :: r, vs, x, v, i + 1, h, h2 => by
    obtain ⟨u, vr, rfl, a, b⟩ := h
    exact ⟨u, vr.set i v, rfl, a, RVs.set i b h2⟩
theorem RVs.take : ∀ {l : List Mn.Val} {vs : List V} (n : Nat), RVs C μ H l vs → RVs C μ H (l.take n) (vs.take n)
  | [], vs, n, h => by
    rw [show vs = [] from h]
    simp [RVs]
  | x :: r, vs, 0, h => by simp [RVs]
  | x :: r, vs, n + 1, h => by
    obtain ⟨u, vr, rfl, a, b⟩ := h
    exact ⟨u, vr.take n, rfl, a, RVs.take n b⟩
theorem RVs.drop : ∀ {l : List Mn.Val} {vs : List V} (n : Nat), RVs C μ H l vs → RVs C μ H (l.drop n) (vs.drop n)
  | [], vs, n, h => by
    rw [show vs = [] from h]
    simp [RVs]
  | x :: r, vs, 0, h => h
  | x :: r, vs, n + 1, h => by
    obtain ⟨u, vr, rfl, a, b⟩ := h
    exact RVs.drop n b
theorem RVs.reverse {l : List Mn.Val} : ∀ {vs : List V}, RVs C μ H l vs → RVs C μ H l.reverse vs.reverse := by
  induction l with
  | nil =>
    intro vs h
    rw [show vs = [] from h]
    exact rfl
  | cons x r ih =>
    intro vs h
    obtain ⟨u, vr, rfl, a, b⟩ := h
    rw [List.reverse_cons, List.reverse_cons]
    exact RVs.append (ih b) ⟨u, [], rfl, a, rfl⟩
theorem RVs.ints {l : List Mn.Val} : ∀ {vs : List V} {ns : List Int}, RVs C μ H l vs → Mn.allInts l = some ns → vs = ns.map V.int := by
  induction l with
  | nil =>
    intro vs ns h e
    cases e
    exact h
  | cons x r ih =>
    intro vs ns h e
    obtain ⟨v, vr, rfl, h1, h2⟩ := h
    cases x <;> simp [Mn.allInts] at e
    obtain ⟨q, e1, rfl⟩ := e
    rw [show v = _ from h1, ih h2 e1]
    rfl
theorem RVs.bools {l : List Mn.Val} : ∀ {vs : List V} {ns : List Bool}, RVs C μ H l vs → Mn.allBools l = some ns → vs = ns.map V.bl := by
  induction l with
  | nil =>
    intro vs ns h e
    cases e
    exact h
  | cons x r ih =>
    intro vs ns h e
    obtain ⟨v, vr, rfl, h1, h2⟩ := h
    cases x <;> simp [Mn.allBools] at e
    obtain ⟨q, e1, rfl⟩ := e
    rw [show v = _ from h1, ih h2 e1]
    rfl
theorem RVs.strs {l : List Mn.Val} : ∀ {vs : List V} {ns : List Str}, RVs C μ H l vs → Mn.allStrs l = some ns → vs = ns.map V.str ∧ ∀ x ∈ ns, PyData.strOk x = true := by
  induction l with
  | nil =>
    intro vs ns h e
    cases e
    exact ⟨h, by simp⟩
  | cons x r ih =>
    intro vs ns h e
    obtain ⟨v, vr, rfl, h1, h2⟩ := h
    cases x <;> simp [Mn.allStrs] at e
    obtain ⟨q, e1, rfl⟩ := e
    obtain ⟨e2, e3⟩ := ih h2 e1
    obtain ⟨e4, e5⟩ := h1
    refine ⟨by rw [e4, e2] <;> rfl, fun y hy => ?_⟩
    rcases List.mem_cons.mp hy with rfl | hy
    · exact e5
    · exact e3 y hy
theorem RVs.ofInts : ∀ ns : List Int, RVs C μ H (ns.map .int) (ns.map V.int)
  | [] => rfl
  | i :: r => ⟨_, _, rfl, rfl, RVs.ofInts r⟩
theorem RVs.ofStrs : ∀ ns : List Str, (∀ x ∈ ns, PyData.strOk x = true) → RVs C μ H (ns.map .str) (ns.map V.str)
  | [], _ => rfl
  | i :: r, h => ⟨_, _, rfl, ⟨rfl, h i (by simp)⟩, RVs.ofStrs r fun x hx => h x (by simp [hx])⟩
theorem RKs.length : ∀ {l : List (Mn.Key × Mn.Val)} {vs : List (Key × V)}, RKs C μ H l vs → l.length = vs.length
  | [], vs, h => by
    rw [show vs = [] from h]
    rfl
  | (k, x) :: r, vs, h => by
    obtain ⟨v, vr, rfl, _, h2⟩ := h
    rw [List.length_cons, List.length_cons, RKs.length h2]
theorem RFs.length : ∀ {l : List (Str × Mn.Val)} {vs : List (Str × V)}, RFs C μ H l vs → l.length = vs.length
  | [], vs, h => by
    rw [show vs = [] from h]
    rfl
  | (k, x) :: r, vs, h => by
    obtain ⟨v, vr, rfl, _, h2⟩ := h
    rw [List.length_cons, List.length_cons, RFs.length h2]
end
def Ours (o : Option HO) : Prop := (∃ xs, o = some (.lst xs)) ∨ (∃ xs, o = some (.dK xs)) ∨ (∃ a b c, o = some (.ins a b c)) ∨ ∃ o' xs, o = some (.frz o' (.lst xs))
section
variable {C : Ct} {μ μ' : List Addr} {ρ ρ' : Mn.Slots} {h h' : Mn.Hp} {σ σ' : L2.St} {H H' : Hp}
theorem Sta.ours (S : Sta C μ ρ h σ H) {a : Addr} (ha : a ∈ μ) : Ours (H a) := by
  obtain ⟨i, hi⟩ := List.getElem?_of_mem ha
  have hlt : i < h.length := by
    rw [← S.len]
    exact (List.getElem?_eq_some_iff.mp hi).1
  obtain ⟨b, hb, r⟩ := S.obj i h[i] (by simp [hlt])
  rw [hi] at hb
  cases hb
  cases e : h[i] with
  | lst l =>
    rw [e] at r
    obtain ⟨hs, e1, _⟩ := r
    exact .inl ⟨_, e1⟩
  | frz l =>
    rw [e] at r
    obtain ⟨o, hs, e1, _⟩ := r
    exact .inr (.inr (.inr ⟨_, _, e1⟩))
  | dic l =>
    rw [e] at r
    obtain ⟨hs, e1, _⟩ := r
    exact .inr (.inl ⟨_, e1⟩)
  | ins c fs =>
    rw [e] at r
    obtain ⟨dx, hf, e1, _⟩ := r
    exact .inr (.inr (.inl ⟨_, _, _, e1⟩))
theorem Sta.ownIs (S : Sta C μ ρ h σ H) {a : Addr} (ha : Own ρ σ a) : ((∃ xs, H a = some (.lst xs)) ∨ ∃ xs, H a = some (.dK xs)) ∧ a ∉ μ := by
  obtain ⟨i, b, e1, e2, e3⟩ := ha
  obtain ⟨v, e4, r⟩ := S.slot i b e1
  rw [e3] at e4
  cases e4
  cases b with
  | v x => exact e2.elim
  | sl x => exact e2.elim
  | l xs =>
    obtain ⟨a', hs, e5, e6, _, e7⟩ := r
    cases e5
    exact ⟨.inl ⟨_, e6⟩, e7⟩
  | d xs =>
    obtain ⟨a', hs, e5, e6, _, e7⟩ := r
    cases e5
    exact ⟨.inr ⟨_, e6⟩, e7⟩
theorem Sta.ownOurs (S : Sta C μ ρ h σ H) {a : Addr} (ha : Own ρ σ a) : Ours (H a) := by
  rcases (S.ownIs ha).1 with ⟨xs, e⟩ | ⟨xs, e⟩
  · exact .inl ⟨_, e⟩
  · exact .inr (.inl ⟨_, e⟩)
theorem Fra.stays (S : Sta C μ ρ h σ H) (F : Fra μ ρ σ H μ' ρ' σ' H') {a : Addr} {o : HO} (e : H a = some o) (n : ¬ Ours (some o)) : H' a = some o ∧ a ∉ μ' ∧ ¬ Own ρ' σ' a := by
  refine F.keep a o e (fun z => n ?_) fun z => n ?_
  · rw [← e]
    exact S.ours z
  · rw [← e]
    exact S.ownOurs z
theorem not_ours_tup {xs : List V} : ¬ Ours (some (.tup xs)) := by
  rintro (⟨_, e⟩ | ⟨_, e⟩ | ⟨_, _, _, e⟩ | ⟨_, _, e⟩) <;> cases e
theorem not_ours_frzT {o : Obj} {xs : List V} : ¬ Ours (some (.frz o (.tup xs))) := by
  rintro (⟨_, e⟩ | ⟨_, e⟩ | ⟨_, _, _, e⟩ | ⟨_, _, e⟩) <;> cases e
theorem not_ours_exc {c : Value} {a : Addr} : ¬ Ours (some (ExV c a)) := by
  rintro (⟨_, e⟩ | ⟨_, e⟩ | ⟨_, _, _, e⟩ | ⟨_, _, e⟩) <;> cases e
theorem Fra.sqT (S : Sta C μ ρ h σ H) (F : Fra μ ρ σ H μ' ρ' σ' H') {a : Addr} {hs : List V} (q : SqT C.K H a hs) : SqT C.K H' a hs := by
  rcases q with (e | ⟨o, e⟩) | q
  · exact .inl (.inl (F.stays S e not_ours_tup).1)
  · exact .inl (.inr ⟨o, (F.stays S e not_ours_frzT).1⟩)
  · exact .inr q
mutual
theorem Fra.rv (S : Sta C μ ρ h σ H) (F : Fra μ ρ σ H μ' ρ' σ' H') : ∀ {x : Mn.Val} {v : V}, RV C μ H x v → RV C μ' H' x v
  | .non, _, r => r
  | .bl _, _, r => r
  | .int _, _, r => r
  | .str _, _, r => r
  | .tup l, v, ⟨a, hs, e, q, r⟩ => ⟨a, hs, e, F.sqT S q, Fra.rvs S F r⟩
  | .exc c, v, ⟨x, a, e, q⟩ => ⟨x, a, e, (F.stays S q not_ours_exc).1⟩
  | .ref i, v, ⟨a, e, q⟩ => by
    obtain ⟨ν, e2⟩ := F.pre
    refine ⟨a, e, ?_⟩
    rw [e2, List.getElem?_append_left (List.getElem?_eq_some_iff.mp q).1]
    exact q
theorem Fra.rvs (S : Sta C μ ρ h σ H) (F : Fra μ ρ σ H μ' ρ' σ' H') : ∀ {x : List Mn.Val} {v : List V}, RVs C μ H x v → RVs C μ' H' x v
  | [], _, r => r
  | x :: l, v, ⟨u, ur, e, r1, r2⟩ => ⟨u, ur, e, Fra.rv S F r1, Fra.rvs S F r2⟩
end
theorem Fra.rks (S : Sta C μ ρ h σ H) (F : Fra μ ρ σ H μ' ρ' σ' H') : ∀ {x : List (Mn.Key × Mn.Val)} {v : List (Key × V)}, RKs C μ H x v → RKs C μ' H' x v
  | [], _, r => r
  | (k, x) :: l, v, ⟨u, ur, e, r1, r2⟩ => ⟨u, ur, e, F.rv S r1, Fra.rks S F r2⟩
theorem Fra.rfs (S : Sta C μ ρ h σ H) (F : Fra μ ρ σ H μ' ρ' σ' H') : ∀ {x : List (Str × Mn.Val)} {v : List (Str × V)}, RFs C μ H x v → RFs C μ' H' x v
  | [], _, r => r
  | (k, x) :: l, v, ⟨u, ur, e, r1, r2⟩ => ⟨u, ur, e, F.rv S r1, Fra.rfs S F r2⟩
theorem Fra.rb (S : Sta C μ ρ h σ H) (F : Fra μ ρ σ H μ' ρ' σ H') {b : Mn.B} {v : V} (r : RB C μ ρ σ H b v) : RB C μ' ρ' σ H' b v := by
  cases b with
  | v x => exact F.rv S r
  | l xs =>
    obtain ⟨a, hs, e, q, r1, n1, n2⟩ := r
    obtain ⟨k1, k2, k3⟩ := F.keep a _ q n1 n2
    exact ⟨a, hs, e, k1, F.rvs S r1, k2, k3⟩
  | d xs =>
    obtain ⟨a, hs, e, q, r1, n1, n2⟩ := r
    obtain ⟨k1, k2, k3⟩ := F.keep a _ q n1 n2
    exact ⟨a, hs, e, k1, F.rks S r1, k2, k3⟩
  | sl i => exact r
theorem Fra.refl : Fra μ ρ σ H μ ρ σ H := ⟨⟨[], by simp⟩, fun a o e n m => ⟨e, n, m⟩, fun _ e => e⟩
theorem Fra.trans {μ2 : List Addr} {ρ2 : Mn.Slots} {σ2 : L2.St} {H2 : Hp} (F : Fra μ ρ σ H μ' ρ' σ' H') (G : Fra μ' ρ' σ' H' μ2 ρ2 σ2 H2) : Fra μ ρ σ H μ2 ρ2 σ2 H2 := by
  obtain ⟨ν, e⟩ := F.pre
  obtain ⟨ν2, e2⟩ := G.pre
  refine ⟨⟨ν ++ ν2, by rw [e2, e, List.append_assoc]⟩, fun a o q n m => ?_, fun a z => F.live a (G.live a z)⟩
  obtain ⟨k1, k2, k3⟩ := F.keep a o q n m
  exact G.keep a o k1 k2 k3
end
end Ms
end
section
namespace Ms
open PySem PySem.Spec L2
abbrev RelT (α β : Type) := Hp → List Addr → Mn.Slots → L2.St → Hp → α → β → Prop
def Good (C : Ct) (W : WX) (σ : L2.St) {α β : Type} (Rr : RelT α β) (μ₀ : List Addr) (ρ₀ : Mn.Slots) (H₀ : Hp) (Q : β → Hp → Prop) : Mn.R α → Prop
  | .bad => False
  | .err c ρ h => ∀ μ H, Sta C μ ρ h σ H → Fra μ₀ ρ₀ σ H₀ μ ρ σ H → W (.ref (C.cl c)) none σ H
  | .ok a ρ h => ∀ μ H x, Sta C μ ρ h σ H → Fra μ₀ ρ₀ σ H₀ μ ρ σ H → Rr H₀ μ ρ σ H a x → Q x H
def TRd (C : Ct) (W : WX) {α β : Type} (Rr : RelT α β) (m : Mn.M α) : L2.St → Hp → (β → Hp → Prop) → Prop := fun σ H Q =>
  ∃ μ ρ h, Sta C μ ρ h σ H ∧ Good C W σ Rr μ ρ H Q (m ρ h)
def RBx (C : Ct) : RelT Mn.B V := fun H₀ μ ρ σ H b v => RB C μ ρ σ H b v ∧ (isOwn b → ∀ a, v = .ref a → H₀ a = none)
def RVx (C : Ct) : RelT Mn.Val V := fun _ μ _ _ H x v => RV C μ H x v
def RVsx (C : Ct) : RelT (List Mn.Val) (List V) := fun _ μ _ _ H x v => RVs C μ H x v
def RBo : RelT Bool Bool := fun _ _ _ _ _ a b => a = b
abbrev TEv (C : Ct) (W : WX) (m : Mn.M Mn.B) : TE := TRd C W (RBx C) m
abbrev TTv (C : Ct) (W : WX) (m : Mn.M Bool) : TT := TRd C W RBo m
section
variable {C : Ct} {W : WX} {σ : L2.St} {α β γ δ : Type} {μ₀ μ : List Addr} {ρ₀ ρ : Mn.Slots} {h : Mn.Hp} {H₀ H : Hp}
theorem sub {R1 : RelT α β} {R2 : RelT γ δ} {m : Mn.M α} {f : α → Mn.M γ} {Q2 : δ → Hp → Prop} {Q1 : β → Hp → Prop} (S : Sta C μ ρ h σ H) (F : Fra μ₀ ρ₀ σ H₀ μ ρ σ H) (g : Good C W σ R2 μ₀ ρ₀ H₀ Q2 (Mn.bind m f ρ h))
    (k : ∀ x H1 μ1 ρ1 h1 a, Sta C μ1 ρ1 h1 σ H1 → Fra μ ρ σ H μ1 ρ1 σ H1 → R1 H μ1 ρ1 σ H1 a x → Good C W σ R2 μ₀ ρ₀ H₀ Q2 (f a ρ1 h1) → Q1 x H1) : TRd C W R1 m σ H Q1 := by
  refine ⟨μ, ρ, h, S, ?_⟩
  unfold Mn.bind at g
  cases e : m ρ h with
  | bad =>
    rw [e] at g
    exact g
  | err c ρ1 h1 =>
    rw [e] at g
    exact fun μ1 H1 S1 F1 => g μ1 H1 S1 (F.trans F1)
  | ok a ρ1 h1 =>
    rw [e] at g
    exact fun μ1 H1 x S1 F1 r => k x H1 μ1 ρ1 h1 a S1 F1 r g
theorem pure_step {R2 : RelT γ δ} {m : Mn.M α} {f : α → Mn.M γ} {Q2 : δ → Hp → Prop} (g : Good C W σ R2 μ₀ ρ₀ H₀ Q2 (Mn.bind m f ρ h)) (hp : ∀ a s' h', m ρ h = .ok a s' h' → s' = ρ ∧ h' = h) (he : ∀ c s' h', m ρ h ≠ .err c s' h') : ∃ a, m ρ h = .ok a ρ h ∧ Good C W σ R2 μ₀ ρ₀ H₀ Q2 (f a ρ h) := by
  unfold Mn.bind at g
  cases e : m ρ h with
  | bad =>
    rw [e] at g
    exact g.elim
  | err c ρ1 h1 => exact absurd e (he c ρ1 h1)
  | ok a ρ1 h1 =>
    obtain ⟨rfl, rfl⟩ := hp a ρ1 h1 e
    rw [e] at g
    exact ⟨a, rfl, g⟩
theorem step_view {R2 : RelT γ δ} {b : Mn.B} {f : Mn.View → Mn.M γ} {Q2 : δ → Hp → Prop} (g : Good C W σ R2 μ₀ ρ₀ H₀ Q2 (Mn.bind (Mn.viewM b) f ρ h)) : ∃ w, Mn.view ρ h b = some w ∧ Good C W σ R2 μ₀ ρ₀ H₀ Q2 (f w ρ h) := by
  unfold Mn.bind Mn.viewM at g
  cases e : Mn.view ρ h b with
  | none =>
    rw [e] at g
    exact g.elim
  | some w =>
    rw [e] at g
    exact ⟨w, rfl, g⟩
theorem step_op2 {R2 : RelT γ δ} {x y : Mn.B} {f : Mn.View → Mn.View → Mn.M γ} {Q2 : δ → Hp → Prop} (g : Good C W σ R2 μ₀ ρ₀ H₀ Q2 (Mn.op2 x y f ρ h)) : ∃ v w, Mn.view ρ h x = some v ∧ Mn.view ρ h y = some w ∧ Good C W σ R2 μ₀ ρ₀ H₀ Q2 (f v w ρ h) := by
  unfold Mn.op2 at g
  cases e : Mn.view ρ h x with
  | none =>
    rw [e] at g
    exact g.elim
  | some v =>
    cases e2 : Mn.view ρ h y with
    | none =>
      rw [e, e2] at g
      exact g.elim
    | some w =>
      rw [e, e2] at g
      exact ⟨v, w, rfl, rfl, g⟩
theorem step_op2b {R2 : RelT γ δ} {x y : Mn.B} {f : Mn.View → Mn.View → Mn.M α} {k : α → Mn.M γ} {Q2 : δ → Hp → Prop} (g : Good C W σ R2 μ₀ ρ₀ H₀ Q2 (Mn.bind (Mn.op2 x y f) k ρ h)) : ∃ v w, Mn.view ρ h x = some v ∧ Mn.view ρ h y = some w ∧ Good C W σ R2 μ₀ ρ₀ H₀ Q2 (Mn.bind (f v w) k ρ h) := by
  unfold Mn.bind Mn.op2 at g
  cases e : Mn.view ρ h x with
  | none =>
    rw [e] at g
    exact g.elim
  | some v =>
    cases e2 : Mn.view ρ h y with
    | none =>
      rw [e, e2] at g
      exact g.elim
    | some w =>
      rw [e, e2] at g
      exact ⟨v, w, rfl, rfl, g⟩
theorem step_isoI {R2 : RelT γ δ} {w : Mn.View} {f : Int → Mn.M γ} {Q2 : δ → Hp → Prop} (g : Good C W σ R2 μ₀ ρ₀ H₀ Q2 (Mn.bind (Mn.isoI w) f ρ h)) : ∃ i, w = .val (.int i) ∧ Good C W σ R2 μ₀ ρ₀ H₀ Q2 (f i ρ h) := by
  cases w with
  | lst l => exact g.elim
  | dic l => exact g.elim
  | val x => cases x <;> first | exact g.elim | exact ⟨_, rfl, g⟩
theorem step_truth {R2 : RelT γ δ} {b : Mn.B} {f : Bool → Mn.M γ} {Q2 : δ → Hp → Prop} (g : Good C W σ R2 μ₀ ρ₀ H₀ Q2 (Mn.bind (Mn.truth b) f ρ h)) : ∃ t, b = .v (.bl t) ∧ Good C W σ R2 μ₀ ρ₀ H₀ Q2 (f t ρ h) := by
  cases b with
  | l l => exact g.elim
  | d l => exact g.elim
  | sl l => exact g.elim
  | v x => cases x <;> first | exact g.elim | exact ⟨_, rfl, g⟩
theorem step_asVal {R2 : RelT γ δ} {b : Mn.B} {f : Mn.Val → Mn.M γ} {Q2 : δ → Hp → Prop} (g : Good C W σ R2 μ₀ ρ₀ H₀ Q2 (Mn.bind (Mn.asVal b) f ρ h)) : ∃ x, b = .v x ∧ Good C W σ R2 μ₀ ρ₀ H₀ Q2 (f x ρ h) := by
  cases b with
  | l l => exact g.elim
  | d l => exact g.elim
  | sl l => exact g.elim
  | v x => exact ⟨x, rfl, g⟩
theorem mem_ne {a p : Addr} {o : HO} (S : Sta C μ ρ h σ H) (hp : H p = none) (ha : a ∈ μ ∨ Own ρ σ a) : a ≠ p := by
  rintro rfl
  have q : Ours (H a) := by
    rcases ha with ha | ha
    · exact S.ours ha
    · exact S.ownOurs ha
  rw [hp] at q
  rcases q with ⟨_, e⟩ | ⟨_, e⟩ | ⟨_, _, _, e⟩ | ⟨_, _, e⟩ <;> cases e
theorem Fra.beside {p : Addr} {o : HO} (hp : H p = none) : Fra μ ρ σ H μ ρ σ (upd H p o) :=
  ⟨⟨[], by simp⟩, fun a u e n m => ⟨by rw [upd_ne (ne_of_none e hp)]; exact e, n, m⟩, fun a e => by
    by_cases z : a = p
    · rw [z]; exact hp
    · rw [upd_ne z] at e; exact e⟩
theorem RO.mono {H' : Hp} {μ' : List Addr} {ρ' : Mn.Slots} {σ' : L2.St} {o : Mn.Obj} {a : Addr} (S : Sta C μ ρ h σ H) (F : Fra μ ρ σ H μ' ρ' σ' H') (k : H' a = H a) (r : RO C μ H o a) : RO C μ' H' o a := by
  cases o with
  | lst l =>
    obtain ⟨hs, e, r⟩ := r
    exact ⟨hs, k.trans e, F.rvs S r⟩
  | frz l =>
    obtain ⟨o, hs, e, r⟩ := r
    exact ⟨o, hs, k.trans e, F.rvs S r⟩
  | dic l =>
    obtain ⟨hs, e, r⟩ := r
    exact ⟨hs, k.trans e, F.rks S r⟩
  | ins c fs =>
    obtain ⟨dx, hf, e, r⟩ := r
    exact ⟨dx, hf, k.trans e, F.rfs S r⟩
theorem Sta.mono {H' : Hp} (S : Sta C μ ρ h σ H) (F : Fra μ ρ σ H μ ρ σ H') (k : ∀ a, a ∈ μ ∨ Own ρ σ a → H' a = H a) : Sta C μ ρ h σ H' := by
  refine ⟨S.nd, S.len, fun i o e => ?_, S.slen, fun i b e => ?_, S.own⟩
  · obtain ⟨a, e1, r⟩ := S.obj i o e
    exact ⟨a, e1, RO.mono S F (k a (.inl (List.mem_of_getElem? e1))) r⟩
  · obtain ⟨v, e1, r⟩ := S.slot i b e
    refine ⟨v, e1, ?_⟩
    cases b with
    | v x => exact F.rv S r
    | sl x => exact r
    | l xs =>
      obtain ⟨a, hs, rfl, e2, r2, n⟩ := r
      exact ⟨a, hs, rfl, (k a (.inr ⟨i, _, e, trivial, e1⟩)).trans e2, F.rvs S r2, n⟩
    | d xs =>
      obtain ⟨a, hs, rfl, e2, r2, n⟩ := r
      exact ⟨a, hs, rfl, (k a (.inr ⟨i, _, e, trivial, e1⟩)).trans e2, F.rks S r2, n⟩
theorem Sta.beside {p : Addr} {o : HO} (S : Sta C μ ρ h σ H) (hp : H p = none) : Sta C μ ρ h σ (upd H p o) :=
  S.mono (Fra.beside hp) fun a ha => upd_ne (mem_ne (o := o) S hp ha)
theorem RB.newL {p : Addr} {xs : List Mn.Val} {hs : List V} (S : Sta C μ ρ h σ H) (hp : H p = none) (r : RVs C μ H xs hs) : RB C μ ρ σ (upd H p (.lst hs)) (.l xs) (.ref p) :=
  ⟨p, hs, rfl, upd_same, (Fra.beside hp).rvs S r, fun z => mem_ne (o := .lst hs) S hp (.inl z) rfl, fun z => mem_ne (o := .lst hs) S hp (.inr z) rfl⟩
theorem RB.newD {p : Addr} {xs : List (Mn.Key × Mn.Val)} {hs : List (Key × V)} (S : Sta C μ ρ h σ H) (hp : H p = none) (r : RKs C μ H xs hs) : RB C μ ρ σ (upd H p (.dK hs)) (.d xs) (.ref p) :=
  ⟨p, hs, rfl, upd_same, (Fra.beside hp).rks S r, fun z => mem_ne (o := .dK hs) S hp (.inl z) rfl, fun z => mem_ne (o := .dK hs) S hp (.inr z) rfl⟩
theorem RV.newT {p : Addr} {xs : List Mn.Val} {hs : List V} (S : Sta C μ ρ h σ H) (hp : H p = none) (r : RVs C μ H xs hs) : RV C μ (upd H p (.tup hs)) (.tup xs) (.ref p) :=
  ⟨p, hs, rfl, SqT.of upd_same, (Fra.beside hp).rvs S r⟩
theorem fin_v {Q : VK} {x : Mn.Val} {v : V} (S : Sta C μ ρ h σ H) (F : Fra μ₀ ρ₀ σ H₀ μ ρ σ H) (g : Good C W σ (RBx C) μ₀ ρ₀ H₀ Q (Mn.ret (.v x) ρ h)) (r : RV C μ H x v) : Q v H :=
  g μ H v S F ⟨r, fun z => z.elim⟩
theorem fin_b {Q : Bool → Hp → Prop} {t : Bool} (S : Sta C μ ρ h σ H) (F : Fra μ₀ ρ₀ σ H₀ μ ρ σ H) (g : Good C W σ RBo μ₀ ρ₀ H₀ Q (Mn.ret t ρ h)) : Q t H :=
  g μ H t S F rfl
theorem fin_l {Q : VK} {xs : List Mn.Val} {hs : List V} (S : Sta C μ ρ h σ H) (F : Fra μ₀ ρ₀ σ H₀ μ ρ σ H) (g : Good C W σ (RBx C) μ₀ ρ₀ H₀ Q (Mn.ret (.l xs) ρ h)) (r : RVs C μ H xs hs) (p : Addr) (hp : H p = none) : Q (.ref p) (upd H p (.lst hs)) :=
  g μ _ _ (S.beside hp) (F.trans (Fra.beside hp)) ⟨RB.newL S hp r, fun _ a e => by cases e; exact F.live _ hp⟩
theorem fin_d {Q : VK} {xs : List (Mn.Key × Mn.Val)} {hs : List (Key × V)} (S : Sta C μ ρ h σ H) (F : Fra μ₀ ρ₀ σ H₀ μ ρ σ H) (g : Good C W σ (RBx C) μ₀ ρ₀ H₀ Q (Mn.ret (.d xs) ρ h)) (r : RKs C μ H xs hs) (p : Addr) (hp : H p = none) : Q (.ref p) (upd H p (.dK hs)) :=
  g μ _ _ (S.beside hp) (F.trans (Fra.beside hp)) ⟨RB.newD S hp r, fun _ a e => by cases e; exact F.live _ hp⟩
theorem fin_t {Q : VK} {xs : List Mn.Val} {hs : List V} (S : Sta C μ ρ h σ H) (F : Fra μ₀ ρ₀ σ H₀ μ ρ σ H) (g : Good C W σ (RBx C) μ₀ ρ₀ H₀ Q (Mn.ret (.v (.tup xs)) ρ h)) (r : RVs C μ H xs hs) (p : Addr) (hp : H p = none) : Q (.ref p) (upd H p (.tup hs)) :=
  g μ _ _ (S.beside hp) (F.trans (Fra.beside hp)) ⟨RV.newT S hp r, fun z => z.elim⟩
def RW (C : Ct) (μ : List Addr) (H : Hp) : Mn.View → V → Prop
  | .val x, v => RV C μ H x v
  | .lst l, v => ∃ a hs, v = .ref a ∧ Rd H a (.lst hs) ∧ RVs C μ H l hs
  | .dic k, v => ∃ a hk, v = .ref a ∧ H a = some (.dK hk) ∧ RKs C μ H k hk
theorem viewV_ok {x : Mn.Val} {v : V} {w : Mn.View} (S : Sta C μ ρ h σ H) (r : RV C μ H x v) (e : Mn.viewV h x = some w) : RW C μ H w v := by
  cases x with
  | ref i =>
    obtain ⟨a, rfl, hi⟩ := r
    unfold Mn.viewV at e
    dsimp only at e
    cases eo : h[i]? with
    | none =>
      rw [eo] at e
      cases e
    | some o =>
      rw [eo] at e
      obtain ⟨a', e1, ro⟩ := S.obj i o eo
      rw [hi] at e1
      cases e1
      cases o with
      | lst l =>
        cases e
        obtain ⟨hs, e2, r2⟩ := ro
        exact ⟨a, hs, rfl, .inl e2, r2⟩
      | frz l =>
        cases e
        obtain ⟨o, hs, e2, r2⟩ := ro
        exact ⟨a, hs, rfl, .inr ⟨o, e2⟩, r2⟩
      | dic l =>
        cases e
        obtain ⟨hs, e2, r2⟩ := ro
        exact ⟨a, hs, rfl, e2, r2⟩
      | ins c fs =>
        cases e
        exact ⟨a, rfl, hi⟩
  | _ =>
    cases e
    exact r
theorem view_ok {b : Mn.B} {v : V} {w : Mn.View} (S : Sta C μ ρ h σ H) (r : RB C μ ρ σ H b v) (e : Mn.view ρ h b = some w) : RW C μ H w v := by
  cases b with
  | v x => exact viewV_ok S r e
  | l xs =>
    cases e
    obtain ⟨a, hs, rfl, e2, r2, _⟩ := r
    exact ⟨a, hs, rfl, .inl e2, r2⟩
  | d xs =>
    cases e
    obtain ⟨a, hs, rfl, e2, r2, _⟩ := r
    exact ⟨a, hs, rfl, e2, r2⟩
  | sl i =>
    have e' : Mn.viewS ρ h i = some w := e
    unfold Mn.viewS at e'
    have r' : σ[i]? = some (some v) := r
    cases es : ρ[i]? with
    | none =>
      rw [es] at e'
      cases e'
    | some o =>
      cases o with
      | none =>
        rw [es] at e'
        cases e'
      | some b =>
        obtain ⟨u, e1, rs⟩ := S.slot i b es
        rw [r'] at e1
        cases e1
        rw [es] at e'
        cases b with
        | v x => exact viewV_ok S rs e'
        | l xs =>
          cases e'
          obtain ⟨a, hs, rfl, e2, r2, _⟩ := rs
          exact ⟨a, hs, rfl, .inl e2, r2⟩
        | d xs =>
          cases e'
          obtain ⟨a, hs, rfl, e2, r2, _⟩ := rs
          exact ⟨a, hs, rfl, e2, r2⟩
        | sl j => exact rs.elim
end
end Ms
end
section
namespace Ms
open PySem PySem.Spec L2
section
variable {X : Cx} {pins : List (Addr × Obj)} {σ : L2.St} {H : Hp} {s : Shared} {l : Addr} {xs : List V}
theorem lstR (I : Inv X pins σ H s) (r : Rd H l (.lst xs)) : xs.length ≤ sizeLine ∧ ∃ (its : List Value) (n : Nat), Vals xs its ∧ xs.length = its.length ∧ s.heap.get? l = some { cls := .type "list", data := .seq its.toArray n } := by
  obtain ⟨z, its, n, r, e⟩ := r.ok I.hok
  exact ⟨z, its, n, r, r.length, e⟩
end
theorem PE.weaken {X : Cx} {e : Expr} {t t' : TE} (h : PE X e t) (k : ∀ σ H Q, t' σ H Q → t σ H Q) : PE X e t' := ⟨fun pins s σ H Q I q => h.run pins s σ H Q I (k _ _ _ q)⟩
theorem PT.weaken {X : Cx} {e : Expr} {t t' : TT} (h : PT X e t) (k : ∀ σ H Q, t' σ H Q → t σ H Q) : PT X e t' := ⟨fun pins s σ H Q I q => h.run pins s σ H Q I (k _ _ _ q)⟩
def rLf (C : Ct) (W : WX) {α β : Type} (Rr : RelT α β) (f : Mn.View → Mn.View → Mn.M α) : V → V → Hp → (β → Hp → Prop) → Prop := fun x y H Q =>
  ∃ σ μ ρ h μ₀ ρ₀ H₀ v w, Sta C μ ρ h σ H ∧ Fra μ₀ ρ₀ σ H₀ μ ρ σ H ∧ RW C μ H v x ∧ RW C μ H w y ∧ Good C W σ Rr μ₀ ρ₀ H₀ Q (f v w ρ h)
def rLf1 (C : Ct) (W : WX) {α β : Type} (Rr : RelT α β) (f : Mn.View → Mn.M α) : V → Hp → (β → Hp → Prop) → Prop := fun x H Q =>
  ∃ σ μ ρ h μ₀ ρ₀ H₀ v, Sta C μ ρ h σ H ∧ Fra μ₀ ρ₀ σ H₀ μ ρ σ H ∧ RW C μ H v x ∧ Good C W σ Rr μ₀ ρ₀ H₀ Q (f v ρ h)
theorem limit_line : Mn.limit = sizeLine := by rw [sizeLine_eq] <;> rfl
theorem tuple_mul1 (l : Addr) (items : Array Value) (n : Nat) (dd : Option Addr) (sl : Array (Option Value)) (u : Tok) :
    Meets (Builtin.«tuple.__mul__» ⟨[.ref l, .int 1 u], []⟩) (fun _ R s => s.heap.get? l = some { cls := .type "tuple", dict := dd, data := .seq items n, slots := sl } ∧ R (.ok (.ret (Value.ref l))) s) :=
  .of_wp fun prog w A R s h => by
    obtain ⟨hp, g, d, tk, os⟩ := s
    obtain ⟨hl, h⟩ := h
    have f1 := AutoSeq1.idx_int
    wp_walk using wpAny_loadPart' hl
    have c0 : (decide ((1 : Int) < -(2 ^ 63)) || decide ((1 : Int) ≥ 2 ^ 63)) = false := by decide
    have c1 : (items.isEmpty || (1 : Int) == 1) = true := by simp
    repeat (first
      | (refine wpAny_ite_false (decide_eq_false (by rw [c0]; exact Bool.false_ne_true)) ?_; wp_walk using wpAny_loadPart' hl)
      | (refine wpAny_ite_true (decide_eq_true c1) ?_; wp_walk using wpAny_loadPart' hl))
    exact ⟨_, rfl, h⟩
section
variable {X : Cx}
theorem op_repR : OpR X (binaryOp .Mult) (fun x y H Q => ∃ l k xs, x = .ref l ∧ y = .int k ∧ Rd H l (.lst xs) ∧ -(2 ^ 63) ≤ k ∧ k < 2 ^ 63 ∧ xs.length * k.toNat ≤ sizeLine ∧
    ∀ p, H p = none → Q (.ref p) (upd H p (.lst (List.replicate k.toNat xs).flatten))) := by
  intro pins s σ H x y v u Q I rx ry h
  obtain ⟨l, k, xs, rfl, rfl, hH, h1, h2, hz, q⟩ := h
  cases rx
  obtain ⟨t, rfl⟩ := ry
  obtain ⟨z, its, n, r, hl, e⟩ := lstR I hH
  have hlen : its.toArray.size * k.toNat ≤ sizeLine := by rw [List.size_toArray, ← hl]; exact hz
  have hcap : ¬ its.toArray.size * k.toNat > (2 ^ 63 - 1) / 8 := by
    have : (sizeLine : Nat) ≤ (2 ^ 63 - 1) / 8 := by decide
    omega
  have hfit : ¬ (!Builtin.List.listFitsIndex k) = true := by
    rw [fitsIndex_both h1 h2]
    exact Bool.false_ne_true
  have hlong : ¬ Builtin.List.listTooLong (its.toArray.size * k.toNat) = true := by
    rw [notLongL hlen]
    exact Bool.false_ne_true
  have hnew : List.foldl (fun x1 x2 => x1 ++ x2) #[] (List.replicate (if its.toArray.isEmpty = true then 0 else k.toNat) its.toArray) = (List.replicate k.toNat its).flatten.toArray := by
    have f0 : ∀ m : Nat, List.foldl (fun x1 x2 => x1 ++ x2) #[] (List.replicate m its.toArray) = (List.replicate m its).flatten.toArray := fun m => by
      have := foldl_rep its m []
      rw [List.nil_append] at this
      exact this
    rw [f0]
    cases its with
    | nil => simp
    | cons a r' => rw [if_neg (by simp)]
  refine wpAny_binaryOp_repeat_ref (T := "list") (U := "int") (by decide) ⟨_, e, rfl⟩ (fun s' => typeIs_int s' k t) noFill_list_mul F.fills_int_mul F.slot_int_rmul repeat_list F.slot_int_index.lookup
    (call_meets F.slot_int_rmul (typeIs_int s k t) F.entry_int_rmul (F.args_int_rmul_2 _ _) (int___rmul___int_list k t l its.toArray n)
      ⟨e, rfl, ⟨_, e, rfl⟩, call_meets F.slot_list_mul ⟨_, e, rfl⟩ F.entry_list_mul (F.args_list_mul_2 _ _) (AutoListH.list___mul___list_int_3 l its.toArray n k t hfit hcap hlong) ⟨e, ?_⟩⟩)
  rw [hnew]
  exact ⟨.ref _, _, I.lnew (t' := s.toks) (r.rep k.toNat) (by rw [PyProof.Rows.lm_len_rep_flat, Nat.mul_comm]; exact hz), rfl, q _ I.fresh⟩
theorem op_rep1 : OpR X (binaryOp .Mult) (fun x y H Q => ∃ l xs, x = .ref l ∧ y = .int 1 ∧ SqT X.K H l xs ∧ Q (.ref l) H) := by
  intro pins s σ H x y v u Q I rx ry h
  obtain ⟨l, xs, rfl, rfl, hT, q⟩ := h
  cases rx
  obtain ⟨t, rfl⟩ := ry
  obtain ⟨its, r, ⟨⟨cls, dd, data, sl⟩, ho, hc, n, hd⟩, hs⟩ := I.tuple hT
  simp only at hc hd
  subst hc hd
  refine wpAny_binaryOp_repeat_ref (T := "tuple") (U := "int") (by decide) ⟨_, ho, rfl⟩ (fun s' => typeIs_int s' 1 t) noFill_tuple_mul F.fills_int_mul F.slot_int_rmul repeat_tuple F.slot_int_index.lookup
    (call_meets F.slot_int_rmul (typeIs_int s 1 t) F.entry_int_rmul (F.args_int_rmul_2 _ _) (int_rmul_tuple 1 t l its.toArray n dd sl)
      ⟨ho, rfl, ⟨_, ho, rfl⟩, call_meets F.slot_tuple_mul ⟨_, ho, rfl⟩ F.entry_tuple_mul (F.args_tuple_mul_2 _ _) (tuple_mul1 l its.toArray n dd sl t) ⟨ho, ?_⟩⟩)
  exact ⟨.ref l, H, I, rfl, q⟩
theorem op_catR : OpR X (binaryOp .Add) (fun x y H Q => ∃ l b xs zs, x = .ref l ∧ y = .ref b ∧ Rd H l (.lst xs) ∧ Rd H b (.lst zs) ∧ xs.length + zs.length ≤ sizeLine ∧ ∀ p, H p = none → Q (.ref p) (upd H p (.lst (xs ++ zs)))) := by
  intro pins s σ H x y v u Q I rx ry h
  obtain ⟨l, b, xs, zs, rfl, rfl, hH, hB, hz, q⟩ := h
  cases rx
  cases ry
  obtain ⟨z, its, n, r, hl, e⟩ := lstR I hH
  obtain ⟨z2, its2, n2, r2, hl2, e2⟩ := lstR I hB
  refine PySem.P.add_list e e2 ?_ (by rw [List.size_toArray, List.size_toArray]; omega)
  have ea : its.toArray ++ its2.toArray = (its ++ its2).toArray := by simp
  rw [ea]
  exact ⟨.ref _, _, I.lnew (t' := s.toks) (r.append r2) (by rw [List.length_append]; omega), rfl, q _ I.fresh⟩
end
theorem RVs.rep {C : Ct} {μ : List Addr} {H : Hp} {l : List Mn.Val} {vs : List V} (r : RVs C μ H l vs) : ∀ n : Nat, RVs C μ H (Mn.repL n l) (List.replicate n vs).flatten
  | 0 => rfl
  | n + 1 => by
    unfold Mn.repL
    rw [List.replicate_succ, List.replicate_succ, List.flatten_cons, List.flatten_cons]
    exact r.append (RVs.rep r n)
theorem strOk_append {a b : Str} (h : PyData.strOk a = true) (h2 : PyData.strOk b = true) : PyData.strOk (a ++ b) = true := by
  unfold PyData.strOk at *
  show ((a.cps ++ b.cps).all fun x => decide (x < 1114112)) = true
  rw [Array.all_append, h, h2]
  rfl
section
variable {X : Cx} {C : Ct} {W : WX}
theorem op_bin (hK : X.K = C.K) {op : Operator} : OpR X (binaryOp op) (rLf C W (RBx C) (Mn.binV op)) := by
  intro pins s σ0 H x y xv yv Q I rx ry h
  obtain ⟨σ, μ, ρ, h, μ₀, ρ₀, H₀, v, w, S, F, rv, rw', g⟩ := h
  cases op with
  | Add =>
    cases v with
    | dic k => cases w <;> exact g.elim
    | lst a =>
      cases w with
      | dic k => exact g.elim
      | val b => exact g.elim
      | lst b =>
        unfold Mn.binV at g
        dsimp only at g
        by_cases c : a.length + b.length ≤ Mn.limit
        · rw [if_pos c] at g
          obtain ⟨l, hs, rfl, q1, r1⟩ := rv
          obtain ⟨l2, hs2, rfl, q2, r2⟩ := rw'
          exact op_catR pins s σ0 H _ _ xv yv Q I rx ry ⟨l, l2, hs, hs2, rfl, rfl, q1, q2, by rw [← r1.length, ← r2.length, ← limit_line]; exact c, fun p hp => fin_l S F g (r1.append r2) p hp⟩
        · rw [if_neg c] at g
          exact g.elim
    | val a =>
      cases w with
      | dic k => cases a <;> exact g.elim
      | lst k => cases a <;> exact g.elim
      | val b =>
        cases a with
        | int i =>
          cases b with
          | int j =>
            obtain rfl : x = V.int i := rv
            obtain rfl : y = V.int j := rw'
            exact op_add pins s σ0 H _ _ xv yv Q I rx ry ⟨i, j, rfl, rfl, fin_v S F g rfl⟩
          | _ => exact g.elim
        | str i =>
          cases b with
          | str j =>
            unfold Mn.binV at g
            dsimp only at g
            by_cases c : i.length + j.length ≤ Mn.limit
            · rw [if_pos c] at g
              obtain ⟨rfl, o1⟩ := rv
              obtain ⟨rfl, o2⟩ := rw'
              exact op_add_str pins s σ0 H _ _ xv yv Q I rx ry ⟨i, j, rfl, rfl, by rw [← limit_line]; exact c, fin_v S F g ⟨rfl, strOk_append o1 o2⟩⟩
            · rw [if_neg c] at g
              exact g.elim
          | _ => exact g.elim
        | tup i =>
          cases b with
          | tup j =>
            unfold Mn.binV at g
            dsimp only at g
            by_cases c : i.length + j.length ≤ Mn.limit
            · rw [if_pos c] at g
              obtain ⟨l, hs, rfl, q1, r1⟩ := rv
              obtain ⟨l2, hs2, rfl, q2, r2⟩ := rw'
              rw [← hK] at q1 q2
              refine op_catA pins s σ0 H _ _ xv yv Q I rx ry ⟨l, l2, hs, hs2, rfl, rfl, q1, q2, by rw [← r1.length, ← r2.length, ← limit_line]; exact c, fun e => ?_, fun _ e => ?_, fun _ _ p hp => fin_t S F g (r1.append r2) p hp⟩
              · subst e
                have e2 : i = [] := List.eq_nil_of_length_eq_zero r1.length
                subst e2
                rw [hK] at q2
                exact fin_v S F g ⟨l2, hs2, rfl, q2, r2⟩
              · subst e
                have e2 : j = [] := List.eq_nil_of_length_eq_zero r2.length
                subst e2
                rw [hK] at q1
                rw [List.append_nil] at g
                exact fin_v S F g ⟨l, hs, rfl, q1, r1⟩
            · rw [if_neg c] at g
              exact g.elim
          | _ => exact g.elim
        | _ => exact g.elim
  | Sub =>
    cases v with
    | val a =>
      cases w with
      | val b =>
        cases a with
        | int i =>
          cases b with
          | int j =>
            obtain rfl : x = V.int i := rv
            obtain rfl : y = V.int j := rw'
            exact op_sub pins s σ0 H _ _ xv yv Q I rx ry ⟨i, j, rfl, rfl, fin_v S F g rfl⟩
          | _ => exact g.elim
        | _ => exact g.elim
      | _ => cases a <;> exact g.elim
    | _ => exact g.elim
  | Mult =>
    cases v with
    | dic k => exact g.elim
    | lst a =>
      cases w with
      | val b =>
        cases b with
        | int j =>
          unfold Mn.binV at g
          dsimp only at g
          by_cases c : a.length * j.toNat ≤ Mn.limit ∧ -1000 ≤ j ∧ j ≤ 1000
          · rw [if_pos c] at g
            obtain ⟨l, hs, rfl, q1, r1⟩ := rv
            obtain rfl : y = V.int j := rw'
            exact op_repR pins s σ0 H _ _ xv yv Q I rx ry ⟨l, j, hs, rfl, rfl, q1, by omega, by omega, by rw [← r1.length, ← limit_line]; exact c.1, fun p hp => fin_l S F g (r1.rep _) p hp⟩
          · rw [if_neg c] at g
            exact g.elim
        | _ => exact g.elim
      | _ => exact g.elim
    | val a =>
      cases w with
      | val b =>
        cases a with
        | int i =>
          cases b with
          | int j =>
            unfold Mn.binV at g
            dsimp only at g
            by_cases c : Mn.mulOk i j = true
            · rw [if_pos c] at g
              obtain rfl : x = V.int i := rv
              obtain rfl : y = V.int j := rw'
              refine op_mul pins s σ0 H _ _ xv yv Q I rx ry ⟨i, j, rfl, rfl, ?_, fin_v S F g rfl⟩
              simpa [Mn.mulOk, CMul] using c
            · rw [if_neg c] at g
              exact g.elim
          | _ => exact g.elim
        | tup i =>
          cases b with
          | int j =>
            unfold Mn.binV at g
            dsimp only at g
            by_cases c : i ≠ [] ∧ 1 ≤ j ∧ j ≤ 1000 ∧ i.length ≤ 1000
            · rw [if_pos c] at g
              obtain ⟨c1, c2, c3, c4⟩ := c
              obtain ⟨l, hs, rfl, q1, r1⟩ := rv
              obtain rfl : y = V.int j := rw'
              by_cases c5 : j = 1
              · subst c5
                have e : Mn.repL (1 : Int).toNat i = i := by simp [Mn.repL]
                rw [e] at g
                rw [← hK] at q1
                refine op_rep1 pins s σ0 H _ _ xv yv Q I rx ry ⟨l, hs, rfl, rfl, q1, ?_⟩
                rw [hK] at q1
                exact fin_v S F g ⟨l, hs, rfl, q1, r1⟩
              · rw [← hK] at q1
                refine op_repT pins s σ0 H _ _ xv yv Q I rx ry ⟨l, j, hs, rfl, rfl, q1, fun e => c1 ?_, by omega, c3, by rw [← r1.length]; exact c4, fun p hp => fin_t S F g (r1.rep _) p hp⟩
                subst e
                exact List.eq_nil_of_length_eq_zero r1.length
            · rw [if_neg c] at g
              exact g.elim
          | _ => exact g.elim
        | _ => exact g.elim
      | _ => cases a <;> exact g.elim
  | FloorDiv =>
    cases v with
    | val a =>
      cases w with
      | val b =>
        cases a with
        | int i =>
          cases b with
          | int j =>
            unfold Mn.binV at g
            dsimp only at g
            by_cases c : 0 < j ∧ j < 1073741824
            · rw [if_pos c] at g
              obtain rfl : x = V.int i := rv
              obtain rfl : y = V.int j := rw'
              exact op_fdiv pins s σ0 H _ _ xv yv Q I rx ry ⟨i, j, rfl, rfl, c, fin_v S F g rfl⟩
            · rw [if_neg c] at g
              exact g.elim
          | _ => exact g.elim
        | _ => exact g.elim
      | _ => cases a <;> exact g.elim
    | _ => exact g.elim
  | Mod =>
    cases v with
    | val a =>
      cases w with
      | val b =>
        cases a with
        | int i =>
          cases b with
          | int j =>
            unfold Mn.binV at g
            dsimp only at g
            by_cases c : 0 < j
            · rw [if_pos c] at g
              obtain rfl : x = V.int i := rv
              obtain rfl : y = V.int j := rw'
              exact op_mod pins s σ0 H _ _ xv yv Q I rx ry ⟨i, j, rfl, rfl, c, fin_v S F g rfl⟩
            · rw [if_neg c] at g
              exact g.elim
          | _ => exact g.elim
        | _ => exact g.elim
      | _ => cases a <;> exact g.elim
    | _ => exact g.elim
  | Pow =>
    cases v with
    | val a =>
      cases w with
      | val b =>
        cases a with
        | int i =>
          cases b with
          | int j =>
            unfold Mn.binV at g
            dsimp only at g
            by_cases c : 0 ≤ j ∧ j ≤ 1000000 ∧ i.natAbs < 2 ^ 64
            · rw [if_pos c] at g
              obtain rfl : x = V.int i := rv
              obtain rfl : y = V.int j := rw'
              exact op_pow pins s σ0 H _ _ xv yv Q I rx ry ⟨i, j, rfl, rfl, c, fin_v S F g rfl⟩
            · rw [if_neg c] at g
              exact g.elim
          | _ => exact g.elim
        | _ => exact g.elim
      | _ => cases a <;> exact g.elim
    | _ => exact g.elim
  | _ => exact g.elim
end
end Ms
end
section
namespace Ms
open PySem PySem.Spec L2
section
variable {C : Ct} {μ : List Addr} {ρ : Mn.Slots} {h : Mn.Hp} {σ : L2.St} {H : Hp}
theorem mapO_cons {α β : Type} {f : α → Option β} {a : α} {r : List α} {bs : List β} (e : Mn.mapO f (a :: r) = some bs) : ∃ b br, f a = some b ∧ Mn.mapO f r = some br ∧ bs = b :: br := by
  unfold Mn.mapO at e
  cases e1 : f a with
  | none => rw [e1] at e; cases e
  | some b =>
    rw [e1] at e
    cases e2 : Mn.mapO f r with
    | none => rw [e2] at e; cases e
    | some br =>
      rw [e2] at e
      cases e
      exact ⟨b, br, rfl, rfl, rfl⟩
theorem toD_all {n : Nat} (ih : ∀ (x : Mn.Val) (v : V) (d : PyData), RV C μ H x v → Mn.toD h n x = some d → Dp C.K H v d ∧ d.canLay0 = true ∧ d.depth ≤ n) :
    ∀ (l : List Mn.Val) (vs : List V) (ds : List PyData), RVs C μ H l vs → Mn.mapO (Mn.toD h n) l = some ds → DpAll C.K H vs ds ∧ PyData.canLayAll0 ds = true ∧ PyData.depthAll ds ≤ n
  | [], vs, ds, r, e => by
    cases e
    rw [show vs = [] from r]
    exact ⟨.nil, rfl, Nat.zero_le _⟩
  | x :: l, vs, ds, r, e => by
    obtain ⟨v, vr, rfl, r1, r2⟩ := r
    obtain ⟨d, dr, e1, e2, rfl⟩ := mapO_cons e
    obtain ⟨a1, a2, a3⟩ := ih x v d r1 e1
    obtain ⟨b1, b2, b3⟩ := toD_all ih l vr dr r2 e2
    refine ⟨.cons a1 b1, by rw [PyData.canLayAll0, a2, b2] <;> rfl, ?_⟩
    rw [PyData.depthAll]
    omega
theorem toD_ok (S : Sta C μ ρ h σ H) : ∀ (n : Nat) (x : Mn.Val) (v : V) (d : PyData), RV C μ H x v → Mn.toD h n x = some d → Dp C.K H v d ∧ d.canLay0 = true ∧ d.depth ≤ n
  | 0, x, v, d, r, e => by cases e
  | n + 1, x, v, d, r, e => by
    cases x with
    | non =>
      cases e
      rw [show v = .non from r]
      exact ⟨.non, rfl, by simp [PyData.depth]⟩
    | bl b =>
      cases e
      rw [show v = .bl b from r]
      exact ⟨.bl b, rfl, by simp [PyData.depth]⟩
    | int b =>
      cases e
      rw [show v = .int b from r]
      exact ⟨.int b, rfl, by simp [PyData.depth]⟩
    | str b =>
      cases e
      obtain ⟨rfl, o⟩ := r
      exact ⟨.str b, o, by simp [PyData.depth]⟩
    | exc c => cases e
    | tup l =>
      obtain ⟨a, hs, rfl, q, r⟩ := r
      unfold Mn.toD at e
      dsimp only at e
      cases e2 : Mn.mapO (Mn.toD h n) l with
      | none => rw [e2] at e; cases e
      | some ds =>
        rw [e2] at e
        cases e
        obtain ⟨a1, a2, a3⟩ := toD_all (n := n) (fun x v d r e => toD_ok S n x v d r e) l hs ds r e2
        exact ⟨.tup q a1, a2, Nat.succ_le_succ a3⟩
    | ref i =>
      obtain ⟨a, rfl, q⟩ := r
      unfold Mn.toD at e
      dsimp only at e
      cases eo : h[i]? with
      | none => rw [eo] at e; cases e
      | some o =>
        rw [eo] at e
        obtain ⟨a', e1, ro⟩ := S.obj i o eo
        rw [q] at e1
        cases e1
        cases o with
        | lst l =>
          obtain ⟨hs, q2, r⟩ := ro
          dsimp only at e
          cases e2 : Mn.mapO (Mn.toD h n) l with
          | none => rw [e2] at e; cases e
          | some ds =>
            rw [e2] at e
            cases e
            obtain ⟨a1, a2, a3⟩ := toD_all (n := n) (fun x v d r e => toD_ok S n x v d r e) l hs ds r e2
            exact ⟨.lst (.inl (.inl q2)) a1, a2, Nat.succ_le_succ a3⟩
        | frz l =>
          obtain ⟨oo, hs, q2, r⟩ := ro
          dsimp only at e
          cases e2 : Mn.mapO (Mn.toD h n) l with
          | none => rw [e2] at e; cases e
          | some ds =>
            rw [e2] at e
            cases e
            obtain ⟨a1, a2, a3⟩ := toD_all (n := n) (fun x v d r e => toD_ok S n x v d r e) l hs ds r e2
            exact ⟨.lst (.inl (.inr ⟨_, q2⟩)) a1, a2, Nat.succ_le_succ a3⟩
        | dic l => cases e
        | ins c fs => cases e
theorem toDs_ok (S : Sta C μ ρ h σ H) {n : Nat} {l : List Mn.Val} {vs : List V} {ds : List PyData} (r : RVs C μ H l vs) (e : Mn.mapO (Mn.toD h n) l = some ds) : DpAll C.K H vs ds ∧ PyData.canLayAll0 ds = true ∧ PyData.depthAll ds ≤ n :=
  toD_all (fun x v d r e => toD_ok S n x v d r e) l vs ds r e
theorem shaped_of {d : PyData} (a : d.canLay0 = true) (b : d.depth ≤ 64) : SeqAt.shaped d = true := by
  unfold SeqAt.shaped
  rw [a, decide_eq_true b]
  rfl
theorem toDW_ok (S : Sta C μ ρ h σ H) {w : Mn.View} {v : V} {d : PyData} (r : RW C μ H w v) (e : Mn.toDW h w = some d) : Dp C.K H v d ∧ SeqAt.shaped d = true := by
  cases w with
  | val x =>
    obtain ⟨a1, a2, a3⟩ := toD_ok S 60 x v d r e
    exact ⟨a1, shaped_of a2 (by omega)⟩
  | lst l =>
    obtain ⟨a, hs, rfl, q, r⟩ := r
    unfold Mn.toDW at e
    dsimp only at e
    cases e2 : Mn.mapO (Mn.toD h 59) l with
    | none => rw [e2] at e; cases e
    | some ds =>
      rw [e2] at e
      cases e
      obtain ⟨a1, a2, a3⟩ := toDs_ok S r e2
      exact ⟨.lst (.inl q) a1, shaped_of a2 (by show PyData.depthAll ds + 1 ≤ 64; omega)⟩
  | dic k => cases e
end
section
variable {X : Cx}
def rInT (K : PySem.W.Frag) (neg : Bool) : R2 := fun x y H Q => ∃ d a xs ds, y = V.ref a ∧ SqT K H a xs ∧ Dp K H x d ∧ DpAll K H xs ds ∧ SeqAt.shaped d = true ∧ PyData.canLayAll0 ds = true ∧ Q (.bl (if neg then !ds.any fun z => PyData.eqv z d else ds.any fun z => PyData.eqv z d)) H
theorem op_inTD (hu : X.A.units + 65 < cLine) : OpR X (compareOp .In) (rInT X.K false) := by
  intro pins s σ H x y v u Q I rx ry h
  obtain ⟨d, a, xs, ds, rfl, hs, hd, he, sd, se, q⟩ := h
  obtain ⟨as, r1⟩ := Dp.reads I d x v hd rx
  obtain ⟨bs, r2⟩ := Dp.reads I (.tuple ds) _ u (.tup hs he) ry
  exact SeqAt.in_tuple_reads r2 r1 se (SeqAt.canLay_of_shaped sd) (PyProof.Rows.room_in_shaped sd hu) ⟨.bl _, H, I, rfl, q⟩
theorem op_notInTD (hu : X.A.units + 65 < cLine) : OpR X (compareOp .NotIn) (rInT X.K true) := by
  intro pins s σ H x y v u Q I rx ry h
  obtain ⟨d, a, xs, ds, rfl, hs, hd, he, sd, se, q⟩ := h
  obtain ⟨as, r1⟩ := Dp.reads I d x v hd rx
  obtain ⟨bs, r2⟩ := Dp.reads I (.tuple ds) _ u (.tup hs he) ry
  exact SeqAt.notIn_tuple_reads r2 r1 se (SeqAt.canLay_of_shaped sd) (PyProof.Rows.room_in_shaped sd hu) ⟨.bl _, H, I, rfl, q⟩
end
end Ms
namespace Ms
open PySem PySem.Spec L2
section
variable {C : Ct} {μ : List Addr} {H : Hp}
theorem RKs.look : ∀ {l : List (Mn.Key × Mn.Val)} {hk : List (Key × V)} (k : Key), RKs C μ H l hk → (Mn.lookK k l = none ∧ valV hk k = none) ∨ ∃ x v, Mn.lookK k l = some x ∧ valV hk k = some v ∧ RV C μ H x v
  | [], hk, k, r => by
    rw [show hk = [] from r]
    exact .inl ⟨rfl, rfl⟩
  | (j, x) :: l, hk, k, r => by
    obtain ⟨v, vr, rfl, r1, r2⟩ := r
    unfold Mn.lookK
    by_cases e : k = j
    · rw [if_pos e, valV_pos (p := (j, v)) e.symm]
      exact .inr ⟨x, v, rfl, rfl, r1⟩
    · rw [if_neg e, valV_neg (p := (j, v)) (fun z => e z.symm)]
      exact RKs.look k r2
theorem RKs.any : ∀ {l : List (Mn.Key × Mn.Val)} {hk : List (Key × V)} (k : Key), RKs C μ H l hk → (l.any fun p => decide (p.1 = k)) = (hk.any fun p => decide (p.1 = k))
  | [], hk, k, r => by
    rw [show hk = [] from r]
    rfl
  | (j, x) :: l, hk, k, r => by
    obtain ⟨v, vr, rfl, r1, r2⟩ := r
    rw [List.any_cons, List.any_cons, RKs.any k r2]
theorem RKs.mapk : ∀ {l : List (Mn.Key × Mn.Val)} {hk : List (Key × V)} (k : Key) {x : Mn.Val} {v : V}, RKs C μ H l hk → RV C μ H x v → RKs C μ H (l.map fun p => if p.1 = k then (p.1, x) else p) (hk.map fun p => if p.1 = k then (p.1, v) else p)
  | [], hk, k, x, v, r, _ => by
    rw [show hk = [] from r]
    rfl
  | (j, y) :: l, hk, k, x, v, r, rx => by
    obtain ⟨u, vr, rfl, r1, r2⟩ := r
    rw [List.map_cons, List.map_cons]
    dsimp only
    by_cases e : j = k
    · rw [if_pos e, if_pos e]
      exact ⟨v, _, rfl, rx, RKs.mapk k r2 rx⟩
    · rw [if_neg e, if_neg e]
      exact ⟨u, _, rfl, r1, RKs.mapk k r2 rx⟩
theorem RKs.append : ∀ {l q : List (Mn.Key × Mn.Val)} {vs us : List (Key × V)}, RKs C μ H l vs → RKs C μ H q us → RKs C μ H (l ++ q) (vs ++ us)
  | [], q, vs, us, h, h2 => by
    rw [show vs = [] from h]
    exact h2
  | (k, x) :: r, q, vs, us, h, h2 => by
    obtain ⟨v, vr, rfl, a, b⟩ := h
    exact ⟨v, vr ++ us, rfl, a, RKs.append b h2⟩
theorem RKs.put {l : List (Mn.Key × Mn.Val)} {hk : List (Key × V)} (k : Key) {x : Mn.Val} {v : V} (r : RKs C μ H l hk) (rx : RV C μ H x v) : RKs C μ H (Mn.putK k x l) (putK hk k v) := by
  unfold Mn.putK putK
  rw [RKs.any k r]
  by_cases e : (hk.any fun p => decide (p.1 = k)) = true
  · rw [if_pos e, if_pos e]
    exact RKs.mapk k r rx
  · rw [if_neg e, if_neg e]
    exact RKs.append r ⟨v, [], rfl, rx, rfl⟩
theorem keyOf_ok {x : Mn.Val} {v : V} {j : Mn.Key} (r : RV C μ H x v) (e : Mn.keyOf x = some j) : v = kV j := by
  cases x <;> simp [Mn.keyOf] at e
  · subst e
    exact r
  · subst e
    exact r.1
end
section
variable {X : Cx} {C : Ct} {W : WX}
theorem rw_ref {μ : List Addr} {H : Hp} {l : List Mn.Val} {x : V} (r : RW C μ H (.lst l) x) : x ≠ .non := by
  obtain ⟨a, hs, rfl, _⟩ := r
  exact fun z => by cases z
theorem rw_refd {μ : List Addr} {H : Hp} {l : List (Mn.Key × Mn.Val)} {x : V} (r : RW C μ H (.dic l) x) : x ≠ .non := by
  obtain ⟨a, hs, rfl, _⟩ := r
  exact fun z => by cases z
theorem rv_non {μ : List Addr} {H : Hp} {a : Mn.Val} {x : V} (r : RV C μ H a x) : decide (x = .non) = decide (a = .non) := by
  cases a with
  | non => rw [show x = .non from r]; rfl
  | bl b => rw [show x = .bl b from r]; rfl
  | int b => rw [show x = .int b from r]; rfl
  | str b => rw [r.1]; rfl
  | tup l => obtain ⟨p, hs, rfl, _⟩ := r; rfl
  | exc l => obtain ⟨_, p, rfl, _⟩ := r; rfl
  | ref l => obtain ⟨p, rfl, _⟩ := r; rfl
theorem fin_bv {σ : L2.St} {μ₀ μ : List Addr} {ρ₀ ρ : Mn.Slots} {h : Mn.Hp} {H₀ H : Hp} {Q : VK} {t : Bool} {f : Mn.M Bool} (S : Sta C μ ρ h σ H) (F : Fra μ₀ ρ₀ σ H₀ μ ρ σ H) (e : f ρ h = .ok t ρ h) (g : Good C W σ (RBx C) μ₀ ρ₀ H₀ Q (Mn.bind f (fun t => Mn.ret (.v (.bl t))) ρ h)) : Q (.bl t) H := by
  unfold Mn.bind at g
  rw [e] at g
  exact fin_v S F g rfl
end
end Ms
end
section
namespace Ms
open PySem PySem.Spec L2
section
variable {X : Cx} {C : Ct} {W : WX}
abbrev cmpF (op : CmpOp) : Mn.View → Mn.View → Mn.M Mn.B := fun v w => Mn.bind (Mn.cmpV op v w) fun t => Mn.ret (.v (.bl t))
section
variable {σ : L2.St} {μ₀ μ : List Addr} {ρ₀ ρ : Mn.Slots} {h : Mn.Hp} {H₀ H : Hp} {Q : VK}
theorem cmp_eq {v w : Mn.View} {x y : V} (S : Sta C μ ρ h σ H) (F : Fra μ₀ ρ₀ σ H₀ μ ρ σ H) (rv : RW C μ H v x) (rw' : RW C μ H w y) (g : Good C W σ (RBx C) μ₀ ρ₀ H₀ Q (cmpF .Eq v w ρ h)) : rEqD C.K x y H Q := by
  unfold cmpF Mn.bind Mn.cmpV at g
  dsimp only at g
  cases e1 : Mn.toDW h v with
  | none => rw [e1] at g; exact g.elim
  | some d =>
    cases e2 : Mn.toDW h w with
    | none => rw [e1, e2] at g; exact g.elim
    | some e =>
      rw [e1, e2] at g
      obtain ⟨a1, a2⟩ := toDW_ok S rv e1
      obtain ⟨b1, b2⟩ := toDW_ok S rw' e2
      exact ⟨d, e, a1, b1, a2, b2, fin_v S F g rfl⟩
theorem cmp_ne {v w : Mn.View} {x y : V} (S : Sta C μ ρ h σ H) (F : Fra μ₀ ρ₀ σ H₀ μ ρ σ H) (rv : RW C μ H v x) (rw' : RW C μ H w y) (g : Good C W σ (RBx C) μ₀ ρ₀ H₀ Q (cmpF .NotEq v w ρ h)) : rNeD C.K x y H Q := by
  unfold cmpF Mn.bind Mn.cmpV at g
  dsimp only at g
  cases e1 : Mn.toDW h v with
  | none => rw [e1] at g; exact g.elim
  | some d =>
    cases e2 : Mn.toDW h w with
    | none => rw [e1, e2] at g; exact g.elim
    | some e =>
      rw [e1, e2] at g
      obtain ⟨a1, a2⟩ := toDW_ok S rv e1
      obtain ⟨b1, b2⟩ := toDW_ok S rw' e2
      exact ⟨d, e, a1, b1, a2, b2, fin_v S F g rfl⟩
inductive InC (C : Ct) (H : Hp) : V → V → Bool → Prop
  | lst {x y : V} {d : PyData} {ds : List PyData} (a : Dp C.K H x d) (b : Dp C.K H y (.list ds)) (c : SeqAt.shaped d = true) (e : SeqAt.shaped (.list ds) = true) : InC C H x y (ds.any fun z => PyData.eqv z d)
  | tup {x : V} {p : Addr} {xs : List V} {d : PyData} {ds : List PyData} (a : Dp C.K H x d) (q : SqT C.K H p xs) (b : DpAll C.K H xs ds) (c : SeqAt.shaped d = true) (e : PyData.canLayAll0 ds = true) : InC C H x (.ref p) (ds.any fun z => PyData.eqv z d)
  | str (i j : Str) : InC C H (.str i) (.str j) (Mn.isSub i j)
  | dic {y : V} {a : Addr} {o : Option V} (g : DGet H a y o) : InC C H y (.ref a) o.isSome
theorem isIn_ok {v w : Mn.View} {x y : V} (S : Sta C μ ρ h σ H) (rv : RW C μ H v x) (rw' : RW C μ H w y) {r : Mn.R Bool} (e : Mn.cmpV.isIn v w ρ h = r) (hb : r ≠ .bad) : ∃ t, r = .ok t ρ h ∧ InC C H x y t := by
  subst e
  unfold Mn.cmpV.isIn at *
  try dsimp only at *
  cases w with
  | lst l =>
    obtain ⟨a, hs, rfl, q, r⟩ := rw'
    try dsimp only at *
    cases e1 : Mn.toDW h v with
    | none => rw [e1] at hb; exact absurd rfl hb
    | some d =>
      cases e2 : Mn.mapO (Mn.toD h 59) l with
      | none => rw [e1, e2] at hb; exact absurd rfl hb
      | some ds =>
        obtain ⟨a1, a2⟩ := toDW_ok S rv e1
        obtain ⟨b1, b2, b3⟩ := toDs_ok S r e2
        exact ⟨_, rfl, .lst a1 (.lst (.inl q) b1) a2 (shaped_of b2 (by show PyData.depthAll ds + 1 ≤ 64; omega))⟩
  | dic k =>
    obtain ⟨a, hs, rfl, q, r⟩ := rw'
    try dsimp only at *
    cases v with
    | lst l => exact absurd rfl hb
    | dic l => exact absurd rfl hb
    | val z =>
      try dsimp only at *
      cases e1 : Mn.keyOf z with
      | none => rw [e1] at hb; exact absurd rfl hb
      | some j =>
        rw [keyOf_ok rv e1]
        rcases RKs.look j r with ⟨e2, e3⟩ | ⟨x, v, e2, e3, r2⟩
        · have := InC.dic (C := C) (H := H) (DGet.k (k := j) q)
          rw [e3] at this
          exact ⟨_, rfl, by rw [e2]; exact this⟩
        · have := InC.dic (C := C) (H := H) (DGet.k (k := j) q)
          rw [e3] at this
          exact ⟨_, rfl, by rw [e2]; exact this⟩
  | val z =>
    cases z with
    | tup l =>
      obtain ⟨a, hs, rfl, q, r⟩ := rw'
      try dsimp only at *
      cases e1 : Mn.toDW h v with
      | none => rw [e1] at hb; exact absurd rfl hb
      | some d =>
        cases e2 : Mn.mapO (Mn.toD h 59) l with
        | none => rw [e1, e2] at hb; exact absurd rfl hb
        | some ds =>
          obtain ⟨a1, a2⟩ := toDW_ok S rv e1
          obtain ⟨b1, b2, b3⟩ := toDs_ok S r e2
          exact ⟨_, rfl, .tup a1 q b1 a2 b2⟩
    | str b =>
      cases v with
      | lst l => exact absurd rfl hb
      | dic l => exact absurd rfl hb
      | val a =>
        cases a with
        | str a =>
          rw [rv.1, rw'.1]
          exact ⟨_, rfl, .str a b⟩
        | _ => exact absurd rfl hb
    | _ => exact absurd rfl hb
end
theorem op_inC (hK : X.K = C.K) (hu : X.A.units + 65 < cLine) : OpR X (compareOp .In) (fun x y H Q => ∃ t, InC C H x y t ∧ Q (.bl t) H) := by
  intro pins s σ H x y v u Q I rx ry h
  obtain ⟨t, h, q⟩ := h
  cases h with
  | lst a b c e => rw [← hK] at a b; exact op_inD hu pins s σ H x y v u Q I rx ry ⟨_, _, a, b, c, e, q⟩
  | tup a k b c e => rw [← hK] at a k b; exact op_inTD hu pins s σ H x _ v u Q I rx ry ⟨_, _, _, _, rfl, k, a, b, c, e, q⟩
  | str i j => exact op_in_str pins s σ H _ _ v u Q I rx ry ⟨_, _, rfl, rfl, q⟩
  | dic g =>
    cases ry
    exact d_in (by omega) I g rx fun s' I' => ⟨.bl _, H, I', rfl, q⟩
theorem op_notInC (hK : X.K = C.K) (hu : X.A.units + 65 < cLine) : OpR X (compareOp .NotIn) (fun x y H Q => ∃ t, InC C H x y t ∧ Q (.bl (!t)) H) := by
  intro pins s σ H x y v u Q I rx ry h
  obtain ⟨t, h, q⟩ := h
  cases h with
  | lst a b c e => rw [← hK] at a b; exact op_notInD hu pins s σ H x y v u Q I rx ry ⟨_, _, a, b, c, e, q⟩
  | tup a k b c e => rw [← hK] at a k b; exact op_notInTD hu pins s σ H x _ v u Q I rx ry ⟨_, _, _, _, rfl, k, a, b, c, e, q⟩
  | str i j => exact op_notin_str pins s σ H _ _ v u Q I rx ry ⟨_, _, rfl, rfl, q⟩
  | dic g =>
    cases ry
    exact d_notIn (by omega) I g rx fun s' I' => ⟨.bl _, H, I', rfl, q⟩
theorem op_cmp (hK : X.K = C.K) (hu : X.A.units + 65 < cLine) {op : CmpOp} : OpR X (compareOp op) (rLf C W (RBx C) (cmpF op)) := by
  intro pins s σ0 H x y xv yv Q I rx ry h
  obtain ⟨σ, μ, ρ, h, μ₀, ρ₀, H₀, v, w, S, F, rv, rw', g⟩ := h
  cases op with
  | Eq =>
    have k := cmp_eq S F rv rw' g
    rw [← hK] at k
    exact op_eqD (by omega) pins s σ0 H x y xv yv Q I rx ry k
  | NotEq =>
    have k := cmp_ne S F rv rw' g
    rw [← hK] at k
    exact op_neD (by omega) pins s σ0 H x y xv yv Q I rx ry k
  | Lt =>
    cases v with
    | val a =>
      cases w with
      | val b =>
        cases a with
        | int i =>
          cases b with
          | int j =>
            obtain rfl : x = V.int i := rv
            obtain rfl : y = V.int j := rw'
            exact op_lt pins s σ0 H _ _ xv yv Q I rx ry ⟨i, j, rfl, rfl, fin_v S F g rfl⟩
          | _ => exact g.elim
        | tup l =>
          cases b with
          | tup q =>
            rcases l with _ | ⟨l1, _ | ⟨l2, _ | ⟨l3, l4⟩⟩⟩
            · exact g.elim
            · cases l1 <;> exact g.elim
            · cases l1 with
              | int a1 =>
                cases l2 with
                | int a2 =>
                  rcases q with _ | ⟨q1, _ | ⟨q2, _ | ⟨q3, q4⟩⟩⟩
                  · exact g.elim
                  · cases q1 <;> exact g.elim
                  · cases q1 with
                    | int b1 =>
                      cases q2 with
                      | int b2 =>
                        obtain ⟨p1, hs1, rfl, k1, r1⟩ := rv
                        obtain ⟨p2, hs2, rfl, k2, r2⟩ := rw'
                        have e1 := r1.ints (ns := [a1, a2]) rfl
                        have e2 := r2.ints (ns := [b1, b2]) rfl
                        subst e1 e2
                        rw [← hK] at k1 k2
                        refine op_ltT (by omega) pins s σ0 H _ _ xv yv Q I rx ry ⟨p1, p2, [a1, a2], [b1, b2], rfl, rfl, k1, k2, ?_⟩
                        have e3 : HT.lexLt [a1, a2] [b1, b2] = decide (a1 < b1 ∨ a1 = b1 ∧ a2 < b2) := by
                          rw [HT.lexLt_cons, HT.lexLt_cons, HT.lexLt_nil_nil]
                          by_cases c1 : a1 = b1
                          · subst c1
                            by_cases c2 : a2 = b2
                            · subst c2
                              simp
                            · simp [c2]
                          · simp [c1]
                        rw [e3]
                        exact fin_v S F g rfl
                      | _ => exact g.elim
                    | _ => exact g.elim
                  · cases q1 <;> cases q2 <;> exact g.elim
                | _ => exact g.elim
              | _ => exact g.elim
            · cases l1 <;> cases l2 <;> exact g.elim
          | _ =>
            rcases l with _ | ⟨l1, _ | ⟨l2, _ | ⟨l3, l4⟩⟩⟩
            · exact g.elim
            · cases l1 <;> exact g.elim
            · cases l1 <;> cases l2 <;> exact g.elim
            · cases l1 <;> cases l2 <;> exact g.elim
        | _ => exact g.elim
      | _ =>
        cases a with
        | tup l =>
          rcases l with _ | ⟨l1, _ | ⟨l2, _ | ⟨l3, l4⟩⟩⟩
          · exact g.elim
          · cases l1 <;> exact g.elim
          · cases l1 <;> cases l2 <;> exact g.elim
          · cases l1 <;> cases l2 <;> exact g.elim
        | _ => exact g.elim
    | _ => exact g.elim
  | LtE =>
    cases v with
    | val a =>
      cases w with
      | val b =>
        cases a with
        | int i =>
          cases b with
          | int j =>
            obtain rfl : x = V.int i := rv
            obtain rfl : y = V.int j := rw'
            exact op_le pins s σ0 H _ _ xv yv Q I rx ry ⟨i, j, rfl, rfl, fin_v S F g rfl⟩
          | _ => exact g.elim
        | _ => exact g.elim
      | _ => cases a <;> exact g.elim
    | _ => exact g.elim
  | Gt =>
    cases v with
    | val a =>
      cases w with
      | val b =>
        cases a with
        | int i =>
          cases b with
          | int j =>
            obtain rfl : x = V.int i := rv
            obtain rfl : y = V.int j := rw'
            exact op_gt pins s σ0 H _ _ xv yv Q I rx ry ⟨i, j, rfl, rfl, fin_v S F g rfl⟩
          | _ => exact g.elim
        | _ => exact g.elim
      | _ => cases a <;> exact g.elim
    | _ => exact g.elim
  | GtE =>
    cases v with
    | val a =>
      cases w with
      | val b =>
        cases a with
        | int i =>
          cases b with
          | int j =>
            obtain rfl : x = V.int i := rv
            obtain rfl : y = V.int j := rw'
            exact op_ge pins s σ0 H _ _ xv yv Q I rx ry ⟨i, j, rfl, rfl, fin_v S F g rfl⟩
          | _ => exact g.elim
        | _ => exact g.elim
      | _ => cases a <;> exact g.elim
    | _ => exact g.elim
  | Is =>
    cases w with
    | val b =>
      cases b with
      | non =>
        obtain rfl : y = V.non := rw'
        refine op_isN pins s σ0 H _ _ xv yv Q I rx ry ⟨rfl, ?_⟩
        cases v with
        | val a =>
          rw [rv_non rv]
          cases a <;> exact fin_v S F g rfl
        | lst l =>
          rw [decide_eq_false (rw_ref rv)]
          exact fin_v S F g rfl
        | dic l =>
          rw [decide_eq_false (rw_refd rv)]
          exact fin_v S F g rfl
      | bl b =>
        cases v with
        | val a =>
          cases a with
          | bl a =>
            obtain rfl : x = V.bl a := rv
            obtain rfl : y = V.bl b := rw'
            exact op_is_bl pins s σ0 H _ _ xv yv Q I rx ry ⟨a, b, rfl, rfl, fin_v S F g rfl⟩
          | _ => exact g.elim
        | _ => exact g.elim
      | _ =>
        cases v with
        | val a => cases a <;> exact g.elim
        | _ => exact g.elim
    | _ =>
      cases v with
      | val a => cases a <;> exact g.elim
      | _ => exact g.elim
  | IsNot =>
    cases w with
    | val b =>
      cases b with
      | non =>
        obtain rfl : y = V.non := rw'
        refine op_notN pins s σ0 H _ _ xv yv Q I rx ry ⟨rfl, ?_⟩
        cases v with
        | val a =>
          rw [rv_non rv]
          cases a <;> exact fin_v S F g rfl
        | lst l =>
          rw [decide_eq_false (rw_ref rv)]
          exact fin_v S F g rfl
        | dic l =>
          rw [decide_eq_false (rw_refd rv)]
          exact fin_v S F g rfl
      | bl b =>
        cases v with
        | val a =>
          cases a with
          | bl a =>
            obtain rfl : x = V.bl a := rv
            obtain rfl : y = V.bl b := rw'
            exact op_isnot_bl pins s σ0 H _ _ xv yv Q I rx ry ⟨a, b, rfl, rfl, fin_v S F g rfl⟩
          | _ => exact g.elim
        | _ => exact g.elim
      | _ =>
        cases v with
        | val a => cases a <;> exact g.elim
        | _ => exact g.elim
    | _ =>
      cases v with
      | val a => cases a <;> exact g.elim
      | _ => exact g.elim
  | In =>
    have g' : Good C W σ (RBx C) μ₀ ρ₀ H₀ Q (Mn.bind (Mn.cmpV.isIn v w) (fun t => Mn.ret (.v (.bl t))) ρ h) := g
    unfold Mn.bind at g'
    cases e : Mn.cmpV.isIn v w ρ h with
    | bad => rw [e] at g'; exact g'.elim
    | err c s1 h1 => obtain ⟨t, e2, _⟩ := isIn_ok S rv rw' e (by intro z; cases z); cases e2
    | ok a s1 h1 =>
      obtain ⟨t, e2, k⟩ := isIn_ok S rv rw' e (by intro z; cases z)
      cases e2
      rw [e] at g'
      exact op_inC hK hu pins s σ0 H x y xv yv Q I rx ry ⟨_, k, fin_v S F g' rfl⟩
  | NotIn =>
    have g' : Good C W σ (RBx C) μ₀ ρ₀ H₀ Q (Mn.bind (Mn.bind (Mn.cmpV.isIn v w) fun b => Mn.ret (!b)) (fun t => Mn.ret (.v (.bl t))) ρ h) := g
    unfold Mn.bind at g'
    cases e : Mn.cmpV.isIn v w ρ h with
    | bad => rw [e] at g'; exact g'.elim
    | err c s1 h1 => obtain ⟨t, e2, _⟩ := isIn_ok S rv rw' e (by intro z; cases z); cases e2
    | ok a s1 h1 =>
      obtain ⟨t, e2, k⟩ := isIn_ok S rv rw' e (by intro z; cases z)
      cases e2
      rw [e] at g'
      exact op_notInC hK hu pins s σ0 H x y xv yv Q I rx ry ⟨_, k, fin_v S F g' rfl⟩
end
end Ms
end
section
namespace Ms
open PySem PySem.Spec PyProof.Rows L2
theorem ixN_is (n : Nat) (i : Int) : Mn.ixN n i = L2.ixN n i := rfl
theorem strOk_one {z : Str} {j c : Nat} (o : PyData.strOk z = true) (e : z.cps.toList[j]? = some c) : PyData.strOk ⟨#[c]⟩ = true := by
  unfold PyData.strOk at *
  have k : c ∈ z.cps.toList := List.mem_of_getElem? e
  have k2 := Array.all_eq_true_iff_forall_mem.mp o c (by simpa using k)
  simpa using k2
theorem strOk_sub {z : Str} {l : List Nat} (o : PyData.strOk z = true) (e : ∀ c ∈ l, c ∈ z.cps.toList) : PyData.strOk ⟨l.toArray⟩ = true := by
  unfold PyData.strOk at *
  rw [Array.all_eq_true_iff_forall_mem]
  intro c hc
  exact Array.all_eq_true_iff_forall_mem.mp o c (by simpa using e c (by simpa using hc))
section
variable {X : Cx}
def rIxK : R2 := fun x y H Q => ∃ a v, x = .ref a ∧ DGet H a y (some v) ∧ Q v H
theorem ix_dic (hu : X.A.units + 1 < cLine) : IxR X rIxK := by
  intro value slice pins s σ H x y v u Q I rx ry h hs
  obtain ⟨p, r, rfl, g, q⟩ := h
  obtain rfl : v = Value.ref p := rx
  exact PyProof.Rows.tail_any (dict_typeIs I g) PySem.F.slot_dict_getitem.lookup (d_getItem hu I g ry fun w' s3 I3 rw' => ⟨r, H, I3, rw', q⟩) hs
variable {C : Ct} {W : WX}
theorem op_idx (hK : X.K = C.K) (hu : X.A.units + 65 < cLine) : IxR X (rLf C W (RBx C) Mn.idxV) := by
  intro value slice pins s σ0 H x y xv yv Q I rx ry h hs
  obtain ⟨σ, μ, ρ, h, μ₀, ρ₀, H₀, v, w, S, F, rv, rw', g⟩ := h
  unfold Mn.idxV at g
  cases v with
  | lst l =>
    cases w with
    | val b =>
      cases b with
      | int i =>
        dsimp only at g
        cases e : (Mn.ixN l.length i).bind fun j => l[j]? with
        | none => rw [e] at g; exact g.elim
        | some z =>
          rw [e] at g
          obtain ⟨j, e1, e2⟩ := Option.bind_eq_some_iff.mp e
          obtain ⟨a, hs', rfl, q, r⟩ := rv
          obtain ⟨u, e3, r2⟩ := r.get e2
          obtain rfl : y = V.int i := rw'
          exact ix_list value slice pins s σ0 H _ _ xv yv Q I rx ry ⟨a, hs', i, u, rfl, rfl, .inl q, by unfold atI; rw [← r.length]; exact Option.bind_eq_some_iff.mpr ⟨j, e1, e3⟩, fin_v S F g r2⟩ hs
      | _ => exact g.elim
    | _ => exact g.elim
  | dic k =>
    cases w with
    | val b =>
      dsimp only at g
      cases e : (Mn.keyOf b).bind fun j => Mn.lookK j k with
      | none => rw [e] at g; exact g.elim
      | some z =>
        rw [e] at g
        obtain ⟨j, e1, e2⟩ := Option.bind_eq_some_iff.mp e
        obtain ⟨a, hs', rfl, q, r⟩ := rv
        rcases RKs.look j r with ⟨e3, _⟩ | ⟨x, v, e3, e4, r2⟩
        · rw [e3] at e2; cases e2
        · rw [e3] at e2
          cases e2
          refine ix_dic (by omega) value slice pins s σ0 H _ _ xv yv Q I rx ry ⟨a, v, rfl, ?_, fin_v S F g r2⟩ hs
          rw [keyOf_ok rw' e1, ← e4]
          exact DGet.k q
    | _ => exact g.elim
  | val a =>
    cases a with
    | tup l =>
      cases w with
      | val b =>
        cases b with
        | int i =>
          dsimp only at g
          cases e : (Mn.ixN l.length i).bind fun j => l[j]? with
          | none => rw [e] at g; exact g.elim
          | some z =>
            rw [e] at g
            obtain ⟨j, e1, e2⟩ := Option.bind_eq_some_iff.mp e
            obtain ⟨a, hs', rfl, q, r⟩ := rv
            obtain ⟨u, e3, r2⟩ := r.get e2
            obtain rfl : y = V.int i := rw'
            rw [← hK] at q
            exact ix_tup value slice pins s σ0 H _ _ xv yv Q I rx ry ⟨a, hs', i, u, rfl, rfl, q, by unfold atI; rw [← r.length]; exact Option.bind_eq_some_iff.mpr ⟨j, e1, e3⟩, fin_v S F g r2⟩ hs
        | _ => exact g.elim
      | _ => exact g.elim
    | str z =>
      cases w with
      | val b =>
        cases b with
        | int i =>
          dsimp only at g
          cases e : (Mn.ixN z.length i).bind fun j => z.cps.toList[j]? with
          | none => rw [e] at g; exact g.elim
          | some c =>
            rw [e] at g
            dsimp only at g
            by_cases k : z.length ≤ Mn.limit
            · rw [if_pos k] at g
              obtain ⟨j, e1, e2⟩ := Option.bind_eq_some_iff.mp e
              obtain ⟨rfl, o⟩ := rv
              obtain rfl : y = V.int i := rw'
              exact ix_str value slice pins s σ0 H _ _ xv yv Q I rx ry ⟨z, i, c, rfl, rfl, by rw [← limit_line]; exact k, by unfold atI; exact Option.bind_eq_some_iff.mpr ⟨j, by rw [Array.length_toList]; exact e1, e2⟩, fin_v S F g ⟨rfl, strOk_one o e2⟩⟩ hs
            · rw [if_neg k] at g
              exact g.elim
        | _ => exact g.elim
      | _ => exact g.elim
    | _ => cases w <;> exact g.elim
theorem cutAt_is (n d : Nat) (o : Option Int) : Mn.cutAt n d o = HT.sIx n d o := by
  cases o <;> rfl
theorem cutL_is {μ : List Addr} {H : Hp} {l : List Mn.Val} {vs : List V} (r : RVs C μ H l vs) (lo hi : Option Int) : RVs C μ H (Mn.cutL l lo hi) (cutV vs lo hi) := by
  unfold Mn.cutL cutV
  rw [cutAt_is, cutAt_is, r.length]
  exact (r.drop _).take _
theorem op_sli (hK : X.K = C.K) : SlR X (fun x lo hi H Q => rLf1 C W (RBx C) (fun v => Mn.sliV v lo hi) x H Q) := by
  intro pins s σ0 H x xv vl vu lo hi sl Q I rx hsl pl pu h
  obtain ⟨σ, μ, ρ, h, μ₀, ρ₀, H₀, v, S, F, rv, g⟩ := h
  cases v with
  | lst l =>
    obtain ⟨a, hs', rfl, q, r⟩ := rv
    exact sl_list pins s σ0 H _ xv vl vu lo hi sl Q I rx hsl pl pu ⟨a, hs', rfl, .inl q, fun p hp => fin_l S F g (cutL_is r lo hi) p hp⟩
  | dic k => exact g.elim
  | val z =>
    cases z with
    | tup l =>
      obtain ⟨a, hs', rfl, q, r⟩ := rv
      refine sl_tupA pins s σ0 H _ xv vl vu lo hi sl Q I rx hsl pl pu ⟨a, hs', rfl, by rw [hK]; exact q, fun e => ?_, fun _ p hp => fin_t S F g (cutL_is r lo hi) p hp⟩
      have e2 : Mn.cutL l lo hi = l := by
        unfold Mn.cutL
        rw [cutAt_is, cutAt_is, r.length, e.1, e.2, ← r.length]
        simp
      have g' : Good C W σ (RBx C) μ₀ ρ₀ H₀ Q (Mn.ret (.v (.tup (Mn.cutL l lo hi))) ρ h) := g
      rw [e2] at g'
      exact fin_v S F g' ⟨a, hs', rfl, q, r⟩
    | str z =>
      unfold Mn.sliV at g
      dsimp only at g
      by_cases k : z.length ≤ Mn.limit
      · rw [if_pos k] at g
        obtain ⟨rfl, o⟩ := rv
        refine sl_str pins s σ0 H _ xv vl vu lo hi sl Q I rx hsl pl pu ⟨z, rfl, by rw [← limit_line]; exact k, ?_⟩
        have e : (⟨(Mn.cutL z.cps.toList lo hi).toArray⟩ : Str) = cutS z lo hi := by
          unfold Mn.cutL cutS
          rw [cutAt_is, cutAt_is]
          rfl
        refine fin_v S F g ⟨by rw [e], strOk_sub o fun c hc => ?_⟩
        exact List.mem_of_mem_drop (List.mem_of_mem_take hc)
      · rw [if_neg k] at g
        exact g.elim
    | _ => exact g.elim
end
end Ms
end
section
namespace Ms
open PySem PySem.Spec PyProof.Rows L2
theorem uniq_le : ∀ {l m : List Int}, l.Pairwise (· ≤ ·) → m.Pairwise (· ≤ ·) → l.Perm m → l = m
  | [], m, _, _, p => (List.nil_perm.mp p).symm
  | a :: l, [], _, _, p => absurd p.length_eq (by simp)
  | a :: l, b :: m, h1, h2, p => by
    have ha : a ∈ b :: m := p.mem_iff.mp (by simp)
    have hb : b ∈ a :: l := p.mem_iff.mpr (by simp)
    have e1 : b ≤ a := by
      rcases List.mem_cons.mp ha with e | e
      · omega
      · exact (List.pairwise_cons.mp h2).1 a e
    have e2 : a ≤ b := by
      rcases List.mem_cons.mp hb with e | e
      · omega
      · exact (List.pairwise_cons.mp h1).1 b e
    obtain rfl : a = b := Int.le_antisymm e2 e1
    rw [uniq_le (List.pairwise_cons.mp h1).2 (List.pairwise_cons.mp h2).2 (List.perm_cons a |>.mp p)]
theorem insO_perm (a : Int) : ∀ l : List Int, (Mn.insO Mn.leI a l).Perm (a :: l)
  | [] => .refl _
  | b :: r => by
    unfold Mn.insO
    by_cases c : Mn.leI a b = true
    · rw [if_pos c]
    · rw [if_neg c]
      exact ((insO_perm a r).cons b).trans (.swap a b r)
theorem insO_srt (a : Int) : ∀ l : List Int, l.Pairwise (· ≤ ·) → (Mn.insO Mn.leI a l).Pairwise (· ≤ ·)
  | [], _ => by simp [Mn.insO]
  | b :: r, h => by
    unfold Mn.insO
    by_cases c : Mn.leI a b = true
    · rw [if_pos c]
      refine List.pairwise_cons.mpr ⟨fun y hy => ?_, h⟩
      have c' : a ≤ b := of_decide_eq_true c
      rcases List.mem_cons.mp hy with rfl | hy
      · exact c'
      · exact Int.le_trans c' ((List.pairwise_cons.mp h).1 y hy)
    · rw [if_neg c]
      have c' : ¬ a ≤ b := fun z => c (decide_eq_true z)
      refine List.pairwise_cons.mpr ⟨fun y hy => ?_, insO_srt a r (List.pairwise_cons.mp h).2⟩
      rcases List.mem_cons.mp ((insO_perm a r).mem_iff.mp hy) with rfl | hy
      · omega
      · exact (List.pairwise_cons.mp h).1 y hy
theorem sortO_perm : ∀ l : List Int, (Mn.sortO Mn.leI l).Perm l
  | [] => .refl _
  | a :: r => (insO_perm a _).trans ((sortO_perm r).cons a)
theorem sortO_srt : ∀ l : List Int, (Mn.sortO Mn.leI l).Pairwise (· ≤ ·)
  | [] => List.Pairwise.nil
  | a :: r => insO_srt a _ (sortO_srt r)
theorem sort_is {l m : List Int} (p : m.Perm l) (h : m.Pairwise (· ≤ ·)) : m = Mn.sortO Mn.leI l := uniq_le h (sortO_srt l) (p.trans (sortO_perm l).symm)
theorem dedup_mem {α : Type} [DecidableEq α] {x : α} : ∀ l : List α, x ∈ Mn.dedup l ↔ x ∈ l
  | [] => Iff.rfl
  | a :: r => by
    unfold Mn.dedup
    by_cases c : a ∈ r
    · rw [if_pos c, dedup_mem r]
      exact ⟨fun h => List.mem_cons_of_mem _ h, fun h => (List.mem_cons.mp h).elim (fun e => e ▸ c) id⟩
    · rw [if_neg c, List.mem_cons, List.mem_cons, dedup_mem r]
theorem dedup_nodup {α : Type} [DecidableEq α] : ∀ l : List α, (Mn.dedup l).Nodup
  | [] => List.nodup_nil
  | a :: r => by
    unfold Mn.dedup
    by_cases c : a ∈ r
    · rw [if_pos c]
      exact dedup_nodup r
    · rw [if_neg c]
      exact List.nodup_cons.mpr ⟨fun h => c ((dedup_mem r).mp h), dedup_nodup r⟩
theorem set_is {l m : List Int} (h : m.Pairwise (· < ·)) (k : ∀ x, x ∈ m ↔ x ∈ l) : m = Mn.sortO Mn.leI (Mn.dedup l) := by
  have n : m.Nodup := h.imp fun c => Int.ne_of_lt c
  have p : m.Perm (Mn.dedup l) := by
    rw [List.perm_iff_count]
    intro a
    have e : m.count a = if a ∈ m then 1 else 0 := List.Nodup.count n
    have e2 : (Mn.dedup l).count a = if a ∈ Mn.dedup l then 1 else 0 := List.Nodup.count (dedup_nodup l)
    rw [e, e2]
    have : (a ∈ m) = (a ∈ Mn.dedup l) := propext ((k a).trans (dedup_mem l).symm)
    simp only [this]
  exact sort_is p (h.imp fun c => Int.le_of_lt c)
theorem minL_mem : ∀ (a : Int) (r : List Int), Mn.minL a r ∈ a :: r
  | a, [] => by simp [Mn.minL]
  | a, b :: r => by
    unfold Mn.minL
    have := minL_mem (if b < a then b else a) r
    rcases List.mem_cons.mp this with e | e
    · rw [e]
      by_cases c : b < a
      · rw [if_pos c]; simp
      · rw [if_neg c]; simp
    · simp [e]
theorem minL_le : ∀ (a : Int) (r : List Int), ∀ y ∈ a :: r, Mn.minL a r ≤ y
  | a, [], y, h => by
    rw [List.mem_singleton.mp h]
    exact Int.le_refl _
  | a, b :: r, y, h => by
    unfold Mn.minL
    have k := minL_le (if b < a then b else a) r
    have k0 := k _ (List.mem_cons_self ..)
    rcases List.mem_cons.mp h with rfl | h
    · by_cases c : b < y
      · rw [if_pos c] at k0 ⊢; omega
      · rw [if_neg c] at k0 ⊢; exact k0
    · rcases List.mem_cons.mp h with rfl | h
      · by_cases c : y < a
        · rw [if_pos c] at k0 ⊢; exact k0
        · rw [if_neg c] at k0 ⊢; omega
      · exact k y (List.mem_cons_of_mem _ h)
theorem maxL_mem : ∀ (a : Int) (r : List Int), Mn.maxL a r ∈ a :: r
  | a, [] => by simp [Mn.maxL]
  | a, b :: r => by
    unfold Mn.maxL
    have := maxL_mem (if b > a then b else a) r
    rcases List.mem_cons.mp this with e | e
    · rw [e]
      by_cases c : b > a
      · rw [if_pos c]; simp
      · rw [if_neg c]; simp
    · simp [e]
theorem maxL_ge : ∀ (a : Int) (r : List Int), ∀ y ∈ a :: r, y ≤ Mn.maxL a r
  | a, [], y, h => by
    rw [List.mem_singleton.mp h]
    exact Int.le_refl _
  | a, b :: r, y, h => by
    unfold Mn.maxL
    have k := maxL_ge (if b > a then b else a) r
    have k0 := k _ (List.mem_cons_self ..)
    rcases List.mem_cons.mp h with rfl | h
    · by_cases c : b > y
      · rw [if_pos c] at k0 ⊢; omega
      · rw [if_neg c] at k0 ⊢; exact k0
    · rcases List.mem_cons.mp h with rfl | h
      · by_cases c : y > a
        · rw [if_pos c] at k0 ⊢; exact k0
        · rw [if_neg c] at k0 ⊢; omega
      · exact k y (List.mem_cons_of_mem _ h)
theorem strOk_ofString (x : String) : PyData.strOk (Str.ofString x) = true := by
  rw [Str.ofString_eq_toList]
  unfold PyData.strOk
  rw [Array.all_eq_true_iff_forall_mem]
  intro c hc
  have hc : c ∈ x.toList.map Char.toNat := by simpa using hc
  obtain ⟨d, _, rfl⟩ := List.mem_map.mp hc
  have := d.valid
  apply decide_eq_true
  show d.val.toNat < 1114112
  rcases this with h | h
  · exact Nat.lt_trans h (by decide)
  · exact h.2
inductive BF where
  | b (x : String) | t (x : String)
def nameF : Mn.F1 → Option BF
  | .len => some (.b "len") | .all => some (.b "all") | .sum => some (.b "sum") | .min => some (.b "min") | .max => some (.b "max") | .sorted => some (.b "sorted")
  | .list => some (.t "list") | .tuple => some (.t "tuple") | .int => some (.t "int") | .str => some (.t "str") | .abs => some (.b "abs") | .dict => some (.t "dict")
  | _ => none
def BF.val : BF → Value
  | .b x => .builtin x
  | .t x => .type x
section
variable {X : Cx} {C : Ct} {W : WX}
def rF1 (C : Ct) (W : WX) (f : Mn.F1) : List V → Hp → VK → Prop := fun vs H Q => ∃ x, vs = [x] ∧ rLf1 C W (RBx C) (Mn.f1V f) x H Q
theorem f1_call (hK : X.K = C.K) (hc : X.calm = true) {f : Mn.F1} {b : BF} (hf : nameF f = some b) : CallR X b.val (rF1 C W f) := by
  intro pins s σ0 H vs us Q I r h
  obtain ⟨x, rfl, σ, μ, ρ, h, μ₀, ρ₀, H₀, w, S, F, rv, g⟩ := h
  cases f with
  | len =>
    cases hf
    cases w with
    | lst l =>
      obtain ⟨a, hs, rfl, q, rr⟩ := rv
      exact call_len_seq pins s σ0 H _ us Q I r ⟨a, hs, rfl, .inl (.inl q), fin_v S F g (by rw [rr.length]; exact rfl)⟩
    | dic l =>
      obtain ⟨a, hs, rfl, q, rr⟩ := rv
      exact call_lenD pins s σ0 H _ us Q I r ⟨a, hs, rfl, q, fin_v S F g (by rw [rr.length]; exact rfl)⟩
    | val x =>
      cases x with
      | tup l =>
        obtain ⟨a, hs, rfl, q, rr⟩ := rv
        rw [← hK] at q
        exact call_len_seq pins s σ0 H _ us Q I r ⟨a, hs, rfl, .inr q, fin_v S F g (by rw [rr.length]; exact rfl)⟩
      | str z =>
        obtain ⟨rfl, o⟩ := rv
        unfold Mn.f1V at g
        dsimp only at g
        by_cases c : z.length ≤ Mn.limit
        · rw [if_pos c] at g
          exact call_len_str pins s σ0 H _ us Q I r ⟨z, rfl, by rw [← limit_line]; exact c, fin_v S F g rfl⟩
        · rw [if_neg c] at g
          exact g.elim
      | _ => exact g.elim
  | all =>
    cases hf
    cases w with
    | lst l =>
      obtain ⟨a, hs, rfl, q, rr⟩ := rv
      unfold Mn.f1V at g
      dsimp only at g
      cases e : Mn.allBools l with
      | none => rw [e] at g; exact g.elim
      | some bs =>
        rw [e] at g
        obtain rfl := rr.bools e
        exact cr_all hc pins s σ0 H _ us Q I r ⟨a, bs, rfl, .inl q, fin_v S F g rfl⟩
    | dic l => exact g.elim
    | val x => cases x <;> exact g.elim
  | sum =>
    cases hf
    cases w with
    | lst l =>
      obtain ⟨a, hs, rfl, q, rr⟩ := rv
      unfold Mn.f1V at g
      dsimp only at g
      cases e : Mn.allInts l with
      | none => rw [e] at g; exact g.elim
      | some bs =>
        rw [e] at g
        obtain rfl := rr.ints e
        exact cr_sum hc pins s σ0 H _ us Q I r ⟨a, bs, rfl, .inl q, fin_v S F g rfl⟩
    | dic l => exact g.elim
    | val x => cases x <;> exact g.elim
  | min =>
    cases hf
    cases w with
    | lst l =>
      obtain ⟨a, hs, rfl, q, rr⟩ := rv
      unfold Mn.f1V at g
      dsimp only at g
      cases e : Mn.allInts l with
      | none => rw [e] at g; exact g.elim
      | some bs =>
        rw [e] at g
        cases bs with
        | nil => exact g.elim
        | cons b bs =>
          obtain rfl := rr.ints e
          refine cr_min hc pins s σ0 H _ us Q I r ⟨a, b :: bs, rfl, .inl q, Nat.succ_pos _, fun m h1 h2 => ?_⟩
          obtain rfl : m = Mn.minL b bs := Int.le_antisymm (h2 _ (minL_mem b bs)) (minL_le b bs _ h1)
          exact fin_v S F g rfl
    | dic l => exact g.elim
    | val x => cases x <;> exact g.elim
  | max =>
    cases hf
    cases w with
    | lst l =>
      obtain ⟨a, hs, rfl, q, rr⟩ := rv
      unfold Mn.f1V at g
      dsimp only at g
      cases e : Mn.allInts l with
      | none => rw [e] at g; exact g.elim
      | some bs =>
        rw [e] at g
        cases bs with
        | nil => exact g.elim
        | cons b bs =>
          obtain rfl := rr.ints e
          refine cr_max hc pins s σ0 H _ us Q I r ⟨a, b :: bs, rfl, .inl q, Nat.succ_pos _, fun m h1 h2 => ?_⟩
          obtain rfl : m = Mn.maxL b bs := Int.le_antisymm (maxL_ge b bs _ h1) (h2 _ (maxL_mem b bs))
          exact fin_v S F g rfl
    | dic l => exact g.elim
    | val x => cases x <;> exact g.elim
  | sorted =>
    cases hf
    cases w with
    | lst l =>
      obtain ⟨a, hs, rfl, q, rr⟩ := rv
      unfold Mn.f1V at g
      dsimp only at g
      cases e : Mn.allInts l with
      | none => rw [e] at g; exact g.elim
      | some bs =>
        rw [e] at g
        obtain rfl := rr.ints e
        refine cr_sortedI pins s σ0 H _ us Q I r ⟨a, bs, rfl, .inl q, fun ns' p h1 h2 hp => ?_⟩
        rw [sort_is h1 h2]
        exact fin_l S F g (RVs.ofInts _) p hp
    | dic l => exact g.elim
    | val x => cases x <;> exact g.elim
  | sset => cases hf
  | skeys => cases hf
  | list =>
    cases hf
    cases w with
    | lst l =>
      obtain ⟨a, hs, rfl, q, rr⟩ := rv
      exact call_list_of pins s σ0 H _ us Q I r ⟨a, hs, rfl, .inl (.inl q), fun p hp => fin_l S F g rr p hp⟩
    | dic l => exact g.elim
    | val x =>
      cases x with
      | tup l =>
        obtain ⟨a, hs, rfl, q, rr⟩ := rv
        rw [← hK] at q
        exact call_list_of pins s σ0 H _ us Q I r ⟨a, hs, rfl, .inr q, fun p hp => fin_l S F g rr p hp⟩
      | _ => exact g.elim
  | tuple =>
    cases hf
    cases w with
    | lst l =>
      obtain ⟨a, hs, rfl, q, rr⟩ := rv
      exact call_tuple_of pins s σ0 H _ us Q I r ⟨a, hs, rfl, .inl ⟨.inl q, fun p hp => fin_t S F g rr p hp⟩⟩
    | dic l => exact g.elim
    | val x =>
      cases x with
      | tup l =>
        obtain ⟨a, hs, rfl, q, rr⟩ := rv
        have q' := q
        rw [← hK] at q'
        exact call_tuple_of pins s σ0 H _ us Q I r ⟨a, hs, rfl, .inr ⟨q', fin_v S F g ⟨a, hs, rfl, q, rr⟩⟩⟩
      | _ => exact g.elim
  | int =>
    cases hf
    cases w with
    | lst l => exact g.elim
    | dic l => exact g.elim
    | val x =>
      cases x with
      | int i =>
        obtain rfl : x = V.int i := rv
        exact call_int1 pins s σ0 H _ us Q I r (.inl ⟨i, rfl, fin_v S F g rfl⟩)
      | bl b =>
        obtain rfl : x = V.bl b := rv
        exact call_int1 pins s σ0 H _ us Q I r (.inr ⟨b, rfl, fin_v S F g rfl⟩)
      | str z =>
        obtain ⟨rfl, o⟩ := rv
        unfold Mn.f1V at g
        dsimp only at g
        cases e : intText? z with
        | none => rw [e] at g; exact g.elim
        | some n =>
          rw [e] at g
          dsimp only at g
          by_cases c : z.length ≤ 640
          · rw [if_pos c] at g
            exact call_int_str pins s σ0 H _ us Q I r ⟨z, n, rfl, e, c, fin_v S F g rfl⟩
          · rw [if_neg c] at g
            exact g.elim
      | _ => exact g.elim
  | str =>
    cases hf
    cases w with
    | lst l => exact g.elim
    | dic l => exact g.elim
    | val x =>
      cases x with
      | int i =>
        obtain rfl : x = V.int i := rv
        unfold Mn.f1V at g
        dsimp only at g
        by_cases c : i.natAbs.log2 < 1920
        · rw [if_pos c] at g
          refine call_str_int pins s σ0 H _ us Q I r ⟨i, rfl, c, fin_v S F g ⟨rfl, ?_⟩⟩
          exact strOk_ofString _
        · rw [if_neg c] at g
          exact g.elim
      | str z =>
        have rv' := rv
        obtain ⟨rfl, o⟩ := rv
        exact SkE.call_str_str pins s σ0 H _ us Q I r ⟨z, rfl, fin_v S F g rv'⟩
      | _ => exact g.elim
  | abs =>
    cases hf
    cases w with
    | lst l => exact g.elim
    | dic l => exact g.elim
    | val x =>
      cases x with
      | int i =>
        obtain rfl : x = V.int i := rv
        exact call_abs pins s σ0 H _ us Q I r ⟨i, rfl, fin_v S F g rfl⟩
      | _ => exact g.elim
  | dict =>
    cases hf
    cases w with
    | lst l => exact g.elim
    | dic l =>
      obtain ⟨a, hs, rfl, q, rr⟩ := rv
      exact call_dictD pins s σ0 H _ us Q I r ⟨a, hs, rfl, .inl q, fun p hp => fin_d S F g rr p hp⟩
    | val x => cases x <;> exact g.elim
end
end Ms
end
section
namespace Ms
open PySem PySem.Spec PyProof.Rows L2
section
variable {C : Ct} {W : WX} {σ : L2.St} {α β γ δ : Type} {μ₀ μ : List Addr} {ρ₀ ρ : Mn.Slots} {h : Mn.Hp} {H₀ H : Hp}
theorem getElem?_snoc {α : Type} (l : List α) (a : α) : (l ++ [a])[l.length]? = some a := by simp
theorem Fra.give {a : Addr} (F : Fra μ₀ ρ₀ σ H₀ μ ρ σ H) (n : H₀ a = none) : Fra μ₀ ρ₀ σ H₀ (μ ++ [a]) ρ σ H := by
  obtain ⟨ν, e⟩ := F.pre
  refine ⟨⟨ν ++ [a], by rw [e, List.append_assoc]⟩, fun b o q m1 m2 => ?_, F.live⟩
  obtain ⟨k1, k2, k3⟩ := F.keep b o q m1 m2
  refine ⟨k1, fun z => ?_, k3⟩
  rcases List.mem_append.mp z with z | z
  · exact k2 z
  · rw [List.mem_singleton.mp z, n] at q
    cases q
mutual
theorem rv_give {μ' : List Addr} {ν : List Addr} (e : μ' = μ ++ ν) : ∀ {x : Mn.Val} {v : V}, RV C μ H x v → RV C μ' H x v
  | .non, _, r => r
  | .bl _, _, r => r
  | .int _, _, r => r
  | .str _, _, r => r
  | .tup l, v, ⟨a, hs, e1, q, r⟩ => ⟨a, hs, e1, q, rvs_give e r⟩
  | .exc c, v, r => r
  | .ref i, v, ⟨a, e1, q⟩ => by
    refine ⟨a, e1, ?_⟩
    rw [e, List.getElem?_append_left (List.getElem?_eq_some_iff.mp q).1]
    exact q
theorem rvs_give {μ' : List Addr} {ν : List Addr} (e : μ' = μ ++ ν) : ∀ {x : List Mn.Val} {v : List V}, RVs C μ H x v → RVs C μ' H x v
  | [], _, r => r
  | x :: l, v, ⟨u, ur, e1, r1, r2⟩ => ⟨u, ur, e1, rv_give e r1, rvs_give e r2⟩
end
theorem rks_give {μ' : List Addr} {ν : List Addr} (e : μ' = μ ++ ν) : ∀ {x : List (Mn.Key × Mn.Val)} {v : List (Key × V)}, RKs C μ H x v → RKs C μ' H x v
  | [], _, r => r
  | (k, x) :: l, v, ⟨u, ur, e1, r1, r2⟩ => ⟨u, ur, e1, rv_give e r1, rks_give e r2⟩
theorem rfs_give {μ' : List Addr} {ν : List Addr} (e : μ' = μ ++ ν) : ∀ {x : List (Str × Mn.Val)} {v : List (Str × V)}, RFs C μ H x v → RFs C μ' H x v
  | [], _, r => r
  | (k, x) :: l, v, ⟨u, ur, e1, r1, r2⟩ => ⟨u, ur, e1, rv_give e r1, rfs_give e r2⟩
theorem ro_give {μ' : List Addr} {ν : List Addr} (e : μ' = μ ++ ν) {o : Mn.Obj} {a : Addr} (r : RO C μ H o a) : RO C μ' H o a := by
  cases o with
  | lst l =>
    obtain ⟨hs, e1, r⟩ := r
    exact ⟨hs, e1, rvs_give e r⟩
  | frz l =>
    obtain ⟨o, hs, e1, r⟩ := r
    exact ⟨o, hs, e1, rvs_give e r⟩
  | dic l =>
    obtain ⟨hs, e1, r⟩ := r
    exact ⟨hs, e1, rks_give e r⟩
  | ins c fs =>
    obtain ⟨dx, hf, e1, r⟩ := r
    exact ⟨dx, hf, e1, rfs_give e r⟩
theorem Own.sub {ρ' : Mn.Slots} {a : Addr} (k : ∀ (i : Nat) (b : Mn.B), ρ'[i]? = some (some b) → isOwn b → ρ[i]? = some (some b)) (o : Own ρ' σ a) : Own ρ σ a := by
  obtain ⟨i, b, e1, e2, e3⟩ := o
  exact ⟨i, b, k i b e1 e2, e2, e3⟩
theorem Sta.give {ρ' : Mn.Slots} {a : Addr} {o : Mn.Obj} (S : Sta C μ ρ h σ H) (na : a ∉ μ) (ro : RO C μ H o a) (hl : ρ'.length = ρ.length)
    (hs : ∀ (i : Nat) (b : Mn.B), ρ'[i]? = some (some b) → (ρ[i]? = some (some b) ∧ (isOwn b → σ[i]? ≠ some (some (V.ref a)))) ∨ (b = .v (.ref h.length) ∧ σ[i]? = some (some (V.ref a)))) : Sta C (μ ++ [a]) ρ' (h ++ [o]) σ H := by
  have ox : ∀ (i : Nat) (b : Mn.B), ρ'[i]? = some (some b) → isOwn b → ρ[i]? = some (some b) ∧ σ[i]? ≠ some (some (V.ref a)) := fun i b e1 e2 => by
    rcases hs i b e1 with ⟨k1, k2⟩ | ⟨k1, k2⟩
    · exact ⟨k1, k2 e2⟩
    · subst k1
      exact e2.elim
  refine ⟨?_, ?_, fun i u e => ?_, ?_, fun i b e => ?_, fun i j b c z e1 e2 e3 e4 e5 e6 => S.own i j b c z (ox i b e1 e2).1 e2 e3 (ox j c e4 e5).1 e5 e6⟩
  · rw [List.nodup_append]
    refine ⟨S.nd, (List.nodup_cons.mpr ⟨by simp, List.nodup_nil⟩), fun x hx y hy => ?_⟩
    rw [List.mem_singleton.mp hy]
    rintro rfl
    exact na hx
  · rw [List.length_append, List.length_append, S.len] <;> rfl
  · by_cases c : i < h.length
    · rw [List.getElem?_append_left c] at e
      obtain ⟨b, e1, r⟩ := S.obj i u e
      refine ⟨b, ?_, ro_give rfl r⟩
      rw [List.getElem?_append_left (List.getElem?_eq_some_iff.mp e1).1]
      exact e1
    · have hi : i = h.length := by
        have := (List.getElem?_eq_some_iff.mp e).1
        rw [List.length_append] at this
        simp at this
        omega
      subst hi
      rw [getElem?_snoc] at e
      cases e
      exact ⟨a, by rw [← S.len]; exact getElem?_snoc μ a, ro_give rfl ro⟩
  · rw [hl, S.slen]
  · rcases hs i b e with ⟨k1, k2⟩ | ⟨k1, k2⟩
    · obtain ⟨v, e1, r⟩ := S.slot i b k1
      refine ⟨v, e1, ?_⟩
      cases b with
      | v x => exact rv_give rfl r
      | sl x => exact r
      | l xs =>
        obtain ⟨b, hs, rfl, e2, r2, n⟩ := r
        refine ⟨b, hs, rfl, e2, rvs_give rfl r2, fun z => ?_⟩
        rcases List.mem_append.mp z with z | z
        · exact n z
        · rw [List.mem_singleton.mp z] at e1
          exact k2 trivial e1
      | d xs =>
        obtain ⟨b, hs, rfl, e2, r2, n⟩ := r
        refine ⟨b, hs, rfl, e2, rks_give rfl r2, fun z => ?_⟩
        rcases List.mem_append.mp z with z | z
        · exact n z
        · rw [List.mem_singleton.mp z] at e1
          exact k2 trivial e1
    · subst k1
      exact ⟨_, k2, a, rfl, by rw [← S.len]; exact getElem?_snoc μ a⟩
theorem Sta.give0 {a : Addr} {o : Mn.Obj} (S : Sta C μ ρ h σ H) (na : a ∉ μ) (no : ¬ Own ρ σ a) (ro : RO C μ H o a) : Sta C (μ ++ [a]) ρ (h ++ [o]) σ H :=
  S.give na ro rfl fun i b e => .inl ⟨e, fun e2 z => no ⟨i, b, e, e2, z⟩⟩
theorem set_get {α : Type} {l : List α} {i j : Nat} {a b : α} (e : (l.set i a)[j]? = some b) : (j = i ∧ b = a) ∨ (j ≠ i ∧ l[j]? = some b) := by
  by_cases c : j = i
  · subst c
    have hl := (List.getElem?_eq_some_iff.mp e).1
    rw [List.length_set] at hl
    rw [List.getElem?_set_self hl] at e
    exact .inl ⟨rfl, (Option.some.inj e).symm⟩
  · rw [List.getElem?_set_ne (Ne.symm c)] at e
    exact .inr ⟨c, e⟩
theorem Sta.giveS {i : Nat} {a : Addr} {o : Mn.Obj} {b : Mn.B} (S : Sta C μ ρ h σ H) (e1 : ρ[i]? = some (some b)) (e2 : isOwn b) (e3 : σ[i]? = some (some (V.ref a))) (na : a ∉ μ) (ro : RO C μ H o a) :
    Sta C (μ ++ [a]) (ρ.set i (some (.v (.ref h.length)))) (h ++ [o]) σ H ∧ Fra μ ρ σ H (μ ++ [a]) (ρ.set i (some (.v (.ref h.length)))) σ H := by
  refine ⟨S.give na ro (by rw [List.length_set]) fun j c e => ?_, ⟨⟨[a], rfl⟩, fun z o q m1 m2 => ⟨q, fun k => ?_, fun k => ?_⟩, fun _ z => z⟩⟩
  · rcases set_get e with ⟨k1, k2⟩ | ⟨n, k2⟩
    · subst k1
      cases k2
      exact .inr ⟨rfl, e3⟩
    · exact .inl ⟨k2, fun w z => n (S.own j i c b a k2 w z e1 e2 e3)⟩
  · rcases List.mem_append.mp k with k | k
    · exact m1 k
    · rw [List.mem_singleton.mp k] at m2
      exact m2 ⟨i, b, e1, e2, e3⟩
  · refine m2 (Own.sub (fun j c e w => ?_) k)
    rcases set_get e with ⟨k1, k2⟩ | ⟨n, k2⟩
    · cases k2
      exact w.elim
    · exact k2
theorem step_toVal {R2 : RelT γ δ} {b : Mn.B} {v : V} {f : Mn.Val → Mn.M γ} {Q2 : δ → Hp → Prop} (S : Sta C μ ρ h σ H) (F : Fra μ₀ ρ₀ σ H₀ μ ρ σ H) (r : RB C μ ρ σ H b v) (n : isOwn b → ∀ a, v = .ref a → H₀ a = none)
    (g : Good C W σ R2 μ₀ ρ₀ H₀ Q2 (Mn.bind (Mn.toVal b) f ρ h)) : ∃ x μ1 ρ1 h1, Sta C μ1 ρ1 h1 σ H ∧ Fra μ₀ ρ₀ σ H₀ μ1 ρ1 σ H ∧ (∃ ν, μ1 = μ ++ ν) ∧ RV C μ1 H x v ∧ Good C W σ R2 μ₀ ρ₀ H₀ Q2 (f x ρ1 h1) := by
  cases b with
  | v x => exact ⟨x, μ, ρ, h, S, F, ⟨[], by simp⟩, r, g⟩
  | l xs =>
    obtain ⟨a, hs, rfl, e, r1, n1, n2⟩ := r
    exact ⟨.ref h.length, μ ++ [a], ρ, (h ++ [Mn.Obj.lst xs] : Mn.Hp), S.give0 (o := .lst xs) n1 n2 ⟨hs, e, r1⟩, F.give (n trivial a rfl), ⟨_, rfl⟩, ⟨a, rfl, by rw [← S.len]; exact getElem?_snoc μ a⟩, g⟩
  | d xs =>
    obtain ⟨a, hs, rfl, e, r1, n1, n2⟩ := r
    exact ⟨.ref h.length, μ ++ [a], ρ, (h ++ [Mn.Obj.dic xs] : Mn.Hp), S.give0 (o := .dic xs) n1 n2 ⟨hs, e, r1⟩, F.give (n trivial a rfl), ⟨_, rfl⟩, ⟨a, rfl, by rw [← S.len]; exact getElem?_snoc μ a⟩, g⟩
  | sl i =>
    have r' : σ[i]? = some (some v) := r
    unfold Mn.bind Mn.toVal at g
    dsimp only at g
    cases es : ρ[i]? with
    | none => rw [es] at g; exact g.elim
    | some o =>
      cases o with
      | none => rw [es] at g; exact g.elim
      | some b =>
        rw [es] at g
        obtain ⟨u, e1, rs⟩ := S.slot i b es
        rw [r'] at e1
        cases e1
        cases b with
        | v x => exact ⟨x, μ, ρ, h, S, F, ⟨[], by simp⟩, rs, g⟩
        | l xs =>
          obtain ⟨a, hs, rfl, e2, r2, n⟩ := rs
          obtain ⟨S', F'⟩ := S.giveS (o := .lst xs) es trivial r' n ⟨hs, e2, r2⟩
          exact ⟨.ref h.length, _, _, _, S', F.trans F', ⟨_, rfl⟩, ⟨a, rfl, by rw [← S.len]; exact getElem?_snoc μ a⟩, g⟩
        | d xs =>
          obtain ⟨a, hs, rfl, e2, r2, n⟩ := rs
          obtain ⟨S', F'⟩ := S.giveS (o := .dic xs) es trivial r' n ⟨hs, e2, r2⟩
          exact ⟨.ref h.length, _, _, _, S', F.trans F', ⟨_, rfl⟩, ⟨a, rfl, by rw [← S.len]; exact getElem?_snoc μ a⟩, g⟩
        | sl j => exact rs.elim
end
end Ms
end
section
namespace Ms
open PySem PySem.Spec PyProof.Rows L2
section
variable {C : Ct} {W : WX} {σ : L2.St} {H : Hp} {Q : VK}
theorem w_slot {i : Nat} (t : TEv C W (Mn.ldSlot i) σ H Q) : tVar i σ H Q := by
  obtain ⟨μ, ρ, h, S, g⟩ := t
  unfold Mn.ldSlot at g
  cases es : ρ[i]? with
  | none => rw [es] at g; exact g.elim
  | some o =>
    cases o with
    | none => rw [es] at g; exact g.elim
    | some b =>
      obtain ⟨u, e1, rs⟩ := S.slot i b es
      rw [es] at g
      refine ⟨u, e1, ?_⟩
      cases b with
      | v x => exact g μ H u S Fra.refl ⟨rs, fun z => z.elim⟩
      | l xs => exact g μ H u S Fra.refl ⟨e1, fun z => z.elim⟩
      | d xs => exact g μ H u S Fra.refl ⟨e1, fun z => z.elim⟩
      | sl j => exact g.elim
theorem w_cst {x : Mn.Val} {v : V} (r : ∀ μ H, RV C μ H x v) (t : TEv C W (Mn.ret (.v x)) σ H Q) : tC v σ H Q := by
  obtain ⟨μ, ρ, h, S, g⟩ := t
  exact g μ H v S Fra.refl ⟨r μ H, fun z => z.elim⟩
theorem w_bin {op : Operator} {a b : Mn.M Mn.B} (t : TEv C W (Mn.binM op a b) σ H Q) : tOp (rLf C W (RBx C) (Mn.binV op)) (TEv C W a) (TEv C W b) σ H Q := by
  obtain ⟨μ, ρ, h, S, g⟩ := t
  refine sub S Fra.refl g fun x H1 μ1 ρ1 h1 a S1 F1 r1 g1 => sub S1 F1 g1 fun y H2 μ2 ρ2 h2 b S2 F2 r2 g2 => ?_
  obtain ⟨v, w, e1, e2, g3⟩ := step_op2 g2
  exact ⟨σ, μ2, ρ2, h2, μ, ρ, H, v, w, S2, F1.trans F2, view_ok S2 (F2.rb S1 r1.1) e1, view_ok S2 r2.1 e2, g3⟩
theorem w_neg {a : Mn.M Mn.B} (t : TEv C W (Mn.negM a) σ H Q) : tUn (rU fun i => .int (-i)) (TEv C W a) σ H Q := by
  obtain ⟨μ, ρ, h, S, g⟩ := t
  refine sub S Fra.refl g fun x H1 μ1 ρ1 h1 a S1 F1 r1 g1 => ?_
  obtain ⟨w, e1, g2⟩ := step_view g1
  obtain ⟨i, rfl, g3⟩ := step_isoI g2
  have r2 := view_ok S1 r1.1 e1
  obtain rfl : x = V.int i := r2
  exact ⟨i, rfl, g3 μ1 H1 _ S1 F1 ⟨rfl, fun z => z.elim⟩⟩
theorem w_test {a : Mn.M Mn.B} {Q : Bool → Hp → Prop} (t : TTv C W (Mn.bind a Mn.truth) σ H Q) : TEv C W a σ H fun x H1 => ∃ c, x = .bl c ∧ Q c H1 := by
  obtain ⟨μ, ρ, h, S, g⟩ := t
  refine sub S Fra.refl g fun x H1 μ1 ρ1 h1 a S1 F1 r1 g1 => ?_
  cases a with
  | l l => exact g1.elim
  | d l => exact g1.elim
  | sl l => exact g1.elim
  | v y =>
    cases y with
    | bl c => exact ⟨c, r1.1, g1 μ1 H1 c S1 F1 rfl⟩
    | _ => exact g1.elim
theorem w_not {a : Mn.M Mn.B} (t : TEv C W (Mn.notM a) σ H Q) : tNotV (TEv C W a) σ H Q := by
  obtain ⟨μ, ρ, h, S, g⟩ := t
  refine sub S Fra.refl g fun x H1 μ1 ρ1 h1 a S1 F1 r1 g1 => ?_
  obtain ⟨c, rfl, g2⟩ := step_truth g1
  exact ⟨c, r1.1, g2 μ1 H1 _ S1 F1 ⟨rfl, fun z => z.elim⟩⟩
theorem rest {m : Mn.M Mn.B} {μ₀ μ : List Addr} {ρ₀ ρ : Mn.Slots} {h : Mn.Hp} {H₀ H : Hp} (S : Sta C μ ρ h σ H) (F : Fra μ₀ ρ₀ σ H₀ μ ρ σ H) (g : Good C W σ (RBx C) μ₀ ρ₀ H₀ Q (m ρ h)) : TEv C W m σ H Q := by
  refine ⟨μ, ρ, h, S, ?_⟩
  cases e : m ρ h with
  | bad => rw [e] at g; exact g.elim
  | err c ρ1 h1 =>
    rw [e] at g
    exact fun μ1 H1 S1 F1 => g μ1 H1 S1 (F.trans F1)
  | ok a ρ1 h1 =>
    rw [e] at g
    exact fun μ1 H1 x S1 F1 r => g μ1 H1 x S1 (F.trans F1) ⟨r.1, fun o z e => F.live _ (r.2 o z e)⟩
theorem restT {m : Mn.M Bool} {Q : Bool → Hp → Prop} {μ₀ μ : List Addr} {ρ₀ ρ : Mn.Slots} {h : Mn.Hp} {H₀ H : Hp} (S : Sta C μ ρ h σ H) (F : Fra μ₀ ρ₀ σ H₀ μ ρ σ H) (g : Good C W σ RBo μ₀ ρ₀ H₀ Q (m ρ h)) : TTv C W m σ H Q := by
  refine ⟨μ, ρ, h, S, ?_⟩
  cases e : m ρ h with
  | bad => rw [e] at g; exact g.elim
  | err c ρ1 h1 =>
    rw [e] at g
    exact fun μ1 H1 S1 F1 => g μ1 H1 S1 (F.trans F1)
  | ok a ρ1 h1 =>
    rw [e] at g
    exact fun μ1 H1 x S1 F1 r => g μ1 H1 x S1 (F.trans F1) r
theorem w_and {a b : Mn.M Mn.B} (t : TEv C W (Mn.andM a b) σ H Q) : tAndV (TEv C W a) (TEv C W b) σ H Q := by
  obtain ⟨μ, ρ, h, S, g⟩ := t
  refine sub S Fra.refl g fun x H1 μ1 ρ1 h1 a S1 F1 r1 g1 => ?_
  obtain ⟨c, rfl, g2⟩ := step_truth g1
  refine ⟨c, r1.1, ?_⟩
  cases c with
  | true => exact rest S1 F1 g2
  | false => exact g2 μ1 H1 _ S1 F1 ⟨rfl, fun z => z.elim⟩
theorem w_or {a b : Mn.M Mn.B} (t : TEv C W (Mn.orM a b) σ H Q) : tOrV (TEv C W a) (TEv C W b) σ H Q := by
  obtain ⟨μ, ρ, h, S, g⟩ := t
  refine sub S Fra.refl g fun x H1 μ1 ρ1 h1 a S1 F1 r1 g1 => ?_
  obtain ⟨c, rfl, g2⟩ := step_truth g1
  refine ⟨c, r1.1, ?_⟩
  cases c with
  | false => exact rest S1 F1 g2
  | true => exact g2 μ1 H1 _ S1 F1 ⟨rfl, fun z => z.elim⟩
abbrev tst (m : Mn.M Mn.B) : Mn.M Bool := Mn.bind m Mn.truth
theorem w_tt {a : Mn.M Mn.B} {f : Bool → Mn.M Mn.B} {Q : Bool → Hp → Prop} {r : Bool → TT}
    (hf : ∀ c σ H Q, TTv C W (Mn.bind (f c) Mn.truth) σ H Q → r c σ H Q)
    (t : TTv C W (Mn.bind (Mn.bind a fun x => Mn.bind (Mn.truth x) f) Mn.truth) σ H Q) : TTv C W (tst a) σ H fun c H1 => r c σ H1 Q := by
  obtain ⟨μ, ρ, h, S, g⟩ := t
  refine ⟨μ, ρ, h, S, ?_⟩
  unfold tst
  unfold Mn.bind at g ⊢
  cases e : a ρ h with
  | bad => rw [e] at g; exact g.elim
  | err c ρ1 h1 => rw [e] at g; exact g
  | ok x ρ1 h1 =>
    rw [e] at g
    dsimp only at g ⊢
    cases x with
    | l l => exact g.elim
    | d l => exact g.elim
    | sl l => exact g.elim
    | v y =>
      cases y with
      | bl c => exact fun μ1 H1 z S1 F1 r1 => by subst r1; exact hf c σ H1 Q (restT (m := Mn.bind (f c) Mn.truth) S1 F1 g)
      | _ => exact g.elim
theorem tt_ret {c : Bool} {Q : Bool → Hp → Prop} (t : TTv C W (Mn.bind (Mn.ret (.v (.bl c))) Mn.truth) σ H Q) : Q c H := by
  obtain ⟨μ, ρ, h, S, g⟩ := t
  exact g μ H c S Fra.refl rfl
theorem w_tnot {a : Mn.M Mn.B} {Q : Bool → Hp → Prop} (t : TTv C W (tst (Mn.notM a)) σ H Q) : tNot (TTv C W (tst a)) σ H Q :=
  w_tt (r := fun c σ H Q => Q (!c) H) (fun c σ H Q t => tt_ret t) t
theorem w_tand {a b : Mn.M Mn.B} {Q : Bool → Hp → Prop} (t : TTv C W (tst (Mn.andM a b)) σ H Q) : tAnd (TTv C W (tst a)) (TTv C W (tst b)) σ H Q :=
  w_tt (r := fun c σ H Q => if c = true then TTv C W (tst b) σ H Q else Q false H) (fun c σ H Q t => by
    cases c with
    | true => exact t
    | false => exact tt_ret t) t
theorem w_tor {a b : Mn.M Mn.B} {Q : Bool → Hp → Prop} (t : TTv C W (tst (Mn.orM a b)) σ H Q) : tOr (TTv C W (tst a)) (TTv C W (tst b)) σ H Q :=
  w_tt (r := fun c σ H Q => if c = true then Q true H else TTv C W (tst b) σ H Q) (fun c σ H Q t => by
    cases c with
    | false => exact t
    | true => exact tt_ret t) t
theorem w_ife {c a b : Mn.M Mn.B} (t : TEv C W (Mn.ifeM c a b) σ H Q) : tIf (TTv C W (tst c)) (TEv C W a) (TEv C W b) σ H Q := by
  obtain ⟨μ, ρ, h, S, g⟩ := t
  refine ⟨μ, ρ, h, S, ?_⟩
  unfold tst
  unfold Mn.ifeM at g
  unfold Mn.bind at g ⊢
  cases e : c ρ h with
  | bad => rw [e] at g; exact g.elim
  | err c ρ1 h1 => rw [e] at g; exact g
  | ok x ρ1 h1 =>
    rw [e] at g
    dsimp only at g ⊢
    cases x with
    | l l => exact g.elim
    | d l => exact g.elim
    | sl l => exact g.elim
    | v y =>
      cases y with
      | bl c =>
        intro μ1 H1 z S1 F1 r1
        subst r1
        cases c with
        | true => exact rest (m := a) S1 F1 g
        | false => exact rest (m := b) S1 F1 g
      | _ => exact g.elim
theorem w_cmp {op : CmpOp} {a b : Mn.M Mn.B} (t : TEv C W (Mn.cmpM op a b) σ H Q) : tOp (rLf C W (RBx C) (cmpF op)) (TEv C W a) (TEv C W b) σ H Q := by
  obtain ⟨μ, ρ, h, S, g⟩ := t
  refine sub S Fra.refl g fun x H1 μ1 ρ1 h1 a S1 F1 r1 g1 => sub S1 F1 g1 fun y H2 μ2 ρ2 h2 b S2 F2 r2 g2 => ?_
  obtain ⟨v, w, e1, e2, g3⟩ := step_op2b g2
  exact ⟨σ, μ2, ρ2, h2, μ, ρ, H, v, w, S2, F1.trans F2, view_ok S2 (F2.rb S1 r1.1) e1, view_ok S2 r2.1 e2, g3⟩
theorem w_tval {m : Mn.M Mn.B} {t0 : TE} (k : ∀ Q, TEv C W m σ H Q → t0 σ H Q) {Q : Bool → Hp → Prop} (t : TTv C W (tst m) σ H Q) : tTest t0 σ H Q := k _ (w_test t)
theorem w_idx {a b : Mn.M Mn.B} (t : TEv C W (Mn.idxM a b) σ H Q) : tOp (rLf C W (RBx C) Mn.idxV) (TEv C W a) (TEv C W b) σ H Q := by
  obtain ⟨μ, ρ, h, S, g⟩ := t
  refine sub S Fra.refl g fun x H1 μ1 ρ1 h1 a S1 F1 r1 g1 => sub S1 F1 g1 fun y H2 μ2 ρ2 h2 b S2 F2 r2 g2 => ?_
  obtain ⟨v, w, e1, e2, g3⟩ := step_op2 g2
  exact ⟨σ, μ2, ρ2, h2, μ, ρ, H, v, w, S2, F1.trans F2, view_ok S2 (F2.rb S1 r1.1) e1, view_ok S2 r2.1 e2, g3⟩
def ROx : RelT (Option Int) (Option Int) := fun _ _ _ _ _ a b => a = b
theorem w_o0 {Q : Option Int → Hp → Prop} (t : TRd C W ROx (Mn.optD none) σ H Q) : tNoPart σ H Q := by
  obtain ⟨μ, ρ, h, S, g⟩ := t
  exact g μ H none S Fra.refl rfl
theorem w_o1 {m : Mn.Dn} {Q : Option Int → Hp → Prop} (t : TRd C W ROx (Mn.optD (some m)) σ H Q) : tPart (TEv C W m.v) σ H Q := by
  obtain ⟨μ, ρ, h, S, g⟩ := t
  refine sub S Fra.refl g fun x H1 μ1 ρ1 h1 a S1 F1 r1 g1 => ?_
  obtain ⟨w, e1, g2⟩ := step_view g1
  obtain ⟨i, rfl, g3⟩ := step_isoI g2
  have r2 := view_ok S1 r1.1 e1
  obtain rfl : x = V.int i := r2
  exact ⟨i, rfl, g3 μ1 H1 (some i) S1 F1 rfl⟩
theorem w_sli {a : Mn.M Mn.B} {lo hi : Option Mn.Dn} (t : TEv C W (Mn.sliM a lo hi) σ H Q) :
    tSl (fun x lo hi H Q => rLf1 C W (RBx C) (fun v => Mn.sliV v lo hi) x H Q) (TEv C W a) (TRd C W ROx (Mn.optD lo)) (TRd C W ROx (Mn.optD hi)) σ H Q := by
  obtain ⟨μ, ρ, h, S, g⟩ := t
  refine sub S Fra.refl g fun x H1 μ1 ρ1 h1 a S1 F1 r1 g1 => sub S1 F1 g1 fun y H2 μ2 ρ2 h2 b S2 F2 r2 g2 => sub S2 (F1.trans F2) g2 fun z H3 μ3 ρ3 h3 c S3 F3 r3 g3 => ?_
  obtain ⟨w, e1, g4⟩ := step_view g3
  obtain rfl : b = y := r2
  obtain rfl : c = z := r3
  exact ⟨σ, μ3, ρ3, h3, μ, ρ, H, w, S3, (F1.trans F2).trans F3, view_ok S3 (F3.rb S2 (F2.rb S1 r1.1)) e1, g4⟩
theorem w_rev {a : Mn.M Mn.B} {K : PySem.W.Frag} (t : TEv C W (Mn.revM a) σ H Q) : tRevL K (TEv C W a) σ H Q := by
  obtain ⟨μ, ρ, h, S, g⟩ := t
  refine sub S Fra.refl g fun x H1 μ1 ρ1 h1 a S1 F1 r1 g1 => ?_
  obtain ⟨w, e1, g2⟩ := step_view g1
  cases w with
  | lst l =>
    obtain ⟨p, hs, rfl, q, r⟩ := view_ok S1 r1.1 e1
    exact ⟨p, hs, rfl, .inl q, fun p hp => fin_l S1 F1 g2 r.reverse p hp⟩
  | _ => exact g2.elim
theorem w_l0 {Q : List V → Hp → Prop} (t : TRd C W (RVsx C) (Mn.densL []) σ H Q) : tNil σ H Q := by
  obtain ⟨μ, ρ, h, S, g⟩ := t
  exact g μ H [] S Fra.refl rfl
theorem w_l1 {m : Mn.Dn} {l : List Mn.Dn} {Q : List V → Hp → Prop} (t : TRd C W (RVsx C) (Mn.densL (m :: l)) σ H Q) : tCons (TEv C W m.v) (TRd C W (RVsx C) (Mn.densL l)) σ H Q := by
  obtain ⟨μ, ρ, h, S, g⟩ := t
  refine sub S Fra.refl g fun v H1 μ1 ρ1 h1 b S1 F1 r1 g1 => ?_
  obtain ⟨x, μ2, ρ2, h2, S2, F2, _, rx, g2⟩ := step_toVal S1 F1 r1.1 r1.2 g1
  exact sub S2 F2 g2 fun vs H3 μ3 ρ3 h3 xs S3 F3 r3 g3 => g3 μ3 H3 (v :: vs) S3 (F2.trans F3) ⟨v, vs, rfl, F3.rv S2 rx, r3⟩
theorem w_tup {l : List Mn.Dn} (t : TEv C W (Mn.tupM l) σ H Q) : tTup (TRd C W (RVsx C) (Mn.densL l)) σ H Q := by
  obtain ⟨μ, ρ, h, S, g⟩ := t
  refine sub S Fra.refl g fun vs H1 μ1 ρ1 h1 xs S1 F1 r1 g1 => ?_
  by_cases c : xs.length ≤ Mn.limit
  · rw [if_pos c] at g1
    exact ⟨by rw [← RVs.length r1, ← limit_line]; exact c, fun p hp => fin_t S1 F1 g1 r1 p hp⟩
  · rw [if_neg c] at g1
    exact g1.elim
theorem w_lst {l : List Mn.Dn} (t : TEv C W (Mn.lstM l) σ H Q) : tLst (TRd C W (RVsx C) (Mn.densL l)) σ H Q := by
  obtain ⟨μ, ρ, h, S, g⟩ := t
  refine sub S Fra.refl g fun vs H1 μ1 ρ1 h1 xs S1 F1 r1 g1 => ?_
  by_cases c : xs.length ≤ Mn.limit
  · rw [if_pos c] at g1
    exact ⟨by rw [← RVs.length r1, ← limit_line]; exact c, fun p hp => fin_l S1 F1 g1 r1 p hp⟩
  · rw [if_neg c] at g1
    exact g1.elim
theorem w_f1 {a : Mn.M Mn.B} {f : Mn.F1} (t : TEv C W (Mn.bind a fun x => Mn.bind (Mn.viewM x) fun w => Mn.f1V f w) σ H Q) : tCB (rF1 C W f) (tCons (TEv C W a) tNil) σ H Q := by
  obtain ⟨μ, ρ, h, S, g⟩ := t
  refine sub S Fra.refl g fun x H1 μ1 ρ1 h1 a S1 F1 r1 g1 => ?_
  obtain ⟨w, e1, g2⟩ := step_view g1
  exact ⟨x, rfl, σ, μ1, ρ1, h1, μ, ρ, H, w, S1, F1, view_ok S1 r1.1 e1, g2⟩
theorem w_min2 {a b : Mn.M Mn.B} (t : TEv C W (Mn.min2M a b) σ H Q) : tCB (fun xs H Q => ∃ i j, xs = [.int i, .int j] ∧ Q (.int (if j < i then j else i)) H) (tCons (TEv C W a) (tCons (TEv C W b) tNil)) σ H Q := by
  obtain ⟨μ, ρ, h, S, g⟩ := t
  refine sub S Fra.refl g fun x H1 μ1 ρ1 h1 a S1 F1 r1 g1 => sub S1 F1 g1 fun y H2 μ2 ρ2 h2 b S2 F2 r2 g2 => ?_
  obtain ⟨v, w, e1, e2, g3⟩ := step_op2 g2
  obtain ⟨i, rfl, g4⟩ := step_isoI g3
  obtain ⟨j, rfl, g5⟩ := step_isoI g4
  have q1 := view_ok S2 (F2.rb S1 r1.1) e1
  have q2 := view_ok S2 r2.1 e2
  obtain rfl : x = V.int i := q1
  obtain rfl : y = V.int j := q2
  exact ⟨i, j, rfl, g5 μ2 H2 _ S2 (F1.trans F2) ⟨rfl, fun z => z.elim⟩⟩
theorem w_max2 {a b : Mn.M Mn.B} (t : TEv C W (Mn.max2M a b) σ H Q) : tCB (fun xs H Q => ∃ i j, xs = [.int i, .int j] ∧ Q (.int (if j > i then j else i)) H) (tCons (TEv C W a) (tCons (TEv C W b) tNil)) σ H Q := by
  obtain ⟨μ, ρ, h, S, g⟩ := t
  refine sub S Fra.refl g fun x H1 μ1 ρ1 h1 a S1 F1 r1 g1 => sub S1 F1 g1 fun y H2 μ2 ρ2 h2 b S2 F2 r2 g2 => ?_
  obtain ⟨v, w, e1, e2, g3⟩ := step_op2 g2
  obtain ⟨i, rfl, g4⟩ := step_isoI g3
  obtain ⟨j, rfl, g5⟩ := step_isoI g4
  have q1 := view_ok S2 (F2.rb S1 r1.1) e1
  have q2 := view_ok S2 r2.1 e2
  obtain rfl : x = V.int i := q1
  obtain rfl : y = V.int j := q2
  exact ⟨i, j, rfl, g5 μ2 H2 _ S2 (F1.trans F2) ⟨rfl, fun z => z.elim⟩⟩
end
end Ms
end
section
namespace Ms
open PySem PySem.Spec PyProof.Rows L2
def RBl (C : Ct) (H₀ : Hp) (μ : List Addr) (ρ : Mn.Slots) (σ : L2.St) (H : Hp) : List Mn.B → List V → Prop
  | [], vs => vs = []
  | b :: r, vs => ∃ v vr, vs = v :: vr ∧ RB C μ ρ σ H b v ∧ (∀ i, b ≠ .sl i) ∧
      (isOwn b → ∀ a, v = V.ref a → H₀ a = none ∧ ∀ (j : Nat) (c : Mn.B), r[j]? = some c → isOwn c → vr[j]? ≠ some (V.ref a)) ∧ RBl C H₀ μ ρ σ H r vr
def RBsx (C : Ct) : RelT (List Mn.B) (List V) := fun H₀ μ ρ σ H bs vs => RBl C H₀ μ ρ σ H bs vs
section
variable {C : Ct} {W : WX} {σ : L2.St} {γ δ : Type} {μ₀ μ μ' : List Addr} {ρ₀ ρ ρ' : Mn.Slots} {h h' : Mn.Hp} {H₀ H H' : Hp} {Q : VK}
theorem RBl.length : ∀ {bs : List Mn.B} {vs : List V}, RBl C H₀ μ ρ σ H bs vs → bs.length = vs.length
  | [], vs, r => by rw [show vs = [] from r] <;> rfl
  | b :: r, vs, ⟨v, vr, e, _, _, _, q⟩ => by rw [e, List.length_cons, List.length_cons, RBl.length q]
theorem RBl.get : ∀ {bs : List Mn.B} {vs : List V} {i : Nat} {b : Mn.B}, RBl C H₀ μ ρ σ H bs vs → bs[i]? = some b → ∃ v, vs[i]? = some v ∧ RB C μ ρ σ H b v ∧ (∀ i, b ≠ .sl i) ∧ (isOwn b → ∀ a, v = V.ref a → H₀ a = none)
  | [], _, _, _, _, e => by simp at e
  | c :: r, vs, 0, b, h, e => by
    obtain ⟨v, vr, rfl, h1, h2, h3, _⟩ := h
    simp at e
    subst e
    exact ⟨v, rfl, h1, h2, fun o a z => (h3 o a z).1⟩
  | c :: r, vs, i + 1, b, h, e => by
    obtain ⟨v, vr, rfl, h1, h2, h3, h4⟩ := h
    obtain ⟨u, e1, e2⟩ := RBl.get (i := i) h4 (by simpa using e)
    exact ⟨u, by simpa using e1, e2⟩
theorem RBl.one : ∀ {bs : List Mn.B} {vs : List V} {i j : Nat} {b c : Mn.B} {a : Addr}, RBl C H₀ μ ρ σ H bs vs → bs[i]? = some b → isOwn b → vs[i]? = some (V.ref a) → bs[j]? = some c → isOwn c → vs[j]? = some (V.ref a) → i = j
  | [], _, _, _, _, _, _, _, e, _, _, _, _, _ => by simp at e
  | d :: r, vs, 0, 0, b, c, a, h, e1, o1, v1, e2, o2, v2 => rfl
  | d :: r, vs, 0, j + 1, b, c, a, h, e1, o1, v1, e2, o2, v2 => by
    obtain ⟨v, vr, rfl, h1, h2, h3, h4⟩ := h
    simp at e1 v1 e2 v2
    subst e1
    exact absurd v2 ((h3 o1 a v1).2 j c e2 o2)
  | d :: r, vs, i + 1, 0, b, c, a, h, e1, o1, v1, e2, o2, v2 => by
    obtain ⟨v, vr, rfl, h1, h2, h3, h4⟩ := h
    simp at e1 v1 e2 v2
    subst e2
    exact absurd v1 ((h3 o2 a v2).2 i b e1 o1)
  | d :: r, vs, i + 1, j + 1, b, c, a, h, e1, o1, v1, e2, o2, v2 => by
    obtain ⟨v, vr, rfl, h1, h2, h3, h4⟩ := h
    simp at e1 v1 e2 v2
    rw [RBl.one h4 e1 o1 v1 e2 o2 v2]
theorem step_toArg {R2 : RelT γ δ} {b : Mn.B} {v : V} {f : Mn.B → Mn.M γ} {Q2 : δ → Hp → Prop} (S : Sta C μ ρ h σ H) (F : Fra μ₀ ρ₀ σ H₀ μ ρ σ H) (r : RB C μ ρ σ H b v) (n : isOwn b → ∀ a, v = .ref a → H₀ a = none)
    (g : Good C W σ R2 μ₀ ρ₀ H₀ Q2 (Mn.bind (Mn.toArg b) f ρ h)) : ∃ x μ1 ρ1 h1, Sta C μ1 ρ1 h1 σ H ∧ Fra μ₀ ρ₀ σ H₀ μ1 ρ1 σ H ∧ RB C μ1 ρ1 σ H x v ∧ (∀ i, x ≠ .sl i) ∧ (isOwn x → ∀ a, v = .ref a → H₀ a = none) ∧ Good C W σ R2 μ₀ ρ₀ H₀ Q2 (f x ρ1 h1) := by
  cases b with
  | v x => exact ⟨.v x, μ, ρ, h, S, F, r, (fun i z => by cases z), n, g⟩
  | l x => exact ⟨.l x, μ, ρ, h, S, F, r, (fun i z => by cases z), n, g⟩
  | d x => exact ⟨.d x, μ, ρ, h, S, F, r, (fun i z => by cases z), n, g⟩
  | sl i =>
    have g' : Good C W σ R2 μ₀ ρ₀ H₀ Q2 (Mn.bind (Mn.toVal (.sl i)) (fun x => f (.v x)) ρ h) := by
      unfold Mn.toArg at g
      unfold Mn.bind at g ⊢
      cases e : Mn.toVal (.sl i) ρ h with
      | bad =>
        dsimp only at g
        rw [e] at g
        exact g
      | ok a s' h' =>
        dsimp only at g
        rw [e] at g
        exact g
      | err c s' h' =>
        dsimp only at g
        rw [e] at g
        exact g
    obtain ⟨x, μ1, ρ1, h1, S1, F1, _, rx, g2⟩ := step_toVal S F r (fun z => z.elim) g'
    exact ⟨.v x, μ1, ρ1, h1, S1, F1, rx, (fun i z => by cases z), fun z => z.elim, g2⟩
theorem w_a0 {Q : List V → Hp → Prop} (t : TRd C W (RBsx C) (Mn.densA []) σ H Q) : tNil σ H Q := by
  obtain ⟨μ, ρ, h, S, g⟩ := t
  exact g μ H [] S Fra.refl rfl
theorem own_some {b : Mn.B} {v : V} (r : RB C μ ρ σ H b v) (o : isOwn b) : ∃ a u, v = V.ref a ∧ H a = some u ∧ a ∉ μ ∧ ¬ Own ρ σ a := by
  cases b with
  | v x => exact o.elim
  | sl x => exact o.elim
  | l xs =>
    obtain ⟨a, hs, e, q, _, n1, n2⟩ := r
    exact ⟨a, _, e, q, n1, n2⟩
  | d xs =>
    obtain ⟨a, hs, e, q, _, n1, n2⟩ := r
    exact ⟨a, _, e, q, n1, n2⟩
theorem w_a1 {m : Mn.Dn} {l : List Mn.Dn} {Q : List V → Hp → Prop} (t : TRd C W (RBsx C) (Mn.densA (m :: l)) σ H Q) : tCons (TEv C W m.v) (TRd C W (RBsx C) (Mn.densA l)) σ H Q := by
  obtain ⟨μ, ρ, h, S, g⟩ := t
  refine sub S Fra.refl g fun v H1 μ1 ρ1 h1 b S1 F1 r1 g1 => ?_
  obtain ⟨x, μ2, ρ2, h2, S2, F2, rx, nx, ox, g2⟩ := step_toArg S1 F1 r1.1 r1.2 g1
  refine sub S2 F2 g2 fun vs H3 μ3 ρ3 h3 xs S3 F3 r3 g3 => g3 μ3 H3 (v :: vs) S3 (F2.trans F3) ?_
  refine ⟨v, vs, rfl, F3.rb S2 rx, nx, fun o a e => ⟨ox o a e, fun j c e1 o1 e2 => ?_⟩, ?_⟩
  · obtain ⟨u, e3, _, _, n⟩ := RBl.get r3 e1
    rw [e2] at e3
    cases e3
    obtain ⟨a', w, e4, e5, _⟩ := own_some rx o
    rw [e] at e4
    cases e4
    rw [n o1 a rfl] at e5
    cases e5
  · have k : ∀ {bs : List Mn.B} {vs : List V}, RBl C H1 μ3 ρ3 σ H3 bs vs → RBl C H μ3 ρ3 σ H3 bs vs := by
      intro bs
      induction bs with
      | nil => exact fun r => r
      | cons b r ih =>
        rintro vs ⟨v, vr, e, k1, k2, k3, k4⟩
        exact ⟨v, vr, e, k1, k2, fun o a e => ⟨F1.live a (k3 o a e).1, (k3 o a e).2⟩, ih k4⟩
    exact k r3
theorem Sta.args {bs : List Mn.B} {vs : List V} (S : Sta C μ ρ h σ H) (r : RBl C H₀ μ ρ σ H bs vs) : Sta C μ (bs.map some) h (vs.map some) H := by
  have gt : ∀ (i : Nat) (b : Mn.B), (bs.map some)[i]? = some (some b) → bs[i]? = some b := fun i b e => by
    rw [List.getElem?_map] at e
    obtain ⟨c, e1, e2⟩ := Option.map_eq_some_iff.mp e
    cases e2
    exact e1
  have gv : ∀ (i : Nat) (b : V), (vs.map some)[i]? = some (some b) → vs[i]? = some b := fun i b e => by
    rw [List.getElem?_map] at e
    obtain ⟨c, e1, e2⟩ := Option.map_eq_some_iff.mp e
    cases e2
    exact e1
  refine ⟨S.nd, S.len, S.obj, by rw [List.length_map, List.length_map, r.length], fun i b e => ?_, fun i j b c a e1 o1 v1 e2 o2 v2 => RBl.one r (gt i b e1) o1 (gv i _ v1) (gt j c e2) o2 (gv j _ v2)⟩
  obtain ⟨v, e1, rb, ns, _⟩ := RBl.get r (gt i b e)
  refine ⟨v, by rw [List.getElem?_map, e1] <;> rfl, ?_⟩
  cases b with
  | v x => exact rb
  | l xs =>
    obtain ⟨a, hs, e, q, r1, n1, n2⟩ := rb
    exact ⟨a, hs, e, q, r1, n1⟩
  | d xs =>
    obtain ⟨a, hs, e, q, r1, n1, n2⟩ := rb
    exact ⟨a, hs, e, q, r1, n1⟩
  | sl j => exact absurd rfl (ns j)
theorem own_args {bs : List Mn.B} {vs : List V} {a : Addr} (r : RBl C H₀ μ ρ σ H bs vs) (o : Own (bs.map some) (vs.map some) a) : H₀ a = none ∧ ¬ Own ρ σ a ∧ a ∉ μ := by
  obtain ⟨i, b, e1, e2, e3⟩ := o
  rw [List.getElem?_map] at e1 e3
  obtain ⟨c, k1, k2⟩ := Option.map_eq_some_iff.mp e1
  obtain ⟨v, k3, k4⟩ := Option.map_eq_some_iff.mp e3
  cases k2
  cases k4
  obtain ⟨v, e4, rb, _, n⟩ := RBl.get r k1
  rw [k3] at e4
  cases e4
  obtain ⟨a', w, e5, e6, n1, n2⟩ := own_some rb e2
  cases e5
  exact ⟨n e2 a rfl, n2, n1⟩
def Ended (C : Ct) (μ : List Addr) (ρ : Mn.Slots) (σ : L2.St) (H : Hp) (Q : VK) (E : XK) : Mn.RC → Prop
  | .bad => False
  | .err c h' => ∀ μ' H', Sta C μ' [] h' [] H' → Fra μ ρ σ H μ' [] [] H' → E (.ref (C.cl c)) none H'
  | .ok b h' => ∀ μ' H' v, Sta C μ' [] h' [] H' → Fra μ ρ σ H μ' [] [] H' → RB C μ' [] [] H' b v → (isOwn b → ∀ a, v = V.ref a → H a = none ∨ Own ρ σ a) → Q v H'
def spOf (C : Ct) (run : List Mn.B → Mn.Hp → Mn.RC) : Sp := fun vs H Q E => ∃ μ bs h, Sta C μ (bs.map some) h (vs.map some) H ∧ Ended C μ (bs.map some) (vs.map some) H Q E (run bs h)
theorem fra_back {bs : List Mn.B} {vs : List V} (F : Fra μ₀ ρ₀ σ H₀ μ ρ σ H) (r : RBl C H₀ μ ρ σ H bs vs) (G : Fra μ (bs.map some) (vs.map some) H μ' [] [] H') : Fra μ₀ ρ₀ σ H₀ μ' ρ σ H' := by
  obtain ⟨ν, e⟩ := F.pre
  obtain ⟨ν2, e2⟩ := G.pre
  refine ⟨⟨ν ++ ν2, by rw [e2, e, List.append_assoc]⟩, fun a o q n m => ?_, fun a z => F.live a (G.live a z)⟩
  obtain ⟨k1, k2, k3⟩ := F.keep a o q n m
  obtain ⟨j1, j2, _⟩ := G.keep a o k1 k2 fun z => by
    rw [(own_args r z).1] at q
    cases q
  exact ⟨j1, j2, k3⟩
theorem sta_back {bs : List Mn.B} {vs : List V} (S : Sta C μ ρ h σ H) (r : RBl C H₀ μ ρ σ H bs vs) (G : Fra μ (bs.map some) (vs.map some) H μ' [] [] H') (T : Sta C μ' [] h' [] H') : Sta C μ' ρ h' σ H' := by
  have SA := S.args r
  refine ⟨T.nd, T.len, T.obj, S.slen, fun i b e => ?_, S.own⟩
  obtain ⟨v, e1, rb⟩ := S.slot i b e
  refine ⟨v, e1, ?_⟩
  cases b with
  | v x => exact G.rv SA rb
  | sl x => exact rb
  | l xs =>
    obtain ⟨a, hs, rfl, q, r1, n⟩ := rb
    obtain ⟨j1, j2, _⟩ := G.keep a _ q n fun z => (own_args r z).2.1 ⟨i, _, e, trivial, e1⟩
    exact ⟨a, hs, rfl, j1, G.rvs SA r1, j2⟩
  | d xs =>
    obtain ⟨a, hs, rfl, q, r1, n⟩ := rb
    obtain ⟨j1, j2, _⟩ := G.keep a _ q n fun z => (own_args r z).2.1 ⟨i, _, e, trivial, e1⟩
    exact ⟨a, hs, rfl, j1, G.rks SA r1, j2⟩
theorem rb_back {bs : List Mn.B} {vs : List V} {b : Mn.B} {v : V} (S : Sta C μ ρ h σ H) (F : Fra μ₀ ρ₀ σ H₀ μ ρ σ H) (r : RBl C H₀ μ ρ σ H bs vs) (rb : RB C μ' [] [] H' b v) (n : isOwn b → ∀ a, v = V.ref a → H a = none ∨ Own (bs.map some) (vs.map some) a) : RBx C H₀ μ' ρ σ H' b v := by
  have no : isOwn b → ∀ a, v = V.ref a → ¬ Own ρ σ a := fun o a e z => by
    rcases n o a e with k | k
    · rcases (S.ownIs z).1 with ⟨_, e2⟩ | ⟨_, e2⟩ <;> rw [k] at e2 <;> cases e2
    · exact (own_args r k).2.1 z
  refine ⟨?_, fun o a e => ?_⟩
  · cases b with
    | v x => exact rb
    | sl i =>
      have : ([] : L2.St)[i]? = some (some v) := rb
      simp at this
    | l xs =>
      obtain ⟨a, hs, e, q, r1, n1, n2⟩ := rb
      exact ⟨a, hs, e, q, r1, n1, no trivial a e⟩
    | d xs =>
      obtain ⟨a, hs, e, q, r1, n1, n2⟩ := rb
      exact ⟨a, hs, e, q, r1, n1, no trivial a e⟩
  · rcases n o a e with k | k
    · exact F.live a k
    · exact (own_args r k).1
theorem ended_of {G : Mn.Env} {f : Str} {bs : List Mn.B} {vs : List V} (S : Sta C μ ρ h σ H) (F : Fra μ₀ ρ₀ σ H₀ μ ρ σ H) (r : RBl C H₀ μ ρ σ H bs vs) (g : Good C W σ (RBx C) μ₀ ρ₀ H₀ Q (Mn.doCall G f bs ρ h)) :
    Ended C μ (bs.map some) (vs.map some) H Q (WE W σ) (G.call f bs h) := by
  unfold Mn.doCall at g
  cases e : G.call f bs h with
  | bad => rw [e] at g; exact g.elim
  | err c h' =>
    rw [e] at g
    exact fun μ' H' T K => g μ' H' (sta_back S r K T) (fra_back F r K)
  | ok b h' =>
    rw [e] at g
    exact fun μ' H' v T K rb n => g μ' H' v (sta_back S r K T) (fra_back F r K) (rb_back S F r rb n)
def RDs (C : Ct) (ys : List Mn.Val) (dvs : List V) : Prop := ∀ μ H, RVs C μ H ys dvs
theorem RBl.snoc : ∀ {bs : List Mn.B} {vs : List V} {ys : List Mn.Val} {dvs : List V}, RBl C H₀ μ ρ σ H bs vs → RDs C ys dvs → RBl C H₀ μ ρ σ H (bs ++ ys.map .v) (vs ++ dvs)
  | [], vs, ys, dvs, r, d => by
    rw [show vs = [] from r]
    have k : ∀ {ys : List Mn.Val} {dvs : List V}, RVs C μ H ys dvs → RBl C H₀ μ ρ σ H (ys.map .v) dvs := by
      intro ys
      induction ys with
      | nil => exact fun r => r
      | cons y r ih =>
        rintro dvs ⟨v, vr, e, k1, k2⟩
        exact ⟨v, vr, e, k1, (fun i z => by cases z), fun z => z.elim, ih k2⟩
    exact k (d μ H)
  | b :: r, vs, ys, dvs, ⟨v, vr, e, k1, k2, k3, k4⟩, d => by
    subst e
    refine ⟨v, vr ++ dvs, rfl, k1, k2, fun o a e => ⟨(k3 o a e).1, fun j c e1 o1 e2 => ?_⟩, RBl.snoc k4 d⟩
    have e1 : (r ++ ys.map Mn.B.v)[j]? = some c := e1
    by_cases hj : j < r.length
    · rw [List.getElem?_append_left hj] at e1
      rw [List.getElem?_append_left (by rw [← k4.length]; exact hj)] at e2
      exact (k3 o a e).2 j c e1 o1 e2
    · rw [List.getElem?_append_right (by omega), List.getElem?_map] at e1
      obtain ⟨z, _, rfl⟩ := Option.map_eq_some_iff.mp e1
      exact o1.elim
theorem bind_assoc {α β γ : Type} (m : Mn.M α) (f : α → Mn.M β) (g : β → Mn.M γ) : Mn.bind (Mn.bind m f) g = Mn.bind m fun x => Mn.bind (f x) g := by
  funext s h
  unfold Mn.bind
  cases m s h <;> rfl
theorem ret_bind {α β : Type} (a : α) (f : α → Mn.M β) : Mn.bind (Mn.ret a) f = f a := rfl
theorem densA_cst : ∀ ys : List Mn.Val, Mn.densA (ys.map fun y => Mn.mk (Mn.ret (.v y))) = Mn.ret (ys.map .v)
  | [] => rfl
  | y :: r => by
    rw [List.map_cons]
    unfold Mn.densA
    rw [densA_cst r]
    rfl
theorem densA_app (ys : List Mn.Val) : ∀ l : List Mn.Dn, Mn.densA (l ++ ys.map fun y => Mn.mk (Mn.ret (.v y))) = Mn.bind (Mn.densA l) fun xs => Mn.ret (xs ++ ys.map .v)
  | [] => densA_cst ys
  | m :: l => by
    rw [List.cons_append]
    show Mn.bind m.v (fun b => Mn.bind (Mn.toArg b) fun x => Mn.bind (Mn.densA (l ++ _)) fun xs => Mn.ret (x :: xs)) = Mn.bind (Mn.bind m.v fun b => Mn.bind (Mn.toArg b) fun x => Mn.bind (Mn.densA l) fun xs => Mn.ret (x :: xs)) fun xs => Mn.ret (xs ++ _)
    rw [densA_app ys l]
    simp only [bind_assoc, ret_bind, List.cons_append]
theorem w_call {G : Mn.Env} {f : Str} {l : List Mn.Dn} {ys : List Mn.Val} {dvs : List V} (d : RDs C ys dvs)
    (t : TEv C W (Mn.callM G f (l ++ ys.map fun y => Mn.mk (Mn.ret (.v y)))) σ H Q) : tCallSD (spOf C (G.call f)) dvs (WE W) (TRd C W (RBsx C) (Mn.densA l)) σ H Q := by
  obtain ⟨μ, ρ, h, S, g⟩ := t
  unfold Mn.callM at g
  rw [densA_app, bind_assoc] at g
  refine sub S Fra.refl g fun vs H1 μ1 ρ1 h1 bs S1 F1 r1 g1 => ?_
  have r2 := RBl.snoc r1 d
  exact ⟨μ1, bs ++ ys.map Mn.B.v, h1, S1.args r2, ended_of (bs := bs ++ ys.map Mn.B.v) S1 F1 r2 g1⟩
end
end Ms
end
section
namespace Ms
open PySem PySem.Spec PyProof.Rows L2
section
variable {C : Ct} {W : WX} {σ : L2.St} {γ δ : Type} {μ₀ μ μ' : List Addr} {ρ₀ ρ ρ' : Mn.Slots} {h h' : Mn.Hp} {H₀ H H' : Hp} {Q : VK}
theorem RFs.look : ∀ {l : List (Str × Mn.Val)} {hf : List (Str × V)} (f : Str), RFs C μ H l hf → (Mn.lookF f l = none ∧ hf.lookup f = none) ∨ ∃ x v, Mn.lookF f l = some x ∧ hf.lookup f = some v ∧ RV C μ H x v
  | [], hf, f, r => by
    rw [show hf = [] from r]
    exact .inl ⟨rfl, rfl⟩
  | (g, x) :: l, hf, f, r => by
    obtain ⟨v, vr, rfl, r1, r2⟩ := r
    unfold Mn.lookF
    rw [List.lookup_cons]
    by_cases e : f = g
    · subst e
      rw [if_pos rfl]
      simp only [beq_self_eq_true]
      exact .inr ⟨x, v, rfl, rfl, r1⟩
    · rw [if_neg e]
      have e2 : (f == g) = false := by simpa using e
      rw [e2]
      exact RFs.look f r2
theorem RFs.put : ∀ {l : List (Str × Mn.Val)} {hf : List (Str × V)} (f : Str) {x : Mn.Val} {v : V}, RFs C μ H l hf → RV C μ H x v → RFs C μ H (Mn.putF f x l) (putF f v hf)
  | [], hf, f, x, v, r, rx => by
    rw [show hf = [] from r]
    exact ⟨v, [], rfl, rx, rfl⟩
  | (g, y) :: l, hf, f, x, v, r, rx => by
    obtain ⟨u, vr, rfl, r1, r2⟩ := r
    unfold Mn.putF putF
    by_cases e : f = g
    · rw [if_pos e, if_pos e.symm]
      exact ⟨v, vr, rfl, rx, r2⟩
    · rw [if_neg e, if_neg fun z => e z.symm]
      exact ⟨u, _, rfl, r1, RFs.put f r2 rx⟩
theorem ins_at {c : Str} {fs : List (Str × Mn.Val)} {i : Nat} {x : V} (S : Sta C μ ρ h σ H) (r : RV C μ H (.ref i) x) (e : h[i]? = some (.ins c fs)) : ∃ a dx hf, x = .ref a ∧ H a = some (.ins (C.cl c) dx hf) ∧ RFs C μ H fs hf := by
  obtain ⟨a, rfl, q⟩ := r
  obtain ⟨a', e1, dx, hf, e2, r2⟩ := S.obj i _ e
  rw [q] at e1
  cases e1
  exact ⟨a, dx, hf, rfl, e2, r2⟩
def tFldD (C : Ct) (G : Mn.Env) (f : Str) (ta : TE) : TE := fun σ H Q => ta σ H fun x H1 => ∃ a c dx fs v, x = V.ref a ∧ H1 a = some (.ins (C.cl c) dx fs) ∧ G.att c f = true ∧ fs.lookup f = some v ∧ Q v H1
theorem w_att {G : Mn.Env} {a : Mn.M Mn.B} {f : Str} (t : TEv C W (Mn.attM G a f) σ H Q) : tFldD C G f (TEv C W a) σ H Q := by
  obtain ⟨μ, ρ, h, S, g⟩ := t
  refine sub S Fra.refl g fun x H1 μ1 ρ1 h1 b S1 F1 r1 g1 => ?_
  obtain ⟨v, rfl, g2⟩ := step_asVal g1
  unfold Mn.attV at g2
  cases v with
  | ref i =>
    dsimp only at g2
    cases eo : h1[i]? with
    | none => rw [eo] at g2; exact g2.elim
    | some o =>
      rw [eo] at g2
      cases o with
      | ins c fs =>
        dsimp only at g2
        by_cases ca : G.att c f = true
        · rw [if_pos ca] at g2
          obtain ⟨p, dx, hf, rfl, q, r⟩ := ins_at S1 r1.1 eo
          rcases RFs.look f r with ⟨k1, _⟩ | ⟨y, v, k1, k2, k3⟩
          · rw [k1] at g2; exact g2.elim
          · rw [k1] at g2
            exact ⟨p, c, dx, hf, v, rfl, q, ca, k2, g2 μ1 H1 v S1 F1 ⟨k3, fun z => z.elim⟩⟩
        · rw [if_neg ca] at g2; exact g2.elim
      | _ => exact g2.elim
  | _ => exact g2.elim
def tMethD (C : Ct) (G : Mn.Env) (m : Str) (dvs : List V) (E : L2.St → XK) (ta : TE) (t : TA) : TE := fun σ H Q => ta σ H fun x H1 => ∃ a c dx fs f, x = V.ref a ∧ H1 a = some (.ins (C.cl c) dx fs) ∧ fs.lookup m = none ∧ G.meth c m = some f ∧
  t σ H1 fun vs H2 => spOf C (G.call f) (x :: (vs ++ dvs)) H2 Q (E σ)
theorem w_meth {G : Mn.Env} {m : Str} {o : Mn.M Mn.B} {l : List Mn.Dn} {ys : List Mn.Val} {dvs : List V} (d : RDs C ys dvs)
    (t : TEv C W (Mn.methM G o m (l ++ ys.map fun y => Mn.mk (Mn.ret (.v y)))) σ H Q) : tMethD C G m dvs (WE W) (TEv C W o) (TRd C W (RBsx C) (Mn.densA l)) σ H Q := by
  obtain ⟨μ, ρ, h, S, g⟩ := t
  refine sub S Fra.refl g fun x H1 μ1 ρ1 h1 b S1 F1 r1 g1 => ?_
  obtain ⟨v, rfl, g2⟩ := step_asVal g1
  unfold Mn.bind Mn.methV at g2
  cases v with
  | ref i =>
    dsimp only at g2
    cases eo : h1[i]? with
    | none => rw [eo] at g2; exact g2.elim
    | some ob =>
      rw [eo] at g2
      cases ob with
      | ins c fs =>
        dsimp only at g2
        obtain ⟨p, dx, hf, rfl, q, r⟩ := ins_at S1 r1.1 eo
        rcases RFs.look m r with ⟨k1, k2⟩ | ⟨y, v, k1, k2, k3⟩
        · rw [k1] at g2
          cases em : G.meth c m with
          | none =>
            dsimp only at g2
            rw [em] at g2
            exact g2.elim
          | some f =>
            dsimp only at g2
            rw [em] at g2
            dsimp only at g2
            refine ⟨p, c, dx, hf, f, rfl, q, k2, em, ?_⟩
            have g3 : Good C W σ (RBx C) μ ρ H Q (Mn.bind (Mn.densA (l ++ ys.map fun y => Mn.mk (Mn.ret (.v y)))) (fun xs => Mn.doCall G f (.v (.ref i) :: xs)) ρ1 h1) := g2
            rw [densA_app, bind_assoc] at g3
            refine sub S1 F1 g3 fun vs H2 μ2 ρ2 h2 bs S2 F2 r2 g4 => ?_
            have r3 := RBl.snoc r2 d
            have r4 : RBl C H1 μ2 ρ2 σ H2 (Mn.B.v (.ref i) :: (bs ++ ys.map Mn.B.v)) (V.ref p :: (vs ++ dvs)) := ⟨_, _, rfl, F2.rv S1 r1.1, (fun i z => by cases z), fun z => z.elim, r3⟩
            have k : ∀ {bs : List Mn.B} {vs : List V}, RBl C H1 μ2 ρ2 σ H2 bs vs → RBl C H μ2 ρ2 σ H2 bs vs := by
              intro bs
              induction bs with
              | nil => exact fun r => r
              | cons b r ih =>
                rintro vs ⟨v, vr, e, k1, k2, k3, k4⟩
                exact ⟨v, vr, e, k1, k2, fun o a e => ⟨F1.live a (k3 o a e).1, (k3 o a e).2⟩, ih k4⟩
            exact ⟨μ2, Mn.B.v (.ref i) :: (bs ++ ys.map Mn.B.v), h2, S2.args r4, ended_of (bs := Mn.B.v (.ref i) :: (bs ++ ys.map Mn.B.v)) S2 (F1.trans F2) (k r4) g4⟩
        · rw [k1] at g2; exact g2.elim
      | _ => exact g2.elim
  | _ => exact g2.elim
theorem RBl.fra {bs : List Mn.B} : ∀ {vs : List V}, Sta C μ ρ h σ H → Fra μ ρ σ H μ' ρ' σ H' → RBl C H₀ μ ρ σ H bs vs → RBl C H₀ μ' ρ' σ H' bs vs := by
  induction bs with
  | nil => exact fun _ _ r => r
  | cons b r ih =>
    rintro vs S F ⟨v, vr, e, k1, k2, k3, k4⟩
    exact ⟨v, vr, e, F.rb S k1, k2, k3, ih S F k4⟩
theorem Fra.snoc {a : Addr} (n : H a = none) (F : Fra μ ρ σ H μ ρ σ H') : Fra μ ρ σ H (μ ++ [a]) ρ σ H' :=
  ⟨⟨[a], rfl⟩, fun b o q m1 m2 => by
    obtain ⟨k1, k2, k3⟩ := F.keep b o q m1 m2
    refine ⟨k1, fun z => ?_, k3⟩
    rcases List.mem_append.mp z with z | z
    · exact k2 z
    · rw [List.mem_singleton.mp z, n] at q
      exact (nomatch q), F.live⟩
def tMakeD (C : Ct) (G : Mn.Env) (c f : Str) (dvs : List V) (E : L2.St → XK) (t : TA) : TE := fun σ H Q => t σ H fun vs H1 => ∀ x dx, H1 x = none → H1 dx = none → dx ≠ x →
  spOf C (G.call f) (.ref x :: (vs ++ dvs)) (upd (upd H1 dx (.own x)) x (.ins (C.cl c) dx [])) (fun v H2 => v = .non ∧ Q (.ref x) H2) (E σ)
theorem w_new {G : Mn.Env} {c f : Str} {l : List Mn.Dn} {ys : List Mn.Val} {dvs : List V} (d : RDs C ys dvs) (hi : G.init c = some f)
    (t : TEv C W (Mn.newM G c (l ++ ys.map fun y => Mn.mk (Mn.ret (.v y)))) σ H Q) : tMakeD C G c f dvs (WE W) (TRd C W (RBsx C) (Mn.densA l)) σ H Q := by
  obtain ⟨μ, ρ, h, S, g⟩ := t
  unfold Mn.newM at g
  rw [densA_app, bind_assoc] at g
  refine sub S Fra.refl g fun vs H1 μ1 ρ1 h1 bs S1 F1 r1 g1 => fun x dx hx hdx ne => ?_
  have g2 : Good C W σ (RBx C) μ ρ H Q (Mn.newV G c (bs ++ ys.map Mn.B.v) ρ1 h1) := g1
  have r2 := RBl.snoc r1 d
  have hx2 : upd H1 dx (.own x) x = none := by rw [upd_ne (Ne.symm ne)]; exact hx
  have S2 : Sta C μ1 ρ1 h1 σ (upd (upd H1 dx (.own x)) x (.ins (C.cl c) dx [])) := (S1.beside hdx).beside hx2
  have FF : Fra μ1 ρ1 σ H1 μ1 ρ1 σ (upd (upd H1 dx (.own x)) x (.ins (C.cl c) dx [])) := (Fra.beside hdx).trans (Fra.beside hx2)
  have F2 : Fra μ1 ρ1 σ H1 (μ1 ++ [x]) ρ1 σ (upd (upd H1 dx (.own x)) x (.ins (C.cl c) dx [])) := Fra.snoc hx FF
  have nx : x ∉ μ1 := fun z => mem_ne (o := .own x) S1 hx (.inl z) rfl
  have ox : ¬ Own ρ1 σ x := fun z => mem_ne (o := .own x) S1 hx (.inr z) rfl
  have S3 : Sta C (μ1 ++ [x]) ρ1 (h1 ++ [Mn.Obj.ins c []]) σ (upd (upd H1 dx (.own x)) x (.ins (C.cl c) dx [])) := S2.give0 (o := .ins c []) nx ox ⟨dx, [], upd_same, rfl⟩
  have r3 := RBl.fra S1 F2 r2
  have hg : (μ1 ++ [x])[h1.length]? = some x := by rw [← S1.len]; exact getElem?_snoc μ1 x
  have r4 : RBl C H (μ1 ++ [x]) ρ1 σ (upd (upd H1 dx (.own x)) x (.ins (C.cl c) dx [])) (Mn.B.v (.ref h1.length) :: (bs ++ ys.map Mn.B.v)) (V.ref x :: (vs ++ dvs)) :=
    ⟨_, _, rfl, ⟨x, rfl, hg⟩, (fun i z => by cases z), fun z => z.elim, r3⟩
  refine ⟨_, _, _, S3.args r4, ?_⟩
  unfold Mn.newV at g2
  rw [hi] at g2
  dsimp only at g2
  cases e : G.call f (Mn.B.v (.ref h1.length) :: (bs ++ ys.map Mn.B.v)) (h1 ++ [Mn.Obj.ins c []]) with
  | bad => rw [e] at g2; exact g2.elim
  | err k h' =>
    rw [e] at g2
    exact fun μ' H' T K => g2 μ' H' (sta_back S3 r4 K T) (fra_back (F1.trans F2) r4 K)
  | ok b h' =>
    rw [e] at g2
    cases b with
    | v y =>
      cases y with
      | non =>
        refine fun μ' H' v T K rb n => ⟨rb, g2 μ' H' _ (sta_back S3 r4 K T) (fra_back (F1.trans F2) r4 K) ⟨⟨x, rfl, ?_⟩, fun z => z.elim⟩⟩
        obtain ⟨ν, e⟩ := K.pre
        rw [e, List.getElem?_append_left (List.getElem?_eq_some_iff.mp hg).1]
        exact hg
      | _ => exact g2.elim
    | _ => exact g2.elim
end
end Ms
end
section
namespace Ms
open PySem PySem.Spec PyProof.Rows L2
def tyName : Mn.View → Option String
  | .val .non => some "NoneType"
  | .val (.bl _) => some "bool"
  | .val (.int _) => some "int"
  | .val (.str _) => some "str"
  | .val (.tup _) => some "tuple"
  | .lst _ => some "list"
  | .dic _ => some "dict"
  | _ => none
def kbOf (t : Str) (n : String) : Option Bool :=
  if t = "int" then some (n == "int" || n == "bool")
  else if t = "bool" then some (n == "bool")
  else if t = "str" then some (n == "str")
  else if t = "tuple" then some (n == "tuple")
  else if t = "list" then some (n == "list")
  else if n = "NoneType" then some false else none
def tyNames : List String := ["NoneType", "bool", "int", "str", "tuple", "list", "dict"]
theorem tyName_mem {w : Mn.View} {n : String} (e : tyName w = some n) : n ∈ tyNames := by
  cases w with
  | val x => cases x <;> cases e <;> decide
  | lst l => cases e; decide
  | dic l => cases e; decide
structure TyF (C : Ct) (G : Mn.Env) (t : Str) (v : V) (u : Value) : Prop where
  cv : ClsV v u
  nm : ∀ n ∈ tyNames, ∀ b, kbOf t n = some b → PySem.W.kitOne C.K (.type n) u = some b
  ex : ∀ c, C.ex c = true → ExcC C.K (C.cl c) ∧ PySem.W.kitOne C.K (.ref (C.cl c)) u = some (G.sub c t)
section
variable {C : Ct} {W : WX} {σ : L2.St} {γ δ : Type} {μ₀ μ : List Addr} {ρ₀ ρ : Mn.Slots} {h : Mn.Hp} {H₀ H : Hp} {Q : VK}
theorem ty_is {t : Str} {w : Mn.View} {n : String} {b : Bool} (e : tyName w = some n) (k : Mn.isTy t w = some b ∨ (w = .val .non ∧ Mn.isTy t w = none ∧ b = false)) : kbOf t n = some b := by
  unfold Mn.isTy at k
  unfold kbOf
  by_cases c1 : t = "int"
  · rw [if_pos c1] at k ⊢
    rcases k with k | ⟨_, k, _⟩
    · cases w with
      | val x => cases x <;> cases e <;> cases k <;> rfl
      | _ => cases e; cases k; rfl
    · cases k
  rw [if_neg c1] at k ⊢
  by_cases c2 : t = "bool"
  · rw [if_pos c2] at k ⊢
    rcases k with k | ⟨_, k, _⟩
    · cases w with
      | val x => cases x <;> cases e <;> cases k <;> rfl
      | _ => cases e; cases k; rfl
    · cases k
  rw [if_neg c2] at k ⊢
  by_cases c3 : t = "str"
  · rw [if_pos c3] at k ⊢
    rcases k with k | ⟨_, k, _⟩
    · cases w with
      | val x => cases x <;> cases e <;> cases k <;> rfl
      | _ => cases e; cases k; rfl
    · cases k
  rw [if_neg c3] at k ⊢
  by_cases c4 : t = "tuple"
  · rw [if_pos c4] at k ⊢
    rcases k with k | ⟨_, k, _⟩
    · cases w with
      | val x => cases x <;> cases e <;> cases k <;> rfl
      | _ => cases e; cases k; rfl
    · cases k
  rw [if_neg c4] at k ⊢
  by_cases c5 : t = "list"
  · rw [if_pos c5] at k ⊢
    rcases k with k | ⟨_, k, _⟩
    · cases w with
      | val x => cases x <;> cases e <;> cases k <;> rfl
      | _ => cases e; cases k; rfl
    · cases k
  rw [if_neg c5] at k ⊢
  rcases k with k | ⟨k1, _, k2⟩
  · cases k
  · subst k1 k2
    cases e
    rfl
theorem step_inst {R2 : RelT γ δ} {G : Mn.Env} {t : Str} {w : Mn.View} {f : Bool → Mn.M γ} {Q2 : δ → Hp → Prop} (g : Good C W σ R2 μ₀ ρ₀ H₀ Q2 (Mn.bind (Mn.isInst G t w) f ρ h)) :
    (∃ n b, tyName w = some n ∧ kbOf t n = some b ∧ Good C W σ R2 μ₀ ρ₀ H₀ Q2 (f b ρ h)) ∨ ∃ c, w = .val (.exc c) ∧ Good C W σ R2 μ₀ ρ₀ H₀ Q2 (f (G.sub c t) ρ h) := by
  have usual : ∀ n, tyName w = some n → Good C W σ R2 μ₀ ρ₀ H₀ Q2 (Mn.bind (Mn.ofO (Mn.isTy t w)) f ρ h) → (∃ n b, tyName w = some n ∧ kbOf t n = some b ∧ Good C W σ R2 μ₀ ρ₀ H₀ Q2 (f b ρ h)) ∨ ∃ c, w = .val (.exc c) ∧ Good C W σ R2 μ₀ ρ₀ H₀ Q2 (f (G.sub c t) ρ h) := fun n e g => by
    cases k : Mn.isTy t w with
    | none => rw [k] at g; exact g.elim
    | some b =>
      rw [k] at g
      exact .inl ⟨n, b, e, ty_is e (.inl k), g⟩
  cases w with
  | lst l => exact usual _ rfl g
  | dic l => exact usual _ rfl g
  | val x =>
    cases x with
    | exc c => exact .inr ⟨c, rfl, g⟩
    | ref c => exact g.elim
    | non =>
      unfold Mn.isInst at g
      dsimp only at g
      cases k : Mn.isTy t (.val .non) with
      | none =>
        rw [k] at g
        exact .inl ⟨"NoneType", false, rfl, ty_is rfl (.inr ⟨rfl, k, rfl⟩), g⟩
      | some b =>
        rw [k] at g
        exact .inl ⟨"NoneType", b, rfl, ty_is rfl (.inl k), g⟩
    | bl _ => exact usual _ rfl g
    | int _ => exact usual _ rfl g
    | str _ => exact usual _ rfl g
    | tup _ => exact usual _ rfl g
theorem tyx_of {w : Mn.View} {x : V} {n : String} (r : RW C μ H w x) (e : tyName w = some n) : TyX C.K H x (.type n) := by
  cases w with
  | lst l =>
    cases e
    obtain ⟨a, hs, rfl, q, _⟩ := r
    rcases q with q | ⟨o, q⟩
    · exact .base (.lst q)
    · exact .base (.frz q)
  | dic l =>
    cases e
    obtain ⟨a, hs, rfl, q, _⟩ := r
    exact .base (.dK q)
  | val y =>
    cases y with
    | non => cases e; rw [show x = V.non from r]; exact .base .non
    | bl b => cases e; rw [show x = V.bl b from r]; exact .base (.bl b)
    | int b => cases e; rw [show x = V.int b from r]; exact .base (.int b)
    | str b => cases e; rw [r.1]; exact .base (.str b)
    | tup l =>
      cases e
      obtain ⟨a, hs, rfl, q, _⟩ := r
      rcases q with (q | ⟨o, q⟩) | ⟨o, its, n, q1, q2, _⟩
      · exact .base (.tup q)
      · exact .fTuple q
      · exact .kTuple q1 q2
    | exc c => cases e
    | ref c => cases e
def isiF (G : Mn.Env) (t : Str) (w : Mn.View) : Mn.M Mn.B := Mn.bind (Mn.isInst G t w) fun b => Mn.ret (.v (.bl b))
theorem call_isiD {X : Cx} {G : Mn.Env} {t : Str} {v : V} {u : Value} (hK : X.K = C.K) (T : TyF C G t v u) : CallR X (.builtin "isinstance") (fun vs H Q => ∃ x, vs = [x, v] ∧ rLf1 C W (RBx C) (isiF G t) x H Q) := by
  intro pins s σ0 H vs us Q I r h
  obtain ⟨x, rfl, σ, μ, ρ, h, μ₀, ρ₀, H₀, w, S, F, rv, g⟩ := h
  rcases step_inst g with ⟨n, b, e1, e2, g2⟩ | ⟨c, rfl, g2⟩
  · have ty := tyx_of rv e1
    rw [← hK] at ty
    exact call_isi pins s σ0 H _ us Q I r ⟨x, v, .type n, u, b, rfl, T.cv, ty, by rw [hK]; exact T.nm n (tyName_mem e1) b e2, fin_v S F g2 rfl⟩
  · obtain ⟨hx, a, rfl, q⟩ := rv
    obtain ⟨k1, k2⟩ := T.ex c hx
    obtain ⟨u1, u2, rfl, r1, r2⟩ := vals2 r
    have e2 := T.cv.eq r2
    subst e2
    obtain rfl : u1 = Value.ref a := r1
    obtain ⟨⟨oe, vs, h1, h2, h3⟩, _⟩ := I.hok a _ q
    have J : PySem.W.InstAt s.heap a oe (C.cl c) none := by
      obtain ⟨oc, od, oda, osl⟩ := oe
      obtain ⟨z1, z2⟩ := h2
      dsimp only at z1 z2 h3
      subst z1 z2 h3
      exact ⟨h1, rfl, rfl, trivial⟩
    rw [← hK] at k1 k2
    exact PySem.W.kia_one (PySem.W.handS_kitx_exc k1.hg k1.hk k1.hs k1.hd k1.ha k1.hn k1.ht k1.hm) I.kIn J k2 (fun z => nomatch z) fun tk => ⟨.bl _, H, I.kept (t' := tk) fun _ _ z => z, rfl, fin_v S F g2 rfl⟩
theorem w_isi {G : Mn.Env} {t : Str} {v : V} {a : Mn.M Mn.B} (t' : TEv C W (Mn.isiM G a t) σ H Q) : tCB (fun vs H Q => ∃ x, vs = [x, v] ∧ rLf1 C W (RBx C) (isiF G t) x H Q) (tCons (TEv C W a) (tCons (tC v) tNil)) σ H Q := by
  obtain ⟨μ, ρ, h, S, g⟩ := t'
  refine sub S Fra.refl g fun x H1 μ1 ρ1 h1 a S1 F1 r1 g1 => ?_
  obtain ⟨w, e1, g2⟩ := step_view g1
  exact ⟨x, rfl, σ, μ1, ρ1, h1, μ, ρ, H, w, S1, F1, view_ok S1 r1.1 e1, g2⟩
end
end Ms
end
section
namespace Ms
open PySem PySem.Spec PyProof.Rows L2
inductive Kd where
  | lst (a : Addr) | tup (a : Addr) | str (x : Str)
def Kd.tail : Kd → List Addr
  | .lst a => [a]
  | .tup a => [a]
  | .str _ => []
def Kd.fp (i1 : Addr) (k : Kd) : List Addr := i1 :: k.tail
def Kd.it (i1 : Addr) (i : Nat) (h : Heap) : Kd → Prop
  | .lst a => h.IsListIter i1 a i ∧ a ≠ i1
  | .tup a => h.IsTupleIter i1 a i ∧ a ≠ i1
  | .str x => ∃ t, h.IsStrIter i1 (strIterType x) x t i
def Kd.has (K : PySem.W.Frag) (H : Hp) : Kd → List V → Prop
  | .lst a, xs => SqL K H a xs
  | .tup a, xs => SqT K H a xs
  | .str x, xs => xs = x.cps.toList.map fun c => V.str ⟨#[c]⟩
def Kd.v : Kd → V
  | .lst a => .ref a
  | .tup a => .ref a
  | .str x => .str x
theorem Kd.it_at {i1 : Addr} {i : Nat} {h h' : Heap} {k : Kd} (x : k.it i1 i h) (e : ∀ o, h.get? i1 = some o → h'.get? i1 = some o) : k.it i1 i h' := by
  cases k with
  | lst a => exact ⟨x.1.at e, x.2⟩
  | tup a => exact ⟨x.1.at e, x.2⟩
  | str y =>
    obtain ⟨t, o, ho, r⟩ := x
    exact ⟨t, o, e o ho, r⟩
theorem Kd.it_ob {i1 : Addr} {i : Nat} {h : Heap} {k : Kd} (x : k.it i1 i h) : ∃ o, h.get? i1 = some o ∧ ∀ v, o.data ≠ .cell v := by
  cases k with
  | lst a =>
    obtain ⟨⟨o, ho, _, hd⟩, _⟩ := x
    exact ⟨o, ho, fun v q => by rw [hd] at q; cases q⟩
  | tup a =>
    obtain ⟨⟨o, ho, _, hd⟩, _⟩ := x
    exact ⟨o, ho, fun v q => by rw [hd] at q; cases q⟩
  | str y =>
    obtain ⟨t, o, ho, _, hd⟩ := x
    exact ⟨o, ho, fun v q => by rw [hd] at q; cases q⟩
section
variable {X : Cx} {pins : List (Addr × Obj)} {σ : L2.St} {H : Hp} {s : Shared}
theorem kd_draws {A : Around} {k : Kd} {xs : List V} {i1 : Addr} {i : Nat} (I : Inv X pins σ H s) (hh : A.handled = none) (hx : k.has X.K H xs) (hi : k.it i1 i s.heap) :
    ∃ (P : Nat → Value → Prop) (St : Nat → Heap → Prop), Draws X.prog X.w A i1 (k.fp i1) xs.length P St ∧ St i s.heap ∧ (∀ j h, St j h → k.it i1 j h) ∧ ∀ j u, P j u → ∃ x, xs[j]? = some x ∧ RelV x u := by
  cases k with
  | lst a =>
    obtain ⟨its, rv, p, _⟩ := I.list hx
    have e : xs.length = its.toArray.size := by rw [rv.length, List.size_toArray]
    rw [e]
    refine ⟨_, _, Draws.list hh i1 a hi.2 its.toArray, ⟨hi.1, p.isList⟩, fun j h st => ⟨st.1, hi.2⟩, fun j u hu => ?_⟩
    have hu' : its[j]? = some u := by simpa using hu
    have hj := (List.getElem?_eq_some_iff.mp hu').1
    have hj2 : j < xs.length := by rw [rv.length]; exact hj
    obtain ⟨w, e1, e2⟩ := rv.get (List.getElem?_eq_getElem hj2)
    rw [e1] at hu'
    cases hu'
    exact ⟨_, List.getElem?_eq_getElem hj2, e2⟩
  | tup a =>
    obtain ⟨its, rv, p, _⟩ := I.tuple hx
    have e : xs.length = its.toArray.size := by rw [rv.length, List.size_toArray]
    rw [e]
    refine ⟨_, _, Draws.tuple hh i1 a hi.2 its.toArray, ⟨hi.1, p⟩, fun j h st => ⟨st.1, hi.2⟩, fun j u hu => ?_⟩
    have hu' : its[j]? = some u := by simpa using hu
    have hj := (List.getElem?_eq_some_iff.mp hu').1
    have hj2 : j < xs.length := by rw [rv.length]; exact hj
    obtain ⟨w, e1, e2⟩ := rv.get (List.getElem?_eq_getElem hj2)
    rw [e1] at hu'
    cases hu'
    exact ⟨_, List.getElem?_eq_getElem hj2, e2⟩
  | str x =>
    obtain ⟨t, hi⟩ := hi
    have hx' : xs = x.cps.toList.map fun c => V.str ⟨#[c]⟩ := hx
    subst hx'
    have e : (x.cps.toList.map fun c => V.str ⟨#[c]⟩).length = x.cps.size := by rw [List.length_map, Array.length_toList]
    rw [e]
    refine ⟨_, _, Draws.text hh i1 x t, hi, fun j h st => ⟨t, st⟩, fun j u hu => ?_⟩
    obtain ⟨c, t2, e1, rfl⟩ := hu
    exact ⟨.str ⟨#[c]⟩, by rw [List.getElem?_map, Array.getElem?_toList, e1] <;> rfl, ⟨t2, rfl⟩⟩
theorem kd_inj {k : Kd} {xs ys : List V} (I : Inv X pins σ H s) (h1 : k.has X.K H xs) (h2 : k.has X.K H ys) : xs = ys := by
  cases k with
  | lst a => exact I.list_inj h1 h2
  | tup a => exact I.tuple_inj h1 h2
  | str x => exact h1.trans h2.symm
end
def ItZ (K : PySem.W.Frag) (k1 k2 : Kd) : It :=
  ⟨fun i H => ∃ (xs ys : List V) (x y : V), k1.has K H xs ∧ k2.has K H ys ∧ xs[i]? = some x ∧ ys[i]? = some y,
    fun i H v H' => ∃ T x y, v = .ref T ∧ H T = none ∧ H' = upd H T (.tup [x, y]) ∧ (∀ xs, k1.has K H xs → xs[i]? = some x) ∧ ∀ ys, k2.has K H ys → ys[i]? = some y,
    fun i H => ∃ xs ys : List V, k1.has K H xs ∧ k2.has K H ys ∧ i ≤ xs.length ∧ i ≤ ys.length ∧ (i = xs.length ∨ i = ys.length)⟩
theorem turn_zipK {P : Program} {w : World} {K : PySem.W.Frag} {elts : List Expr} {kk : Nat} {tpos : Pos} {k1 k2 : Kd} {z TI TO i1 i2 : Addr} (D : ZipSep2 z TI TO i1 i2 (k1.fp i1) (k2.fp i2)) :
    Turn P w K (.Tuple elts kk tpos) (ItZ K k1 k2) [z, TI, TO, i1, i2] z (fun i h => IsZip h z TI TO .none ∧ IsTupOf2 h TI (.ref i1) (.ref i2) ∧ (∃ x y, IsTupOf2 h TO x y) ∧ k1.it i1 i h ∧ k2.it i2 i h) where
  mem := by simp
  obj := fun i h st c hc => by
    obtain ⟨hz, hTI, ⟨x, y, hTO⟩, h1, h2⟩ := st
    have e' : c = z ∨ c = TI ∨ c = TO ∨ c = i1 ∨ c = i2 := by simpa using hc
    rcases e' with q | q | q | q | q
    · rw [q]; exact ⟨_, hz, fun v q => nomatch q⟩
    · rw [q]; exact ⟨_, hTI, fun v q => nomatch q⟩
    · rw [q]; exact ⟨_, hTO, fun v q => nomatch q⟩
    · rw [q]; exact Kd.it_ob h1
    · rw [q]; exact Kd.it_ob h2
  keep := fun i h h' st k => by
    obtain ⟨hz, hTI, ⟨x, y, hTO⟩, h1, h2⟩ := st
    exact ⟨k z (by simp) _ hz, k TI (by simp) _ hTI, ⟨x, y, k TO (by simp) _ hTO⟩, Kd.it_at h1 fun o q => k i1 (by simp) o q, Kd.it_at h2 fun o q => k i2 (by simp) o q⟩
  item := by
    intro X hP hw hK hc i pins s σ H E I hf st hg
    subst hP hw hK
    obtain ⟨hz, hTI, ⟨x0, y0, hTO⟩, h1, h2⟩ := st
    obtain ⟨xs, ys, x, y, hqx, hqy, hx, hy⟩ := hg
    have hh : X.A.in1.handled = none := I.ok.hd hc
    obtain ⟨P1, St1, D1, st1, back1, rel1⟩ := kd_draws I hh hqx h1
    obtain ⟨P2, St2, D2, st2, back2, rel2⟩ := kd_draws I hh hqy h2
    have hzl : z < s.heap.objs.size := Heap.lt_size hz
    refine wpAny_pyNext_zipD2_item D D1 D2 hz hTI hTO st1 st2 (List.getElem?_eq_some_iff.mp hx).1 (List.getElem?_eq_some_iff.mp hy).1 fun u u2 h' tk p1 p2 z' TO' h1' h2' hT hsz hk => ?_
    obtain ⟨x', ex, ru⟩ := rel1 i u p1
    obtain ⟨y', ey, ru2⟩ := rel2 i u2 p2
    rw [hx] at ex
    rw [hy] at ey
    cases ex
    cases ey
    refine ⟨_, rfl, wpAny_letOwnedTupleGo_zip (s := { s with heap := h', toks := tk }) z' fun h'' z'' sb => ?_⟩
    have hT2 : h''.get? s.heap.objs.size = some { cls := .type "tuple", data := .seq #[u, u2] } := (sb.2 _ (Nat.ne_of_gt hzl)).trans hT
    have new : ObjOk X.prog X.w (upd H s.heap.objs.size (.tup [x, y])) h'' s.heap.objs.size (.tup [x, y]) :=
      ⟨by show 2 ≤ sizeLine; decide, [u, u2], .cons ru (.cons ru2 .nil), ⟨_, hT2, rfl, _, rfl⟩⟩
    have I1 : Inv X pins σ (upd H s.heap.objs.size (.tup [x, y])) { s with heap := h'', toks := tk } :=
      I.turnedNew (t' := tk) (ch := [z, TI, TO, i1, i2]) (fun c o hb q => (sb.2 c (fun q' => hb (by simp [q']))).trans (hk c o (fun q' => hb (by simp [q'])) (fun q' => hb (by simp [q'])) (fun q' => hb (by simp [q'])) (fun q' => hb (by simp [q'])) q)) hf (Nat.le_refl _) new
    have hlt : ∀ c ∈ [z, TI, TO, i1, i2], c < s.heap.objs.size := fun c hcm => by
      have e' : c = z ∨ c = TI ∨ c = TO ∨ c = i1 ∨ c = i2 := by simpa using hcm
      rcases e' with q | q | q | q | q
      · rw [q]; exact hzl
      · rw [q]; exact Heap.lt_size hTI
      · rw [q]; exact Heap.lt_size hTO
      · rw [q]; obtain ⟨_, e1, _⟩ := Kd.it_ob h1; exact Heap.lt_size e1
      · rw [q]; obtain ⟨_, e2, _⟩ := Kd.it_ob h2; exact Heap.lt_size e2
    refine ⟨.ref s.heap.objs.size, _, I1, rfl, ⟨_, x, y, rfl, I.hok.fresh (Nat.le_refl _), rfl, fun l hl => by rw [kd_inj I hl hqx]; exact hx, fun l hl => by rw [kd_inj I hl hqy]; exact hy⟩, ⟨z'', ?_, ⟨u, u2, ?_⟩, ?_, ?_⟩, fun c hcm => ?_⟩
    · exact (sb.2 _ D.TIz).trans (hk _ _ D.TIz D.TITO D.TIi1 D.TIi2 hTI)
    · exact (sb.2 _ D.TOz).trans TO'
    · exact Kd.it_at (back1 _ _ h1') fun o q => (sb.2 _ (Ne.symm D.zi1)).trans q
    · exact Kd.it_at (back2 _ _ h2') fun o q => (sb.2 _ (Ne.symm D.zi2)).trans q
    · rw [upd_ne (Nat.ne_of_lt (hlt c hcm))]
      exact (hf c hcm).1
  done := by
    intro X hP hw hK hc i pins s σ H E I hf st hg
    subst hP hw hK
    obtain ⟨hz, hTI, ⟨x0, y0, hTO⟩, h1, h2⟩ := st
    obtain ⟨xs, ys, hqx, hqy, l1, l2, hend⟩ := hg
    have hh : X.A.in1.handled = none := I.ok.hd hc
    obtain ⟨P1, St1, D1, st1, _, _⟩ := kd_draws I hh hqx h1
    obtain ⟨P2, St2, D2, st2, _, _⟩ := kd_draws I hh hqy h2
    exact wpAny_pyNext_zipD2_end D D1 D2 hz hTI hTO st1 st2 l1 l2 hend fun h' tk hk => ⟨rfl, I.turnedL (t' := tk) (ch := [z, TI, TO, i1, i2]) (fun c o hb q =>
      hk c o (fun q' => hb (by simp [q'])) (fun q' => hb (by simp [q'])) (fun q' => hb (by simp [q'])) (fun q' => hb (by simp [q'])) q) hf⟩
  self := fun A i s Q E st h => wpAny_pyIter_zip st.1 h
def ItE (K : PySem.W.Frag) (k : Kd) : It :=
  ⟨fun i H => ∃ (xs : List V) (x : V), k.has K H xs ∧ xs[i]? = some x, fun i H v H' => ∃ T x, v = .ref T ∧ H T = none ∧ H' = upd H T (.tup [.int (i : Nat), x]) ∧ ∀ xs, k.has K H xs → xs[i]? = some x, fun i H => ∃ xs : List V, k.has K H xs ∧ xs.length = i⟩
theorem turn_enumK {P : Program} {w : World} {K : PySem.W.Frag} {elts : List Expr} {kk : Nat} {tpos : Pos} (k : Kd) (e it : Addr) (hef : e ∉ k.fp it) :
    Turn P w K (.Tuple elts kk tpos) (ItE K k) [e, it] e (fun i h => (∃ old, IsEnum h e it ((i : Nat) : Int) old) ∧ k.it it i h) where
  mem := by simp
  obj := fun i h st b hb => by
    obtain ⟨⟨old, he⟩, hi⟩ := st
    have e' : b = e ∨ b = it := by simpa using hb
    rcases e' with z | z
    · rw [z]; exact ⟨_, he, fun v q => nomatch q⟩
    · rw [z]; exact Kd.it_ob hi
  keep := fun i h h' st k => let ⟨⟨old, he⟩, hi⟩ := st; ⟨⟨old, k e (by simp) _ he⟩, Kd.it_at hi fun o q => k it (by simp) o q⟩
  item := by
    intro X hP hw hK hc i pins s σ H E I hf st hg
    subst hP hw hK
    obtain ⟨⟨old, he⟩, hit⟩ := st
    obtain ⟨xs, x, hq, hx⟩ := hg
    have hne : e ≠ it := fun z => hef (by rw [z]; exact List.mem_cons_self ..)
    have hh : X.A.in1.handled = none := I.ok.hd hc
    obtain ⟨P1, St1, D1, st1, back1, rel1⟩ := kd_draws I hh hq hit
    have hel : e < s.heap.objs.size := Heap.lt_size he
    have hil : it < s.heap.objs.size := by obtain ⟨_, q, _⟩ := Kd.it_ob hit; exact Heap.lt_size q
    refine wpAny_pyNext_enum_itemD D1 he st1 (List.getElem?_eq_some_iff.mp hx).1 hne hef fun u h' tk p1 ho hit' hT hsz hk => ?_
    obtain ⟨x', ex, ru⟩ := rel1 i u p1
    rw [hx] at ex
    cases ex
    refine ⟨_, rfl, wpAny_letOwnedTupleGo_enum (s := { s with heap := h', toks := tk + 1 }) ho fun h'' he' sb => ?_⟩
    have hT2 : h''.get? s.heap.objs.size = some { cls := .type "tuple", data := .seq #[.int i tk, u] } := (sb.2 _ (Nat.ne_of_gt hel)).trans hT
    have new : ObjOk X.prog X.w (upd H s.heap.objs.size (.tup [.int (i : Nat), x])) h'' s.heap.objs.size (.tup [.int (i : Nat), x]) :=
      ⟨by show 2 ≤ sizeLine; decide, [.int i tk, u], .cons ⟨_, rfl⟩ (.cons ru .nil), ⟨_, hT2, rfl, _, rfl⟩⟩
    have I1 : Inv X pins σ (upd H s.heap.objs.size (.tup [.int (i : Nat), x])) { s with heap := h'', toks := tk + 1 } :=
      I.turnedNew (ch := [e, it]) (fun b ob hb q => (sb.2 b (fun z => hb (by simp [z]))).trans (hk b ob (fun z => hb (by simp [z])) (fun z => hb (by simp [z])) q)) hf (Nat.le_refl _) new
    refine ⟨.ref s.heap.objs.size, _, I1, rfl, ⟨_, x, rfl, I.hok.fresh (Nat.le_refl _), rfl, fun ys hy => by rw [kd_inj I hy hq]; exact hx⟩, ⟨⟨u, ?_⟩, Kd.it_at (back1 _ _ hit') fun o q => (sb.2 it (Ne.symm hne)).trans q⟩, fun b hb => ?_⟩
    · have e1 : ((i + 1 : Nat) : Int) = (i : Int) + 1 := by omega
      rw [e1]; exact he'
    · have hb' : b < s.heap.objs.size := by
        have e' : b = e ∨ b = it := by simpa using hb
        rcases e' with z | z
        · rw [z]; exact hel
        · rw [z]; exact hil
      rw [upd_ne (Nat.ne_of_lt hb')]
      exact (hf b hb).1
  done := by
    intro X hP hw hK hc i pins s σ H E I hf st hg
    subst hP hw hK
    obtain ⟨⟨old, he⟩, hit⟩ := st
    obtain ⟨xs, hq, hx⟩ := hg
    subst hx
    have hh : X.A.in1.handled = none := I.ok.hd hc
    obtain ⟨P1, St1, D1, st1, _, _⟩ := kd_draws I hh hq hit
    obtain ⟨f0, f1, f2, f3, f4, f5⟩ := hf it (by simp)
    exact wpAny_pyNext_enum_endD D1 he st1 fun h' eb => ⟨rfl, I.turned (t' := s.toks) (fun b o hb q => eb b o hb q) f0 f1 f3 f4 f5⟩
  self := fun A i s Q E st h => let ⟨⟨_, he⟩, _⟩ := st; wpAny_pyIter_enum he h
end Ms
end
section
namespace Ms
open PySem PySem.Spec PyProof.Rows L2
section
variable {X : Cx} {pins : List (Addr × Obj)} {σ : L2.St} {H : Hp} {s : Shared}
theorem kd_begins {k : Kd} {xs : List V} {u : Value} (I : Inv X pins σ H s) (hx : k.has X.K H xs) (r : RelV k.v u) : ∃ (o : Obj) (Hh : Heap → Prop), Begins u o Hh ∧ Hh s.heap ∧ (∀ (h' : Heap) (i1 : Addr), h'.get? i1 = some o → s.heap.objs.size ≤ i1 → k.it i1 0 h') ∧ ∀ b ∈ k.tail, b < s.heap.objs.size := by
  cases k with
  | lst a =>
    obtain rfl : u = Value.ref a := r
    obtain ⟨its, rv, p, _⟩ := I.list hx
    exact ⟨_, _, begins_list a its.toArray, p.isList, fun h' i1 e hz => ⟨⟨_, e, rfl, rfl⟩, Nat.ne_of_lt (Nat.lt_of_lt_of_le p.lt hz)⟩, fun b hb => by rw [List.mem_singleton.mp hb]; exact p.lt⟩
  | tup a =>
    obtain rfl : u = Value.ref a := r
    obtain ⟨its, rv, p, _⟩ := I.tuple hx
    have hlt : a < s.heap.objs.size := by
      obtain ⟨o, ho, _⟩ := p
      exact Heap.lt_size ho
    exact ⟨_, _, begins_tuple a its.toArray, p, fun h' i1 e hz => ⟨⟨_, e, rfl, rfl⟩, Nat.ne_of_lt (Nat.lt_of_lt_of_le hlt hz)⟩, fun b hb => by rw [List.mem_singleton.mp hb]; exact hlt⟩
  | str x =>
    obtain ⟨t, rfl⟩ := (show ∃ t, u = Value.str x t from r)
    exact ⟨_, _, begins_text x t, trivial, fun h' i1 e hz => ⟨t, _, e, rfl, rfl⟩, fun b hb => by cases hb⟩
def ItS (K : PySem.W.Frag) : Kd → It
  | .lst a => Itl K a
  | .tup a => Itt K a
  | .str x => Its x
def iAny (K : PySem.W.Frag) (te : TE) : TI := fun σ H R => te σ H fun v H1 => ∃ k xs, v = Kd.v k ∧ Kd.has K H1 k xs ∧ R (ItS K k) H1
theorem pi_any {tg e : Expr} {te : TE} (he : PE X e te) : PI X tg e (iAny X.K te) := by
  refine ⟨fun pins s σ H R I h => ?_⟩
  refine thn (he.run pins s σ H _ I h) fun v s1 ⟨y, H1, I1, r1, k, xs, ey, hk, q⟩ => ?_
  subst ey
  cases k with
  | lst a =>
    obtain rfl : v = Value.ref a := r1
    obtain ⟨its, rv, p, hz⟩ := I1.list hk
    exact wpAny_pyIter_list p.isList (pi_one (tk := s1.toks) I1 _ (turn_list a _) ⟨_, Heap.get?_push_size _ rfl, rfl, rfl⟩ q)
  | tup a =>
    obtain rfl : v = Value.ref a := r1
    obtain ⟨its, rv, p, hz⟩ := I1.tuple hk
    exact wpAny_pyIter_tuple (show s1.heap.IsTuple a its.toArray from p) (pi_one (tk := s1.toks) I1 _ (turn_tuple a _) ⟨_, Heap.get?_push_size _ rfl, rfl, rfl⟩ q)
  | str x =>
    obtain ⟨t, rfl⟩ := (show ∃ t, v = Value.str x t from r1)
    cases ha : x.cps.all (· < 128)
    · exact wpAny_pyIter_wide ha (pi_one (tk := s1.toks) I1 _ (turn_str _ x t "str_iterator" (.inr rfl)) ⟨_, Heap.get?_push_size _ rfl, rfl, rfl⟩ q)
    · exact wpAny_pyIter_ascii ha (pi_one (tk := s1.toks) I1 _ (turn_str _ x t "str_ascii_iterator" (.inl rfl)) ⟨_, Heap.get?_push_size _ rfl, rfl, rfl⟩ q)
def iZipK (K : PySem.W.Frag) (ta : TA) : TI := fun σ H R => ta σ H fun vs H1 => ∃ k1 k2 xs ys, vs = [Kd.v k1, Kd.v k2] ∧ Kd.has K H1 k1 xs ∧ Kd.has K H1 k2 ys ∧ R (ItZ K k1 k2) H1
theorem pi_zipK {e e2 : Expr} {ta : TA} {p pos tpos : Pos} {elts : List Expr} {kk : Nat} (hg : Gl X "zip") (hm : X.mg "zip" = none) (ha : PA X [e, e2] ta)
    (hs : starEach [e, e2] X.env = (false, eval e X.env) :: starEach [e2] X.env) (hpl : (backTo pos (starEach [e2] X.env)).any (·.1) = false) :
    PI X (.Tuple elts kk tpos) (.Call (.Name "zip" p) [e, e2] [] pos) (iZipK X.K ta) := by
  refine ⟨fun pins s σ H R I h => ?_⟩
  refine Call_ (ld_blt I hg hm PyProof.Rows.boot_zip (PyProof.Rows.callWith_type1 (thn (ha.run pos pins s σ H _ I h) fun us s1 ⟨vs, H1, I1, r1, q1⟩ => ?_) hs hpl))
  obtain ⟨k1, k2, xs, ys, ex, hqx, hqy, q⟩ := q1
  subst ex
  cases r1 with
  | cons r rr =>
    cases rr with
    | cons r' rr =>
      cases rr
      obtain ⟨o1, Hh1, B1, b1, it1, t1⟩ := kd_begins I1 hqx r
      obtain ⟨o2, Hh2, B2, b2, it2, t2⟩ := kd_begins I1 hqy r'
      refine zip_begins2 B1 B2 b1 b2 fun h' hz hTI hTO g1 g2 hsz hk => wpAny_pyIter_zip hz ?_
      have I2 : Inv X pins σ H1 { s1 with heap := h' } := I1.kept (t' := s1.toks) hk
      refine ⟨s1.heap.objs.size + 4, [s1.heap.objs.size + 4, s1.heap.objs.size + 2, s1.heap.objs.size + 3, s1.heap.objs.size, s1.heap.objs.size + 1], _, _, H1, rfl, I2, turn_zipK (zip_sep2 t1 t2), ⟨hz, hTI, ⟨_, _, hTO⟩, it1 _ _ g1 (Nat.le_refl _), it2 _ _ g2 (Nat.le_succ _)⟩, fun c hcm => ?_, q⟩
      have e' : c = s1.heap.objs.size + 4 ∨ c = s1.heap.objs.size + 2 ∨ c = s1.heap.objs.size + 3 ∨ c = s1.heap.objs.size ∨ c = s1.heap.objs.size + 1 := by simpa using hcm
      have hle : s1.heap.objs.size ≤ c := by
        rcases e' with z | z | z | z | z
        · rw [z]; exact Nat.le_add_right _ _
        · rw [z]; exact Nat.le_add_right _ _
        · rw [z]; exact Nat.le_add_right _ _
        · rw [z]; exact Nat.le_refl _
        · rw [z]; exact Nat.le_add_right _ _
      exact I1.fpOk hle (I1.hok.fresh hle)
theorem meets_enum1 {v : Value} {o : Obj} {H : Heap → Prop} (B : Begins v o H) :
    Meets (Builtin.«enumerate.__new__» ⟨[.type "enumerate", v], []⟩) (fun _ R s => H s.heap ∧
      R (.ok (.ret (.ref (s.heap.push o).objs.size))) { s with heap := (s.heap.push o).push { cls := .type "enumerate", data := .fields #[.none, .bool false, .ref s.heap.objs.size, rawInt 0, .none, .none] } }) :=
  .of_wp fun prog w A R s h => by
    obtain ⟨hp, g, d, tk, os⟩ := s; obtain ⟨h1, h⟩ := h
    have hsub := sub_enumerate
    have q1 : ∀ {A' : Around} {E : Value → Shared → Prop} {Q : Value → Shared → Prop}, Q (.ref hp.objs.size) ⟨hp.push o, g, d, tk, os⟩ → wpAny (model prog w) A' (pyIter v) Q E ⟨hp, g, d, tk, os⟩ :=
      fun q => B.iter prog w _ _ ⟨hp, g, d, tk, os⟩ _ h1 q
    wp_walk using q1
    refine wpAny_stack_any fun st => wpAny_pure ?_
    split
    · rename_i c _ _ _ _ _
      cases (c == Value.type "enumerate")
      · wp_walk using q1
        exact ⟨_, rfl, h⟩
      · wp_walk using q1
        exact ⟨_, rfl, h⟩
    · wp_walk using q1
      exact ⟨_, rfl, h⟩
theorem enum_begins1 {prog : Program} {w : World} {A : Around} {E : Value → Shared → Prop} {s : Shared} {v : Value} {o : Obj} {H : Heap → Prop} {Q : Value → Shared → Prop} (B : Begins v o H) (h1 : H s.heap)
    (h : ∀ h', IsEnum h' (s.heap.objs.size + 1) s.heap.objs.size 0 .none → h'.get? s.heap.objs.size = some o → h'.objs.size = s.heap.objs.size + 2 →
      (∀ b o, s.heap.get? b = some o → h'.get? b = some o) → Q (.ref (s.heap.objs.size + 1)) { s with heap := h' }) :
    wpAny (model prog w) A (call (.type "enumerate") [v]) Q E s := by
  refine callType_new F.called_enumerate (by decide) (F.typeCall_enumerate_1 _) (F.newCall_enumerate_1 _) (fun obj => F.args_object_init_2 obj _) F.entry_enumerate_new
    (meets_enum1 B) ⟨h1, ?_⟩
  have hz : (s.heap.push o).objs.size = s.heap.objs.size + 1 := Heap.size_push ..
  show _ ∧ _
  rw [hz]
  have he : IsEnum ((s.heap.push o).push { cls := .type "enumerate", data := .fields #[.none, .bool false, .ref s.heap.objs.size, rawInt 0, .none, .none] }) (s.heap.objs.size + 1) s.heap.objs.size 0 .none := by
    have := Heap.get?_push_size (s.heap.push o) (o := { cls := .type "enumerate", data := .fields #[.none, .bool false, .ref s.heap.objs.size, rawInt 0, .none, .none] }) rfl
    rw [hz] at this; exact this
  refine ⟨⟨_, he, rfl⟩, h _ he (Heap.get?_push_of_some _ (Heap.get?_push_size _ B.free)) (by rw [Heap.size_push, hz]) fun b o x => Heap.get?_push_of_some _ (Heap.get?_push_of_some _ x)⟩
def iEnumK (K : PySem.W.Frag) (ta : TA) : TI := fun σ H R => ta σ H fun vs H1 => ∃ k xs, vs = [Kd.v k] ∧ Kd.has K H1 k xs ∧ R (ItE K k) H1
theorem pi_enumK {e : Expr} {ta : TA} {p pos tpos : Pos} {elts : List Expr} {kk : Nat} (hg : Gl X "enumerate") (hm : X.mg "enumerate" = none) (ha : PA X [e] ta) (hs : starEach [e] X.env = [(false, eval e X.env)]) :
    PI X (.Tuple elts kk tpos) (.Call (.Name "enumerate" p) [e] [] pos) (iEnumK X.K ta) := by
  refine ⟨fun pins s σ H R I h => ?_⟩
  refine Call_ (ld_blt I hg hm boot_enumerate (PyProof.Rows.callWith_type1 (thn (ha.run pos pins s σ H _ I h) fun us s1 ⟨vs, H1, I1, r1, q1⟩ => ?_) hs rfl))
  obtain ⟨k, xs, ex, hq, q⟩ := q1
  subst ex
  cases r1 with
  | cons r rr =>
    cases rr
    obtain ⟨o1, Hh1, B1, b1, it1, t1⟩ := kd_begins I1 hq r
    refine enum_begins1 B1 b1 fun h' he g1 hsz hk => wpAny_pyIter_enum he ?_
    have I2 : Inv X pins σ H1 { s1 with heap := h' } := I1.kept (t' := s1.toks) hk
    have hef : s1.heap.objs.size + 1 ∉ k.fp s1.heap.objs.size := notIn_new (j := 1) (i := 0) t1 (by omega)
    refine ⟨s1.heap.objs.size + 1, [s1.heap.objs.size + 1, s1.heap.objs.size], _, _, H1, rfl, I2, turn_enumK k (s1.heap.objs.size + 1) s1.heap.objs.size hef, ⟨⟨.none, he⟩, it1 _ _ g1 (Nat.le_refl _)⟩, fun b hb => ?_, q⟩
    have e' : b = s1.heap.objs.size + 1 ∨ b = s1.heap.objs.size := by simpa using hb
    have hle : s1.heap.objs.size ≤ b := by
      rcases e' with z | z
      · rw [z]; exact Nat.le_add_right _ _
      · rw [z]; exact Nat.le_refl _
    exact I1.fpOk hle (I1.hok.fresh hle)
end
end Ms
end
section
namespace Ms
open PySem PySem.Spec PyProof.Rows L2
def SlOk (src : Mn.Srcs) (σs σ : L2.St) : Prop := ∀ i q, (Mn.B.sl i, q) ∈ src → σ[i]? = σs[i]?
def SrcOk (C : Ct) (k : Kd) (l : List Mn.Val) (src : Mn.Srcs) (μs : List Addr) (ρs : Mn.Slots) (σs : L2.St) (Hs : Hp) : Prop :=
  ∀ μ ρ h σ H, Sta C μ ρ h σ H → Fra μs ρs σs Hs μ ρ σ H → SlOk src σs σ → Mn.chk src ρ h = .ok () ρ h → ∃ xs, Kd.has C.K H k xs ∧ RVs C μ H l xs
def ItOk (C : Ct) (J : It) (l : List Mn.Val) (src : Mn.Srcs) (μs : List Addr) (ρs : Mn.Slots) (σs : L2.St) (Hs : Hp) : Prop :=
  ∀ μ ρ h σ H, Sta C μ ρ h σ H → Fra μs ρs σs Hs μ ρ σ H → SlOk src σs σ → Mn.chk src ρ h = .ok () ρ h →
    (∀ i x, l[i]? = some x → J.go i H ∧ ∀ v H', J.yld i H v H' → Sta C μ ρ h σ H' ∧ Fra μ ρ σ H μ ρ σ H' ∧ RV C μ H' x v) ∧ J.stop l.length H
def RIx (C : Ct) : RelT (List Mn.Val × Mn.Srcs) It := fun _ μ ρ σ H p J => ItOk C J p.1 p.2 μ ρ σ H
section
variable {C : Ct} {W : WX} {σ : L2.St} {γ δ : Type} {μ₀ μ : List Addr} {ρ₀ ρ : Mn.Slots} {h : Mn.Hp} {H₀ H : Hp}
theorem chk_cons {b : Mn.B} {l : List Mn.Val} {r : Mn.Srcs} (e : Mn.chk ((b, l) :: r) ρ h = .ok () ρ h) : Mn.view ρ h b = some (.lst l) ∧ Mn.chk r ρ h = .ok () ρ h := by
  unfold Mn.chk at e
  cases ev : Mn.view ρ h b with
  | none => rw [ev] at e; cases e
  | some w =>
    rw [ev] at e
    cases w with
    | lst q =>
      dsimp only at e
      by_cases c : q = l
      · rw [if_pos c] at e
        exact ⟨by rw [c], e⟩
      · rw [if_neg c] at e; cases e
    | _ => cases e
theorem chk_same : ∀ {r : Mn.Srcs} {s' : Mn.Slots} {h' : Mn.Hp}, Mn.chk r ρ h = .ok () s' h' → s' = ρ ∧ h' = h
  | [], _, _, e => by cases e; exact ⟨rfl, rfl⟩
  | (b, l) :: r, _, _, e => by
    unfold Mn.chk at e
    cases ev : Mn.view ρ h b with
    | none => rw [ev] at e; cases e
    | some w =>
      rw [ev] at e
      cases w with
      | lst q =>
        dsimp only at e
        by_cases c : q = l
        · rw [if_pos c] at e
          exact chk_same e
        · rw [if_neg c] at e; cases e
      | _ => cases e
theorem chk_noerr : ∀ {r : Mn.Srcs} {c : Str} {s' : Mn.Slots} {h' : Mn.Hp}, Mn.chk r ρ h ≠ .err c s' h'
  | [], _, _, _ => by intro e; cases e
  | (b, l) :: r, _, _, _ => by
    intro e
    unfold Mn.chk at e
    cases ev : Mn.view ρ h b with
    | none => rw [ev] at e; cases e
    | some w =>
      rw [ev] at e
      cases w with
      | lst q =>
        dsimp only at e
        by_cases c : q = l
        · rw [if_pos c] at e
          exact chk_noerr e
        · rw [if_neg c] at e; cases e
      | _ => cases e
theorem chk_app : ∀ {a b : Mn.Srcs}, Mn.chk (a ++ b) ρ h = .ok () ρ h → Mn.chk a ρ h = .ok () ρ h ∧ Mn.chk b ρ h = .ok () ρ h
  | [], b, e => ⟨rfl, e⟩
  | (x, l) :: a, b, e => by
    obtain ⟨k1, k2⟩ := chk_cons (r := a ++ b) e
    obtain ⟨k3, k4⟩ := chk_app k2
    refine ⟨?_, k4⟩
    unfold Mn.chk
    rw [k1]
    dsimp only
    rw [if_pos rfl]
    exact k3
theorem chars_ok (z : Str) (o : PyData.strOk z = true) : RVs C μ H (z.cps.toList.map fun c => .str ⟨#[c]⟩) (z.cps.toList.map fun c => V.str ⟨#[c]⟩) := by
  have k : ∀ l : List Nat, (∀ c ∈ l, c ∈ z.cps.toList) → RVs C μ H (l.map fun c => .str ⟨#[c]⟩) (l.map fun c => V.str ⟨#[c]⟩) := by
    intro l
    induction l with
    | nil => exact fun _ => rfl
    | cons c r ih => exact fun m => ⟨_, _, rfl, ⟨rfl, strOk_sub o (l := [c]) (by simpa using m c (by simp))⟩, ih fun d hd => m d (List.mem_cons_of_mem _ hd)⟩
  exact k _ fun _ m => m
theorem src_of {b : Mn.B} {v : V} {w : Mn.View} {l : List Mn.Val} (S : Sta C μ ρ h σ H) (r : RB C μ ρ σ H b v) (e : Mn.view ρ h b = some w) (el : Mn.itemsOf w = some l) :
    ∃ k xs, v = Kd.v k ∧ Kd.has C.K H k xs ∧ RVs C μ H l xs ∧ SrcOk C k l (Mn.srcOf b l) μ ρ σ H := by
  have rw' := view_ok S r e
  cases w with
  | dic k => cases el
  | lst q =>
    cases el
    obtain ⟨a, hs, rfl, qa, rr⟩ := rw'
    refine ⟨.lst a, hs, rfl, .inl qa, rr, fun μ1 ρ1 h1 σ1 H1 S1 F1 sl ck => ?_⟩
    cases b with
    | v x =>
      cases x with
      | ref i =>
        obtain ⟨k1, _⟩ := chk_cons ck
        obtain ⟨a', ea, hi⟩ := r
        cases ea
        obtain ⟨ν, ep⟩ := F1.pre
        have r1 : RB C μ1 ρ1 σ1 H1 (.v (.ref i)) (.ref a) := ⟨a, rfl, by rw [ep, List.getElem?_append_left (List.getElem?_eq_some_iff.mp hi).1]; exact hi⟩
        obtain ⟨a', hs', e2, q2, r2⟩ := view_ok S1 r1 k1
        cases e2
        exact ⟨hs', .inl q2, r2⟩
      | _ => cases e
    | l xs =>
      cases e
      obtain ⟨a', hs', e2, q2, r2, n1, n2⟩ := r
      cases e2
      obtain ⟨j1, _, _⟩ := F1.keep a _ q2 n1 n2
      exact ⟨hs', .inl (.inl j1), F1.rvs S r2⟩
    | d xs => cases e
    | sl i =>
      obtain ⟨k1, _⟩ := chk_cons ck
      have r0 : σ[i]? = some (some (V.ref a)) := r
      have r1 : RB C μ1 ρ1 σ1 H1 (.sl i) (.ref a) := by
        show σ1[i]? = _
        rw [sl i l (by simp [Mn.srcOf])]
        exact r0
      obtain ⟨a', hs', e2, q2, r2⟩ := view_ok S1 r1 k1
      cases e2
      exact ⟨hs', .inl q2, r2⟩
  | val x =>
    cases x with
    | tup q =>
      cases el
      obtain ⟨a, hs, rfl, qa, rr⟩ := rw'
      exact ⟨.tup a, hs, rfl, qa, rr, fun μ1 ρ1 h1 σ1 H1 S1 F1 _ _ => ⟨hs, F1.sqT S qa, F1.rvs S rr⟩⟩
    | str z =>
      cases el
      obtain ⟨rfl, o⟩ := rw'
      exact ⟨.str z, _, rfl, rfl, chars_ok z o, fun μ1 ρ1 h1 σ1 H1 S1 F1 _ _ => ⟨_, rfl, chars_ok z o⟩⟩
    | _ => cases el
theorem SrcOk.mono {k : Kd} {l : List Mn.Val} {src : Mn.Srcs} {μ' : List Addr} {ρ' : Mn.Slots} {H' : Hp} (s : SrcOk C k l src μ ρ σ H) (F : Fra μ ρ σ H μ' ρ' σ H') : SrcOk C k l src μ' ρ' σ H' :=
  fun μ1 ρ1 h1 σ1 H1 S1 F1 sl ck => s μ1 ρ1 h1 σ1 H1 S1 (F.trans F1) sl ck
theorem it_one {k : Kd} {l : List Mn.Val} {src : Mn.Srcs} (s : SrcOk C k l src μ ρ σ H) : ItOk C (ItS C.K k) l src μ ρ σ H := fun μ1 ρ1 h1 σ1 H1 S1 F1 sl ck => by
  obtain ⟨xs, hx, r⟩ := s μ1 ρ1 h1 σ1 H1 S1 F1 sl ck
  cases k with
  | lst a =>
    refine ⟨fun i x e => ?_, ⟨xs, hx, by rw [r.length]; exact Nat.le_refl _⟩⟩
    obtain ⟨v, e1, rx⟩ := r.get e
    refine ⟨⟨xs, v, hx, e1⟩, fun u H' ⟨e2, e3⟩ => ?_⟩
    subst e2
    have := e3 xs hx
    rw [e1] at this
    cases this
    exact ⟨S1, Fra.refl, rx⟩
  | tup a =>
    refine ⟨fun i x e => ?_, ⟨xs, hx, by rw [r.length]; exact Nat.le_refl _⟩⟩
    obtain ⟨v, e1, rx⟩ := r.get e
    refine ⟨⟨xs, v, hx, e1⟩, fun u H' ⟨e2, e3⟩ => ?_⟩
    subst e2
    have := e3 xs hx
    rw [e1] at this
    cases this
    exact ⟨S1, Fra.refl, rx⟩
  | str z =>
    have hx' : xs = z.cps.toList.map fun c => V.str ⟨#[c]⟩ := hx
    have hl : l.length = z.cps.size := by rw [r.length, hx', List.length_map, Array.length_toList]
    refine ⟨fun i x e => ?_, by rw [hl]; exact Nat.le_refl _⟩
    obtain ⟨v, e1, rx⟩ := r.get e
    refine ⟨show i < z.cps.size by rw [← hl]; exact (List.getElem?_eq_some_iff.mp e).1, fun u H' ⟨e2, c, e3, e4⟩ => ?_⟩
    subst e2 e4
    rw [hx', List.getElem?_map, Array.getElem?_toList, e3] at e1
    cases e1
    exact ⟨S1, Fra.refl, rx⟩
theorem zipL_get : ∀ {l q : List Mn.Val} {i : Nat} {z : Mn.Val}, (Mn.zipL l q)[i]? = some z → ∃ x y, l[i]? = some x ∧ q[i]? = some y ∧ z = .tup [x, y]
  | [], q, i, z, e => by simp [Mn.zipL] at e
  | x :: l, [], i, z, e => by simp [Mn.zipL] at e
  | x :: l, y :: q, 0, z, e => by
    simp [Mn.zipL] at e
    exact ⟨x, y, rfl, rfl, e.symm⟩
  | x :: l, y :: q, i + 1, z, e => by
    simp [Mn.zipL] at e
    obtain ⟨a, b, e1, e2, e3⟩ := zipL_get e
    exact ⟨a, b, by simpa using e1, by simpa using e2, e3⟩
theorem zipL_len : ∀ l q : List Mn.Val, (Mn.zipL l q).length = min l.length q.length
  | [], q => by simp [Mn.zipL]
  | x :: l, [] => by simp [Mn.zipL]
  | x :: l, y :: q => by simp [Mn.zipL, zipL_len l q]
theorem it_zip {k1 k2 : Kd} {l q : List Mn.Val} {s1 s2 : Mn.Srcs} (a : SrcOk C k1 l s1 μ ρ σ H) (b : SrcOk C k2 q s2 μ ρ σ H) : ItOk C (ItZ C.K k1 k2) (Mn.zipL l q) (s1 ++ s2) μ ρ σ H := fun μ1 ρ1 h1 σ1 H1 S1 F1 sl ck => by
  obtain ⟨c1, c2⟩ := chk_app ck
  obtain ⟨xs, hx, r⟩ := a μ1 ρ1 h1 σ1 H1 S1 F1 (fun i z m => sl i z (List.mem_append_left _ m)) c1
  obtain ⟨ys, hy, r2⟩ := b μ1 ρ1 h1 σ1 H1 S1 F1 (fun i z m => sl i z (List.mem_append_right _ m)) c2
  refine ⟨fun i z e => ?_, ⟨xs, ys, hx, hy, ?_⟩⟩
  · obtain ⟨x, y, e1, e2, rfl⟩ := zipL_get e
    obtain ⟨v, e3, rx⟩ := r.get e1
    obtain ⟨w, e4, ry⟩ := r2.get e2
    refine ⟨⟨xs, ys, v, w, hx, hy, e3, e4⟩, fun u H' ⟨T, x', y', eu, hT, eH, f1, f2⟩ => ?_⟩
    subst eu eH
    have g1 := f1 xs hx
    have g2 := f2 ys hy
    rw [e3] at g1
    rw [e4] at g2
    cases g1
    cases g2
    exact ⟨S1.beside hT, Fra.beside hT, RV.newT S1 hT ⟨_, _, rfl, rx, _, _, rfl, ry, rfl⟩⟩
  · rw [zipL_len, r.length, r2.length]
    omega
theorem enumL_get : ∀ {l : List Mn.Val} {n i : Nat} {z : Mn.Val}, (Mn.enumL n l)[i]? = some z → ∃ x, l[i]? = some x ∧ z = .tup [.int ((n + i : Nat) : Int), x]
  | [], n, i, z, e => by simp [Mn.enumL] at e
  | x :: l, n, 0, z, e => by
    simp [Mn.enumL] at e
    exact ⟨x, rfl, e.symm⟩
  | x :: l, n, i + 1, z, e => by
    simp [Mn.enumL] at e
    obtain ⟨a, e1, e2⟩ := enumL_get e
    refine ⟨a, by simpa using e1, ?_⟩
    rw [e2]
    have : n + 1 + i = n + (i + 1) := by omega
    rw [this]
theorem enumL_len : ∀ (n : Nat) (l : List Mn.Val), (Mn.enumL n l).length = l.length
  | n, [] => rfl
  | n, x :: l => by simp [Mn.enumL, enumL_len (n + 1) l]
theorem it_enum {k : Kd} {l : List Mn.Val} {src : Mn.Srcs} (s : SrcOk C k l src μ ρ σ H) : ItOk C (ItE C.K k) (Mn.enumL 0 l) src μ ρ σ H := fun μ1 ρ1 h1 σ1 H1 S1 F1 sl ck => by
  obtain ⟨xs, hx, r⟩ := s μ1 ρ1 h1 σ1 H1 S1 F1 sl ck
  refine ⟨fun i z e => ?_, ⟨xs, hx, by rw [enumL_len, r.length]⟩⟩
  obtain ⟨x, e1, rfl⟩ := enumL_get e
  obtain ⟨v, e3, rx⟩ := r.get e1
  refine ⟨⟨xs, v, hx, e3⟩, fun u H' ⟨T, x', eu, hT, eH, f1⟩ => ?_⟩
  subst eu eH
  have g1 := f1 xs hx
  rw [e3] at g1
  cases g1
  refine ⟨S1.beside hT, Fra.beside hT, RV.newT S1 hT ⟨_, _, rfl, ?_, _, _, rfl, rx, rfl⟩⟩
  show V.int _ = V.int _
  rw [Nat.zero_add]
theorem rangeL_get : ∀ {n i : Nat} {a c : Int} {z : Mn.Val}, (Mn.rangeL a c n)[i]? = some z → i < n ∧ z = .int (a + (i : Nat) * c)
  | 0, i, a, c, z, e => by simp [Mn.rangeL] at e
  | n + 1, 0, a, c, z, e => by
    simp [Mn.rangeL] at e
    exact ⟨Nat.succ_pos _, by rw [← e]; simp⟩
  | n + 1, i + 1, a, c, z, e => by
    simp [Mn.rangeL] at e
    obtain ⟨e1, e2⟩ := rangeL_get e
    refine ⟨Nat.succ_lt_succ e1, ?_⟩
    rw [e2]
    have : a + c + (i : Int) * c = a + ((i + 1 : Nat) : Int) * c := by
      rw [Int.natCast_add, Int.add_mul]
      simp
      omega
    rw [this]
theorem rangeL_len : ∀ (n : Nat) (a c : Int), (Mn.rangeL a c n).length = n
  | 0, _, _ => rfl
  | n + 1, a, c => by simp [Mn.rangeL, rangeL_len n]
theorem it_rng {a c : Int} {n : Nat} : ItOk C (Itc a c n) (Mn.rangeL a c n) [] μ ρ σ H := fun μ1 ρ1 h1 σ1 H1 S1 F1 sl ck => by
  refine ⟨fun i z e => ?_, by rw [rangeL_len]; exact Nat.le_refl n⟩
  obtain ⟨e1, rfl⟩ := rangeL_get e
  refine ⟨e1, fun u H' ⟨eu, ev⟩ => ?_⟩
  subst eu ev
  exact ⟨S1, Fra.refl, rfl⟩
theorem w_seq {m : Mn.M Mn.B} {R : It → Hp → Prop} (t : TRd C W (RIx C) (Mn.seqI m) σ H R) : iAny C.K (TEv C W m) σ H R := by
  obtain ⟨μ, ρ, h, S, g⟩ := t
  refine sub S Fra.refl g fun x H1 μ1 ρ1 h1 b S1 F1 r1 g1 => ?_
  obtain ⟨w, e1, g2⟩ := step_view g1
  cases el : Mn.itemsOf w with
  | none => rw [el] at g2; exact g2.elim
  | some l =>
    rw [el] at g2
    obtain ⟨k, xs, ek, hk, rk, so⟩ := src_of S1 r1.1 e1 el
    exact ⟨k, xs, ek, hk, g2 μ1 H1 (ItS C.K k) S1 F1 (it_one so)⟩
theorem w_zip {a b : Mn.M Mn.B} {R : It → Hp → Prop} (t : TRd C W (RIx C) (Mn.zipI a b) σ H R) : iZipK C.K (tCons (TEv C W a) (tCons (TEv C W b) tNil)) σ H R := by
  obtain ⟨μ, ρ, h, S, g⟩ := t
  refine sub S Fra.refl g fun x H1 μ1 ρ1 h1 a S1 F1 r1 g1 => sub S1 F1 g1 fun y H2 μ2 ρ2 h2 b S2 F2 r2 g2 => ?_
  obtain ⟨v, w, e1, e2, g3⟩ := step_op2 g2
  cases el : Mn.itemsOf v with
  | none => rw [el] at g3; exact g3.elim
  | some l =>
    cases eq : Mn.itemsOf w with
    | none => rw [el, eq] at g3; exact g3.elim
    | some q =>
      rw [el, eq] at g3
      obtain ⟨k1, xs, ek1, hk1, _, so1⟩ := src_of S2 (F2.rb S1 r1.1) e1 el
      obtain ⟨k2, ys, ek2, hk2, _, so2⟩ := src_of S2 r2.1 e2 eq
      exact ⟨k1, k2, xs, ys, by rw [ek1, ek2], hk1, hk2, g3 μ2 H2 (ItZ C.K k1 k2) S2 (F1.trans F2) (it_zip so1 so2)⟩
theorem w_enu {m : Mn.M Mn.B} {R : It → Hp → Prop} (t : TRd C W (RIx C) (Mn.enuI (Mn.seqI m)) σ H R) : iEnumK C.K (tCons (TEv C W m) tNil) σ H R := by
  obtain ⟨μ, ρ, h, S, g⟩ := t
  unfold Mn.enuI Mn.seqI at g
  rw [bind_assoc] at g
  refine sub S Fra.refl g fun x H1 μ1 ρ1 h1 b S1 F1 r1 g1 => ?_
  rw [bind_assoc] at g1
  obtain ⟨w, e1, g2⟩ := step_view g1
  cases el : Mn.itemsOf w with
  | none => rw [el] at g2; exact g2.elim
  | some l =>
    rw [el] at g2
    obtain ⟨k, xs, ek, hk, rk, so⟩ := src_of S1 r1.1 e1 el
    exact ⟨k, xs, by rw [ek], hk, g2 μ1 H1 (ItE C.K k) S1 F1 (it_enum so)⟩
end
end Ms
end
section
namespace Ms
open PySem PySem.Spec PyProof.Rows L2
section
variable {C : Ct} {W : WX} {σ : L2.St} {γ δ : Type} {μ₀ μ : List Addr} {ρ₀ ρ : Mn.Slots} {h : Mn.Hp} {H₀ H : Hp}
theorem setSlot_ok {i : Nat} {b : Mn.B} {u : Unit} {ρ' : Mn.Slots} {h' : Mn.Hp} (e : Mn.setSlot i b ρ h = .ok u ρ' h') : i < ρ.length ∧ ρ' = ρ.set i (some b) ∧ h' = h := by
  unfold Mn.setSlot at e
  by_cases c : i < ρ.length
  · rw [if_pos c] at e
    cases e
    exact ⟨c, rfl, rfl⟩
  · rw [if_neg c] at e
    cases e
theorem Sta.setV {i : Nat} {x : Mn.Val} {v : V} (S : Sta C μ ρ h σ H) (hi : i < ρ.length) (r : RV C μ H x v) : Sta C μ (ρ.set i (some (.v x))) h (σ.set i (some v)) H := by
  refine ⟨S.nd, S.len, S.obj, by rw [List.length_set, List.length_set, S.slen], fun j b e => ?_, fun j k b c a e1 o1 v1 e2 o2 v2 => ?_⟩
  · rcases set_get e with ⟨k1, k2⟩ | ⟨n, k2⟩
    · subst k1
      cases k2
      exact ⟨v, List.getElem?_set_self (by rw [← S.slen]; exact hi), r⟩
    · obtain ⟨u, e1, rb⟩ := S.slot j b k2
      exact ⟨u, by rw [List.getElem?_set_ne (Ne.symm n)]; exact e1, rb⟩
  · rcases set_get e1 with ⟨k1, k2⟩ | ⟨n, k2⟩
    · cases k2
      exact o1.elim
    · rcases set_get e2 with ⟨k3, k4⟩ | ⟨n2, k4⟩
      · cases k4
        exact o2.elim
      · rw [List.getElem?_set_ne (Ne.symm n)] at v1
        rw [List.getElem?_set_ne (Ne.symm n2)] at v2
        exact S.own j k b c a k2 o1 v1 k4 o2 v2
theorem Fra.setV {i : Nat} {x : Mn.Val} {v : V} : Fra μ ρ σ H μ (ρ.set i (some (.v x))) (σ.set i (some v)) H :=
  ⟨⟨[], by simp⟩, fun a o q n m => ⟨q, n, fun ⟨j, b, e1, e2, e3⟩ => by
    rcases set_get e1 with ⟨k1, k2⟩ | ⟨n, k2⟩
    · cases k2
      exact e2
    · rw [List.getElem?_set_ne (Ne.symm n)] at e3
      exact m ⟨j, b, k2, e2, e3⟩⟩, fun _ e => e⟩
def gsOf : List Nat → TGs
  | [] => gNil
  | i :: r => gCons (gName i) (gsOf r)
def tgOf (K : PySem.W.Frag) : Mn.Tg → TG
  | .one i => gName i
  | .many l => gTup K l.length (gsOf l)
theorem gs_ok : ∀ {l : List Nat} {xs : List Mn.Val} {vs : List V} {ρ ρ' : Mn.Slots} {σ : L2.St} {h h' : Mn.Hp} {u : Unit}, Sta C μ ρ h σ H → RVs C μ H xs vs → Mn.setSlots l xs ρ h = .ok u ρ' h' →
    h' = h ∧ ∀ Q : L2.St → Hp → Prop, (∀ σ', Sta C μ ρ' h σ' H → Fra μ ρ σ H μ ρ' σ' H → (∀ j, j ∉ l → σ'[j]? = σ[j]?) → Q σ' H) → gsOf l vs σ H Q
  | [], [], vs, ρ, ρ', σ, h, h', u, S, r, e => by
    cases e
    exact ⟨rfl, fun Q k => ⟨r, k σ S Fra.refl fun _ _ => rfl⟩⟩
  | [], _ :: _, vs, ρ, ρ', σ, h, h', u, S, r, e => by cases e
  | _ :: _, [], vs, ρ, ρ', σ, h, h', u, S, r, e => by cases e
  | i :: l, x :: xs, vs, ρ, ρ', σ, h, h', u, S, r, e => by
    obtain ⟨v, vr, rfl, rx, rr⟩ := r
    unfold Mn.setSlots Mn.bind at e
    cases e1 : Mn.setSlot i (.v x) ρ h with
    | bad => rw [e1] at e; cases e
    | err c s1 h1 => rw [e1] at e; cases e
    | ok u1 s1 h1 =>
      rw [e1] at e
      obtain ⟨hi, es, eh⟩ := setSlot_ok e1
      subst es eh
      have S1 := S.setV hi rx
      have F1 : Fra μ ρ σ H μ (ρ.set i (some (.v x))) (σ.set i (some v)) H := Fra.setV
      obtain ⟨k1, k2⟩ := gs_ok S1 (F1.rvs S rr) e
      refine ⟨k1, fun Q k => ⟨v, vr, rfl, k2 Q fun σ' S' F' sm => k σ' S' (F1.trans F') fun j hj => ?_⟩⟩
      rw [sm j (fun z => hj (List.mem_cons_of_mem _ z)), List.getElem?_set_ne (fun z : i = j => hj (by rw [← z]; exact List.mem_cons_self ..))]
theorem setSlots_len : ∀ {l : List Nat} {xs : List Mn.Val} {ρ ρ' : Mn.Slots} {h h' : Mn.Hp} {u : Unit}, Mn.setSlots l xs ρ h = .ok u ρ' h' → xs.length = l.length
  | [], [], _, _, _, _, _, _ => rfl
  | [], _ :: _, _, _, _, _, _, e => by cases e
  | _ :: _, [], _, _, _, _, _, e => by cases e
  | i :: l, x :: xs, ρ, ρ', h, h', u, e => by
    unfold Mn.setSlots Mn.bind at e
    cases e1 : Mn.setSlot i (.v x) ρ h with
    | bad => rw [e1] at e; cases e
    | err c s1 h1 => rw [e1] at e; cases e
    | ok u1 s1 h1 =>
      rw [e1] at e
      rw [List.length_cons, List.length_cons, setSlots_len e]
theorem tg_ok {t : Mn.Tg} {x : Mn.Val} {v : V} {ρ' : Mn.Slots} {h' : Mn.Hp} {u : Unit} (S : Sta C μ ρ h σ H) (r : RV C μ H x v) (e : Mn.setTg t x ρ h = .ok u ρ' h') :
    h' = h ∧ ∀ Q : L2.St → Hp → Prop, (∀ σ', Sta C μ ρ' h σ' H → Fra μ ρ σ H μ ρ' σ' H → (∀ j, j ∉ Mn.tgN t → σ'[j]? = σ[j]?) → Q σ' H) → tgOf C.K t v σ H Q := by
  cases t with
  | one i =>
    obtain ⟨hi, es, eh⟩ := setSlot_ok (show Mn.setSlot i (.v x) ρ h = .ok u ρ' h' from e)
    subst es eh
    exact ⟨rfl, fun Q k => k _ (S.setV hi r) Fra.setV fun j hj => List.getElem?_set_ne fun z : i = j => hj (by rw [← z]; exact List.mem_singleton_self _)⟩
  | many l =>
    cases x with
    | tup xs =>
      obtain ⟨a, hs, rfl, q, rr⟩ := r
      have e' : Mn.setSlots l xs ρ h = .ok u ρ' h' := e
      obtain ⟨k1, k2⟩ := gs_ok S rr e'
      exact ⟨k1, fun Q k => ⟨a, hs, rfl, q, by rw [← rr.length, setSlots_len e'], k2 Q k⟩⟩
    | _ => cases e
theorem setTg_noerr {t : Mn.Tg} {x : Mn.Val} {c : Str} {ρ' : Mn.Slots} {h' : Mn.Hp} : Mn.setTg t x ρ h ≠ .err c ρ' h' := by
  have one : ∀ (c : Str) (i : Nat) (b : Mn.B) (ρ ρ' : Mn.Slots) (h h' : Mn.Hp), Mn.setSlot i b ρ h ≠ .err c ρ' h' := fun _ i b ρ ρ' h h' e => by
    unfold Mn.setSlot at e
    by_cases c : i < ρ.length
    · rw [if_pos c] at e; cases e
    · rw [if_neg c] at e; cases e
  cases t with
  | one i => exact one _ _ _ _ _ _ _
  | many l =>
    cases x with
    | tup xs =>
      intro e
      have e : Mn.setSlots l xs ρ h = .err c ρ' h' := e
      induction l generalizing xs ρ h with
      | nil => cases xs <;> cases e
      | cons i l ih =>
        cases xs with
        | nil => cases e
        | cons y xs =>
          unfold Mn.setSlots Mn.bind at e
          cases e1 : Mn.setSlot i (.v y) ρ h with
          | bad => rw [e1] at e; cases e
          | err c s1 h1 => exact one _ _ _ _ _ _ _ e1
          | ok u1 s1 h1 =>
            rw [e1] at e
            exact ih _ e e
    | _ => intro e; cases e
theorem wipe_len : ∀ (own : List Nat) (s : Mn.Slots), (Mn.wipe own s).length = s.length
  | [], s => rfl
  | i :: r, s => by
    show (Mn.wipe r (s.set i none)).length = s.length
    rw [wipe_len r, List.length_set]
theorem wipe_get : ∀ {own : List Nat} {s : Mn.Slots} {j : Nat} {b : Mn.B}, (Mn.wipe own s)[j]? = some (some b) ↔ j ∉ own ∧ s[j]? = some (some b)
  | [], s, j, b => by simp [Mn.wipe]
  | i :: r, s, j, b => by
    show (Mn.wipe r (s.set i none))[j]? = some (some b) ↔ _
    rw [wipe_get]
    constructor
    · rintro ⟨n, e⟩
      rcases set_get e with ⟨_, k2⟩ | ⟨n2, k2⟩
      · cases k2
      · exact ⟨fun z => (List.mem_cons.mp z).elim n2 n, k2⟩
    · rintro ⟨n, e⟩
      refine ⟨fun z => n (List.mem_cons_of_mem _ z), ?_⟩
      rw [List.getElem?_set_ne (fun z : i = j => n (by rw [← z]; exact List.mem_cons_self ..))]
      exact e
theorem wipeL_get : ∀ {vs : List Nat} {σ : L2.St} {j : Nat} {v : V}, (L2.wipe σ vs)[j]? = some (some v) ↔ j ∉ vs ∧ σ[j]? = some (some v)
  | [], σ, j, v => by simp [L2.wipe]
  | i :: r, σ, j, v => by
    show ((L2.wipe σ r).set i none)[j]? = some (some v) ↔ _
    constructor
    · intro e
      rcases set_get e with ⟨_, k2⟩ | ⟨n2, k2⟩
      · cases k2
      · obtain ⟨k3, k4⟩ := wipeL_get.mp k2
        exact ⟨fun z => (List.mem_cons.mp z).elim n2 k3, k4⟩
    · rintro ⟨n, e⟩
      rw [List.getElem?_set_ne (fun z : i = j => n (by rw [← z]; exact List.mem_cons_self ..))]
      exact wipeL_get.mpr ⟨fun z => n (List.mem_cons_of_mem _ z), e⟩
theorem back_len : ∀ (own : List Nat) (s0 s : Mn.Slots), (Mn.back own s0 s).length = s.length
  | [], s0, s => rfl
  | i :: r, s0, s => by
    show (Mn.back r s0 (match s0[i]? with | some o => s.set i o | none => s)).length = s.length
    rw [back_len r]
    cases s0[i]? <;> simp
theorem back_get : ∀ {own : List Nat} {s0 s : Mn.Slots} {j : Nat} {b : Mn.B}, s0.length = s.length → (Mn.back own s0 s)[j]? = some (some b) → (j ∈ own ∧ s0[j]? = some (some b)) ∨ (j ∉ own ∧ s[j]? = some (some b))
  | [], s0, s, j, b, hl, e => .inr ⟨by simp, e⟩
  | i :: r, s0, s, j, b, hl, e => by
    have e' : (Mn.back r s0 (match s0[i]? with | some o => s.set i o | none => s))[j]? = some (some b) := e
    cases ei : s0[i]? with
    | none =>
      rw [ei] at e'
      rcases back_get hl e' with ⟨k1, k2⟩ | ⟨k1, k2⟩
      · exact .inl ⟨List.mem_cons_of_mem _ k1, k2⟩
      · by_cases c : j = i
        · subst c
          have := (List.getElem?_eq_some_iff.mp k2).1
          rw [List.getElem?_eq_none_iff] at ei
          omega
        · exact .inr ⟨fun z => (List.mem_cons.mp z).elim c k1, k2⟩
    | some o =>
      rw [ei] at e'
      rcases back_get (by rw [List.length_set]; exact hl) e' with ⟨k1, k2⟩ | ⟨k1, k2⟩
      · exact .inl ⟨List.mem_cons_of_mem _ k1, k2⟩
      · rcases set_get k2 with ⟨k3, k4⟩ | ⟨k3, k4⟩
        · subst k3 k4
          exact .inl ⟨List.mem_cons_self .., ei⟩
        · exact .inr ⟨fun z => (List.mem_cons.mp z).elim k3 k1, k4⟩
theorem Sta.wiped {own : List Nat} {vs : List Nat} (S : Sta C μ ρ h σ H) (e : ∀ j, j ∈ vs → j ∈ own) : Sta C μ (Mn.wipe own ρ) h (L2.wipe σ vs) H := by
  refine ⟨S.nd, S.len, S.obj, by rw [wipe_len, wipe_length, S.slen], fun i b k => ?_, fun i j b c a e1 o1 v1 e2 o2 v2 => ?_⟩
  · obtain ⟨n, k⟩ := wipe_get.mp k
    obtain ⟨v, e1, rb⟩ := S.slot i b k
    exact ⟨v, wipeL_get.mpr ⟨fun z => n (e i z), e1⟩, rb⟩
  · exact S.own i j b c a (wipe_get.mp e1).2 o1 (wipeL_get.mp v1).2 (wipe_get.mp e2).2 o2 (wipeL_get.mp v2).2
theorem Fra.wiped {own : List Nat} {vs : List Nat} : Fra μ ρ σ H μ (Mn.wipe own ρ) (L2.wipe σ vs) H :=
  ⟨⟨[], by simp⟩, fun a o q n m => ⟨q, n, fun ⟨j, b, e1, e2, e3⟩ => m ⟨j, b, (wipe_get.mp e1).2, e2, (wipeL_get.mp e3).2⟩⟩, fun _ e => e⟩
theorem Sta.backed {own : List Nat} {vs : List Nat} {μ1 : List Addr} {ρ1 : Mn.Slots} {h1 : Mn.Hp} {H1 : Hp} (ev : ∀ j, j ∈ vs ↔ j ∈ own) (S : Sta C μ ρ h σ H) (F : Fra μ (Mn.wipe own ρ) (L2.wipe σ vs) H μ1 ρ1 (L2.wipe σ vs) H1) (S1 : Sta C μ1 ρ1 h1 (L2.wipe σ vs) H1) :
    Sta C μ1 (Mn.back own ρ ρ1) h1 σ H1 ∧ Fra μ ρ σ H μ1 (Mn.back own ρ ρ1) σ H1 := by
  have hl : ρ.length = ρ1.length := by rw [S.slen, S1.slen, wipe_length]
  have SW := S.wiped (own := own) (vs := vs) fun j k => (ev j).mp k
  have kept : ∀ (i : Nat) (b : Mn.B) (a : Addr) (o : HO), i ∈ own → ρ[i]? = some (some b) → isOwn b → σ[i]? = some (some (V.ref a)) → H a = some o → a ∉ μ → H1 a = some o ∧ a ∉ μ1 ∧ ¬ Own ρ1 (L2.wipe σ vs) a := fun i b a o hi e1 e2 e3 e4 n => by
    refine F.keep a o e4 n fun ⟨j, c, k1, k2, k3⟩ => ?_
    obtain ⟨n1, k1⟩ := wipe_get.mp k1
    obtain ⟨n2, k3⟩ := wipeL_get.mp k3
    have := S.own i j b c a e1 e2 e3 k1 k2 k3
    subst this
    exact n1 hi
  refine ⟨⟨S1.nd, S1.len, S1.obj, by rw [back_len, ← hl, S.slen], fun i b e => ?_, fun i j b c a e1 o1 v1 e2 o2 v2 => ?_⟩, ⟨F.pre, fun a o q n m => ?_, F.live⟩⟩
  · rcases back_get hl e with ⟨k1, k2⟩ | ⟨k1, k2⟩
    · obtain ⟨v, e1, rb⟩ := S.slot i b k2
      refine ⟨v, e1, ?_⟩
      cases b with
      | v x => exact F.rv SW rb
      | sl x => exact rb
      | l xs =>
        obtain ⟨a, hs, rfl, e2, r2, n⟩ := rb
        obtain ⟨j1, j2, _⟩ := kept i _ a _ k1 k2 trivial e1 e2 n
        exact ⟨a, hs, rfl, j1, F.rvs SW r2, j2⟩
      | d xs =>
        obtain ⟨a, hs, rfl, e2, r2, n⟩ := rb
        obtain ⟨j1, j2, _⟩ := kept i _ a _ k1 k2 trivial e1 e2 n
        exact ⟨a, hs, rfl, j1, F.rks SW r2, j2⟩
    · obtain ⟨v, e1, rb⟩ := S1.slot i b k2
      exact ⟨v, (wipeL_get.mp e1).2, rb⟩
  · have ob : ∀ (i : Nat) (b : Mn.B), ρ[i]? = some (some b) → isOwn b → σ[i]? = some (some (V.ref a)) → ∃ o, H a = some o ∧ a ∉ μ := fun i b e1 e2 e3 => by
      obtain ⟨k, n⟩ := S.ownIs ⟨i, b, e1, e2, e3⟩
      rcases k with ⟨_, k⟩ | ⟨_, k⟩ <;> exact ⟨_, k, n⟩
    rcases back_get hl e1 with ⟨k1, k2⟩ | ⟨k1, k2⟩
    · rcases back_get hl e2 with ⟨k3, k4⟩ | ⟨k3, k4⟩
      · exact S.own i j b c a k2 o1 v1 k4 o2 v2
      · obtain ⟨o, w, n⟩ := ob i b k2 o1 v1
        exact absurd ⟨j, c, k4, o2, wipeL_get.mpr ⟨fun z => k3 ((ev j).mp z), v2⟩⟩ (kept i b a o k1 k2 o1 v1 w n).2.2
    · rcases back_get hl e2 with ⟨k3, k4⟩ | ⟨k3, k4⟩
      · obtain ⟨o, w, n⟩ := ob j c k4 o2 v2
        exact absurd ⟨i, b, k2, o1, wipeL_get.mpr ⟨fun z => k1 ((ev i).mp z), v1⟩⟩ (kept j c a o k3 k4 o2 v2 w n).2.2
      · exact S1.own i j b c a k2 o1 (wipeL_get.mpr ⟨fun z => k1 ((ev i).mp z), v1⟩) k4 o2 (wipeL_get.mpr ⟨fun z => k3 ((ev j).mp z), v2⟩)
  · obtain ⟨j1, j2, j3⟩ := F.keep a o q n fun ⟨j, b, e1, e2, e3⟩ => m ⟨j, b, (wipe_get.mp e1).2, e2, (wipeL_get.mp e3).2⟩
    refine ⟨j1, j2, fun ⟨j, b, e1, e2, e3⟩ => ?_⟩
    rcases back_get hl e1 with ⟨k1, k2⟩ | ⟨k1, k2⟩
    · exact m ⟨j, b, k2, e2, e3⟩
    · exact j3 ⟨j, b, k2, e2, wipeL_get.mpr ⟨fun z => k1 ((ev j).mp z), e3⟩⟩
end
end Ms
end
section
namespace Ms
open PySem PySem.Spec PyProof.Rows L2
abbrev WF : WX := fun _ _ _ _ => False
section
variable {C : Ct} {W : WX} {σ : L2.St} {α β γ δ : Type} {μ₀ μ : List Addr} {ρ₀ ρ : Mn.Slots} {h : Mn.Hp} {H₀ H : Hp}
theorem ours_not {D : Addr} {o : HO} {a : Addr} {u : HO} (k : Ours (H D)) (e : H a = some u) (n : ¬ Ours (some u)) : upd H D o a = some u := by
  rw [upd_ne]
  · exact e
  · rintro rfl
    rw [e] at k
    exact n k
theorem ours_sqT {D : Addr} {o : HO} {a : Addr} {hs : List V} (k : Ours (H D)) (q : SqT C.K H a hs) : SqT C.K (upd H D o) a hs := by
  rcases q with (e | ⟨o', e⟩) | q
  · exact .inl (.inl (ours_not k e not_ours_tup))
  · exact .inl (.inr ⟨o', ours_not k e not_ours_frzT⟩)
  · exact .inr q
mutual
theorem rv_upd {D : Addr} {o : HO} (k : Ours (H D)) : ∀ {x : Mn.Val} {v : V}, RV C μ H x v → RV C μ (upd H D o) x v
  | .non, _, r => r
  | .bl _, _, r => r
  | .int _, _, r => r
  | .str _, _, r => r
  | .tup l, v, ⟨a, hs, e1, q, r⟩ => ⟨a, hs, e1, ours_sqT k q, rvs_upd k r⟩
  | .exc c, v, ⟨x, a, e, q⟩ => ⟨x, a, e, ours_not k q not_ours_exc⟩
  | .ref i, v, r => r
theorem rvs_upd {D : Addr} {o : HO} (k : Ours (H D)) : ∀ {x : List Mn.Val} {v : List V}, RVs C μ H x v → RVs C μ (upd H D o) x v
  | [], _, r => r
  | x :: l, v, ⟨u, ur, e, r1, r2⟩ => ⟨u, ur, e, rv_upd k r1, rvs_upd k r2⟩
end
theorem rks_upd {D : Addr} {o : HO} (k : Ours (H D)) : ∀ {x : List (Mn.Key × Mn.Val)} {v : List (Key × V)}, RKs C μ H x v → RKs C μ (upd H D o) x v
  | [], _, r => r
  | (j, x) :: l, v, ⟨u, ur, e, r1, r2⟩ => ⟨u, ur, e, rv_upd k r1, rks_upd k r2⟩
theorem rfs_upd {D : Addr} {o : HO} (k : Ours (H D)) : ∀ {x : List (Str × Mn.Val)} {v : List (Str × V)}, RFs C μ H x v → RFs C μ (upd H D o) x v
  | [], _, r => r
  | (j, x) :: l, v, ⟨u, ur, e, r1, r2⟩ => ⟨u, ur, e, rv_upd k r1, rfs_upd k r2⟩
theorem ro_upd {D : Addr} {o : HO} {a : Addr} {ob : Mn.Obj} (k : Ours (H D)) (n : a ≠ D) (r : RO C μ H ob a) : RO C μ (upd H D o) ob a := by
  cases ob with
  | lst l => obtain ⟨hs, e, r⟩ := r; exact ⟨hs, by rw [upd_ne n]; exact e, rvs_upd k r⟩
  | frz l => obtain ⟨o', hs, e, r⟩ := r; exact ⟨o', hs, by rw [upd_ne n]; exact e, rvs_upd k r⟩
  | dic l => obtain ⟨hs, e, r⟩ := r; exact ⟨hs, by rw [upd_ne n]; exact e, rks_upd k r⟩
  | ins c fs => obtain ⟨dx, hf, e, r⟩ := r; exact ⟨dx, hf, by rw [upd_ne n]; exact e, rfs_upd k r⟩
theorem rb0_upd {D : Addr} {o : HO} {b : Mn.B} {v : V} (k : Ours (H D)) (n : isOwn b → v ≠ V.ref D) (r : RB0 C μ H b v) : RB0 C μ (upd H D o) b v := by
  cases b with
  | v x => exact rv_upd k r
  | sl i => exact r
  | l xs =>
    obtain ⟨a, hs, rfl, e, r, m⟩ := r
    exact ⟨a, hs, rfl, by rw [upd_ne (fun z => n trivial (by rw [z]))]; exact e, rvs_upd k r, m⟩
  | d xs =>
    obtain ⟨a, hs, rfl, e, r, m⟩ := r
    exact ⟨a, hs, rfl, by rw [upd_ne (fun z => n trivial (by rw [z]))]; exact e, rks_upd k r, m⟩
theorem Sta.updD {D : Addr} {o : HO} (S : Sta C μ ρ h σ H) (k : Ours (H D)) (n : D ∉ μ) (m : ¬ Own ρ σ D) : Sta C μ ρ h σ (upd H D o) := by
  refine ⟨S.nd, S.len, fun i ob e => ?_, S.slen, fun i b e => ?_, S.own⟩
  · obtain ⟨a, e1, r⟩ := S.obj i ob e
    exact ⟨a, e1, ro_upd k (fun z => n (z ▸ List.mem_of_getElem? e1)) r⟩
  · obtain ⟨v, e1, r⟩ := S.slot i b e
    exact ⟨v, e1, rb0_upd k (fun ob z => m ⟨i, b, e, ob, z ▸ e1⟩) r⟩
theorem toVal_ok {b : Mn.B} {v : V} {r : Mn.R Mn.Val} (S : Sta C μ ρ h σ H) (F : Fra μ₀ ρ₀ σ H₀ μ ρ σ H) (rb : RB C μ ρ σ H b v) (n : isOwn b → ∀ a, v = .ref a → H₀ a = none) (e : Mn.toVal b ρ h = r) (nb : r ≠ .bad) :
    ∃ x μ1 ρ1 h1, r = .ok x ρ1 h1 ∧ Sta C μ1 ρ1 h1 σ H ∧ Fra μ₀ ρ₀ σ H₀ μ1 ρ1 σ H ∧ (∃ ν, μ1 = μ ++ ν) ∧ RV C μ1 H x v := by
  subst e
  cases b with
  | v x => exact ⟨x, μ, ρ, h, rfl, S, F, ⟨[], by simp⟩, rb⟩
  | l xs =>
    obtain ⟨a, hs, rfl, e, r1, n1, n2⟩ := rb
    exact ⟨.ref h.length, μ ++ [a], ρ, (h ++ [Mn.Obj.lst xs] : Mn.Hp), rfl, S.give0 (o := .lst xs) n1 n2 ⟨hs, e, r1⟩, F.give (n trivial a rfl), ⟨_, rfl⟩, ⟨a, rfl, by rw [← S.len]; exact getElem?_snoc μ a⟩⟩
  | d xs =>
    obtain ⟨a, hs, rfl, e, r1, n1, n2⟩ := rb
    exact ⟨.ref h.length, μ ++ [a], ρ, (h ++ [Mn.Obj.dic xs] : Mn.Hp), rfl, S.give0 (o := .dic xs) n1 n2 ⟨hs, e, r1⟩, F.give (n trivial a rfl), ⟨_, rfl⟩, ⟨a, rfl, by rw [← S.len]; exact getElem?_snoc μ a⟩⟩
  | sl i =>
    have r' : σ[i]? = some (some v) := rb
    unfold Mn.toVal at nb ⊢
    dsimp only at nb ⊢
    cases es : ρ[i]? with
    | none => rw [es] at nb; exact absurd rfl nb
    | some o =>
      cases o with
      | none => rw [es] at nb; exact absurd rfl nb
      | some b =>
        rw [es] at nb
        obtain ⟨u, e1, rs⟩ := S.slot i b es
        rw [r'] at e1
        cases e1
        cases b with
        | v x => exact ⟨x, μ, ρ, h, rfl, S, F, ⟨[], by simp⟩, rs⟩
        | l xs =>
          obtain ⟨a, hs, rfl, e2, r2, n⟩ := rs
          obtain ⟨S', F'⟩ := S.giveS (o := .lst xs) es trivial r' n ⟨hs, e2, r2⟩
          exact ⟨.ref h.length, _, _, _, rfl, S', F.trans F', ⟨_, rfl⟩, ⟨a, rfl, by rw [← S.len]; exact getElem?_snoc μ a⟩⟩
        | d xs =>
          obtain ⟨a, hs, rfl, e2, r2, n⟩ := rs
          obtain ⟨S', F'⟩ := S.giveS (o := .dic xs) es trivial r' n ⟨hs, e2, r2⟩
          exact ⟨.ref h.length, _, _, _, rfl, S', F.trans F', ⟨_, rfl⟩, ⟨a, rfl, by rw [← S.len]; exact getElem?_snoc μ a⟩⟩
        | sl j => exact rs.elim
theorem bind_ok {m : Mn.M α} {f : α → Mn.M β} {a : α} {s' : Mn.Slots} {h' : Mn.Hp} (e : m ρ h = .ok a s' h') : Mn.bind m f ρ h = f a s' h' := by
  unfold Mn.bind
  rw [e]
theorem bind_bad {m : Mn.M α} {f : α → Mn.M β} (e : m ρ h = .bad) : Mn.bind m f ρ h = .bad := by
  unfold Mn.bind
  rw [e]
theorem bind_err {m : Mn.M α} {f : α → Mn.M β} {c : Str} {s' : Mn.Slots} {h' : Mn.Hp} (e : m ρ h = .err c s' h') : Mn.bind m f ρ h = .err c s' h' := by
  unfold Mn.bind
  rw [e]
theorem sub_any {R1 : RelT α β} {m : Mn.M α} {f : α → Mn.M γ} {P : Mn.R γ → Prop} {Q1 : β → Hp → Prop} (hb : ¬ P .bad) (he : ∀ c s h, ¬ P (.err c s h)) (S : Sta C μ ρ h σ H) (g : P (Mn.bind m f ρ h))
    (k : ∀ x H1 μ1 ρ1 h1 a, Sta C μ1 ρ1 h1 σ H1 → Fra μ ρ σ H μ1 ρ1 σ H1 → R1 H μ1 ρ1 σ H1 a x → P (f a ρ1 h1) → Q1 x H1) : TRd C WF R1 m σ H Q1 := by
  refine ⟨μ, ρ, h, S, ?_⟩
  unfold Mn.bind at g
  cases e : m ρ h with
  | bad => rw [e] at g; exact hb g
  | err c ρ1 h1 => rw [e] at g; exact (he _ _ _ g).elim
  | ok a ρ1 h1 =>
    rw [e] at g
    exact fun μ1 H1 x S1 F1 r => k x H1 μ1 ρ1 h1 a S1 F1 r g
theorem wipe_ext {σ2 : L2.St} {vs : List Nat} (hl : σ2.length = σ.length) (k : ∀ j, j ∉ vs → σ2[j]? = (L2.wipe σ vs)[j]?) : L2.wipe σ2 vs = L2.wipe σ vs := by
  have at_ : ∀ (vs : List Nat) (τ : L2.St) (j : Nat), j ∈ vs → j < τ.length → (L2.wipe τ vs)[j]? = some none := by
    intro vs
    induction vs with
    | nil => intro τ j hj; cases hj
    | cons i r ih =>
      intro τ j hj hl
      show ((L2.wipe τ r).set i none)[j]? = some none
      by_cases c : i = j
      · subst c
        exact List.getElem?_set_self (by rw [wipe_length]; exact hl)
      · rw [List.getElem?_set_ne c]
        exact ih τ j ((List.mem_cons.mp hj).resolve_left (Ne.symm c)) hl
  apply List.ext_getElem?
  intro j
  by_cases c : j ∈ vs
  · by_cases d : j < σ.length
    · rw [at_ vs σ2 j c (by omega), at_ vs σ j c d]
    · rw [List.getElem?_eq_none (by rw [wipe_length]; omega), List.getElem?_eq_none (by rw [wipe_length]; omega)]
  · rw [wipe_out c]
    exact k j c
def finL (own : List Nat) (ρ1 : Mn.Slots) (done : List Mn.Val) : Mn.R (List Mn.Val) → Mn.R Mn.B
  | .ok ys s' h' => if (done ++ ys).length ≤ Mn.limit then .ok (.l (done ++ ys)) (Mn.back own ρ1 s') h' else .bad
  | _ => .bad
theorem srcOff_sl {own : List Nat} {src : Mn.Srcs} (k : Mn.srcOff own src = true) {i : Nat} {q : List Mn.Val} (m : (Mn.B.sl i, q) ∈ src) : i ∉ own := by
  have := List.all_eq_true.mp k _ m
  simpa using this
theorem w_comp {e : Mn.M Mn.B} {t : Mn.Tg} {it : Mn.M (List Mn.Val × Mn.Srcs)} {c : Option Mn.Dn} {own vs : List Nat} {wi : TI} {Q : VK} (ev : ∀ j, j ∈ vs ↔ j ∈ own) (et : ∀ j, j ∈ Mn.tgN t → j ∈ own)
    (hw : ∀ R, TRd C W (RIx C) it σ H R → wi σ H R) (t' : TEv C W (Mn.compM e t it c own) σ H Q) : tLc wi (tgOf C.K t) (TTv C WF (Mn.tstD c)) (TEv C WF e) vs σ H Q := by
  obtain ⟨μ, ρ, h, S, g⟩ := t'
  refine hw _ (sub S Fra.refl g fun J H1 μ1 ρ1 h1 p S1 F1 r1 g1 => fun D hD => ?_)
  unfold Mn.inBlock at g1
  have so : Mn.srcOff own p.2 = true := by
    by_cases so : Mn.srcOff own p.2 = true
    · exact so
    · rw [if_neg so] at g1
      exact g1.elim
  rw [if_pos so] at g1
  have nD : D ∉ μ1 := fun z => mem_ne (o := .lst []) S1 hD (.inl z) rfl
  have oD : ¬ Own ρ1 σ D := fun z => mem_ne (o := .lst []) S1 hD (.inr z) rfl
  have SL : SlOk p.2 σ (L2.wipe σ vs) := fun i q m => wipe_out fun z => srcOff_sl so m ((ev i).mp z)
  let P : List Mn.Val → Mn.R (List Mn.Val) → Prop := fun done r => Good C W σ (RBx C) μ ρ H Q (finL own ρ1 done r)
  have Pb : ∀ done, ¬ P done .bad := fun _ z => z
  have Pe : ∀ done c s h, ¬ P done (.err c s h) := fun _ _ _ _ z => z
  have g2 : P [] (Mn.compL own p.2 t (Mn.tstD c) (Mn.bind e Mn.toVal) p.1 ρ1 h1) := by
    show Good C W σ (RBx C) μ ρ H Q (finL own ρ1 [] _)
    cases er : Mn.compL own p.2 t (Mn.tstD c) (Mn.bind e Mn.toVal) p.1 ρ1 h1 with
    | bad => rw [bind_bad er] at g1; exact g1
    | err k s2 h2 => rw [bind_err er] at g1; exact g1
    | ok ys s2 h2 =>
      rw [bind_ok er] at g1
      unfold finL
      dsimp only at g1 ⊢
      rw [List.nil_append]
      by_cases cl : ys.length ≤ Mn.limit
      · rw [if_pos cl] at g1 ⊢
        exact g1
      · rw [if_neg cl] at g1
        exact g1.elim
  let Wv : Nat → Nat → Hp → Prop := fun i m H2 => m = p.1.length - i ∧ i ≤ p.1.length ∧ ∃ μ2 ρ2 h2 done acc, Sta C μ2 (Mn.wipe own ρ2) h2 (L2.wipe σ vs) H2 ∧
    Fra μ1 (Mn.wipe own ρ1) (L2.wipe σ vs) H1 μ2 (Mn.wipe own ρ2) (L2.wipe σ vs) H2 ∧ H2 D = some (.lst acc) ∧ D ∉ μ2 ∧ ¬ Own (Mn.wipe own ρ2) (L2.wipe σ vs) D ∧ RVs C μ2 H2 done acc ∧
    P done (Mn.compL own p.2 t (Mn.tstD c) (Mn.bind e Mn.toVal) (p.1.drop i) ρ2 h2)
  refine ⟨Wv, ⟨p.1.length, rfl, Nat.zero_le _, μ1, ρ1, h1, [], [], (S1.wiped fun j z => (ev j).mp z).beside hD, Fra.beside hD, upd_same, nD, fun z => oD (by
    obtain ⟨j, b, k1, k2, k3⟩ := z
    exact ⟨j, b, (wipe_get.mp k1).2, k2, (wipeL_get.mp k3).2⟩), rfl, g2⟩, fun i m H2 hw2 => ?_⟩
  obtain ⟨em, hi, μ2, ρ2, h2, done, acc, S2, F2, eD, nD2, oD2, rd, g3⟩ := hw2
  have FS : Fra μ1 ρ1 σ H1 μ2 (Mn.wipe own ρ2) (L2.wipe σ vs) H2 := Fra.wiped.trans F2
  cases ed : p.1.drop i with
  | nil =>
    rw [ed] at g3
    have hie : i = p.1.length := by
      have := congrArg List.length ed
      rw [List.length_drop] at this
      simp at this
      omega
    have g4 : P done (Mn.bind (Mn.chk p.2) (fun _ => Mn.ret []) (Mn.wipe own ρ2) h2) := g3
    cases ec : Mn.chk p.2 (Mn.wipe own ρ2) h2 with
    | bad => rw [bind_bad ec] at g4; exact (Pb _ g4).elim
    | err k s3 h3 => exact absurd ec chk_noerr
    | ok u s3 h3 =>
      obtain ⟨es3, eh3⟩ := chk_same ec
      rw [es3, eh3] at ec
      rw [bind_ok ec] at g4
      left
      refine ⟨by rw [hie]; exact (r1 μ2 _ _ _ H2 S2 FS SL ec).2, ?_⟩
      have g5 : Good C W σ (RBx C) μ ρ H Q (if (done ++ []).length ≤ Mn.limit then .ok (.l (done ++ [])) (Mn.back own ρ1 (Mn.wipe own ρ2)) h2 else .bad) := g4
      rw [List.append_nil] at g5
      by_cases cl : done.length ≤ Mn.limit
      · rw [if_pos cl] at g5
        obtain ⟨S3, F3⟩ := Sta.backed ev S1 F2 S2
        refine g5 μ2 H2 (.ref D) S3 (F1.trans F3) ⟨⟨D, acc, rfl, eD, rd, nD2, fun z => ?_⟩, fun _ a ea => by cases ea; exact F1.live _ hD⟩
        obtain ⟨j, b, k1, k2, k3⟩ := z
        have hl : ρ1.length = (Mn.wipe own ρ2).length := by
          have a1 := S1.slen
          have a2 := S2.slen
          rw [wipe_length] at a2
          omega
        rcases back_get hl k1 with ⟨j1, j2⟩ | ⟨j1, j2⟩
        · exact oD ⟨j, b, j2, k2, k3⟩
        · exact oD2 ⟨j, b, j2, k2, wipeL_get.mpr ⟨fun z => j1 ((ev j).mp z), k3⟩⟩
      · rw [if_neg cl] at g5
        exact g5.elim
  | cons x r =>
    rw [ed] at g3
    have hx : p.1[i]? = some x := by
      have := congrArg (fun l => l[0]?) ed
      simpa using this
    have hr : p.1.drop (i + 1) = r := by
      have := congrArg (List.drop 1) ed
      rw [List.drop_drop] at this
      simpa using this
    have hlt := (List.getElem?_eq_some_iff.mp hx).1
    have g4 : P done (Mn.bind (Mn.chk p.2) (fun _ => Mn.bind (Mn.setTg t x) fun _ => Mn.bind (Mn.tstD c) fun b =>
      if b = true then Mn.bind (Mn.bind e Mn.toVal) fun y => Mn.bind (Mn.compL own p.2 t (Mn.tstD c) (Mn.bind e Mn.toVal) r) fun ys => Mn.ret (y :: ys) else Mn.compL own p.2 t (Mn.tstD c) (Mn.bind e Mn.toVal) r) (Mn.wipe own ρ2) h2) := g3
    cases ec : Mn.chk p.2 (Mn.wipe own ρ2) h2 with
    | bad => rw [bind_bad ec] at g4; exact (Pb _ g4).elim
    | err k s3 h3 => exact absurd ec chk_noerr
    | ok u s3 h3 =>
      obtain ⟨es3, eh3⟩ := chk_same ec
      rw [es3, eh3] at ec
      rw [bind_ok ec] at g4
      cases es : Mn.setTg t x (Mn.wipe own ρ2) h2 with
      | bad => rw [bind_bad es] at g4; exact (Pb _ g4).elim
      | err k s3 h3 => exact absurd es setTg_noerr
      | ok u3 ρ3 h3 =>
        rw [bind_ok es] at g4
        obtain ⟨k1, k2⟩ := (r1 μ2 _ _ _ H2 S2 FS SL ec).1 i x hx
        right
        refine ⟨k1, fun H3 => Wv (i + 1) (p.1.length - (i + 1)) H3, fun H' z => ⟨_, by omega, z⟩, fun v H' hy => ?_⟩
        obtain ⟨S3, F3, rx⟩ := k2 v H' hy
        obtain ⟨k3, k4⟩ := tg_ok S3 rx es
        subst k3
        refine k4 _ fun σ2 S4 F4 sm => ?_
        have hl2 : σ2.length = σ.length := by
          have b2 := S4.slen
          have b3 : ρ3.length = (Mn.wipe own ρ2).length := by
            have : ∀ {t : Mn.Tg} {x : Mn.Val} {s s' : Mn.Slots} {h h' : Mn.Hp} {u : Unit}, Mn.setTg t x s h = .ok u s' h' → s'.length = s.length := by
              intro t x s s' h h' u e
              have ss : ∀ (l : List Nat) (xs : List Mn.Val) (s : Mn.Slots) (h : Mn.Hp), Mn.setSlots l xs s h = .ok u s' h' → s'.length = s.length := by
                intro l
                induction l with
                | nil => intro xs s h e; cases xs <;> cases e; rfl
                | cons i l ih =>
                  intro xs s h e
                  cases xs with
                  | nil => cases e
                  | cons y xs =>
                    unfold Mn.setSlots Mn.bind at e
                    cases e1 : Mn.setSlot i (.v y) s h with
                    | bad => rw [e1] at e; cases e
                    | err c s1 h1 => rw [e1] at e; cases e
                    | ok u1 s1 h1 =>
                      rw [e1] at e
                      obtain ⟨_, es, _⟩ := setSlot_ok e1
                      rw [ih xs s1 h1 e, es, List.length_set]
              cases t with
              | one i =>
                obtain ⟨_, es, _⟩ := setSlot_ok (show Mn.setSlot i (.v x) s h = .ok u s' h' from e)
                rw [es, List.length_set]
              | many l =>
                cases x with
                | tup xs => exact ss l xs s h e
                | _ => cases e
            exact this es
          have b4 := S2.slen
          rw [wipe_length] at b4
          omega
        have ew : L2.wipe σ2 vs = L2.wipe σ vs := wipe_ext hl2 fun j hj => sm j fun z => hj ((ev j).mpr (et j z))
        refine ⟨ew, ?_⟩
        -- D through the target
        obtain ⟨q1, q2, q3⟩ := (F3.trans F4).keep D _ eD nD2 oD2
        have FB : Fra μ1 (Mn.wipe own ρ1) (L2.wipe σ vs) H1 μ2 ρ3 σ2 H' := F2.trans (F3.trans F4)
        have fw : ∀ {μ5 : List Addr} {ρ5 : Mn.Slots} {H5 : Hp}, Fra μ1 (Mn.wipe own ρ1) (L2.wipe σ vs) H1 μ5 ρ5 σ2 H5 → Fra μ1 (Mn.wipe own ρ1) (L2.wipe σ vs) H1 μ5 (Mn.wipe own ρ5) (L2.wipe σ vs) H5 := fun F => by
          have Y : ∀ {μ5 : List Addr} {ρ5 : Mn.Slots} {H5 : Hp}, Fra μ5 ρ5 σ2 H5 μ5 (Mn.wipe own ρ5) (L2.wipe σ2 vs) H5 := Fra.wiped
          rw [ew] at Y
          exact F.trans Y
        refine sub_any (R1 := RBo) (Pb done) (Pe done) S4 g4 fun b H3 μ3 ρ4 h4 a S5 F5 rb g5 => ?_
        obtain rfl : a = b := rb
        obtain ⟨d1, d2, d3⟩ := F5.keep D _ q1 q2 q3
        have rd3 : RVs C μ3 H3 done acc := F5.rvs S4 (F4.rvs S3 (F3.rvs S2 rd))
        cases a with
        | false =>
          rw [if_neg (by simp)] at g5 ⊢
          refine ⟨rfl, by omega, μ3, ρ4, h4, done, acc, by rw [← ew]; exact S5.wiped fun j z => (ev j).mp z, fw (FB.trans F5), d1, d2, ?_, rd3, by rw [hr]; exact g5⟩
          rw [← ew]
          exact fun ⟨j, b, z1, z2, z3⟩ => d3 ⟨j, b, (wipe_get.mp z1).2, z2, (wipeL_get.mp z3).2⟩
        | true =>
          rw [if_pos rfl] at g5 ⊢
          rw [bind_assoc] at g5
          refine sub_any (R1 := RBx C) (Pb done) (Pe done) S5 g5 fun y H4 μ4 ρ5 h5 bb S6 F6 r6 g6 => ?_
          cases ev2 : Mn.toVal bb ρ5 h5 with
          | bad => rw [bind_bad ev2] at g6; exact (Pb _ g6).elim
          | err k s3 h3 => rw [bind_err ev2] at g6; exact (Pe _ _ _ _ g6).elim
          | ok yv ρ6 h6 =>
            rw [bind_ok ev2] at g6
            obtain ⟨x', μ7, ρ7, h7, e7, S7, F7, _, r7⟩ := toVal_ok S6 F6 r6.1 r6.2 ev2 (by intro z; cases z)
            cases e7
            obtain ⟨w1, w2, w3⟩ := F7.keep D _ d1 d2 d3
            cases er : Mn.compL own p.2 t (Mn.tstD c) (Mn.bind e Mn.toVal) r ρ6 h6 with
            | bad => rw [bind_bad er] at g6; exact (Pb _ g6).elim
            | err k s3 h3 => rw [bind_err er] at g6; exact (Pe _ _ _ _ g6).elim
            | ok ys s3 h3 =>
              rw [bind_ok er] at g6
              have g7 : Good C W σ (RBx C) μ ρ H Q (if (done ++ (yv :: ys)).length ≤ Mn.limit then .ok (.l (done ++ (yv :: ys))) (Mn.back own ρ1 s3) h3 else .bad) := g6
              have cl : (done ++ (yv :: ys)).length ≤ Mn.limit := by
                by_cases cl : (done ++ (yv :: ys)).length ≤ Mn.limit
                · exact cl
                · rw [if_neg cl] at g7
                  exact g7.elim
              rw [if_pos cl] at g7
              have cl' := cl
              rw [List.length_append, List.length_cons] at cl'
              have rd4 : RVs C μ7 H4 done acc := F7.rvs S5 rd3
              have od : Ours (H4 D) := by rw [w1]; exact .inl ⟨_, rfl⟩
              refine ⟨acc, w1, by rw [← rd.length, ← limit_line]; omega, rfl, by omega, μ7, ρ6, h6, done ++ [yv], acc ++ [y], ?_, ?_, upd_same, w2, ?_, ?_, ?_⟩
              · rw [← ew]
                exact (S7.wiped fun j z => (ev j).mp z).updD od w2 fun ⟨j, b, z1, z2, z3⟩ => w3 ⟨j, b, (wipe_get.mp z1).2, z2, (wipeL_get.mp z3).2⟩
              · have F8 := fw (FB.trans (F5.trans F7))
                refine ⟨F8.pre, fun a o q n m => ?_, fun a z => ?_⟩
                · obtain ⟨j1, j2, j3⟩ := F8.keep a o q n m
                  refine ⟨?_, j2, j3⟩
                  rw [upd_ne]
                  · exact j1
                  · rintro rfl
                    rw [hD] at q
                    cases q
                · by_cases ca : a = D
                  · rw [ca]; exact hD
                  · rw [upd_ne ca] at z
                    exact F8.live a z
              · rw [← ew]
                exact fun ⟨j, b, z1, z2, z3⟩ => w3 ⟨j, b, (wipe_get.mp z1).2, z2, (wipeL_get.mp z3).2⟩
              · exact (rvs_upd od rd4).append ⟨y, [], rfl, rv_upd od r7, rfl⟩
              · rw [hr]
                show Good C W σ (RBx C) μ ρ H Q (finL own ρ1 (done ++ [yv]) (Mn.compL own p.2 t (Mn.tstD c) (Mn.bind e Mn.toVal) r ρ6 h6))
                rw [er]
                unfold finL
                dsimp only
                rw [List.append_assoc]
                show Good C W σ (RBx C) μ ρ H Q (if (done ++ (yv :: ys)).length ≤ Mn.limit then .ok (.l (done ++ (yv :: ys))) (Mn.back own ρ1 s3) h3 else .bad)
                rw [if_pos cl]
                exact g7
end
end Ms
end
section
namespace Ms
open PySem PySem.Spec PyProof.Rows L2
def Kp (A : List Nat) (σ σ' : L2.St) : Prop := ∀ j, j ∉ A → σ'[j]? = σ[j]?
def RBr (C : Ct) (H₀ : Hp) (ρ₀ : Mn.Slots) (σ₀ : L2.St) (μ : List Addr) (H : Hp) (b : Mn.B) (v : V) : Prop := RB C μ [] [] H b v ∧ (isOwn b → ∀ a, v = V.ref a → H₀ a = none ∨ Own ρ₀ σ₀ a)
def GoodS (C : Ct) (W : WX) (D : Ends) (A : List Nat) (μ₀ : List Addr) (ρ₀ : Mn.Slots) (σ₀ : L2.St) (H₀ : Hp) : Mn.R Mn.Fl → Prop
  | .bad => False
  | .err c ρ h => ∀ μ σ H, Sta C μ ρ h σ H → Fra μ₀ ρ₀ σ₀ H₀ μ ρ σ H → Kp A σ₀ σ → W (.ref (C.cl c)) none σ H
  | .ok f ρ h => ∀ μ σ H, Sta C μ ρ h σ H → Fra μ₀ ρ₀ σ₀ H₀ μ ρ σ H → Kp A σ₀ σ → match f with
      | .nx => D.nx σ H
      | .brk => D.bk σ H
      | .rt b => ∀ v, RBr C H₀ ρ₀ σ₀ μ H b v → D.rt v H
def TSv (C : Ct) (W : WX) (A : List Nat) (m : Mn.M Mn.Fl) : TS := fun D σ H => ∃ μ ρ h, Sta C μ ρ h σ H ∧ GoodS C W D A μ ρ σ H (m ρ h)
section
variable {C : Ct} {W : WX} {D : Ends} {A A0 A1 A2 : List Nat} {σ σ₀ : L2.St} {α β γ δ : Type} {μ₀ μ : List Addr} {ρ₀ ρ : Mn.Slots} {h : Mn.Hp} {H₀ H : Hp}
theorem PS.weaken {X : Cx} {st : Stmt} {t t' : TS} (p : PS X st t) (k : ∀ D σ H, t' D σ H → t D σ H) : PS X st t' := ⟨fun pins s σ H D I q => p.run pins s σ H D I (k _ _ _ q)⟩
theorem PSs.weaken {X : Cx} {st : List Stmt} {t t' : TS} (p : PSs X st t) (k : ∀ D σ H, t' D σ H → t D σ H) : PSs X st t' := ⟨fun pins s σ H D I q => p.run pins s σ H D I (k _ _ _ q)⟩
theorem subS {R1 : RelT α β} {m : Mn.M α} {f : α → Mn.M Mn.Fl} {Q1 : β → Hp → Prop} (S : Sta C μ ρ h σ H) (F : Fra μ₀ ρ₀ σ₀ H₀ μ ρ σ H) (kp : Kp A σ₀ σ) (g : GoodS C W D A μ₀ ρ₀ σ₀ H₀ (Mn.bind m f ρ h))
    (k : ∀ x H1 μ1 ρ1 h1 a, Sta C μ1 ρ1 h1 σ H1 → Fra μ ρ σ H μ1 ρ1 σ H1 → R1 H μ1 ρ1 σ H1 a x → GoodS C W D A μ₀ ρ₀ σ₀ H₀ (f a ρ1 h1) → Q1 x H1) : TRd C W R1 m σ H Q1 := by
  refine ⟨μ, ρ, h, S, ?_⟩
  unfold Mn.bind at g
  cases e : m ρ h with
  | bad => rw [e] at g; exact g.elim
  | err c ρ1 h1 =>
    rw [e] at g
    exact fun μ1 H1 S1 F1 => g μ1 σ H1 S1 (F.trans F1) kp
  | ok a ρ1 h1 =>
    rw [e] at g
    exact fun μ1 H1 x S1 F1 r => k x H1 μ1 ρ1 h1 a S1 F1 r g
theorem Kp.refl : Kp A σ σ := fun _ _ => rfl
theorem GoodS.from {D' : Ends} {r : Mn.R Mn.Fl} (hA : ∀ j, j ∈ A0 → j ∈ A) (hB : ∀ j, j ∈ A1 → j ∈ A) (F : Fra μ₀ ρ₀ σ₀ H₀ μ ρ σ H) (kp : Kp A0 σ₀ σ) (g : GoodS C W D A μ₀ ρ₀ σ₀ H₀ r)
    (en : ∀ σ H, D.nx σ H → D'.nx σ H) (eb : ∀ σ H, D.bk σ H → D'.bk σ H) (er : ∀ v H, D.rt v H → D'.rt v H) : GoodS C W D' A1 μ ρ σ H r := by
  cases r with
  | bad => exact g
  | err c ρ1 h1 => exact fun μ1 σ1 H1 S1 F1 k1 => g μ1 σ1 H1 S1 (F.trans F1) fun j hj => by rw [k1 j fun z => hj (hB j z), kp j fun z => hj (hA j z)]
  | ok f ρ1 h1 =>
    intro μ1 σ1 H1 S1 F1 k1
    have q := g μ1 σ1 H1 S1 (F.trans F1) fun j hj => by rw [k1 j fun z => hj (hB j z), kp j fun z => hj (hA j z)]
    cases f with
    | nx => exact en _ _ q
    | brk => exact eb _ _ q
    | rt b =>
      refine fun v rb => er _ _ (q v ⟨rb.1, fun o a e => ?_⟩)
      by_cases c : H₀ a = none
      · exact .inl c
      right
      cases eh : H₀ a with
      | none => exact absurd eh c
      | some ob =>
        by_cases own : Own ρ₀ σ₀ a
        · exact own
        exfalso
        obtain ⟨a', w, e4, e5, n5, _⟩ := own_some rb.1 o
        rw [e] at e4
        cases e4
        have na : a ∉ μ₀ := fun z => n5 (by
          obtain ⟨ν, e1⟩ := (F.trans F1).pre
          rw [e1]
          exact List.mem_append_left _ z)
        obtain ⟨j1, _, j3⟩ := F.keep a ob eh na own
        rcases rb.2 o a e with z | z
        · rw [z] at j1
          cases j1
        · exact j3 z
theorem tsv_of {m : Mn.M Mn.Fl} (hA : ∀ j, j ∈ A0 → j ∈ A) (hB : ∀ j, j ∈ A1 → j ∈ A) (S : Sta C μ ρ h σ H) (F : Fra μ₀ ρ₀ σ₀ H₀ μ ρ σ H) (kp : Kp A0 σ₀ σ) (g : GoodS C W D A μ₀ ρ₀ σ₀ H₀ (m ρ h)) : TSv C W A1 m D σ H :=
  ⟨μ, ρ, h, S, g.from hA hB F kp (fun _ _ z => z) (fun _ _ z => z) fun _ _ z => z⟩
theorem s_seq {a b : Mn.M Mn.Fl} (t : TSv C W (A1 ++ A2) (Mn.seqM a b) D σ H) : tSeq (TSv C W A1 a) (TSv C W A2 b) D σ H := by
  obtain ⟨μ, ρ, h, S, g⟩ := t
  refine ⟨μ, ρ, h, S, ?_⟩
  unfold Mn.seqM at g
  cases e : a ρ h with
  | bad => rw [bind_bad e] at g; exact g
  | err c ρ1 h1 => rw [bind_err e] at g; exact fun μ1 σ1 H1 S1 F1 k1 => g μ1 σ1 H1 S1 F1 fun j hj => k1 j fun z => hj (List.mem_append_left _ z)
  | ok f ρ1 h1 =>
    rw [bind_ok e] at g
    cases f with
    | nx => exact fun μ1 σ1 H1 S1 F1 k1 => tsv_of (fun j z => List.mem_append_left _ z) (fun j z => List.mem_append_right _ z) S1 F1 k1 g
    | brk => exact fun μ1 σ1 H1 S1 F1 k1 => g μ1 σ1 H1 S1 F1 fun j hj => k1 j fun z => hj (List.mem_append_left _ z)
    | rt b => exact fun μ1 σ1 H1 S1 F1 k1 => g μ1 σ1 H1 S1 F1 fun j hj => k1 j fun z => hj (List.mem_append_left _ z)
theorem s_nil (t : TSv C W A (Mn.ret .nx) D σ H) : tNext D σ H := by
  obtain ⟨μ, ρ, h, S, g⟩ := t
  exact g μ σ H S Fra.refl Kp.refl
theorem s_brk (t : TSv C W A (Mn.ret .brk) D σ H) : tBreak D σ H := by
  obtain ⟨μ, ρ, h, S, g⟩ := t
  exact g μ σ H S Fra.refl Kp.refl
theorem s_retN (t : TSv C W A (Mn.ret (.rt (.v .non))) D σ H) : tRetN D σ H := by
  obtain ⟨μ, ρ, h, S, g⟩ := t
  exact g μ σ H S Fra.refl Kp.refl .non ⟨rfl, fun z => z.elim⟩
theorem s_ex {m : Mn.M Mn.B} (t : TSv C W A (Mn.bind m fun _ => Mn.ret .nx) D σ H) : tDrop (TEv C W m) D σ H := by
  obtain ⟨μ, ρ, h, S, g⟩ := t
  exact subS S Fra.refl Kp.refl g fun x H1 μ1 ρ1 h1 b S1 F1 r1 g1 => g1 μ1 σ H1 S1 F1 Kp.refl
theorem s_rt {m : Mn.M Mn.B} (t : TSv C W A (Mn.bind m fun b => Mn.bind (Mn.toRet b) fun x => Mn.ret (.rt x)) D σ H) : tRet (TEv C W m) D σ H := by
  obtain ⟨μ, ρ, h, S, g⟩ := t
  refine subS S Fra.refl Kp.refl g fun x H1 μ1 ρ1 h1 b S1 F1 r1 g1 => ?_
  cases b with
  | v y => exact g1 μ1 σ H1 S1 F1 Kp.refl x ⟨r1.1, fun z => z.elim⟩
  | l xs =>
    obtain ⟨a, hs, ea, e, r, n1, n2⟩ := r1.1
    exact g1 μ1 σ H1 S1 F1 Kp.refl x ⟨⟨a, hs, ea, e, r, n1, fun ⟨i, b, z, _⟩ => by simp at z⟩, fun o a e => .inl (r1.2 o a e)⟩
  | d xs =>
    obtain ⟨a, hs, ea, e, r, n1, n2⟩ := r1.1
    exact g1 μ1 σ H1 S1 F1 Kp.refl x ⟨⟨a, hs, ea, e, r, n1, fun ⟨i, b, z, _⟩ => by simp at z⟩, fun o a e => .inl (r1.2 o a e)⟩
  | sl i =>
    have rs : σ[i]? = some (some x) := r1.1
    unfold Mn.bind Mn.toRet at g1
    dsimp only at g1
    cases es : ρ1[i]? with
    | none => rw [es] at g1; exact g1.elim
    | some o =>
      cases o with
      | none => rw [es] at g1; exact g1.elim
      | some b =>
        rw [es] at g1
        obtain ⟨u, e1, rb⟩ := S1.slot i b es
        rw [rs] at e1
        cases e1
        have fromOwn : ∀ a, isOwn b → x = V.ref a → a ∉ μ1 → H a = none ∨ Own ρ σ a := fun a o e n => by
          cases eh : H a with
          | none => exact .inl rfl
          | some ob =>
            right
            by_cases own : Own ρ σ a
            · exact own
            exfalso
            have na : a ∉ μ := fun z => n (by
              obtain ⟨ν, e1⟩ := F1.pre
              rw [e1]
              exact List.mem_append_left _ z)
            exact (F1.keep a ob eh na own).2.2 ⟨i, b, es, o, by rw [rs, e]⟩
        cases b with
        | v y => exact g1 μ1 σ H1 S1 F1 Kp.refl x ⟨rb, fun z => z.elim⟩
        | l xs =>
          obtain ⟨a, hs, ea, e, r, n1⟩ := rb
          exact g1 μ1 σ H1 S1 F1 Kp.refl x ⟨⟨a, hs, ea, e, r, n1, fun ⟨i, b, z, _⟩ => by simp at z⟩, fun o a' e' => by rw [ea] at e'; cases e'; exact fromOwn a trivial ea n1⟩
        | d xs =>
          obtain ⟨a, hs, ea, e, r, n1⟩ := rb
          exact g1 μ1 σ H1 S1 F1 Kp.refl x ⟨⟨a, hs, ea, e, r, n1, fun ⟨i, b, z, _⟩ => by simp at z⟩, fun o a' e' => by rw [ea] at e'; cases e'; exact fromOwn a trivial ea n1⟩
        | sl j => exact rb.elim
theorem s_if {c : Mn.M Mn.B} {a b : Mn.M Mn.Fl} (t : TSv C W (A1 ++ A2) (Mn.bind c fun x => Mn.bind (Mn.truth x) fun t => if t = true then a else b) D σ H) : tIfS (TTv C W (tst c)) (TSv C W A1 a) (TSv C W A2 b) D σ H := by
  obtain ⟨μ, ρ, h, S, g⟩ := t
  rw [← bind_assoc] at g
  refine subS (R1 := RBo) S Fra.refl Kp.refl g fun x H1 μ1 ρ1 h1 t S1 F1 r1 g1 => ?_
  obtain rfl : t = x := r1
  cases t with
  | true => exact tsv_of (A0 := []) (fun j z => by cases z) (fun j z => List.mem_append_left _ z) S1 F1 Kp.refl g1
  | false => exact tsv_of (A0 := []) (fun j z => by cases z) (fun j z => List.mem_append_right _ z) S1 F1 Kp.refl g1
theorem Sta.setB {i : Nat} {b : Mn.B} {v : V} (S : Sta C μ ρ h σ H) (hi : i < ρ.length) (r : RB C μ ρ σ H b v) (ns : ∀ j, b ≠ .sl j) : Sta C μ (ρ.set i (some b)) h (σ.set i (some v)) H := by
  have no : ∀ a, isOwn b → v = V.ref a → ¬ Own ρ σ a := fun a o e z => by
    obtain ⟨a', _, e1, _, _, n⟩ := own_some r o
    rw [e] at e1
    cases e1
    exact n z
  refine ⟨S.nd, S.len, S.obj, by rw [List.length_set, List.length_set, S.slen], fun j c e => ?_, fun j k c d a e1 o1 v1 e2 o2 v2 => ?_⟩
  · rcases set_get e with ⟨k1, k2⟩ | ⟨n, k2⟩
    · subst k1
      cases k2
      refine ⟨v, List.getElem?_set_self (by rw [← S.slen]; exact hi), ?_⟩
      cases b with
      | v x => exact r
      | sl j => exact absurd rfl (ns j)
      | l xs => obtain ⟨a, hs, e, q, r, n, _⟩ := r; exact ⟨a, hs, e, q, r, n⟩
      | d xs => obtain ⟨a, hs, e, q, r, n, _⟩ := r; exact ⟨a, hs, e, q, r, n⟩
    · obtain ⟨u, e1, rb⟩ := S.slot j c k2
      exact ⟨u, by rw [List.getElem?_set_ne (Ne.symm n)]; exact e1, rb⟩
  · have at_ : ∀ {j : Nat} {c : Mn.B}, (ρ.set i (some b))[j]? = some (some c) → (σ.set i (some v))[j]? = some (some (V.ref a)) → (j = i ∧ c = b ∧ v = V.ref a) ∨ (j ≠ i ∧ ρ[j]? = some (some c) ∧ σ[j]? = some (some (V.ref a))) := fun {j c} e w => by
      rcases set_get e with ⟨k1, k2⟩ | ⟨n, k2⟩
      · subst k1
        cases k2
        rw [List.getElem?_set_self (by rw [← S.slen]; exact hi)] at w
        exact .inl ⟨rfl, rfl, by cases w; rfl⟩
      · rw [List.getElem?_set_ne (Ne.symm n)] at w
        exact .inr ⟨n, k2, w⟩
    rcases at_ e1 v1 with ⟨k1, k2, k3⟩ | ⟨k1, k2, k3⟩
    · rcases at_ e2 v2 with ⟨k4, _, _⟩ | ⟨k4, k5, k6⟩
      · rw [k1, k4]
      · subst k2
        exact absurd ⟨k, d, k5, o2, k6⟩ (no a o1 k3)
    · rcases at_ e2 v2 with ⟨k4, k5, k6⟩ | ⟨k4, k5, k6⟩
      · subst k5
        exact absurd ⟨j, c, k2, o1, k3⟩ (no a o2 k6)
      · exact S.own j k c d a k2 o1 k3 k5 o2 k6
theorem Fra.setB {i : Nat} {b : Mn.B} {v : V} (hi : i < σ.length) (F : Fra μ₀ ρ₀ σ₀ H₀ μ ρ σ H) (n : isOwn b → ∀ a, v = V.ref a → H₀ a = none) : Fra μ₀ ρ₀ σ₀ H₀ μ (ρ.set i (some b)) (σ.set i (some v)) H := by
  refine ⟨F.pre, fun a o q n1 m => ?_, F.live⟩
  obtain ⟨j1, j2, j3⟩ := F.keep a o q n1 m
  refine ⟨j1, j2, fun ⟨j, c, e1, e2, e3⟩ => ?_⟩
  rcases set_get e1 with ⟨k1, k2⟩ | ⟨k1, k2⟩
  · subst k1
    cases k2
    rw [List.getElem?_set_self hi] at e3
    cases e3
    rw [n e2 a rfl] at q
    cases q
  · rw [List.getElem?_set_ne (Ne.symm k1)] at e3
    exact j3 ⟨j, c, k2, e2, e3⟩
theorem step_setSlot {i : Nat} {b : Mn.B} {f : Mn.M Mn.Fl} (g : GoodS C W D A μ₀ ρ₀ σ₀ H₀ (Mn.bind (Mn.setSlot i b) (fun _ => f) ρ h)) : i < ρ.length ∧ GoodS C W D A μ₀ ρ₀ σ₀ H₀ (f (ρ.set i (some b)) h) := by
  unfold Mn.bind Mn.setSlot at g
  by_cases c : i < ρ.length
  · rw [if_pos c] at g
    exact ⟨c, g⟩
  · rw [if_neg c] at g
    exact g.elim
theorem toArg_ok {b : Mn.B} {v : V} {r : Mn.R Mn.B} (S : Sta C μ ρ h σ H) (F : Fra μ₀ ρ₀ σ H₀ μ ρ σ H) (rb : RB C μ ρ σ H b v) (n : isOwn b → ∀ a, v = .ref a → H₀ a = none) (e : Mn.toArg b ρ h = r) (nb : r ≠ .bad) :
    ∃ x μ1 ρ1 h1, r = .ok x ρ1 h1 ∧ Sta C μ1 ρ1 h1 σ H ∧ Fra μ₀ ρ₀ σ H₀ μ1 ρ1 σ H ∧ RB C μ1 ρ1 σ H x v ∧ (∀ i, x ≠ .sl i) ∧ (isOwn x → ∀ a, v = .ref a → H₀ a = none) := by
  subst e
  cases b with
  | v x => exact ⟨_, μ, ρ, h, rfl, S, F, rb, (fun i z => by cases z), n⟩
  | l x => exact ⟨_, μ, ρ, h, rfl, S, F, rb, (fun i z => by cases z), n⟩
  | d x => exact ⟨_, μ, ρ, h, rfl, S, F, rb, (fun i z => by cases z), n⟩
  | sl i =>
    have e0 : Mn.toArg (.sl i) ρ h = Mn.bind (Mn.toVal (.sl i)) (fun x => Mn.ret (.v x)) ρ h := rfl
    rw [e0] at nb ⊢
    cases e : Mn.toVal (.sl i) ρ h with
    | bad => rw [bind_bad e] at nb; exact absurd rfl nb
    | err c s1 h1 =>
      obtain ⟨x, μ1, ρ1, h2, e2, _⟩ := toVal_ok S F rb n e (by intro z; cases z)
      cases e2
    | ok x s1 h1 =>
      obtain ⟨x', μ1, ρ1, h2, e2, S1, F1, _, rx⟩ := toVal_ok S F rb n e (by intro z; cases z)
      cases e2
      rw [bind_ok e]
      exact ⟨.v x, μ1, s1, h1, rfl, S1, F1, rx, (fun i z => by cases z), fun z => z.elim⟩
theorem asgNam_ok {i : Nat} {b : Mn.B} {v : V} (S : Sta C μ ρ h σ H) (F : Fra μ₀ ρ₀ σ H₀ μ ρ σ H) (rb : RB C μ ρ σ H b v) (n : isOwn b → ∀ a, v = .ref a → H₀ a = none)
    (g : GoodS C W D [i] μ₀ ρ₀ σ H₀ (Mn.asgNam i b ρ h)) : D.nx (σ.set i (some v)) H := by
  unfold Mn.asgNam at g
  cases e : Mn.toArg b ρ h with
  | bad => rw [bind_bad e] at g; exact g.elim
  | err c s1 h1 =>
    obtain ⟨x, μ1, ρ1, h2, e2, _⟩ := toArg_ok S F rb n e (by intro z; cases z)
    cases e2
  | ok x s1 h1 =>
    obtain ⟨x', μ1, ρ1, h2, e2, S1, F1, rx, nx, ox⟩ := toArg_ok S F rb n e (by intro z; cases z)
    cases e2
    rw [bind_ok e] at g
    obtain ⟨hi, g2⟩ := step_setSlot g
    exact g2 μ1 _ H (S1.setB hi rx nx) (F1.setB (by rw [← S1.slen]; exact hi) ox) fun j hj => List.getElem?_set_ne fun z : i = j => hj (by rw [← z]; exact List.mem_singleton_self _)
theorem s_nam {m : Mn.M Mn.B} {i : Nat} (t : TSv C W [i] (Mn.bind m (Mn.asgNam i)) D σ H) : tAsg (TEv C W m) (gName i) D σ H := by
  obtain ⟨μ, ρ, h, S, g⟩ := t
  exact subS S Fra.refl Kp.refl g fun x H1 μ1 ρ1 h1 b S1 F1 r1 g1 => asgNam_ok S1 F1 r1.1 r1.2 g1
end
end Ms
end
section
namespace Ms
open PySem PySem.Spec PyProof.Rows L2
section
variable {X : Cx}
theorem mt_extendR : MtR X "list.extend" (fun x vs H Q => ∃ l b xs zs, x = .ref l ∧ vs = [.ref b] ∧ H l = some (.lst xs) ∧ Rd H b (.lst zs) ∧ xs.length + zs.length ≤ sizeLine ∧ Q .non (upd H l (.lst (xs ++ zs)))) := by
  intro pins s σ H x vs v us Q I rx rv h
  obtain ⟨l, b, xs, zs, rfl, rfl, hH, hB, hz, q⟩ := h
  cases rx
  obtain ⟨u, rfl, ru⟩ := rv.one
  cases ru
  obtain ⟨z, its, n, r, hl, e⟩ := I.lstM hH
  obtain ⟨z2, its2, n2, r2, hl2, e2⟩ := lstR I hB
  have hsz : its.toArray.size + its2.toArray.size ≤ sizeLine := by rw [List.size_toArray, List.size_toArray]; omega
  have hlong : ¬ (!its.toArray.isEmpty && Builtin.List.listTooLong (its.toArray.size + its2.toArray.size)) = true := by
    rw [notLongL hsz, Bool.and_false]
    exact Bool.false_ne_true
  refine call_meets F.slot_list_extend ⟨_, e, rfl⟩ F.entry_list_extend (F.args_list_extend_2 _ _)
    (AutoSeq1.list_extend_list_list_0 l its.toArray n b its2.toArray n2 hlong (by rw [List.size_toArray]; omega) (by omega)) ⟨e, e2, ?_⟩
  refine ⟨.non, _, I.lset (its' := its ++ its2) hH e (by simp) (r.append r2) ?_, rfl, q⟩
  rw [List.length_append]
  omega
end
section
variable {C : Ct} {W : WX} {D : Ends} {A A0 A1 A2 : List Nat} {σ σ₀ : L2.St} {α β γ δ : Type} {μ₀ μ : List Addr} {ρ₀ ρ : Mn.Slots} {h : Mn.Hp} {H₀ H : Hp}
theorem Sta.setO {i : Nat} {a : Addr} {o : HO} {ob : Mn.Obj} (S : Sta C μ ρ h σ H) (hi : μ[i]? = some a) (r : RO C μ (upd H a o) ob a) : Sta C μ ρ (h.set i ob) σ (upd H a o) := by
  have k : Ours (H a) := S.ours (List.mem_of_getElem? hi)
  refine ⟨S.nd, by rw [List.length_set]; exact S.len, fun j u e => ?_, S.slen, fun j b e => ?_, S.own⟩
  · rcases set_get e with ⟨k1, k2⟩ | ⟨n, k2⟩
    · subst k1 k2
      exact ⟨a, hi, r⟩
    · obtain ⟨c, e1, rc⟩ := S.obj j u k2
      refine ⟨c, e1, ro_upd k (fun z => n ?_) rc⟩
      subst z
      exact (List.getElem?_inj (List.getElem?_eq_some_iff.mp e1).1 S.nd).mp (e1.trans hi.symm)
  · obtain ⟨v, e1, rb⟩ := S.slot j b e
    refine ⟨v, e1, rb0_upd k (fun ob z => ?_) rb⟩
    subst z
    exact (S.ownIs ⟨j, b, e, ob, e1⟩).2 (List.mem_of_getElem? hi)
theorem Fra.setO {a : Addr} {o : HO} (F : Fra μ₀ ρ₀ σ₀ H₀ μ ρ σ H) (ha : a ∈ μ) : Fra μ₀ ρ₀ σ₀ H₀ μ ρ σ (upd H a o) := by
  refine ⟨F.pre, fun b u q n m => ?_, fun b z => ?_⟩
  · obtain ⟨j1, j2, j3⟩ := F.keep b u q n m
    exact ⟨by rw [upd_ne (fun z : b = a => j2 (by rw [z]; exact ha))]; exact j1, j2, j3⟩
  · by_cases c : b = a
    · rw [c, upd_same] at z
      cases z
    · rw [upd_ne c] at z
      exact F.live b z
theorem Sta.setOwn {p : Nat} {b b' : Mn.B} {a : Addr} {o : HO} (S : Sta C μ ρ h σ H) (e : ρ[p]? = some (some b)) (ob : isOwn b) (e3 : σ[p]? = some (some (V.ref a))) (r : RB0 C μ (upd H a o) b' (.ref a)) : Sta C μ (ρ.set p (some b')) h σ (upd H a o) := by
  have k : Ours (H a) := S.ownOurs ⟨p, b, e, ob, e3⟩
  have na : a ∉ μ := (S.ownIs ⟨p, b, e, ob, e3⟩).2
  have at_ : ∀ {j : Nat} {c : Mn.B}, (ρ.set p (some b'))[j]? = some (some c) → (j = p ∧ c = b') ∨ (j ≠ p ∧ ρ[j]? = some (some c)) := fun {j c} e => by
    rcases set_get e with ⟨k1, k2⟩ | ⟨n, k2⟩
    · cases k2
      exact .inl ⟨k1, rfl⟩
    · exact .inr ⟨n, k2⟩
  refine ⟨S.nd, S.len, fun j u e1 => ?_, by rw [List.length_set, S.slen], fun j c e1 => ?_, fun i j c d x e1 o1 v1 e2 o2 v2 => ?_⟩
  · obtain ⟨c, e2, rc⟩ := S.obj j u e1
    exact ⟨c, e2, ro_upd k (fun z => na (z ▸ List.mem_of_getElem? e2)) rc⟩
  · rcases at_ e1 with ⟨k1, k2⟩ | ⟨n, k2⟩
    · subst k1 k2
      exact ⟨_, e3, r⟩
    · obtain ⟨v, e2, rb⟩ := S.slot j c k2
      refine ⟨v, e2, rb0_upd k (fun oc z => n ?_) rb⟩
      subst z
      exact S.own j p c b a k2 oc e2 e ob e3
  · have own_at : ∀ {j : Nat} {c : Mn.B}, (ρ.set p (some b'))[j]? = some (some c) → isOwn c → ∃ c', ρ[j]? = some (some c') ∧ isOwn c' := fun {j c} e1 oc => by
      rcases at_ e1 with ⟨k1, k2⟩ | ⟨n, k2⟩
      · subst k1
        exact ⟨b, e, ob⟩
      · exact ⟨c, k2, oc⟩
    obtain ⟨c', f1, f2⟩ := own_at e1 o1
    obtain ⟨d', g1, g2⟩ := own_at e2 o2
    exact S.own i j c' d' x f1 f2 v1 g1 g2 v2
theorem Fra.setOwn {p : Nat} {b b' : Mn.B} {a : Addr} {o : HO} (F : Fra μ₀ ρ₀ σ₀ H₀ μ ρ σ H) (e : ρ[p]? = some (some b)) (ob : isOwn b) (e3 : σ[p]? = some (some (V.ref a))) : Fra μ₀ ρ₀ σ₀ H₀ μ (ρ.set p (some b')) σ (upd H a o) := by
  have oa : Own ρ σ a := ⟨p, b, e, ob, e3⟩
  refine ⟨F.pre, fun x u q n m => ?_, fun x z => ?_⟩
  · obtain ⟨j1, j2, j3⟩ := F.keep x u q n m
    refine ⟨by rw [upd_ne (fun z : x = a => j3 (by rw [z]; exact oa))]; exact j1, j2, fun ⟨j, c, e1, oc, v1⟩ => j3 ?_⟩
    rcases set_get e1 with ⟨k1, k2⟩ | ⟨n, k2⟩
    · subst k1
      exact ⟨_, b, e, ob, v1⟩
    · exact ⟨j, c, k2, oc, v1⟩
  · by_cases c : x = a
    · rw [c, upd_same] at z
      cases z
    · rw [upd_ne c] at z
      exact F.live x z
theorem Fra.upd_new {a : Addr} {o : HO} (F : Fra μ₀ ρ₀ σ₀ H₀ μ ρ σ H) (n : H₀ a = none) : Fra μ₀ ρ₀ σ₀ H₀ μ ρ σ (upd H a o) := by
  refine ⟨F.pre, fun x u q n1 m => ?_, fun x z => ?_⟩
  · obtain ⟨j1, j2, j3⟩ := F.keep x u q n1 m
    refine ⟨?_, j2, j3⟩
    rw [upd_ne]
    · exact j1
    · rintro rfl
      rw [n] at q
      cases q
  · by_cases c : x = a
    · rw [c]; exact n
    · rw [upd_ne c] at z
      exact F.live x z
theorem modL_ok {f : List Mn.Val → Option (List Mn.Val)} {b : Mn.B} {v : V} (S : Sta C μ ρ h σ H) (F : Fra μ₀ ρ₀ σ H₀ μ ρ σ H) (rb : RB C μ ρ σ H b v) (n : isOwn b → ∀ a, v = V.ref a → H₀ a = none)
    (g : GoodS C W D A μ₀ ρ₀ σ H₀ (Mn.modL f b ρ h)) : ∃ a xs ys hs, v = .ref a ∧ H a = some (.lst hs) ∧ RVs C μ H xs hs ∧ f xs = some ys ∧ ∀ ks, RVs C μ (upd H a (.lst ks)) ys ks → D.nx σ (upd H a (.lst ks)) := by
  cases b with
  | d k => exact g.elim
  | l xs =>
    obtain ⟨a, hs, rfl, e, r, n1, n2⟩ := rb
    unfold Mn.modL at g
    dsimp only at g
    cases ef : f xs with
    | none => rw [ef] at g; exact g.elim
    | some ys =>
      rw [ef] at g
      have k : Ours (H a) := by rw [e]; exact .inl ⟨_, rfl⟩
      exact ⟨a, xs, ys, hs, rfl, e, r, ef, fun ks _ => g μ σ _ (S.updD k n1 n2) (F.upd_new (n trivial a rfl)) Kp.refl⟩
  | v x =>
    cases x with
    | ref i =>
      obtain ⟨a, rfl, hi⟩ := rb
      unfold Mn.modL at g
      dsimp only at g
      cases eo : h[i]? with
      | none => rw [eo] at g; exact g.elim
      | some ob =>
        rw [eo] at g
        cases ob with
        | lst l =>
          dsimp only at g
          cases ef : f l with
          | none => rw [ef] at g; exact g.elim
          | some ys =>
            rw [ef] at g
            obtain ⟨a', e1, hs, e2, r⟩ := S.obj i _ eo
            rw [hi] at e1
            cases e1
            exact ⟨a, l, ys, hs, rfl, e2, r, ef, fun ks rk => g μ σ _ (S.setO (ob := .lst ys) hi ⟨ks, upd_same, rk⟩) (F.setO (List.mem_of_getElem? hi)) Kp.refl⟩
        | _ => exact g.elim
    | _ => exact g.elim
  | sl i =>
    have rs : σ[i]? = some (some v) := rb
    unfold Mn.modL at g
    dsimp only at g
    cases es : ρ[i]? with
    | none => rw [es] at g; exact g.elim
    | some o =>
      cases o with
      | none => rw [es] at g; exact g.elim
      | some c =>
        rw [es] at g
        obtain ⟨u, e1, rb⟩ := S.slot i c es
        rw [rs] at e1
        cases e1
        cases c with
        | l xs =>
          dsimp only at g
          cases ef : f xs with
          | none => rw [ef] at g; exact g.elim
          | some ys =>
            rw [ef] at g
            obtain ⟨a, hs, rfl, e, r, na⟩ := rb
            exact ⟨a, xs, ys, hs, rfl, e, r, ef, fun ks rk => g μ σ _ (S.setOwn (b' := .l ys) es trivial rs ⟨a, ks, rfl, upd_same, rk, na⟩) (F.setOwn es trivial rs) Kp.refl⟩
        | v x =>
          cases x with
          | ref j =>
            obtain ⟨a, rfl, hi⟩ := rb
            dsimp only at g
            cases eo : h[j]? with
            | none => rw [eo] at g; exact g.elim
            | some ob =>
              rw [eo] at g
              cases ob with
              | lst l =>
                dsimp only at g
                cases ef : f l with
                | none => rw [ef] at g; exact g.elim
                | some ys =>
                  rw [ef] at g
                  obtain ⟨a', e1, hs, e2, r⟩ := S.obj j _ eo
                  rw [hi] at e1
                  cases e1
                  exact ⟨a, l, ys, hs, rfl, e2, r, ef, fun ks rk => g μ σ _ (S.setO (ob := .lst ys) hi ⟨ks, upd_same, rk⟩) (F.setO (List.mem_of_getElem? hi)) Kp.refl⟩
              | _ => exact g.elim
          | _ => exact g.elim
        | _ => exact g.elim
theorem step_lstB {b : Mn.B} {f : Mn.M Mn.Fl} (g : GoodS C W D A μ₀ ρ₀ σ₀ H₀ (Mn.bind (Mn.lstB b) (fun _ => f) ρ h)) : (∃ l, Mn.view ρ h b = some (.lst l)) ∧ GoodS C W D A μ₀ ρ₀ σ₀ H₀ (f ρ h) := by
  unfold Mn.bind Mn.lstB Mn.bind Mn.viewM at g
  cases e : Mn.view ρ h b with
  | none => rw [e] at g; exact g.elim
  | some w =>
    rw [e] at g
    cases w with
    | lst l => exact ⟨⟨l, rfl⟩, g⟩
    | _ => exact g.elim
theorem appL_ok {x : Mn.Val} {xs ys : List Mn.Val} (e : Mn.appL x xs = some ys) : xs.length < Mn.limit ∧ ys = xs ++ [x] := by
  unfold Mn.appL at e
  by_cases c : xs.length < Mn.limit
  · rw [if_pos c] at e
    cases e
    exact ⟨c, rfl⟩
  · rw [if_neg c] at e
    cases e
theorem s_app {o e : Mn.M Mn.B} (t : TSv C W A (Mn.appM o e) D σ H) : tDrop (tBM C.K "list" rAppend (TEv C W o) (tCons (TEv C W e) tNil)) D σ H := by
  obtain ⟨μ, ρ, h, S, g⟩ := t
  refine subS S Fra.refl Kp.refl g fun x H1 μ1 ρ1 h1 b S1 F1 r1 g1 => ?_
  obtain ⟨⟨l, el⟩, g2⟩ := step_lstB g1
  obtain ⟨a0, hs0, rfl, q0, _⟩ := view_ok S1 r1.1 el
  refine ⟨.inl ⟨rfl, hs0, .inl q0⟩, subS S1 F1 Kp.refl g2 fun y H2 μ2 ρ2 h2 c S2 F2 r2 g3 => ?_⟩
  cases e : Mn.toVal c ρ2 h2 with
  | bad => rw [bind_bad e] at g3; exact g3.elim
  | err k s3 h3 =>
    obtain ⟨x', μ3, ρ3, h3', e3, _⟩ := toVal_ok S2 F2 r2.1 r2.2 e (by intro z; cases z)
    cases e3
  | ok z s3 h3 =>
    obtain ⟨z', μ3, ρ3, h3', e3, S3, F3, _, rz⟩ := toVal_ok S2 F2 r2.1 r2.2 e (by intro z; cases z)
    cases e3
    rw [bind_ok e] at g3
    obtain ⟨a, xs, ys, hs, ea, eH, rx, ef, fin⟩ := modL_ok S3 (F1.trans F3) (F3.rb S1 r1.1) r1.2 g3
    cases ea
    obtain ⟨lim, rfl⟩ := appL_ok ef
    have k : Ours (H2 a0) := by rw [eH]; exact .inl ⟨_, rfl⟩
    exact ⟨a0, hs, y, rfl, rfl, eH, by rw [← rx.length, ← limit_line]; exact lim, fin _ ((rvs_upd k rx).append ⟨y, [], rfl, rv_upd k rz, rfl⟩)⟩
theorem s_ext {o e : Mn.M Mn.B} (t : TSv C W A (Mn.extM o e) D σ H) : tDrop (tBM C.K "list" (fun x vs H Q => ∃ l b xs zs, x = .ref l ∧ vs = [.ref b] ∧ H l = some (.lst xs) ∧ Rd H b (.lst zs) ∧ xs.length + zs.length ≤ sizeLine ∧ Q .non (upd H l (.lst (xs ++ zs)))) (TEv C W o) (tCons (TEv C W e) tNil)) D σ H := by
  obtain ⟨μ, ρ, h, S, g⟩ := t
  refine subS S Fra.refl Kp.refl g fun x H1 μ1 ρ1 h1 b S1 F1 r1 g1 => ?_
  obtain ⟨⟨l, el⟩, g2⟩ := step_lstB g1
  obtain ⟨a0, hs0, rfl, q0, _⟩ := view_ok S1 r1.1 el
  refine ⟨.inl ⟨rfl, hs0, .inl q0⟩, subS S1 F1 Kp.refl g2 fun y H2 μ2 ρ2 h2 c S2 F2 r2 g3 => ?_⟩
  unfold Mn.bind Mn.viewM at g3
  cases e : Mn.view ρ2 h2 c with
  | none => rw [e] at g3; exact g3.elim
  | some w =>
    rw [e] at g3
    cases w with
    | lst q =>
      dsimp only at g3
      obtain ⟨p, zs, rfl, qz, rz⟩ := view_ok S2 r2.1 e
      obtain ⟨a, xs, ys, hs, ea, eH, rx, ef, fin⟩ := modL_ok S2 (F1.trans F2) (F2.rb S1 r1.1) r1.2 g3
      cases ea
      unfold Mn.extL at ef
      by_cases cl : xs.length + q.length ≤ Mn.limit
      · rw [if_pos cl] at ef
        cases ef
        have k : Ours (H2 a0) := by rw [eH]; exact .inl ⟨_, rfl⟩
        exact ⟨a0, p, hs, zs, rfl, rfl, eH, qz, by rw [← rx.length, ← rz.length, ← limit_line]; exact cl, fin _ ((rvs_upd k rx).append (rvs_upd k rz))⟩
      · rw [if_neg cl] at ef
        cases ef
    | _ => exact g3.elim
def sFldD (C : Ct) (G : Mn.Env) (ta tv : TE) (f : Str) : TS := fun D σ H => tv σ H fun y H1 => ta σ H1 fun x H2 => ∃ a c dx fs, x = V.ref a ∧ H2 a = some (.ins (C.cl c) dx fs) ∧ G.att c f = true ∧ fs.length < 1000 ∧
  D.nx σ (upd H2 a (.ins (C.cl c) dx (putF f y fs)))
theorem putAt_ok {G : Mn.Env} {f : Str} {x v : Mn.Val} {y z : V} (S : Sta C μ ρ h σ H) (F : Fra μ₀ ρ₀ σ H₀ μ ρ σ H) (rx : RV C μ H x y) (rv : RV C μ H v z) (g : GoodS C W D A μ₀ ρ₀ σ H₀ (Mn.putAt G f x v ρ h)) :
    ∃ a c dx fs, z = V.ref a ∧ H a = some (.ins (C.cl c) dx fs) ∧ G.att c f = true ∧ fs.length < 1000 ∧ D.nx σ (upd H a (.ins (C.cl c) dx (putF f y fs))) := by
  unfold Mn.putAt at g
  cases v with
  | ref i =>
    dsimp only at g
    cases eo : h[i]? with
    | none => rw [eo] at g; exact g.elim
    | some ob =>
      rw [eo] at g
      cases ob with
      | ins c fs =>
        dsimp only at g
        by_cases cc : G.att c f = true ∧ fs.length < 900
        · rw [if_pos cc] at g
          obtain ⟨a, dx, hf, rfl, e2, rf⟩ := ins_at S rv eo
          obtain ⟨a', ea, hi⟩ := rv
          cases ea
          have k : Ours (H a) := by rw [e2]; exact .inr (.inr (.inl ⟨_, _, _, rfl⟩))
          exact ⟨a, c, dx, hf, rfl, e2, cc.1, by rw [← rf.length]; omega, g μ σ _ (S.setO (ob := .ins c (Mn.putF f x fs)) hi ⟨dx, _, upd_same, rfs_upd k (RFs.put f rf rx)⟩) (F.setO (List.mem_of_getElem? hi)) Kp.refl⟩
        · rw [if_neg cc] at g
          exact g.elim
      | _ => exact g.elim
  | _ => exact g.elim
theorem step_asValS {b : Mn.B} {f : Mn.Val → Mn.M Mn.Fl} (g : GoodS C W D A μ₀ ρ₀ σ₀ H₀ (Mn.bind (Mn.asVal b) f ρ h)) : ∃ x, b = .v x ∧ GoodS C W D A μ₀ ρ₀ σ₀ H₀ (f x ρ h) := by
  cases b with
  | v x => exact ⟨x, rfl, g⟩
  | _ => exact g.elim
theorem s_att {G : Mn.Env} {m o : Mn.M Mn.B} {f : Str} (t : TSv C W A (Mn.bind m fun b => Mn.bind (Mn.toVal b) fun x => Mn.bind o fun y => Mn.bind (Mn.asVal y) fun v => Mn.putAt G f x v) D σ H) : sFldD C G (TEv C W o) (TEv C W m) f D σ H := by
  obtain ⟨μ, ρ, h, S, g⟩ := t
  refine subS S Fra.refl Kp.refl g fun y H1 μ1 ρ1 h1 b S1 F1 r1 g1 => ?_
  cases e : Mn.toVal b ρ1 h1 with
  | bad => rw [bind_bad e] at g1; exact g1.elim
  | err k s3 h3 =>
    obtain ⟨x', μ3, ρ3, h3', e3, _⟩ := toVal_ok S1 F1 r1.1 r1.2 e (by intro z; cases z)
    cases e3
  | ok z s3 h3 =>
    obtain ⟨z', μ3, ρ3, h3', e3, S3, F3, _, rz⟩ := toVal_ok S1 F1 r1.1 r1.2 e (by intro z; cases z)
    cases e3
    rw [bind_ok e] at g1
    refine subS S3 F3 Kp.refl g1 fun x H2 μ2 ρ2 h2 c S2 F2 r2 g2 => ?_
    obtain ⟨v, rfl, g3⟩ := step_asValS g2
    exact putAt_ok S2 (F3.trans F2) (F2.rv S3 rz) r2.1 g3
end
end Ms
end
section
namespace Ms
open PySem PySem.Spec PyProof.Rows L2
section
variable {X : Cx}
theorem PG.or {tg : Expr} {t u : TG} (a : PG X tg t) (b : PG X tg u) : PG X tg (fun v σ H Q => t v σ H Q ∨ u v σ H Q) := ⟨fun pins s σ H v uv Q I r q => q.elim (a.run pins s σ H v uv Q I r) (b.run pins s σ H v uv Q I r)⟩
def rSetLD : TSet := fun o i v H Q => rSetL o i v H Q ∨ ∃ a H', o = V.ref a ∧ DPut H a i v H' ∧ Q H'
theorem set_ld (hu : X.A.units + 1 < cLine) : PSet X rSetLD := by
  intro pins s σ H o i v ov iv u Q I ro ri rv h
  rcases h with h | ⟨a, H', rfl, g, q⟩
  · exact set_list pins s σ H o i v ov iv u Q I ro ri rv h
  · obtain rfl : ov = Value.ref a := ro
    exact d_setItem hu I g ri rv fun s' I' => ⟨H', I', q⟩
def rGetLD (K : PySem.W.Frag) : V → V → Hp → VK → Prop := fun o i H Q => (∃ p xs k v, o = V.ref p ∧ i = V.int k ∧ SqL K H p xs ∧ atI xs k = some v ∧ Q v H) ∨ ∃ a v, o = V.ref a ∧ DGet H a i (some v) ∧ Q v H
theorem get_ld (hu : X.A.units + 1 < cLine) : PGet X (rGetLD X.K) := by
  intro pins s σ H o i ov iv Q I ro ri h
  rcases h with ⟨p, xs, k, z, rfl, rfl, hq, he, q⟩ | ⟨a, v, rfl, g, q⟩
  · obtain rfl : ov = Value.ref p := ro
    obtain ⟨t, rfl⟩ := ri
    obtain ⟨its, r, pl, hz⟩ := I.list hq
    obtain ⟨j, h1, h2, h3, h4, h5⟩ := atI_get he
    obtain ⟨w, ew, rw'⟩ := r.get h2
    have hl := r.length
    have hn := line63
    have fin : EP X pins σ Q w s := ⟨z, H, I, rw', q⟩
    by_cases h0 : 0 ≤ k
    · have hj : k.toNat = j := by
        rw [seqIndex_of h0 h5] at h1
        exact Option.some.inj h1
      exact wpAny_getItem_list pl.isList h0 (by omega) (by rw [hj]; simpa using ew) fin
    · have hj : (k + (its.toArray.size : Int)).toNat = j := by
        rw [seqIndex_neg (by omega) h4] at h1
        rw [List.size_toArray, ← hl]
        exact Option.some.inj h1
      exact wpAny_getItem_list_neg pl.isList (by omega) (by rw [List.size_toArray] <;> omega) (by omega) (by rw [hj]; simpa using ew) fin
  · obtain rfl : ov = Value.ref a := ro
    exact d_getItem hu I g ri fun w' s3 I3 rw' => ⟨v, H, I3, rw', q⟩
def iopI (op : Operator) (i j : Int) : Option Int := match op with
  | .Add => some (i + j)
  | .Sub => some (i - j)
  | .Mult => if Mn.mulOk i j = true then some (i * j) else none
  | .FloorDiv => if 0 < j ∧ j < 1073741824 then some (i / j) else none
  | .Mod => if 0 < j then some (i % j) else none
  | _ => none
def rIop (op : Operator) : V → V → Hp → VK → Prop := fun x y H Q => (∃ i j k, x = V.int i ∧ y = V.int j ∧ iopI op i j = some k ∧ Q (.int k) H) ∨ (op = .Add ∧ ∃ a b, x = V.str a ∧ y = V.str b ∧ a.length + b.length ≤ sizeLine ∧ Q (.str (a ++ b)) H)
theorem ip_iop {op : Operator} : OpR X (inplaceOp op) (rIop op) := by
  intro pins s σ H x y v u Q I rx ry h
  rcases h with ⟨i, j, k, rfl, rfl, e, q⟩ | ⟨rfl, a, b, rfl, rfl, hz, q⟩
  · cases op with
    | Add => cases e; exact iop_add pins s σ H _ _ v u Q I rx ry ⟨i, j, rfl, rfl, q⟩
    | Sub => cases e; exact iop_sub pins s σ H _ _ v u Q I rx ry ⟨i, j, rfl, rfl, q⟩
    | Mult =>
      unfold iopI at e
      dsimp only at e
      by_cases c : Mn.mulOk i j = true
      · rw [if_pos c] at e
        cases e
        exact iop_mul pins s σ H _ _ v u Q I rx ry ⟨i, j, rfl, rfl, by simpa [Mn.mulOk, CMul] using c, q⟩
      · rw [if_neg c] at e; cases e
    | FloorDiv =>
      unfold iopI at e
      dsimp only at e
      by_cases c : 0 < j ∧ j < 1073741824
      · rw [if_pos c] at e
        cases e
        exact iop_fdiv pins s σ H _ _ v u Q I rx ry ⟨i, j, rfl, rfl, c, q⟩
      · rw [if_neg c] at e; cases e
    | Mod =>
      unfold iopI at e
      dsimp only at e
      by_cases c : 0 < j
      · rw [if_pos c] at e
        cases e
        exact iop_mod pins s σ H _ _ v u Q I rx ry ⟨i, j, rfl, rfl, c, q⟩
      · rw [if_neg c] at e; cases e
    | _ => cases e
  · exact iop_add_str pins s σ H _ _ v u Q I rx ry ⟨a, b, rfl, rfl, hz, q⟩
end
section
variable {C : Ct} {W : WX} {D : Ends} {A A0 A1 A2 : List Nat} {σ σ₀ : L2.St} {α β γ δ : Type} {μ₀ μ : List Addr} {ρ₀ ρ : Mn.Slots} {h : Mn.Hp} {H₀ H : Hp}
theorem step_viewS {b : Mn.B} {f : Mn.View → Mn.M Mn.Fl} (g : GoodS C W D A μ₀ ρ₀ σ₀ H₀ (Mn.bind (Mn.viewM b) f ρ h)) : ∃ w, Mn.view ρ h b = some w ∧ GoodS C W D A μ₀ ρ₀ σ₀ H₀ (f w ρ h) := by
  unfold Mn.bind Mn.viewM at g
  cases e : Mn.view ρ h b with
  | none => rw [e] at g; exact g.elim
  | some w =>
    rw [e] at g
    exact ⟨w, rfl, g⟩
theorem step_op2S {x y : Mn.B} {f : Mn.View → Mn.View → Mn.M α} {k : α → Mn.M Mn.Fl} (g : GoodS C W D A μ₀ ρ₀ σ₀ H₀ (Mn.bind (Mn.op2 x y f) k ρ h)) : ∃ v w, Mn.view ρ h x = some v ∧ Mn.view ρ h y = some w ∧ GoodS C W D A μ₀ ρ₀ σ₀ H₀ (Mn.bind (f v w) k ρ h) := by
  unfold Mn.bind Mn.op2 at g
  cases e : Mn.view ρ h x with
  | none => rw [e] at g; exact g.elim
  | some v =>
    cases e2 : Mn.view ρ h y with
    | none => rw [e, e2] at g; exact g.elim
    | some w =>
      rw [e, e2] at g
      exact ⟨v, w, rfl, rfl, g⟩
theorem step_nx {m : Mn.M Unit} {s' : Mn.Slots} {h' : Mn.Hp} {u : Unit} (e : m ρ h = .ok u s' h') (g : GoodS C W D A μ₀ ρ₀ σ₀ H₀ (Mn.nx m ρ h)) : GoodS C W D A μ₀ ρ₀ σ₀ H₀ (.ok .nx s' h') := by
  unfold Mn.nx at g
  rw [bind_ok e] at g
  exact g
def gAny (K : PySem.W.Frag) (l : List Nat) : TG := fun v σ H Q => gTup K l.length (gsOf l) v σ H Q ∨ gUnl K l.length (gsOf l) v σ H Q
theorem slots_ok {l : List Nat} {xs : List Mn.Val} {vs : List V} (S : Sta C μ ρ h σ H) (F : Fra μ₀ ρ₀ σ H₀ μ ρ σ H) (r : RVs C μ H xs vs) (g : GoodS C W D l μ₀ ρ₀ σ H₀ (Mn.nx (Mn.setSlots l xs) ρ h)) : xs.length = l.length ∧ gsOf l vs σ H D.nx := by
  cases e : Mn.setSlots l xs ρ h with
  | bad =>
    unfold Mn.nx at g
    rw [bind_bad e] at g
    exact g.elim
  | err c s1 h1 => exact absurd (show Mn.setTg (.many l) (.tup xs) ρ h = .err c s1 h1 from e) setTg_noerr
  | ok u s1 h1 =>
    obtain ⟨k1, k2⟩ := gs_ok S r e
    subst k1
    exact ⟨setSlots_len e, k2 _ fun σ' S' F' sm => step_nx e g μ σ' H S' (F.trans F') sm⟩
theorem unpack_ok {l : List Nat} {b : Mn.B} {v : V} (S : Sta C μ ρ h σ H) (F : Fra μ₀ ρ₀ σ H₀ μ ρ σ H) (rb : RB C μ ρ σ H b v) (g : GoodS C W D l μ₀ ρ₀ σ H₀ (Mn.bind (Mn.viewM b) (Mn.unpack l) ρ h)) : gAny C.K l v σ H D.nx := by
  obtain ⟨w, e, g2⟩ := step_viewS g
  have rw' := view_ok S rb e
  cases w with
  | lst q =>
    obtain ⟨a, hs, rfl, k, r⟩ := rw'
    obtain ⟨k1, k2⟩ := slots_ok S F r g2
    exact .inr ⟨a, hs, rfl, .inl k, by rw [← r.length, k1], k2⟩
  | dic k => exact g2.elim
  | val x =>
    cases x with
    | tup q =>
      obtain ⟨a, hs, rfl, k, r⟩ := rw'
      obtain ⟨k1, k2⟩ := slots_ok S F r g2
      exact .inl ⟨a, hs, rfl, k, by rw [← r.length, k1], k2⟩
    | _ => exact g2.elim
theorem s_unp {m : Mn.M Mn.B} {l : List Nat} (t : TSv C W l (Mn.bind m fun b => Mn.bind (Mn.viewM b) (Mn.unpack l)) D σ H) : tAsg (TEv C W m) (gAny C.K l) D σ H := by
  obtain ⟨μ, ρ, h, S, g⟩ := t
  exact subS S Fra.refl Kp.refl g fun x H1 μ1 ρ1 h1 b S1 F1 r1 g1 => unpack_ok S1 F1 r1.1 g1
theorem s_par {e : List Mn.Dn} {l : List Nat} (t : TSv C W l (Mn.bind (Mn.tupM e) fun b => Mn.bind (Mn.viewM b) (Mn.unpack l)) D σ H) : TRd C W (RVsx C) (Mn.densL e) σ H fun vs H1 => gsOf l vs σ H1 D.nx := by
  obtain ⟨μ, ρ, h, S, g⟩ := t
  unfold Mn.tupM at g
  rw [bind_assoc] at g
  refine subS S Fra.refl Kp.refl g fun vs H1 μ1 ρ1 h1 xs S1 F1 r1 g1 => ?_
  by_cases c : xs.length ≤ Mn.limit
  · rw [if_pos c] at g1
    exact (slots_ok S1 F1 r1 (show GoodS C W D l μ ρ σ H (Mn.nx (Mn.setSlots l xs) ρ1 h1) from g1)).2
  · rw [if_neg c] at g1
    exact g1.elim
theorem putIx_ok {x : Mn.Val} {b : Mn.B} {w : Mn.View} {y v z : V} (S : Sta C μ ρ h σ H) (F : Fra μ₀ ρ₀ σ H₀ μ ρ σ H) (rx : RV C μ H x y) (rb : RB C μ ρ σ H b v) (rw' : RW C μ H w z) (g : GoodS C W D A μ₀ ρ₀ σ H₀ (Mn.putIx x b w ρ h)) :
    rSetLD v z y H fun H' => D.nx σ H' := by
  cases b with
  | l xs => exact g.elim
  | d xs => exact g.elim
  | v x' =>
    cases x' with
    | ref i =>
      unfold Mn.putIx at g
      dsimp only at g
      obtain ⟨a, rfl, hi⟩ := rb
      cases eo : h[i]? with
      | none => rw [eo] at g; exact g.elim
      | some ob =>
        rw [eo] at g
        obtain ⟨a', e1, ro⟩ := S.obj i _ eo
        rw [hi] at e1
        cases e1
        cases ob with
        | lst l =>
          cases w with
          | val w =>
            cases w with
            | int k =>
              dsimp only at g
              cases ej : Mn.ixN l.length k with
              | none => rw [ej] at g; exact g.elim
              | some j =>
                rw [ej] at g
                obtain ⟨hs, e2, r⟩ := ro
                obtain rfl : z = V.int k := rw'
                have kk : Ours (H a) := by rw [e2]; exact .inl ⟨_, rfl⟩
                exact .inl ⟨a, hs, k, j, rfl, rfl, e2, by rw [← r.length]; exact ej, g μ σ _ (S.setO (ob := .lst (l.set j x)) hi ⟨_, upd_same, rvs_upd kk (r.set j rx)⟩) (F.setO (List.mem_of_getElem? hi)) Kp.refl⟩
            | _ => exact g.elim
          | _ => exact g.elim
        | dic kvs =>
          cases w with
          | val w =>
            dsimp only at g
            cases ej : Mn.keyOf w with
            | none => rw [ej] at g; exact g.elim
            | some j =>
              rw [ej] at g
              dsimp only at g
              by_cases c : kvs.length < Mn.limit
              · rw [if_pos c] at g
                obtain ⟨hs, e2, r⟩ := ro
                have kk : Ours (H a) := by rw [e2]; exact .inr (.inl ⟨_, rfl⟩)
                refine .inr ⟨a, _, rfl, ?_, g μ σ _ (S.setO (ob := .dic (Mn.putK j x kvs)) hi ⟨_, upd_same, rks_upd kk (RKs.put j r rx)⟩) (F.setO (List.mem_of_getElem? hi)) Kp.refl⟩
                rw [keyOf_ok rw' ej]
                exact DPut.k e2 (by rw [← r.length, ← limit_line]; exact c)
              · rw [if_neg c] at g
                exact g.elim
          | _ => exact g.elim
        | _ => exact g.elim
    | _ => exact g.elim
  | sl p =>
    have rs : σ[p]? = some (some v) := rb
    unfold Mn.putIx at g
    dsimp only at g
    cases es : ρ[p]? with
    | none => rw [es] at g; exact g.elim
    | some o =>
      cases o with
      | none => rw [es] at g; exact g.elim
      | some c =>
        rw [es] at g
        obtain ⟨u, e1, rb⟩ := S.slot p c es
        rw [rs] at e1
        cases e1
        cases c with
        | l l =>
          cases w with
          | val w =>
            cases w with
            | int k =>
              dsimp only at g
              cases ej : Mn.ixN l.length k with
              | none => rw [ej] at g; exact g.elim
              | some j =>
                rw [ej] at g
                obtain ⟨a, hs, rfl, e2, r, na⟩ := rb
                obtain rfl : z = V.int k := rw'
                have kk : Ours (H a) := by rw [e2]; exact .inl ⟨_, rfl⟩
                exact .inl ⟨a, hs, k, j, rfl, rfl, e2, by rw [← r.length]; exact ej, g μ σ _ (S.setOwn (b' := .l (l.set j x)) es trivial rs ⟨a, _, rfl, upd_same, rvs_upd kk (r.set j rx), na⟩) (F.setOwn es trivial rs) Kp.refl⟩
            | _ => exact g.elim
          | _ => exact g.elim
        | d kvs =>
          cases w with
          | val w =>
            dsimp only at g
            cases ej : Mn.keyOf w with
            | none => rw [ej] at g; exact g.elim
            | some j =>
              rw [ej] at g
              dsimp only at g
              by_cases c : kvs.length < Mn.limit
              · rw [if_pos c] at g
                obtain ⟨a, hs, rfl, e2, r, na⟩ := rb
                have kk : Ours (H a) := by rw [e2]; exact .inr (.inl ⟨_, rfl⟩)
                refine .inr ⟨a, _, rfl, ?_, g μ σ _ (S.setOwn (b' := .d (Mn.putK j x kvs)) es trivial rs ⟨a, _, rfl, upd_same, rks_upd kk (RKs.put j r rx), na⟩) (F.setOwn es trivial rs) Kp.refl⟩
                rw [keyOf_ok rw' ej]
                exact DPut.k e2 (by rw [← r.length, ← limit_line]; exact c)
              · rw [if_neg c] at g
                exact g.elim
          | _ => exact g.elim
        | _ => exact g.elim
theorem s_sub {m o i : Mn.M Mn.B} (t : TSv C W A (Mn.bind m fun b => Mn.bind (Mn.toVal b) fun x => Mn.bind o fun y => Mn.bind i fun z => Mn.bind (Mn.viewM z) fun w => Mn.putIx x y w) D σ H) : tAsg (TEv C W m) (gSub (TEv C W o) (TEv C W i) rSetLD) D σ H := by
  obtain ⟨μ, ρ, h, S, g⟩ := t
  refine subS S Fra.refl Kp.refl g fun y H1 μ1 ρ1 h1 b S1 F1 r1 g1 => ?_
  cases e : Mn.toVal b ρ1 h1 with
  | bad => rw [bind_bad e] at g1; exact g1.elim
  | err k s3 h3 =>
    obtain ⟨x', μ3, ρ3, h3', e3, _⟩ := toVal_ok S1 F1 r1.1 r1.2 e (by intro z; cases z)
    cases e3
  | ok z s3 h3 =>
    obtain ⟨z', μ3, ρ3, h3', e3, S3, F3, _, rz⟩ := toVal_ok S1 F1 r1.1 r1.2 e (by intro z; cases z)
    cases e3
    rw [bind_ok e] at g1
    refine subS S3 F3 Kp.refl g1 fun x H2 μ2 ρ2 h2 c S2 F2 r2 g2 => subS S2 (F3.trans F2) Kp.refl g2 fun w H4 μ4 ρ4 h4 d S4 F4 r4 g4 => ?_
    obtain ⟨vw, ev, g5⟩ := step_viewS g4
    exact putIx_ok S4 ((F3.trans F2).trans F4) (F4.rv S2 (F2.rv S3 rz)) (F4.rb S2 r2.1) (view_ok S4 r4.1 ev) g5
theorem iop_ok {op : Operator} {v w : Mn.View} {x y : V} {f : Mn.B → Mn.M Mn.Fl} (rv : RW C μ H v x) (rw' : RW C μ H w y) (g : GoodS C W D A μ₀ ρ₀ σ₀ H₀ (Mn.bind (Mn.iopV op v w) f ρ h)) :
    ∃ (z : Mn.Val) (u : V), RV C μ H z u ∧ GoodS C W D A μ₀ ρ₀ σ₀ H₀ (f (.v z) ρ h) ∧ ∀ Q : VK, Q u H → rIop op x y H Q := by
  have two : ∀ (i j : Int), v = .val (.int i) → w = .val (.int j) → (∃ k, iopI op i j = some k ∧ GoodS C W D A μ₀ ρ₀ σ₀ H₀ (f (.v (.int k)) ρ h)) → ∃ (z : Mn.Val) (u : V), RV C μ H z u ∧ GoodS C W D A μ₀ ρ₀ σ₀ H₀ (f (.v z) ρ h) ∧ ∀ Q : VK, Q u H → rIop op x y H Q := by
    rintro i j rfl rfl ⟨k, e, gk⟩
    obtain rfl : x = V.int i := rv
    obtain rfl : y = V.int j := rw'
    exact ⟨.int k, .int k, rfl, gk, fun Q q => .inl ⟨i, j, k, rfl, rfl, e, q⟩⟩
  cases v with
  | lst l => cases op <;> exact g.elim
  | dic l => cases op <;> exact g.elim
  | val a =>
    cases w with
    | lst l => cases a <;> cases op <;> exact g.elim
    | dic l => cases a <;> cases op <;> exact g.elim
    | val b =>
      cases a with
      | int i =>
        cases b with
        | int j =>
          refine two i j rfl rfl ?_
          cases op with
          | Add => exact ⟨_, rfl, g⟩
          | Sub => exact ⟨_, rfl, g⟩
          | Mult =>
            unfold Mn.iopV at g
            dsimp only at g
            unfold iopI
            dsimp only
            by_cases c : Mn.mulOk i j = true
            · rw [if_pos c] at g ⊢
              exact ⟨_, rfl, g⟩
            · rw [if_neg c] at g
              exact g.elim
          | FloorDiv =>
            unfold Mn.iopV at g
            dsimp only at g
            unfold iopI
            dsimp only
            by_cases c : 0 < j ∧ j < 1073741824
            · rw [if_pos c] at g ⊢
              exact ⟨_, rfl, g⟩
            · rw [if_neg c] at g
              exact g.elim
          | Mod =>
            unfold Mn.iopV at g
            dsimp only at g
            unfold iopI
            dsimp only
            by_cases c : 0 < j
            · rw [if_pos c] at g ⊢
              exact ⟨_, rfl, g⟩
            · rw [if_neg c] at g
              exact g.elim
          | _ => exact g.elim
        | _ => cases op <;> exact g.elim
      | str a =>
        cases b with
        | str b =>
          cases op with
          | Add =>
            unfold Mn.iopV at g
            dsimp only at g
            by_cases c : a.length + b.length ≤ Mn.limit
            · rw [if_pos c] at g
              obtain ⟨rfl, o1⟩ := rv
              obtain ⟨rfl, o2⟩ := rw'
              exact ⟨.str (a ++ b), .str (a ++ b), ⟨rfl, strOk_append o1 o2⟩, g, fun Q q => .inr ⟨rfl, a, b, rfl, rfl, by rw [← limit_line]; exact c, q⟩⟩
            · rw [if_neg c] at g
              exact g.elim
          | _ => exact g.elim
        | _ => cases op <;> exact g.elim
      | _ => cases op <;> exact g.elim
theorem s_augN {m : Mn.M Mn.B} {op : Operator} {i : Nat} (t : TSv C W [i] (Mn.bind (Mn.ldSlot i) fun x => Mn.bind m fun y => Mn.bind (Mn.op2 x y (Mn.iopV op)) (Mn.asgNam i)) D σ H) : tAug i (TEv C W m) (rIop op) D σ H := by
  obtain ⟨μ, ρ, h, S, g⟩ := t
  have k : TRd C W (RBx C) (Mn.ldSlot i) σ H fun x H1 => TEv C W m σ H1 fun y H2 => rIop op x y H2 fun z H3 => D.nx (σ.set i (some z)) H3 :=
    subS S Fra.refl Kp.refl g fun x H1 μ1 ρ1 h1 b S1 F1 r1 g1 => subS S1 F1 Kp.refl g1 fun y H2 μ2 ρ2 h2 c S2 F2 r2 g2 => by
      obtain ⟨v, w, e1, e2, g3⟩ := step_op2S g2
      obtain ⟨z, u, rz, g4, k⟩ := iop_ok (view_ok S2 (F2.rb S1 r1.1) e1) (view_ok S2 r2.1 e2) g3
      exact k _ (asgNam_ok (b := .v z) (v := u) S2 (F1.trans F2) rz (fun o => o.elim) g4)
  exact w_slot k
def sFldAugD (C : Ct) (G : Mn.Env) (ta tv : TE) (rd : V → V → Hp → VK → Prop) (f : Str) : TS := fun D σ H => ta σ H fun x H1 => ∃ a c dx fs v, x = V.ref a ∧ H1 a = some (.ins (C.cl c) dx fs) ∧ G.att c f = true ∧ fs.lookup f = some v ∧
  tv σ H1 fun y H2 => rd v y H2 fun z H3 => ∃ c' dx' fs', H3 a = some (.ins (C.cl c') dx' fs') ∧ G.att c' f = true ∧ fs'.length < 1000 ∧ D.nx σ (upd H3 a (.ins (C.cl c') dx' (putF f z fs')))
theorem s_augA {G : Mn.Env} {o m : Mn.M Mn.B} {op : Operator} {f : Str} (t : TSv C W A (Mn.bind o fun y => Mn.bind (Mn.asVal y) fun v => Mn.bind (Mn.attV G f v) fun x => Mn.bind m fun z => Mn.bind (Mn.op2 x z (Mn.iopV op)) fun r => Mn.bind (Mn.asVal r) fun x => Mn.putAt G f x v) D σ H) :
    sFldAugD C G (TEv C W o) (TEv C W m) (rIop op) f D σ H := by
  obtain ⟨μ, ρ, h, S, g⟩ := t
  refine subS S Fra.refl Kp.refl g fun x H1 μ1 ρ1 h1 b S1 F1 r1 g1 => ?_
  obtain ⟨v, rfl, g2⟩ := step_asValS g1
  cases v with
  | ref i =>
    unfold Mn.bind Mn.attV at g2
    dsimp only at g2
    cases eo : h1[i]? with
    | none => rw [eo] at g2; exact g2.elim
    | some ob =>
      rw [eo] at g2
      cases ob with
      | ins c fs =>
        dsimp only at g2
        by_cases ca : G.att c f = true
        · rw [if_pos ca] at g2
          obtain ⟨p, dx, hf, rfl, q, r⟩ := ins_at S1 r1.1 eo
          rcases RFs.look f r with ⟨k1, _⟩ | ⟨y, u, k1, k2, k3⟩
          · rw [k1] at g2; exact g2.elim
          · rw [k1] at g2
            dsimp only at g2
            have g3 : GoodS C W D A μ ρ σ H (Mn.bind m (fun z => Mn.bind (Mn.op2 (.v y) z (Mn.iopV op)) fun r => Mn.bind (Mn.asVal r) fun x => Mn.putAt G f x (.ref i)) ρ1 h1) := g2
            refine ⟨p, c, dx, hf, u, rfl, q, ca, k2, subS S1 F1 Kp.refl g3 fun z H2 μ2 ρ2 h2 cc S2 F2 r2 g4 => ?_⟩
            obtain ⟨v, w, e1, e2, g5⟩ := step_op2S g4
            obtain ⟨y2, u2, ry, g6, k⟩ := iop_ok (view_ok (b := .v y) S2 (F2.rv S1 k3) e1) (view_ok S2 r2.1 e2) g5
            obtain ⟨a, c', dx', fs', ea, e3, e4, e5, fin⟩ := putAt_ok S2 (F1.trans F2) ry (F2.rv S1 r1.1) (show GoodS C W D A μ ρ σ H (Mn.putAt G f y2 (.ref i) ρ2 h2) from g6)
            cases ea
            exact k _ ⟨c', dx', fs', e3, e4, e5, fin⟩
        · rw [if_neg ca] at g2; exact g2.elim
      | _ => exact g2.elim
  | _ => exact g2.elim
theorem s_augS {o i m : Mn.M Mn.B} {op : Operator} (t : TSv C W A (Mn.bind o fun y => Mn.bind i fun z => Mn.bind (Mn.op2 y z Mn.getIx) fun x => Mn.bind m fun u => Mn.bind (Mn.op2 x u (Mn.iopV op)) fun r => Mn.bind (Mn.asVal r) fun x => Mn.bind (Mn.viewM z) fun w => Mn.putIx x y w) D σ H) :
    tAugS (TEv C W o) (TEv C W i) (TEv C W m) (rGetLD C.K) (rIop op) rSetLD D σ H := by
  obtain ⟨μ, ρ, h, S, g⟩ := t
  refine subS S Fra.refl Kp.refl g fun x H1 μ1 ρ1 h1 b S1 F1 r1 g1 => subS S1 F1 Kp.refl g1 fun y H2 μ2 ρ2 h2 c S2 F2 r2 g2 => ?_
  obtain ⟨v, w, e1, e2, g3⟩ := step_op2S g2
  have rv := view_ok S2 (F2.rb S1 r1.1) e1
  have rw' := view_ok S2 r2.1 e2
  have fin : ∀ (z : Mn.Val) (u : V), RV C μ2 H2 z u → GoodS C W D A μ ρ σ H (Mn.bind m (fun u => Mn.bind (Mn.op2 (.v z) u (Mn.iopV op)) fun r => Mn.bind (Mn.asVal r) fun x => Mn.bind (Mn.viewM c) fun w => Mn.putIx x b w) ρ2 h2) →
      TEv C W m σ H2 fun y' H4 => rIop op u y' H4 fun z' H5 => rSetLD x y z' H5 fun H6 => D.nx σ H6 := fun z u ru g4 => subS S2 (F1.trans F2) Kp.refl g4 fun y' H4 μ4 ρ4 h4 cc S4 F4 r4 g5 => by
    obtain ⟨v2, w2, f1, f2, g6⟩ := step_op2S g5
    obtain ⟨y2, u2, ry, g7, k⟩ := iop_ok (view_ok (b := .v z) S4 (F4.rv S2 ru) f1) (view_ok S4 r4.1 f2) g6
    obtain ⟨vw, ev, g8⟩ := step_viewS (show GoodS C W D A μ ρ σ H (Mn.bind (Mn.viewM c) (fun w => Mn.putIx y2 b w) ρ4 h4) from g7)
    exact k _ (putIx_ok S4 ((F1.trans F2).trans F4) ry (F4.rb S2 (F2.rb S1 r1.1)) (view_ok S4 (F4.rb S2 r2.1) ev) g8)
  unfold Mn.getIx at g3
  cases v with
  | lst l =>
    cases w with
    | val w =>
      cases w with
      | int i =>
        dsimp only at g3
        cases e : (Mn.ixN l.length i).bind fun j => l[j]? with
        | none => rw [e] at g3; exact g3.elim
        | some z =>
          rw [e] at g3
          obtain ⟨j, e3, e4⟩ := Option.bind_eq_some_iff.mp e
          obtain ⟨a, hs, rfl, q, r⟩ := rv
          obtain ⟨u, e5, ru⟩ := r.get e4
          obtain rfl : y = V.int i := rw'
          exact .inl ⟨a, hs, i, u, rfl, rfl, .inl q, by unfold atI; rw [← r.length]; exact Option.bind_eq_some_iff.mpr ⟨j, e3, e5⟩, fin z u ru g3⟩
      | _ => exact g3.elim
    | _ => exact g3.elim
  | dic k =>
    cases w with
    | val w =>
      dsimp only at g3
      cases e : (Mn.keyOf w).bind fun j => Mn.lookK j k with
      | none => rw [e] at g3; exact g3.elim
      | some z =>
        rw [e] at g3
        obtain ⟨j, e3, e4⟩ := Option.bind_eq_some_iff.mp e
        obtain ⟨a, hs, rfl, q, r⟩ := rv
        rcases RKs.look j r with ⟨e5, _⟩ | ⟨z', u, e5, e6, ru⟩
        · rw [e5] at e4; cases e4
        · rw [e5] at e4
          cases e4
          refine .inr ⟨a, u, rfl, ?_, fin _ u ru g3⟩
          rw [keyOf_ok rw' e3, ← e6]
          exact DGet.k q
    | _ => exact g3.elim
  | val a => exact g3.elim
end
end Ms
end
section
namespace Ms
open PySem PySem.Spec PyProof.Rows L2
section
variable {C : Ct} {W : WX} {D : Ends} {A A0 A1 A2 : List Nat} {σ σ₀ : L2.St} {α β γ δ : Type} {μ₀ μ : List Addr} {ρ₀ ρ : Mn.Slots} {h : Mn.Hp} {H₀ H : Hp}
theorem Kp.trans {σ1 : L2.St} (a : Kp A σ₀ σ) (b : Kp A σ σ1) : Kp A σ₀ σ1 := fun j hj => (b j hj).trans (a j hj)
theorem body_ok {b : Mn.M Mn.Fl} {k : Mn.Fl → Mn.M Mn.Fl} {N : L2.St → Hp → Prop} {D : Ends} (hB : ∀ j, j ∈ A1 → j ∈ A) (S : Sta C μ ρ h σ H) (F : Fra μ₀ ρ₀ σ₀ H₀ μ ρ σ H) (kp : Kp A σ₀ σ)
    (hk : k .brk = Mn.ret .nx) (hr : ∀ r, k (.rt r) = Mn.ret (.rt r))
    (hn : ∀ μ2 ρ2 h2 σ2 H2, Sta C μ2 ρ2 h2 σ2 H2 → Fra μ₀ ρ₀ σ₀ H₀ μ2 ρ2 σ2 H2 → Fra μ ρ σ H μ2 ρ2 σ2 H2 → Kp A σ₀ σ2 → GoodS C W D A μ₀ ρ₀ σ₀ H₀ (k .nx ρ2 h2) → N σ2 H2)
    (g : GoodS C W D A μ₀ ρ₀ σ₀ H₀ (Mn.bind b k ρ h)) : TSv C W A1 b { D with nx := N, ct := N, bk := D.nx } σ H := by
  refine ⟨μ, ρ, h, S, ?_⟩
  cases e : b ρ h with
  | bad => rw [bind_bad e] at g; exact g
  | err c ρ1 h1 =>
    rw [bind_err e] at g
    exact fun μ1 σ1 H1 S1 F1 k1 => g μ1 σ1 H1 S1 (F.trans F1) fun j hj => by rw [k1 j fun z => hj (hB j z), kp j hj]
  | ok f ρ1 h1 =>
    rw [bind_ok e] at g
    cases f with
    | nx => exact fun μ1 σ1 H1 S1 F1 k1 => hn μ1 ρ1 h1 σ1 H1 S1 (F.trans F1) F1 (fun j hj => by rw [k1 j fun z => hj (hB j z), kp j hj]) g
    | brk =>
      rw [hk] at g
      exact fun μ1 σ1 H1 S1 F1 k1 => g μ1 σ1 H1 S1 (F.trans F1) fun j hj => by rw [k1 j fun z => hj (hB j z), kp j hj]
    | rt r =>
      rw [hr] at g
      have g' : GoodS C W D A μ₀ ρ₀ σ₀ H₀ (.ok (.rt r) ρ1 h1) := g
      intro μ1 σ1 H1 S1 F1 k1
      have q := g'.from (D' := D) (A0 := A) (A1 := A1) (fun _ z => z) hB F kp (fun _ _ z => z) (fun _ _ z => z) fun _ _ z => z
      exact q μ1 σ1 H1 S1 F1 k1
theorem s_whl {c : Mn.M Bool} {b : Mn.M Mn.Fl} {n : Nat} (t : TSv C W A (Mn.loop c b n) D σ H) : tWhile (TTv C W c) (TSv C W A b) D σ H := by
  obtain ⟨μ, ρ, h, S, g⟩ := t
  refine ⟨fun m σ' H' => ∃ μ2 ρ2 h2, Sta C μ2 ρ2 h2 σ' H' ∧ Fra μ ρ σ H μ2 ρ2 σ' H' ∧ Kp A σ σ' ∧ GoodS C W D A μ ρ σ H (Mn.loop c b m ρ2 h2), ⟨n, μ, ρ, h, S, Fra.refl, Kp.refl, g⟩, ?_⟩
  rintro m σ' H' ⟨μ2, ρ2, h2, S2, F2, k2, g2⟩
  cases m with
  | zero => exact g2.elim
  | succ m =>
    refine subS (R1 := RBo) S2 F2 k2 g2 fun x H3 μ3 ρ3 h3 tt S3 F3 r3 g3 => ?_
    obtain rfl : tt = x := r3
    cases tt with
    | false =>
      rw [if_neg (by simp)] at g3 ⊢
      exact g3 μ3 σ' H3 S3 (F2.trans F3) k2
    | true =>
      rw [if_pos rfl] at g3 ⊢
      refine ⟨fun σ4 H4 => ∃ μ4 ρ4 h4, Sta C μ4 ρ4 h4 σ4 H4 ∧ Fra μ ρ σ H μ4 ρ4 σ4 H4 ∧ Kp A σ σ4 ∧ GoodS C W D A μ ρ σ H (Mn.loop c b m ρ4 h4), fun σ4 H4 z => ⟨m, Nat.lt_succ_self m, z⟩, ?_⟩
      exact body_ok (k := fun f => match f with
        | .nx => Mn.loop c b m
        | .brk => Mn.ret .nx
        | .rt r => Mn.ret (.rt r)) (fun _ z => z) S3 (F2.trans F3) k2 rfl (fun _ => rfl) (fun μ4 ρ4 h4 σ4 H4 S4 F4 _ k4 g4 => ⟨μ4, ρ4, h4, S4, F4, k4, g4⟩) g3
theorem s_for {t : Mn.Tg} {it : Mn.M (List Mn.Val × Mn.Srcs)} {b : Mn.M Mn.Fl} {wi : TI} (hw : ∀ R, TRd C W (RIx C) it σ H R → wi σ H R)
    (t' : TSv C W (Mn.tgN t ++ A) (Mn.bind it fun p => if Mn.srcOff (Mn.tgN t ++ A) p.2 = true then Mn.forL p.2 t b p.1 else Mn.bad) D σ H) : tFor wi (tgOf C.K t) (TSv C W A b) D σ H := by
  obtain ⟨μ, ρ, h, S, g⟩ := t'
  refine hw _ (subS (R1 := RIx C) S Fra.refl Kp.refl g fun J H1 μ1 ρ1 h1 p S1 F1 r1 g1 => ?_)
  have so : Mn.srcOff (Mn.tgN t ++ A) p.2 = true := by
    by_cases so : Mn.srcOff (Mn.tgN t ++ A) p.2 = true
    · exact so
    · rw [if_neg so] at g1
      exact g1.elim
  rw [if_pos so] at g1
  let Wv : Nat → Nat → L2.St → Hp → Prop := fun i m σ' H' => m = p.1.length - i ∧ i ≤ p.1.length ∧ ∃ μ2 ρ2 h2, Sta C μ2 ρ2 h2 σ' H' ∧ Fra μ1 ρ1 σ H1 μ2 ρ2 σ' H' ∧ Kp (Mn.tgN t ++ A) σ σ' ∧
    GoodS C W D (Mn.tgN t ++ A) μ ρ σ H (Mn.forL p.2 t b (p.1.drop i) ρ2 h2)
  refine ⟨Wv, ⟨p.1.length, rfl, Nat.zero_le _, μ1, ρ1, h1, S1, Fra.refl, Kp.refl, g1⟩, ?_⟩
  rintro i m σ' H' ⟨em, hi, μ2, ρ2, h2, S2, F2, k2, g2⟩
  have SL : SlOk p.2 σ σ' := fun i q m => k2 i fun z => srcOff_sl so m z
  cases ed : p.1.drop i with
  | nil =>
    rw [ed] at g2
    have hie : i = p.1.length := by
      have := congrArg List.length ed
      rw [List.length_drop] at this
      simp at this
      omega
    have g3 : GoodS C W D (Mn.tgN t ++ A) μ ρ σ H (Mn.bind (Mn.chk p.2) (fun _ => Mn.ret .nx) ρ2 h2) := g2
    cases ec : Mn.chk p.2 ρ2 h2 with
    | bad => rw [bind_bad ec] at g3; exact g3.elim
    | err k s3 h3 => exact absurd ec chk_noerr
    | ok u s3 h3 =>
      obtain ⟨es3, eh3⟩ := chk_same ec
      rw [es3, eh3] at ec
      rw [bind_ok ec] at g3
      exact .inl ⟨by rw [hie]; exact (r1 μ2 ρ2 h2 σ' H' S2 F2 SL ec).2, g3 μ2 σ' H' S2 (F1.trans F2) k2⟩
  | cons x r =>
    rw [ed] at g2
    have hx : p.1[i]? = some x := by
      have := congrArg (fun l => l[0]?) ed
      simpa using this
    have hr : p.1.drop (i + 1) = r := by
      have := congrArg (List.drop 1) ed
      rw [List.drop_drop] at this
      simpa using this
    have hlt := (List.getElem?_eq_some_iff.mp hx).1
    have g3 : GoodS C W D (Mn.tgN t ++ A) μ ρ σ H (Mn.bind (Mn.chk p.2) (fun _ => Mn.bind (Mn.setTg t x) fun _ => Mn.bind b fun f => match f with
      | .nx => Mn.forL p.2 t b r
      | .brk => Mn.ret .nx
      | .rt r => Mn.ret (.rt r)) ρ2 h2) := g2
    cases ec : Mn.chk p.2 ρ2 h2 with
    | bad => rw [bind_bad ec] at g3; exact g3.elim
    | err k s3 h3 => exact absurd ec chk_noerr
    | ok u s3 h3 =>
      obtain ⟨es3, eh3⟩ := chk_same ec
      rw [es3, eh3] at ec
      rw [bind_ok ec] at g3
      cases es : Mn.setTg t x ρ2 h2 with
      | bad => rw [bind_bad es] at g3; exact g3.elim
      | err k s3 h3 => exact absurd es setTg_noerr
      | ok u3 ρ3 h3 =>
        rw [bind_ok es] at g3
        obtain ⟨k3, k4⟩ := (r1 μ2 ρ2 h2 σ' H' S2 F2 SL ec).1 i x hx
        refine .inr ⟨k3, fun σ4 H4 => Wv (i + 1) (p.1.length - (i + 1)) σ4 H4, fun σ4 H4 z => ⟨_, by omega, z⟩, fun v H'' hy => ?_⟩
        obtain ⟨S3, F3, rx⟩ := k4 v H'' hy
        obtain ⟨k5, k6⟩ := tg_ok S3 rx es
        subst k5
        refine k6 _ fun σ3 S4 F4 sm => ?_
        have kp3 : Kp (Mn.tgN t ++ A) σ σ3 := fun j hj => by rw [sm j fun z => hj (List.mem_append_left _ z), k2 j hj]
        have FF : Fra μ1 ρ1 σ H1 μ2 ρ3 σ3 H'' := F2.trans (F3.trans F4)
        exact body_ok (k := fun f => match f with
          | .nx => Mn.forL p.2 t b r
          | .brk => Mn.ret .nx
          | .rt r => Mn.ret (.rt r)) (fun j z => List.mem_append_right _ z) S4 (F1.trans FF) kp3 rfl (fun _ => rfl) (fun μ5 ρ5 h5 σ5 H5 S5 F5 F5' k5 g5 => ⟨rfl, by omega, μ5, ρ5, h5, S5, FF.trans F5', k5, by rw [hr]; exact g5⟩) g3
theorem s_rai {c : Str} (t : TSv C W A (fun s h => .err c s h) D σ H) : W (.ref (C.cl c)) none σ H := by
  obtain ⟨μ, ρ, h, S, g⟩ := t
  exact g μ σ H S Fra.refl Kp.refl
theorem w_rng {a b c : Mn.M Mn.B} {R : It → Hp → Prop} (t : TRd C W (RIx C) (Mn.rngI a b c) σ H R) : iRng3 (tCons (TEv C W a) (tCons (TEv C W b) (tCons (TEv C W c) tNil))) σ H R := by
  obtain ⟨μ, ρ, h, S, g⟩ := t
  refine sub S Fra.refl g fun x H1 μ1 ρ1 h1 ba S1 F1 r1 g1 => ?_
  obtain ⟨w1, e1, g2⟩ := step_view g1
  obtain ⟨i, rfl, g3⟩ := step_isoI g2
  have q1 := view_ok S1 r1.1 e1
  obtain rfl : x = V.int i := q1
  refine sub S1 F1 g3 fun y H2 μ2 ρ2 h2 bb S2 F2 r2 g4 => ?_
  obtain ⟨w2, e2, g5⟩ := step_view g4
  obtain ⟨j, rfl, g6⟩ := step_isoI g5
  have q2 := view_ok S2 r2.1 e2
  obtain rfl : y = V.int j := q2
  refine sub S2 (F1.trans F2) g6 fun z H3 μ3 ρ3 h3 bc S3 F3 r3 g7 => ?_
  obtain ⟨w3, e3, g8⟩ := step_view g7
  obtain ⟨k, rfl, g9⟩ := step_isoI g8
  have q3 := view_ok S3 r3.1 e3
  obtain rfl : z = V.int k := q3
  unfold Mn.rangeN at g9
  by_cases cb : -(2 ^ 62) ≤ i ∧ i < 2 ^ 62 ∧ -(2 ^ 62) ≤ j ∧ j < 2 ^ 62
  · rw [if_pos cb] at g9
    obtain ⟨c1, c2, c3, c4⟩ := cb
    by_cases k1 : k = 1
    · subst k1
      rw [if_pos rfl] at g9
      refine ⟨i, j, 1, (j - i).toNat, rfl, ⟨by decide, by decide, small_one c1 c2 c3 c4, ?_⟩, g9 μ3 H3 _ S3 ((F1.trans F2).trans F3) it_rng⟩
      rw [rangeSize_one]
      split <;> omega
    · rw [if_neg k1] at g9
      by_cases k2 : k = -1
      · subst k2
        rw [if_pos rfl] at g9
        exact ⟨i, j, -1, (i - j).toNat, rfl, RgC.neg c1 c2 c3 c4, g9 μ3 H3 _ S3 ((F1.trans F2).trans F3) it_rng⟩
      · rw [if_neg k2] at g9
        exact g9.elim
  · rw [if_neg cb] at g9
    exact g9.elim
end
end Ms
end
section
namespace Ms
open PySem PySem.Spec PyProof.Rows L2
section
variable {X : Cx} {pins : List (Addr × Obj)} {σ : L2.St} {H : Hp} {s : Shared}
theorem Inv.track {a : Addr} {oe : Obj} {vs : Array Value} {cls : Value} (I : Inv X pins σ H s) (he : s.heap.get? a = some oe) (hz : Zc cls none oe) (hd : oe.data = .fields vs) (na : H a = none) (n0 : X.s_0.heap.get? a = none) (nL : a ≠ X.env.locals)
    (np : ∀ p ∈ X.pn ++ pins, p.1 ≠ a) : Inv X pins σ (upd H a (ExV cls a)) s := by
  have ne : ∀ {b : Addr} {u : HO}, H b = some u → b ≠ a := fun {b u} e z => by rw [z, na] at e; cases e
  refine ⟨I.ok, I.os, I.bare, ⟨I.base.keep, I.base.slot, fun b o e n x => ?_, I.base.there, fun b xs e => ?_, fun b o u e => ?_, fun b ps e => ?_⟩, I.loc, I.cell, ?_, fun x c e => ?_, fun p hp => ?_, fun b u e => ?_, I.len⟩
  · rw [upd_ne (fun z => by rw [z, n0] at e; cases e)]
    exact I.base.free b o e n x
  · have q := I.base.tups b xs e
    rw [upd_ne (ne q)]
    exact q
  · have q := I.base.frzs b o u e
    rw [upd_ne (ne q)]
    exact q
  · obtain ⟨more, q⟩ := I.base.tbls b ps e
    exact ⟨more, by rw [upd_ne (ne q)]; exact q⟩
  · rw [upd_ne (Ne.symm nL)]
    exact I.free
  · rw [upd_ne]
    · exact I.freeC x c e
    · rintro rfl
      obtain ⟨v, o, ho, hdv⟩ := I.cell x c e
      rw [he] at ho
      cases ho
      have hdv' : oe.data = _ := hdv
      rw [hd] at hdv'
      cases hdv'
  · obtain ⟨p1, p2, p3⟩ := I.pin p hp
    exact ⟨p1, by rw [upd_ne (np p hp)]; exact p2, p3⟩
  · by_cases c : b = a
    · subst c
      rw [upd_same] at e
      cases e
      exact ⟨⟨oe, vs, he, hz, hd⟩, ⟨oe, he⟩, fun h1 h2 ⟨o, w, e1, e2, e3⟩ k => ⟨o, w, k o e1, e2, e3⟩⟩
    · rw [upd_ne c] at e
      exact (I.hok b u e).stay (fun _ _ _ q => q) (fun d q => by rw [upd_ne (ne q)]; exact q) (fun d xs q => by rw [upd_ne (ne q)]; exact q)
end
def wKeep (K : PySem.W.Frag) (c : Value) (i j : Nat) (Wout : WX) (D : Ends) : WX := fun cls d σ H =>
  ∃ b, PySem.W.exmOne K cls c = some b ∧ (b = true → d = none ∧ ∀ a, H a = none → D.nx (((σ.set i (some (V.ref a))).set j (some (V.ref a))).set i none) (upd H a (ExV cls a))) ∧ (b = false → Wout cls d σ H)
section
variable {X : Cx} {x n y : Str} {c : Value} {i j : Nat} {body : List Stmt} {np pos pos' py pn' sp : Pos} {tb : WX → TS} {Wout : WX}
theorem ps_try_keep (hs : X.stack = X.env :: X.outer) (hf : X.env.frame = some X.env.locals) (hex : X.ex = []) (hN : X.N.Nodup) (hi : X.N[i]? = some n) (hj : X.N[j]? = some y) (hij : i ≠ j) (hln : X.env.scope.names.lookup n = some .local) (hly : X.env.scope.names.lookup y = some .local)
    (hdn : (n == ("__debug__" : Str)) = false) (hcd : (n == ("__classdict__" : Str)) = false) (hc : Names X x c) (tk : Takes X Wout)
    (hb : ∀ (W : WX) (pn : List (Addr × Obj)) (xe : Value → Shared → Prop), Takes (X.tr pn xe) W → PassesOwn (model X.prog X.w) X.A X.env xe → PSs (X.tr pn xe) body (tb W)) :
    PS X (.Try body [.ExceptHandler (some (.Name x np)) (some n) [.Assign [.Name y py] (.Name n pn') sp] pos'] [] [] pos) (fun D σ H => tb (wKeep X.K c i j Wout D) D σ H) := by
  refine ⟨fun pins s σ H D I h => ?_⟩
  have ok := I.ok
  have hfr : X.A.frames = some (X.env :: X.outer) := by rw [ok.frames, hs]
  have hloc : Loc X.env.scope n := .inl hln
  refine wpAny_Try_except ?_
  refine wpAny_mono ((hb (wKeep X.K c i j Wout D) (X.pn ++ pins) (fun e s₁ => wpAny (model X.prog X.w) X.A (noteFrame e X.env) (fun _ s₂ => wpAny (model X.prog X.w) X.A (setFlight e none) (fun _ s₃ =>
    wpAny (model X.prog X.w) X.A (handleBy e X.env [.ExceptHandler (some (.Name x np)) (some n) [.Assign [.Name y py] (.Name n pn') sp] pos']) (SP X pins D) X.xe s₃) X.xe s₂) X.xe s₁) (fun u s' xx => ?_) PassesOwn.looking).run [] s σ H D (I.toTry _) h) (fun f s1 hsp => ?_) (fun e s1 he => he)
  · obtain ⟨a, B, sI, pins', σ', H', cls, d, rfl, J', nb, up, sky, na, os, ag, b, hb1, hyes, hno⟩ := xx
    have J : Inv X pins σ' H' sI := J'.ofTry ok
    have sky' : Sky B (X.env :: X.outer) a (Zc cls d) X.env.locals s'.heap := by rw [← hs]; exact sky
    show wpAny (model X.prog X.w) X.A (noteFrame (.ref a) X.env) _ _ _
    refine Sky.land Zc.steady hfr hf sky' fun h3 fl3 up3 => ?_
    have J3 : Inv X pins σ' H' { s' with heap := h3 } := J.landed nb fl3.1 (up.trans up3) os ag
    obtain ⟨oe3, vs3, he3, hz3, hd3⟩ := fl3.there
    have notFr : ∀ {h : Heap} {o : Obj} {vs : Array Value}, h.FunFrames B (X.env :: X.outer) → h.get? a = some o → o.data = .fields vs → a ∉ frs (X.env :: X.outer) := fun {h o vs} ff e dd hm => by
      obtain ⟨_, o', e', hnf⟩ := ff.mem hm
      rw [e] at e'; cases e'
      exact hnf _ dd
    have nfr := notFr fl3.2.2.1 he3 hd3
    have nL : a ≠ X.env.locals := fun z => nfr (List.mem_filterMap.mpr ⟨X.env, List.mem_cons_self, by rw [hf, z]⟩)
    have nF : a ∉ X.fs := fun hm => by
      obtain ⟨e, he, q⟩ := List.mem_filterMap.mp hm
      exact nfr (List.mem_filterMap.mpr ⟨e, List.mem_cons_of_mem _ he, q⟩)
    have nI : sI.heap.get? a = none := by
      cases q : sI.heap.get? a with
      | none => rfl
      | some o =>
        have := nb a o q (by rw [hs]; exact nfr)
        rw [fl3.2.1] at this
        cases this
    have n0 : X.s_0.heap.get? a = none := by
      cases q : X.s_0.heap.get? a with
      | none => rfl
      | some o =>
        obtain ⟨o', e'⟩ := J.base.there a o q (by rw [hex]; exact List.not_mem_nil)
        rw [nI] at e'
        cases e'
    have npn : ∀ p ∈ X.pn ++ pins, p.1 ≠ a := fun p hp z => by
      have := (J.pin p hp).1
      rw [z, nI] at this
      cases this
    have S3 := J3.suite he3 hd3 na nL nF
    refine wpAny_handleBy_cons (codeAny_handlers_test ?_) (by intro q; cases q)
    have LT : PySem.W.Looks (model X.prog X.w) h3 (typeOf (.ref a)) cls := fun A Q E s k q => wpAny_typeOf_ref (k _ _ he3) (by rw [hz3.1]; exact q)
    have LM := PySem.W.exm_one (M := model X.prog X.w) (J3.kIn) LT hb1
    have test : ∀ {Q : Value → Shared → Prop} {E : Value → Shared → Prop}, Q c { s' with heap := h3 } → wpAny (model X.prog X.w) (X.A.mark (some (.ref a))) (eval (.Name x np) X.env) Q E { s' with heap := h3 } := fun {Q E} q => by
      obtain ⟨hg, hdbg, hm | ⟨hm, hv, hnn⟩⟩ := hc
      · exact ld_glob (X := X.suite a ((a, oe3) :: (X.pn ++ pins))) S3 hg hm q hdbg
      · exact ld_blt (X := X.suite a ((a, oe3) :: (X.pn ++ pins))) S3 hg hm hv q hnn hdbg
    refine test (LM.here ?_)
    cases b with
    | true =>
      refine codeAny_handlers_suite_as ?_
      refine HandSPX.lands_againZ fl3 fun h4 fl4 up4 => ?_
      have J4 : Inv X pins σ' H' { s' with heap := h4 } := J.landed nb fl4.1 ((up.trans up3).trans up4) os ag
      obtain ⟨oe4, vs4, he4, hz4, hd4⟩ := fl4.there
      have S4 := J4.suite he4 hd4 na nL nF
      obtain ⟨ed, fin⟩ := hyes rfl
      subst ed
      refine store_ok (X := X.suite a ((a, oe4) :: (X.pn ++ pins))) (v := .ref a) S4 hN hi hloc rfl (fun s5 S5 => ?_) (.inr hln)
      have su : PSs (X.suite a ((a, oe4) :: (X.pn ++ pins))) [.Assign [.Name y py] (.Name n pn') sp] (tAsg (tVar i) (gName j)) :=
        pss_one (ps_set (X := X.suite a ((a, oe4) :: (X.pn ++ pins))) hN hj (.inl hly) (pe_var hi (.inl hln) hdn hcd) rfl (.inr hly))
      have i5 : i < σ'.length := by
        rw [J.len]
        exact (List.getElem?_eq_some_iff.mp hi).1
      refine wpAny_mono (su.run [] s5 _ H' { nx := fun σ6 H6 => σ6 = (σ'.set i (some (V.ref a))).set j (some (V.ref a)) ∧ H6 = H', rt := fun _ _ => False } S5 ⟨.ref a, List.getElem?_set_self i5, rfl, rfl⟩) (fun f s6 hsp => ?_) (fun _ _ z => False.elim z)
      cases f with
      | next =>
        obtain ⟨σ6, H6, S6, rfl, rfl⟩ := hsp
        have J6 : Inv X ((a, oe4) :: pins) _ H6 s6 := (S6.unsuite ok).pins_of fun p hp => by
          refine S6.pin p ?_
          rcases List.mem_cons.mp hp with z | z
          · rw [z]
            exact List.mem_append_left _ (List.mem_cons_self ..)
          · exact List.mem_append_left _ (List.mem_cons_of_mem _ (List.mem_append_right _ z))
        refine gone_ok J6 hN hi hln fun s7 J7 => ?_
        obtain ⟨p1, p2, _⟩ := J7.pin (a, oe4) (List.mem_append_right _ (List.mem_cons_self ..))
        have J8 : Inv X pins _ H6 s7 := J7.pins_of fun p hp => J7.pin p (List.mem_append_right _ (List.mem_cons_of_mem _ hp))
        exact ⟨_, _, Inv.track J8 p1 hz4 hd4 p2 n0 nL npn, fin a na⟩
      | brk => obtain ⟨_, _, _, z⟩ := hsp; exact z.elim
      | cont => obtain ⟨_, _, _, z⟩ := hsp; exact z.elim
      | ret u => obtain ⟨_, _, _, _, _, z⟩ := hsp; exact z.elim
    | false =>
      show wpAny _ X.A (handleBy (.ref a) X.env []) _ _ _
      refine wpAny_handleBy_nil ?_
      obtain ⟨k1, k2, k3, oe, vs, T, oT, ts', he, hz, hd, h1, hr⟩ := id fl3
      unfold PySem.passOn
      refine wpAny_bind (wpAny_field he hd h1 ?_)
      rw [if_neg (show ¬ ((Value.ref T == Value.none) = true) from by simp)]
      have fin : wpAny (model X.prog X.w) X.A (setFlight (.ref a) X.env.frame) (fun _ s4 => wpAny (model X.prog X.w) X.A (throw (.ref a) : Sem Flow) (SP X pins D) X.xe s4) X.xe { s' with heap := h3 } := by
        rw [hf]
        refine HandSPX.setFlight_upZ fl3 fun h4 hh4 up4 => wpAny_throw (tk _ _ ?_)
        exact ⟨a, B, sI, pins, σ', H', cls, d, rfl, J, nb, (up.trans up3).trans up4, .inr (.inr (by rw [hs]; exact hh4)), na, os, ag, hno rfl⟩
      first
        | exact wpAny_bind (wpAny_pure (wpAny_bind fin))
        | exact wpAny_bind fin
  · cases f with
    | next =>
      obtain ⟨σ6, H6, S6, q6⟩ := hsp
      exact wpAny_execs_nil ⟨σ6, H6, S6.ofTry ok, q6⟩
    | brk =>
      obtain ⟨σ6, H6, S6, q6⟩ := hsp
      exact ⟨σ6, H6, S6.ofTry ok, q6⟩
    | cont =>
      obtain ⟨σ6, H6, S6, q6⟩ := hsp
      exact ⟨σ6, H6, S6.ofTry ok, q6⟩
    | ret u =>
      obtain ⟨v6, σ6, H6, S6, r6, q6⟩ := hsp
      exact ⟨v6, σ6, H6, S6.ofTry ok, r6, q6⟩
end
end Ms
end
section
namespace Ms
open PySem PySem.Spec PyProof.Rows L2
section
variable {C : Ct} {W : WX} {D : Ends} {A A0 A1 A2 : List Nat} {σ σ₀ : L2.St} {α β γ δ : Type} {μ₀ μ : List Addr} {ρ₀ ρ : Mn.Slots} {h : Mn.Hp} {H₀ H : Hp}
theorem Sta.keepX {i j : Nat} {a : Addr} {c : Str} (S : Sta C μ ρ h σ H) (hij : i ≠ j) (hj : j < ρ.length) (hx : C.ex c = true) (ha : H a = none) :
    Sta C μ ((ρ.set j (some (.v (.exc c)))).set i none) h (((σ.set i (some (V.ref a))).set j (some (V.ref a))).set i none) (upd H a (ExV (.ref (C.cl c)) a)) := by
  have S0 : Sta C μ ρ h σ (upd H a (ExV (.ref (C.cl c)) a)) := S.beside ha
  have at_ : ∀ {k : Nat} {b : Mn.B}, ((ρ.set j (some (Mn.B.v (.exc c)))).set i none)[k]? = some (some b) → (k = j ∧ b = .v (.exc c)) ∨ (k ≠ j ∧ k ≠ i ∧ ρ[k]? = some (some b)) := fun {k b} e => by
    rcases set_get e with ⟨_, k2⟩ | ⟨n, k2⟩
    · cases k2
    · rcases set_get k2 with ⟨k3, k4⟩ | ⟨n2, k4⟩
      · cases k4
        exact .inl ⟨k3, rfl⟩
      · exact .inr ⟨n2, n, k4⟩
  have sg : ∀ k : Nat, k ≠ i → k ≠ j → (((σ.set i (some (V.ref a))).set j (some (V.ref a))).set i none)[k]? = σ[k]? := fun k h1 h2 => by
    rw [List.getElem?_set_ne (Ne.symm h1), List.getElem?_set_ne (Ne.symm h2), List.getElem?_set_ne (Ne.symm h1)]
  refine ⟨S0.nd, S0.len, S0.obj, by simp [S0.slen], fun k b e => ?_, fun k l b d x e1 o1 v1 e2 o2 v2 => ?_⟩
  · rcases at_ e with ⟨k1, k2⟩ | ⟨k1, k2, k3⟩
    · subst k1 k2
      refine ⟨.ref a, ?_, hx, a, rfl, upd_same⟩
      rw [List.getElem?_set_ne hij]
      exact List.getElem?_set_self (by rw [List.length_set, ← S.slen]; exact hj)
    · obtain ⟨v, e1, rb⟩ := S0.slot k b k3
      exact ⟨v, by rw [sg k k2 k1]; exact e1, rb⟩
  · rcases at_ e1 with ⟨_, k2⟩ | ⟨k1, k2, k3⟩
    · subst k2
      exact o1.elim
    · rcases at_ e2 with ⟨_, k5⟩ | ⟨k4, k5, k6⟩
      · subst k5
        exact o2.elim
      · rw [sg k k2 k1] at v1
        rw [sg l k5 k4] at v2
        exact S0.own k l b d x k3 o1 v1 k6 o2 v2
theorem Fra.keepX {i j : Nat} {a : Addr} {c : Str} (F : Fra μ₀ ρ₀ σ₀ H₀ μ ρ σ H) (ha : H a = none) :
    Fra μ₀ ρ₀ σ₀ H₀ μ ((ρ.set j (some (.v (.exc c)))).set i none) (((σ.set i (some (V.ref a))).set j (some (V.ref a))).set i none) (upd H a (ExV (.ref (C.cl c)) a)) := by
  have F0 := F.trans (Fra.beside (μ := μ) (ρ := ρ) (σ := σ) (o := ExV (.ref (C.cl c)) a) ha)
  refine ⟨F0.pre, fun x o q n m => ?_, F0.live⟩
  obtain ⟨j1, j2, j3⟩ := F0.keep x o q n m
  refine ⟨j1, j2, fun ⟨k, b, e1, e2, e3⟩ => j3 ?_⟩
  rcases set_get e1 with ⟨_, k2⟩ | ⟨n1, k2⟩
  · cases k2
  · rcases set_get k2 with ⟨_, k4⟩ | ⟨n2, k4⟩
    · cases k4
      exact e2.elim
    · rw [List.getElem?_set_ne (Ne.symm n1), List.getElem?_set_ne (Ne.symm n2), List.getElem?_set_ne (Ne.symm n1)] at e3
      exact ⟨k, b, k4, e2, e3⟩
theorem s_tryK {G : Mn.Env} {b : Mn.M Mn.Fl} {d : Str} {i j : Nat} {cv : Value} (hij : i ≠ j) (hx : ∀ c, G.isx c = true → C.ex c = true) (hk : ∀ c, C.ex c = true → PySem.W.exmOne C.K (.ref (C.cl c)) cv = some (G.sub c d))
    (hA : ∀ k, k ∈ A1 → k ∈ A) (iA : i ∈ A) (jA : j ∈ A) (t : TSv C W A (Mn.tryM G b [(d, some i, [.exc j])]) D σ H) : TSv C (wKeep C.K cv i j W D) A1 b D σ H := by
  obtain ⟨μ, ρ, h, S, g⟩ := t
  refine ⟨μ, ρ, h, S, ?_⟩
  unfold Mn.tryM at g
  cases e : b ρ h with
  | bad => rw [e] at g; exact g
  | ok f ρ1 h1 =>
    rw [e] at g
    have g' : GoodS C W D A μ ρ σ H (.ok f ρ1 h1) := g
    intro μ1 σ1 H1 S1 F1 k1
    exact g'.from (D' := D) (A0 := []) (A1 := A1) (fun _ z => by cases z) hA Fra.refl Kp.refl (fun _ _ z => z) (fun _ _ z => z) (fun _ _ z => z) μ1 σ1 H1 S1 F1 k1
  | err c ρ1 h1 =>
    rw [e] at g
    dsimp only at g
    intro μ1 σ1 H1 S1 F1 k1
    have kp : Kp A σ σ1 := fun k hk => k1 k fun z => hk (hA k z)
    by_cases xc : G.isx c = true
    · rw [if_pos xc] at g
      refine ⟨G.sub c d, hk c (hx c xc), fun es => ⟨rfl, fun a ha => ?_⟩, fun es => ?_⟩
      · unfold Mn.handle at g
        rw [if_pos es] at g
        have g2 : GoodS C W D A μ ρ σ H (Mn.bind (Mn.bind (Mn.nx (Mn.setSlot j (.v (.exc c)))) fun _ => Mn.ret .nx) (fun f => fun s h => .ok f (s.set i none) h) ρ1 h1) := g
        by_cases hj : j < ρ1.length
        · have e1 : Mn.setSlot j (.v (.exc c)) ρ1 h1 = .ok () (ρ1.set j (some (.v (.exc c)))) h1 := by
            unfold Mn.setSlot
            rw [if_pos hj]
          unfold Mn.nx at g2
          rw [bind_assoc, bind_assoc, bind_ok e1] at g2
          have g3 : GoodS C W D A μ ρ σ H (.ok .nx ((ρ1.set j (some (.v (.exc c)))).set i none) h1) := g2
          refine g3 μ1 _ _ (S1.keepX hij hj (hx c xc) ha) (F1.keepX (i := i) (j := j) (c := c) ha) fun k hk => ?_
          have ki : i ≠ k := fun z => hk (z ▸ iA)
          have kj : j ≠ k := fun z => hk (z ▸ jA)
          rw [List.getElem?_set_ne ki, List.getElem?_set_ne kj, List.getElem?_set_ne ki]
          exact kp k hk
        · have e1 : Mn.setSlot j (.v (.exc c)) ρ1 h1 = .bad := by
            unfold Mn.setSlot
            rw [if_neg hj]
          unfold Mn.nx at g2
          rw [bind_assoc, bind_assoc, bind_bad e1] at g2
          exact g2.elim
      · unfold Mn.handle at g
        rw [if_neg (by rw [es]; exact Bool.false_ne_true)] at g
        exact g μ1 σ1 H1 S1 F1 kp
    · rw [if_neg xc] at g
      exact g.elim
end
end Ms
end
section
namespace Ms
open PySem PySem.Spec PyProof.Rows L2
def EntR (C : Ct) (kv : Str × Mn.Val) (e : DictEntry) : Prop := (∃ t, e.key = Value.str kv.1 t) ∧ ∃ v, RelV v e.val ∧ ∀ μ H, RV C μ H kv.2 v
structure GdF (C : Ct) (w : World) (G : Mn.Env) (d : Str) (a : Addr) : Prop where
  ex : ∃ (es : Array DictEntry) (n : Nat) (kvs : List (Str × Mn.Val)), KDict C.K w a es n ∧ G.gd d = some kvs ∧ Paired (EntR C) kvs es.toList
section
variable {C : Ct} {W : WX} {σ : L2.St} {H : Hp} {Q : VK}
theorem ent_key {kv : Str × Mn.Val} {e : DictEntry} (r : EntR C kv e) (z : Str) : e.key.isStr z = decide (z = kv.1) := by
  obtain ⟨⟨t, k⟩, _⟩ := r
  rw [k]
  show (kv.1 == z) = _
  by_cases c : z = kv.1
  · rw [c]
    simp
  · rw [decide_eq_false c]
    exact beq_eq_false_iff_ne.mpr (Ne.symm c)
theorem ents_find {z : Str} : ∀ {kvs : List (Str × Mn.Val)} {es : List DictEntry}, Paired (EntR C) kvs es → (Mn.lookF z kvs = none ∧ es.find? (·.key.isStr z) = none) ∨ ∃ x e v, Mn.lookF z kvs = some x ∧ es.find? (·.key.isStr z) = some e ∧ RelV v e.val ∧ ∀ μ H, RV C μ H x v
  | _, _, .nil => .inl ⟨rfl, rfl⟩
  | _, _, .cons (a := kv) (b := e) r rr => by
    obtain ⟨k, x⟩ := kv
    rw [List.find?_cons, ent_key r z]
    unfold Mn.lookF
    by_cases c : z = k
    · rw [decide_eq_true c, if_pos c]
      obtain ⟨_, v, rv, rx⟩ := r
      exact .inr ⟨x, e, v, rfl, rfl, rv, rx⟩
    · rw [decide_eq_false c, if_neg c]
      exact ents_find rr
theorem ents_noref : ∀ {kvs : List (Str × Mn.Val)} {es : List DictEntry}, Paired (EntR C) kvs es → es.any (·.refKey) = false
  | _, _, .nil => rfl
  | _, _, .cons (a := kv) (b := e) r rr => by
    rw [List.any_cons, ents_noref rr]
    obtain ⟨⟨t, k⟩, _⟩ := r
    unfold DictEntry.refKey
    rw [k]
    rfl
theorem gd_look {w : World} {G : Mn.Env} {d : Str} {a : Addr} (F : GdF C w G d a) (z : Str) : ∃ kvs, G.gd d = some kvs ∧ (∃ es n, KDict C.K w a es n) ∧
    ((Mn.lookF z kvs = none ∧ PySem.W.nsIn C.K a z = some none) ∨ ∃ x u v, Mn.lookF z kvs = some x ∧ PySem.W.nsIn C.K a z = some (some u) ∧ RelV v u ∧ ∀ μ H, RV C μ H x v) := by
  obtain ⟨es, n, kvs, D, eg, p⟩ := F.ex
  refine ⟨kvs, eg, ⟨es, n, D⟩, ?_⟩
  unfold PySem.W.nsIn
  rw [D.at_]
  dsimp only
  rcases ents_find (z := z) p with ⟨e1, e2⟩ | ⟨x, e, v, e1, e2, rv, rx⟩
  · rw [e2]
    dsimp only
    rw [ents_noref p]
    exact .inl ⟨e1, rfl⟩
  · rw [e2]
    exact .inr ⟨x, e.val, v, e1, rfl, rv, rx⟩
theorem w_gix {w : World} {G : Mn.Env} {d : Str} {a : Addr} (F : GdF C w G d a) {i : Mn.M Mn.B} (t : TEv C W (Mn.gixM G d i) σ H Q) : tOp (rIxD C.K w) (tC (.ref a)) (TEv C W i) σ H Q := by
  obtain ⟨μ, ρ, h, S, g⟩ := t
  refine sub (R1 := RBx C) S Fra.refl g fun x H1 μ1 ρ1 h1 b S1 F1 r1 g1 => ?_
  obtain ⟨v, e1, g2⟩ := step_view g1
  have rv := view_ok S1 r1.1 e1
  unfold Mn.gixV at g2
  cases v with
  | val y =>
    cases y with
    | str z =>
      obtain ⟨kvs, eg, ⟨es, n, D⟩, lk⟩ := gd_look F z
      rw [eg] at g2
      dsimp only at g2
      rcases lk with ⟨k1, _⟩ | ⟨y, u, v, k1, k2, k3, k4⟩
      · rw [k1] at g2; exact g2.elim
      · rw [k1] at g2
        exact ⟨a, z, v, rfl, rv.1, ⟨es, n, u, D.at_, D.lit, k2, k3⟩, g2 μ1 H1 v S1 F1 ⟨k4 _ _, fun z => z.elim⟩⟩
    | _ => cases eg : G.gd d <;> rw [eg] at g2 <;> exact g2.elim
  | _ => cases eg : G.gd d <;> rw [eg] at g2 <;> exact g2.elim
theorem w_gin {w : World} {G : Mn.Env} {d : Str} {a : Addr} (F : GdF C w G d a) {i : Mn.M Mn.B} {yes : Bool} (t : TEv C W (Mn.ginM G d i yes) σ H Q) :
    tOp (fun x y H Q => ∃ (z : Str) (r : Option Value), x = V.str z ∧ y = V.ref a ∧ PySem.W.nsIn C.K a z = some r ∧ Q (.bl (r.isSome == yes)) H) (TEv C W i) (tC (.ref a)) σ H Q := by
  obtain ⟨μ, ρ, h, S, g⟩ := t
  refine sub (R1 := RBx C) S Fra.refl g fun x H1 μ1 ρ1 h1 b S1 F1 r1 g1 => ?_
  obtain ⟨v, e1, g2⟩ := step_view g1
  have rv := view_ok S1 r1.1 e1
  unfold Mn.ginV at g2
  cases v with
  | val y =>
    cases y with
    | str z =>
      obtain ⟨kvs, eg, ⟨es, n, D⟩, lk⟩ := gd_look F z
      rw [eg] at g2
      dsimp only at g2
      rcases lk with ⟨k1, k2⟩ | ⟨y, u, v, k1, k2, k3, k4⟩
      · rw [k1] at g2
        exact ⟨z, none, rv.1, rfl, k2, g2 μ1 H1 _ S1 F1 ⟨rfl, fun z => z.elim⟩⟩
      · rw [k1] at g2
        exact ⟨z, some u, rv.1, rfl, k2, g2 μ1 H1 _ S1 F1 ⟨rfl, fun z => z.elim⟩⟩
    | _ => cases eg : G.gd d <;> rw [eg] at g2 <;> exact g2.elim
  | _ => cases eg : G.gd d <;> rw [eg] at g2 <;> exact g2.elim
end
end Ms
end
section
namespace Ms
open PySem PySem.Spec PyProof.Rows L2
section
variable {C : Ct} {W : WX} {σ : L2.St} {μ : List Addr} {ρ : Mn.Slots} {H : Hp}
theorem it_rng1 {a : Int} {n : Nat} : ItOk C (Itr a n) (Mn.rangeL a 1 n) [] μ ρ σ H := fun μ1 ρ1 h1 σ1 H1 S1 F1 sl ck => by
  refine ⟨fun i z e => ?_, by rw [rangeL_len]; exact Nat.le_refl n⟩
  obtain ⟨e1, rfl⟩ := rangeL_get e
  refine ⟨e1, fun u H' ⟨eu, ev⟩ => ?_⟩
  subst eu ev
  refine ⟨S1, Fra.refl, ?_⟩
  show V.int _ = V.int _
  rw [Int.mul_one]
theorem w_rng2 {a b : Mn.M Mn.B} {R : It → Hp → Prop} (t : TRd C W (RIx C) (Mn.rngI a b (Mn.ret (.v (.int 1)))) σ H R) : iRng2 (tCons (TEv C W a) (tCons (TEv C W b) tNil)) σ H R := by
  obtain ⟨μ, ρ, h, S, g⟩ := t
  refine sub S Fra.refl g fun x H1 μ1 ρ1 h1 ba S1 F1 r1 g1 => ?_
  obtain ⟨w1, e1, g2⟩ := step_view g1
  obtain ⟨i, rfl, g3⟩ := step_isoI g2
  have q1 := view_ok S1 r1.1 e1
  obtain rfl : x = V.int i := q1
  refine sub S1 F1 g3 fun y H2 μ2 ρ2 h2 bb S2 F2 r2 g4 => ?_
  obtain ⟨w2, e2, g5⟩ := step_view g4
  obtain ⟨j, rfl, g6⟩ := step_isoI g5
  have q2 := view_ok S2 r2.1 e2
  obtain rfl : y = V.int j := q2
  have g9 : Good C W σ (RIx C) μ ρ H R ((match Mn.rangeN i j 1 with
    | some n => Mn.ret (Mn.rangeL i 1 n, [])
    | none => Mn.bad) ρ2 h2) := g6
  unfold Mn.rangeN at g9
  by_cases cb : -(2 ^ 62) ≤ i ∧ i < 2 ^ 62 ∧ -(2 ^ 62) ≤ j ∧ j < 2 ^ 62
  · rw [if_pos cb, if_pos rfl] at g9
    exact ⟨i, j, rfl, cb, g9 μ2 H2 _ S2 (F1.trans F2) it_rng1⟩
  · rw [if_neg cb] at g9
    exact g9.elim
theorem w_rng1 {b : Mn.M Mn.B} {R : It → Hp → Prop} (t : TRd C W (RIx C) (Mn.rngI (Mn.ret (.v (.int 0))) b (Mn.ret (.v (.int 1)))) σ H R) : iRng1 (tCons (TEv C W b) tNil) σ H R := by
  obtain ⟨μ, ρ, h, S, g⟩ := t
  have g0 : Good C W σ (RIx C) μ ρ H R (Mn.bind b (fun y => Mn.bind (Mn.viewM y) fun v => Mn.bind (Mn.isoI v) fun j => Mn.bind (Mn.ret (.v (.int 1))) fun z => Mn.bind (Mn.viewM z) fun w => Mn.bind (Mn.isoI w) fun k => match Mn.rangeN 0 j k with
    | some n => Mn.ret (Mn.rangeL 0 k n, [])
    | none => Mn.bad) ρ h) := g
  refine sub S Fra.refl g0 fun y H2 μ2 ρ2 h2 bb S2 F2 r2 g4 => ?_
  obtain ⟨w2, e2, g5⟩ := step_view g4
  obtain ⟨j, rfl, g6⟩ := step_isoI g5
  have q2 := view_ok S2 r2.1 e2
  obtain rfl : y = V.int j := q2
  have g9 : Good C W σ (RIx C) μ ρ H R ((match Mn.rangeN 0 j 1 with
    | some n => Mn.ret (Mn.rangeL 0 1 n, [])
    | none => Mn.bad) ρ2 h2) := g6
  unfold Mn.rangeN at g9
  by_cases cb : -(2 ^ 62) ≤ (0 : Int) ∧ (0 : Int) < 2 ^ 62 ∧ -(2 ^ 62) ≤ j ∧ j < 2 ^ 62
  · rw [if_pos cb, if_pos rfl] at g9
    refine ⟨j, rfl, cb.2.2.1, cb.2.2.2, ?_⟩
    have e : (j - 0).toNat = j.toNat := by rw [Int.sub_zero]
    rw [e] at g9
    exact g9 μ2 H2 _ S2 F2 it_rng1
  · rw [if_neg cb] at g9
    exact g9.elim
end
def notStar : Expr → Bool
  | .Starred _ _ => false
  | _ => true
theorem starEach_cons {e : Expr} (h : notStar e = true) (es : List Expr) (env : Env) : starEach (e :: es) env = (false, eval e env) :: starEach es env := by
  cases e <;> first | rfl | cases h
theorem backTo_any : ∀ {es : List Expr} (h : es.all notStar = true) (pos : Pos) (env : Env), (backTo pos (starEach es env)).any (·.1) = false
  | [], _, _, _ => rfl
  | e :: es, h, pos, env => by
    rw [List.all_cons, Bool.and_eq_true] at h
    rw [starEach_cons h.1]
    show (false || (backTo pos (starEach es env)).any (·.1)) = false
    rw [backTo_any h.2]
    rfl
theorem backTo_all : ∀ {es : List Expr} (h : es.all notStar = true) (pos : Pos) (env : Env), (backTo pos (starEach es env)).all (fun x => !x.1) = true
  | [], _, _, _ => rfl
  | e :: es, h, pos, env => by
    rw [List.all_cons, Bool.and_eq_true] at h
    rw [starEach_cons h.1]
    show (true && (backTo pos (starEach es env)).all (fun x => !x.1)) = true
    rw [backTo_all h.2]
    rfl
def notSlice : Expr → Bool
  | .Slice _ _ _ _ => false
  | _ => true
theorem plainIx_of {e : Expr} (h : notSlice e = true) : PlainIx e := fun o i => by
  cases e <;> first | rfl | cases h
theorem augStore_of {e : Expr} (h : notSlice e = true) (ov iv new : Value) : augStore e ov iv new = (do holding [new, ov, iv] (setItem ov iv new); release [new, ov, iv] []; pure .next) := by
  cases e <;> first | rfl | cases h
def isVal : Expr → Bool
  | .UnaryOp .Not _ _ => false
  | .BoolOp _ _ _ => false
  | .IfExp _ _ _ _ => false
  | .Compare _ _ _ _ => false
  | _ => true
theorem isTrue_of {e : Expr} (h : isVal e = true) (env : Env) (whole : Sem Value) : isTrue e env whole = (do let v ← whole; standAt e.pos; holding [v] (truthy v)) := by
  cases e with
  | UnaryOp op a p => cases op <;> first | rfl | cases h
  | BoolOp _ _ _ => cases h
  | IfExp _ _ _ _ => cases h
  | Compare _ _ _ _ => cases h
  | _ => rfl
def notCall0 : Expr → Bool
  | .Call (.Name _ _) [] [] _ => false
  | _ => true
theorem attributeBase_of {e : Expr} (h : notCall0 e = true) (f : Str) (env : Env) (whole : Sem Value) : attributeBase e f env whole = whole := by
  unfold attributeBase
  split
  · cases h
  · rfl
end Ms
end
section
namespace Ms
open PySem PySem.Spec PyProof.Rows L2
theorem meth_form {o : Expr} {m : Str} {apos pos : Pos} {args : List Expr} {env : Env} (h0 : notCall0 o = true) (hs : args.all notStar = true) (hn : args.length < 30) (hl : (apos.endLine == pos.line) = true) :
    eval (.Call (.Attribute o m apos) args [] pos) env = (do
      let ov ← eval o env
      standAt apos.atName
      let (f, first) ← holding [ov] (getMethod ov m (do return (← importBound o env).getD true))
      callWith pos f first (backTo pos (starEach args env)) (backToKw pos (keywordEach [] env))) := by
  have form : methodCallForm (args.length + ([] : List Keyword).length) (backTo pos (starEach args env)) (backToKw pos (keywordEach [] env)) = true := by
    unfold methodCallForm
    have e1 := backTo_all hs pos env
    have e2 : (backToKw pos (keywordEach [] env)) = [] := rfl
    rw [e2, e1]
    simp
    exact hn
  have e : eval (.Call (.Attribute o m apos) args [] pos) env = (do
      let ov ← attributeBase o m env (eval o env)
      standAt apos.atName
      methodCall o m apos pos env ov (args.length + ([] : List Keyword).length) (backTo pos (starEach args env)) (backToKw pos (keywordEach [] env))) := rfl
  rw [e, attributeBase_of h0]
  unfold methodCall
  rw [form]
  unfold calleeOf methodCallPos
  simp only [if_true, hl, Bool.not_true, Bool.false_or, pure_bind]
section
variable {X : Cx} {C : Ct} {W : WX} {G : Mn.Env} {k : Nat}
structure DefF (X : Cx) (C : Ct) (k : Nat) (fa : Addr) (run : List Mn.B → Mn.Hp → Mn.RC) (dvs : List V) (ds : List Value) : Prop where
  kp : PySem.W.keepIn X.K (.ref fa) = true
  ok : ∃ (fd : FuncData) (ps : List Str), FnOk X.prog X.w X.K X.mg X.base (L2.CX X.prog X.w) k fa fd ps (spOf C run) ∧ Binds X.K fd ps ds
  dv : Vals dvs ds
theorem run_defS {pins : List (Addr × Obj)} {σ : L2.St} {H : Hp} {s : Shared} {Q : VK} {us : List Value} {vs : List V} {fa : Addr} {run : List Mn.B → Mn.Hp → Mn.RC} {dvs : List V} {ds : List Value} (F : DefF X C k fa run dvs ds) (hr : Room k X.A) (tk : Takes X W) (I : Inv X pins σ H s) (r : Vals vs us)
    (h : spOf C run (vs ++ dvs) H Q (WE W σ)) : wpAny (model X.prog X.w) X.A (call (.ref fa) us) (EP X pins σ Q) X.xe s := by
  obtain ⟨fd, ps, F1, F2⟩ := F.ok
  exact run_fnSD (E := WE W) F1 hr F2 F.dv (passAt tk σ) I r h
theorem pe_callD {f : Str} {p pos : Pos} {e : Expr} {es : List Expr} {t : TA} {fa : Addr} {run : List Mn.B → Mn.Hp → Mn.RC} {dvs : List V} {ds : List Value} (F : DefF X C k fa run dvs ds) (hr : Room k X.A) (tk : Takes X W) (hg : Gl X f) (hd : (f == ("__debug__" : Str)) = false) (hm : X.mg f = some (.ref fa))
    (h1 : notStar e = true) (hs : es.all notStar = true) (ha : PA X (e :: es) t) : PE X (.Call (.Name f p) (e :: es) [] pos) (tCallSD (spOf C run) dvs (WE W) t) := by
  refine ⟨fun pins s σ H Q I h => ?_⟩
  refine wpAny_Call_Name_kw (ld_glob I hg hm ?_ hd)
  refine PySem.W.callWith_K (h₀ := X.base) I.ok.mod.kin F.kp (thn (ha.run pos pins s σ H _ I h) fun us s1 ⟨vs, H1, I1, r, q⟩ => ⟨I1.kIn, ?_⟩) (starEach_cons h1 es X.env) (backTo_any hs pos X.env)
  exact run_defS F hr tk I1 r q
theorem pe_callD0 {f : Str} {p pos : Pos} {fa : Addr} {run : List Mn.B → Mn.Hp → Mn.RC} {dvs : List V} {ds : List Value} (F : DefF X C k fa run dvs ds) (hr : Room k X.A) (tk : Takes X W) (hg : Gl X f) (hd : (f == ("__debug__" : Str)) = false) (hm : X.mg f = some (.ref fa)) :
    PE X (.Call (.Name f p) [] [] pos) (tCallSD (spOf C run) dvs (WE W) tNil) := by
  refine ⟨fun pins s σ H Q I h => ?_⟩
  refine wpAny_Call_Name_kw (ld_glob I hg hm ?_ hd)
  exact PySem.W.callWith_K0 I.kIn F.kp (run_defS (us := []) F hr tk I .nil h)
structure MetF (X : Cx) (C : Ct) (k : Nat) (c m : Str) (run : List Mn.B → Mn.Hp → Mn.RC) (dvs : List V) (ds : List Value) : Prop where
  cls : Cls X.K (C.cl c)
  ex : ∃ fa, Meth X.K (C.cl c) m fa ∧ DefF X C k fa run dvs ds
theorem pe_methD {o : Expr} {m : Str} {apos pos : Pos} {e : Expr} {es : List Expr} {ta : TE} {t : TA} {dvs : List V} {ds : List Value} (F : ∀ c f, G.meth c m = some f → MetF X C k c m (G.call f) dvs ds) (hr : Room k X.A) (tk : Takes X W)
    (h0 : notCall0 o = true) (h1 : notStar e = true) (hs : es.all notStar = true) (hn : (e :: es).length < 30) (hl : (apos.endLine == pos.line) = true) (he : PE X o ta) (ha : PA X (e :: es) t) :
    PE X (.Call (.Attribute o m apos) (e :: es) [] pos) (tMethD C G m dvs (WE W) ta t) := by
  have hs' : (e :: es).all notStar = true := by rw [List.all_cons, h1, hs]; rfl
  refine ⟨fun pins s σ H Q I h => ?_⟩
  refine PySem.W.methodCall_KW (thn (he.run pins s σ H _ I h) fun u s1 ⟨x, H1, I1, rx, a, c, dx, fs, f, ex, ea, l, em, q⟩ => ?_) (meth_form h0 hs' hn hl)
  subst ex
  obtain rfl : u = Value.ref a := rx
  obtain ⟨fa, hm, DF⟩ := (F c f em).ex
  refine getmeth_ok I1 ea (F c f em).cls hm l ?_
  refine PySem.W.callWith_K (first := [.ref a]) (h₀ := X.base) I.ok.mod.kin hm.kp (thn (ha.run pos pins s1 σ H1 _ I1 q) fun us s2 ⟨vs, H2, I2, r, q2⟩ => ⟨I2.kIn, ?_⟩) (starEach_cons h1 es X.env) (backTo_any hs pos X.env)
  exact run_defS (us := .ref a :: us) (vs := .ref a :: vs) DF hr tk I2 (.cons rfl r) q2
theorem pe_methD0 {o : Expr} {m : Str} {apos pos : Pos} {ta : TE} {dvs : List V} {ds : List Value} (F : ∀ c f, G.meth c m = some f → MetF X C k c m (G.call f) dvs ds) (hr : Room k X.A) (tk : Takes X W)
    (h0 : notCall0 o = true) (hl : (apos.endLine == pos.line) = true) (he : PE X o ta) :
    PE X (.Call (.Attribute o m apos) [] [] pos) (tMethD C G m dvs (WE W) ta tNil) := by
  refine ⟨fun pins s σ H Q I h => ?_⟩
  refine PySem.W.methodCall_KW (thn (he.run pins s σ H _ I h) fun u s1 ⟨x, H1, I1, rx, a, c, dx, fs, f, ex, ea, l, em, q⟩ => ?_) (meth_form h0 rfl (by decide) hl)
  subst ex
  obtain rfl : u = Value.ref a := rx
  obtain ⟨fa, hm, DF⟩ := (F c f em).ex
  refine getmeth_ok I1 ea (F c f em).cls hm l ?_
  exact PySem.W.callWith_K0 (first := [.ref a]) I1.kIn hm.kp (run_defS (us := [.ref a]) (vs := [.ref a]) DF hr tk I1 (.cons rfl .nil) q)
structure MakF (X : Cx) (C : Ct) (k : Nat) (c : Str) (run : List Mn.B → Mn.Hp → Mn.RC) (dvs : List V) (ds : List Value) : Prop where
  ex : ∃ fa, Mk X.K (C.cl c) fa ∧ DefF X C k fa run dvs ds
theorem run_makeD {pins : List (Addr × Obj)} {σ : L2.St} {H : Hp} {s : Shared} {Q : VK} {us : List Value} {vs : List V} {c : Str} {run : List Mn.B → Mn.Hp → Mn.RC} {dvs : List V} {ds : List Value} (F : MakF X C k c run dvs ds) (hr : Room (k + 1) X.A) (tk : Takes X W) (I : Inv X pins σ H s) (r : Vals vs us)
    (h : ∀ x dx, H x = none → H dx = none → dx ≠ x → spOf C run (.ref x :: (vs ++ dvs)) (upd (upd H dx (.own x)) x (.ins (C.cl c) dx [])) (fun v H2 => v = .non ∧ Q (.ref x) H2) (WE W σ)) :
    wpAny (model X.prog X.w) X.A (call (.ref (C.cl c)) us) (EP X pins σ Q) X.xe s := by
  obtain ⟨fa, M, DF⟩ := F.ex
  obtain ⟨fd, ps, F1, F2⟩ := DF.ok
  have hq := h (s.heap.objs.size + 1) s.heap.objs.size (I.hok.fresh (Nat.le_succ _)) (I.hok.fresh (Nat.le_refl _)) (Nat.ne_of_lt (Nat.lt_succ_self _))
  have I2 := Inv.made (C := C.cl c) I
  have r2 : Vals (V.ref (s.heap.objs.size + 1) :: (vs ++ dvs)) (Value.ref (s.heap.objs.size + 1) :: (us ++ ds)) := .cons rfl (r.append DF.dv)
  have hl : (Value.ref (s.heap.objs.size + 1) :: us ++ ds).length = ps.length := by
    have e := r2.length
    rw [F1.len _ _ _ _ hq] at e
    exact e.symm
  refine wpAny_call (make_map (f := fa) I.kIn M.makes M.init (beq_iff_eq.mp M.fn) (codeAny_mono (F1.run _ X.stack _ _ ⟨Value.ref (s.heap.objs.size + 1) :: us, []⟩ (Value.ref (s.heap.objs.size + 1) :: (us ++ ds)) _ _ (WE W σ) (hr.make (C.cl c) us [])
    (I2.env0.make (C.cl c) us []) (F2 _ (Value.ref (s.heap.objs.size + 1) :: us) I2.kIn hl) r2 hq) fun r s' hq' => ?_))
  cases r with
  | error e => exact passAt tk σ pins _ _ e s' I2 hq'
  | ok fl =>
    cases fl with
    | ret u =>
      obtain ⟨v, H', I3, rv, ev, q3⟩ := I2.after hq'
      subst ev
      exact ⟨rv, ⟨V.ref (s.heap.objs.size + 1), H', I3, rfl, q3⟩⟩
    | next => exact False.elim hq'
    | brk => exact False.elim hq'
    | cont => exact False.elim hq'
theorem pe_makeD {c f : Str} {p pos : Pos} {e : Expr} {es : List Expr} {t : TA} {dvs : List V} {ds : List Value} (F : MakF X C k c (G.call f) dvs ds) (hr : Room (k + 1) X.A) (tk : Takes X W) (hg : Gl X c) (hd : (c == ("__debug__" : Str)) = false) (hm : X.mg c = some (.ref (C.cl c)))
    (h1 : notStar e = true) (hs : es.all notStar = true) (ha : PA X (e :: es) t) : PE X (.Call (.Name c p) (e :: es) [] pos) (tMakeD C G c f dvs (WE W) t) := by
  refine ⟨fun pins s σ H Q I h => ?_⟩
  refine wpAny_Call_Name_kw (ld_glob I hg hm ?_ hd)
  obtain ⟨fa, M, DF⟩ := id F.ex
  refine PySem.W.callWith_K (h₀ := X.base) I.ok.mod.kin M.kp (thn (ha.run pos pins s σ H _ I h) fun us s1 ⟨vs, H1, I1, r, q⟩ => ⟨I1.kIn, ?_⟩) (starEach_cons h1 es X.env) (backTo_any hs pos X.env)
  exact run_makeD F hr tk I1 r q
theorem pe_makeD0 {c f : Str} {p pos : Pos} {dvs : List V} {ds : List Value} (F : MakF X C k c (G.call f) dvs ds) (hr : Room (k + 1) X.A) (tk : Takes X W) (hg : Gl X c) (hd : (c == ("__debug__" : Str)) = false) (hm : X.mg c = some (.ref (C.cl c))) :
    PE X (.Call (.Name c p) [] [] pos) (tMakeD C G c f dvs (WE W) tNil) := by
  refine ⟨fun pins s σ H Q I h => ?_⟩
  refine wpAny_Call_Name_kw (ld_glob I hg hm ?_ hd)
  obtain ⟨fa, M, DF⟩ := id F.ex
  exact PySem.W.callWith_K0 I.kIn M.kp (run_makeD (us := []) F hr tk I .nil h)
end
end Ms
end
section
namespace Ms
open PySem PySem.Spec PyProof.Rows L2
section
variable {P : Program} {w : World} {A : Around} {E : Value → Shared → Prop} {s : Shared}
abbrev empSet (w : World) : Obj := { cls := .type "set", dict := none, data := .set #[] 0 (.fresh 0 0 (!w.params.followText "set-order")) }
theorem set_ofList {l : Addr} {items : Array Value} (ns : List Int) {Q : Value → Shared → Prop} (hh : A.handled = none) (il : s.heap.IsList l items) (ia : IntsAre items.toList ns) (hb : ns.length + 1 < scanBound)
    (fin : ∀ (h' : Heap) (tk c : Nat), SetR w h' s.heap.objs.size (fun j => decide (j ∈ ns)) c → c ≤ ns.length → (∀ b o, s.heap.get? b = some o → h'.get? b = some o) → Q (.ref s.heap.objs.size) { s with heap := h', toks := tk }) :
    wpAny (model P w) A (call (.type "set") [.ref l]) Q E s := by
  have size_is : items.size = ns.length := by
    have q := IntsAre.length ia
    rwa [Array.length_toList] at q
  obtain ⟨c, tl, hmro⟩ := F.called_set.mro
  have made := F.called_set.made
  have sb := F.called_set.sub
  refine wpAny_call (codeAny_of_tree (wpAny_pure ⟨Code.quiet_builtin _ (by decide +kernel), codeAny_builtin F.entry_type_call ?_⟩ : wpAny _ _ (callAny (.type "set") _) _ _ _))
  rw [Around.under_plain (weight_type_call_type "set" [.ref l] []) rfl]
  have p1 := F.called_set.notType
  have p2 := F.called_set.canCreate
  have p3 := F.typeCall_set_1 (.ref l)
  (repeat (any_goals (first | assumption | wp_step)))
  let h1 := s.heap.push (empSet w)
  refine codeAny_mono (code_set_led1 (.ref l) (E := E) (Q₁ := fun obj s₁ => obj = .ref s.heap.objs.size ∧ s₁ = { s with heap := h1 }) ⟨rfl, rfl⟩) fun r s₁ hr => ?_
  rcases r with e | fl
  · exact hr
  cases fl with
  | ret obj =>
    obtain ⟨rfl, rfl⟩ := hr
    have at1 : h1.get? s.heap.objs.size = some (empSet w) := Heap.get?_push_size _ rfl
    have ty1 : Shared.TypeIs { s with heap := h1 } (.ref s.heap.objs.size) "set" := ⟨_, at1, rfl⟩
    have q1 := F.called_set.init.lookup
    have q2 := F.called_set.init.bind (.ref s.heap.objs.size)
    (repeat (any_goals (first | assumption | wp_step)))
    refine codeAny_mono (codeAny_call_builtin (R := wants (fun r s₂ => r = .none ∧ ∃ h' tk c, s₂ = { s with heap := h', toks := tk } ∧ SetR w h' s.heap.objs.size (fun j => decide (j ∈ ns)) c ∧ c ≤ ns.length ∧ ∀ b o, s.heap.get? b = some o → h'.get? b = some o) E)
      F.called_set.init.plain F.entry_set_init (check_set_init_1 ty1 ?_)) fun r₂ s₂ hr₂ => ?_
    · obtain ⟨⟨lc, ld, ldt, lsl⟩, lo, hcl, nl, hdl⟩ := il
      dsimp only at hcl hdl
      subst hcl
      subst hdl
      have lo1 := Heap.get?_push_of_some (empSet w) lo
      have s1 := F.sub_list_set
      have s2 := F.sub_list_frozenset
      have ne : (Value.type "list" == Value.type "dict") = false := by decide
      have il1 : h1.IsList l items := ⟨_, lo1, rfl, nl, rfl⟩
      unfold Builtin.«set.__init__» noKeywords Builtin.Frozenset.updateFrom
      generalize hPI : pyIter = PI
      wp_walk
      subst hPI
      refine wpAny_pyIter_list il1 (wpAny_bind (wpAny_runValue ?_))
      have lt : l < s.heap.objs.size := Heap.lt_size lo
      have sz1 : h1.objs.size = s.heap.objs.size + 1 := Heap.size_push ..
      have h3 : A.in1.in1.in1.handled = none := by simp [hh]
      have val : ∀ (i : Nat) (v : Value), items[i]? = some v → ∃ k t, ns[i]? = some k ∧ v = .int k t := fun i v hv => by
        have hi : i < ns.length := size_is ▸ (Array.getElem?_eq_some_iff.mp hv).1
        obtain ⟨t, e⟩ := PyProof.Rows.IntsAre.int_at ia i v (by rw [Array.getElem?_toList]; exact hv)
        exact ⟨ns[i], t, List.getElem?_eq_getElem hi, by rw [e, List.getD_eq_getElem?_getD, List.getElem?_eq_getElem hi] <;> rfl⟩
      have nI : l ≠ h1.objs.size := by rw [sz1]; exact Nat.ne_of_lt (Nat.lt_succ_of_lt lt)
      have nS : s.heap.objs.size ∉ [h1.objs.size, l] := by
        intro z
        rcases List.mem_cons.mp z with z | z
        · rw [sz1] at z
          exact absurd z (Nat.ne_of_lt (Nat.lt_succ_self _))
        · exact absurd (List.mem_singleton.mp z) (Nat.ne_of_gt lt)
      have atI : (h1.push { cls := .type "list_iterator", data := .fields #[.ref l, .int 0 0] }).get? s.heap.objs.size = some (empSet w) := Heap.get?_push_of_some _ at1
      refine set_update_ints ((Walks.list h3 _ l nI items).toS) s.heap.objs.size nS ns size_is hb val (items.size - 0) 0 _ (by omega) (Nat.zero_le _) ⟨⟨_, Heap.get?_push_size _ rfl, rfl, rfl⟩, il1.push _⟩ ⟨0, Nat.le_refl 0, setR_new_at atI⟩ ?_
      rintro ⟨h', g2, d', tk', os'⟩ c' hm hc' hS'
      obtain rfl : g2 = s.gens := hm.gens
      obtain rfl : d' = s.drawn := hm.drawn
      obtain rfl : os' = s.os := hm.os
      refine wpAny_pure (show wpAny _ _ (ret Value.none) _ _ _ from ?_)
      refine wpAny_pure ⟨rfl, h', tk', c', rfl, hS', size_is ▸ hc', fun b o e => ?_⟩
      have b0 : b < s.heap.objs.size := Heap.lt_size e
      refine hm.heap b o (fun z => ?_) (Heap.get?_push_of_some _ (Heap.get?_push_of_some _ e))
      rcases List.mem_cons.mp z with z | z
      · exact Nat.ne_of_lt b0 z
      · rw [List.mem_singleton.mp z, sz1] at b0
        exact absurd b0 (Nat.not_lt.mpr (Nat.le_succ _))
    · rcases r₂ with e | fl₂
      · exact hr₂
      cases fl₂ with
      | ret r =>
        obtain ⟨rfl, h', tk, c, rfl, k1, k2, k3⟩ := hr₂
        (repeat (any_goals (first | assumption | wp_step)))
        exact fin _ _ _ k1 k2 k3
      | _ => exact hr₂.elim
  | _ => exact hr.elim
end
end Ms
end
section
namespace Ms
open PySem PySem.Spec PyProof.Rows L2
def RPs (C : Ct) (μ : List Addr) (H : Hp) : List (Mn.Val × Mn.Val) → List (V × V) → Prop
  | [], vs => vs = []
  | (k, x) :: r, vs => ∃ u v vr, vs = (u, v) :: vr ∧ (∀ μ H, RV C μ H k u) ∧ RV C μ H x v ∧ RPs C μ H r vr
def RPsx (C : Ct) : RelT (List (Mn.Val × Mn.Val)) (List (V × V)) := fun _ μ _ _ H x v => RPs C μ H x v
section
variable {C : Ct} {W : WX} {σ : L2.St} {α β γ δ : Type} {μ₀ μ : List Addr} {ρ₀ ρ : Mn.Slots} {h : Mn.Hp} {H₀ H : Hp} {Q : VK}
theorem w_p0 {Q : List (V × V) → Hp → Prop} (t : TRd C W (RPsx C) (Mn.densP []) σ H Q) : tPairs [] σ H Q := by
  obtain ⟨μ, ρ, h, S, g⟩ := t
  exact g μ H [] S Fra.refl rfl
theorem w_p1 {k : Mn.Val} {kv : V} {m : Mn.Dn} {l : List (Mn.Val × Mn.Dn)} {trs : List (TE × TE)} (rk : ∀ μ H, RV C μ H k kv) (ih : ∀ (H : Hp) (Q : List (V × V) → Hp → Prop), TRd C W (RPsx C) (Mn.densP l) σ H Q → tPairs trs σ H Q)
    {Q : List (V × V) → Hp → Prop} (t : TRd C W (RPsx C) (Mn.densP ((k, m) :: l)) σ H Q) : tPairs ((tC kv, TEv C W m.v) :: trs) σ H Q := by
  obtain ⟨μ, ρ, h, S, g⟩ := t
  refine sub S Fra.refl g fun v H1 μ1 ρ1 h1 b S1 F1 r1 g1 => ?_
  obtain ⟨x, μ2, ρ2, h2, S2, F2, _, rx, g2⟩ := step_toVal S1 F1 r1.1 r1.2 g1
  exact ih H1 _ (sub S2 F2 g2 fun vs H3 μ3 ρ3 h3 xs S3 F3 r3 g3 => g3 μ3 H3 ((kv, v) :: vs) S3 (F2.trans F3) ⟨kv, v, vs, rfl, rk, F3.rv S2 rx, r3⟩)
theorem mergeK_cons (kvs : List (Key × V)) (p : Key × V) (r : List (Key × V)) : mergeK kvs (p :: r) = mergeK (putK kvs p.1 p.2) r := rfl
theorem merge_ok : ∀ {ps : List (Mn.Val × Mn.Val)} {vs : List (V × V)} {acc k : List (Mn.Key × Mn.Val)} {hk : List (Key × V)}, RPs C μ H ps vs → RKs C μ H acc hk → Mn.mergeD acc ps = some k →
    ∃ kvs : List (Key × V), vs = kvs.map (fun kv => (kV kv.1, kv.2)) ∧ kvs.length = ps.length ∧ RKs C μ H k (mergeK hk kvs)
  | [], vs, acc, k, hk, r, ra, e => by
    cases e
    exact ⟨[], r, rfl, ra⟩
  | (a, x) :: r, vs, acc, k, hk, ⟨u, v, vr, ev, rk, rx, rr⟩, ra, e => by
    unfold Mn.mergeD at e
    cases ek : Mn.keyOf a with
    | none => rw [ek] at e; cases e
    | some j =>
      rw [ek] at e
      obtain ⟨kvs, e1, e2, e3⟩ := merge_ok rr (RKs.put j ra rx) e
      have eu : u = kV j := keyOf_ok (rk μ H) ek
      refine ⟨(j, v) :: kvs, ?_, by rw [List.length_cons, List.length_cons, e2], e3⟩
      rw [ev, eu, e1]
      rfl
theorem densP_len : ∀ {l : List (Mn.Val × Mn.Dn)} {ρ ρ' : Mn.Slots} {h h' : Mn.Hp} {ps : List (Mn.Val × Mn.Val)}, Mn.densP l ρ h = .ok ps ρ' h' → ps.length = l.length
  | [], _, _, _, _, _, e => by cases e; rfl
  | (k, m) :: l, ρ, ρ', h, h', ps, e => by
    unfold Mn.densP Mn.bind at e
    cases e1 : m.v ρ h with
    | bad => rw [e1] at e; cases e
    | err c s hh => rw [e1] at e; cases e
    | ok b s1 h1 =>
      rw [e1] at e
      dsimp only at e
      cases e2 : Mn.toVal b s1 h1 with
      | bad => rw [e2] at e; cases e
      | err c s hh => rw [e2] at e; cases e
      | ok x s2 h2 =>
        rw [e2] at e
        dsimp only at e
        cases e3 : Mn.densP l s2 h2 with
        | bad => rw [e3] at e; cases e
        | err c s hh => rw [e3] at e; cases e
        | ok xs s3 h3 =>
          rw [e3] at e
          cases e
          rw [List.length_cons, List.length_cons, densP_len e3]
theorem w_dct {l : List (Mn.Val × Mn.Dn)} {trs : List (TE × TE)} (h15 : l.length ≤ 15) (ih : ∀ (H : Hp) (Q : List (V × V) → Hp → Prop), TRd C W (RPsx C) (Mn.densP l) σ H Q → tPairs trs σ H Q) (t : TEv C W (Mn.dctM l) σ H Q) : tDisp trs σ H Q := by
  obtain ⟨μ, ρ, h, S, g⟩ := t
  intro p hp
  have S1 : Sta C μ ρ h σ (upd H p (.dK [])) := S.beside hp
  have F1 : Fra μ ρ σ H μ ρ σ (upd H p (.dK [])) := Fra.beside hp
  have np : p ∉ μ := fun z => mem_ne (o := .dK []) S hp (.inl z) rfl
  have op : ¬ Own ρ σ p := fun z => mem_ne (o := .dK []) S hp (.inr z) rfl
  refine ih _ _ ?_
  unfold Mn.dctM at g
  refine ⟨μ, ρ, h, S1, ?_⟩
  unfold Mn.bind at g
  cases e : Mn.densP l ρ h with
  | bad => rw [e] at g; exact g.elim
  | err c ρ1 h1 =>
    rw [e] at g
    exact fun μ1 H1 S2 F2 => g μ1 H1 S2 (F1.trans F2)
  | ok ps ρ1 h1 =>
    rw [e] at g
    intro μ1 H1 vs S2 F2 r
    obtain ⟨k1, k2, k3⟩ := F2.keep p _ upd_same np op
    have g1 : Good C W σ (RBx C) μ ρ H Q (Mn.mkD ps ρ1 h1) := g
    unfold Mn.mkD at g1
    cases em : Mn.mergeD [] ps with
    | none => rw [em] at g1; exact g1.elim
    | some k =>
      rw [em] at g1
      obtain ⟨kvs, e1, e2, e3⟩ := merge_ok (hk := []) r (show RKs C μ1 H1 [] [] from rfl) em
      have od : Ours (H1 p) := .inr (.inl ⟨_, k1⟩)
      refine ⟨k1, kvs, e1, by rw [e2, densP_len e]; exact h15, ?_⟩
      refine g1 μ1 _ (.ref p) (Sta.updD S2 od k2 k3) ((F1.trans F2).upd_new hp) ⟨⟨p, _, rfl, upd_same, rks_upd od e3, k2, k3⟩, fun _ a ea => by cases ea; exact hp⟩
end
section
variable {X : Cx}
def rCntV (K : PySem.W.Frag) : V → List V → Hp → VK → Prop := fun x xs H Q => ∃ (p : Addr) (ys : List V) (y : V), x = .ref p ∧ xs = [y] ∧ SqL K H p ys ∧ flatV y = true ∧ ys.all flatV = true ∧ Q (.int ((ys.countP fun z => eqV z y : Nat) : Int)) H
theorem countP_eqU {x : V} {xs : List V} {us : List Value} (r : Vals xs us) : xs.all flatV = true → us.countP (eqU x) = xs.countP fun y => eqV y x := by
  unfold Vals at r
  induction r with
  | nil => exact fun _ => rfl
  | cons r t ih =>
    intro f
    rw [List.all_cons, Bool.and_eq_true] at f
    rw [List.countP_cons, List.countP_cons, ih f.2, eqU_of r f.1]
theorem mt_lcountV : MtR X "list.count" (rCntV X.K) := by
  intro pins s σ H x xs v us Q I rx rxs h
  obtain ⟨p, ys, y, rfl, rfl, hs, fy, fs, q⟩ := h
  obtain rfl : v = Value.ref p := rx
  cases rxs with
  | cons ry rt =>
    rename_i u ut
    cases rt
    obtain ⟨its, rv, pl, hz⟩ := I.list hs
    obtain ⟨⟨cls, dd, data, sl⟩, n, ho, hc, hdn, hd⟩ := pl
    dsimp only at hc hd
    subst hc
    subst hd
    have me := mem_eqAt (A := X.A.in1) (s := s) ry fy rv fs
    refine call_meets PySem.F.slot_list_count ⟨_, ho, rfl⟩ PySem.F.entry_list_count (PySem.F.args_list_count_2 _ _) (SeqAt.list_countAt p its.toArray n dd sl u (eqU y)) ⟨ho, fun z hz => mem_eqAt ry fy rv fs z (by simpa using hz), ?_⟩
    refine ⟨.int ((ys.countP fun z => eqV z y : Nat) : Int), H, I.tok _, ⟨s.toks, ?_⟩, q⟩
    have e : its.toArray.toList.countP (eqU y) = ys.countP fun z => eqV z y := countP_eqU rv fs
    exact congrArg (fun k : Nat => Value.int (k : Int) s.toks) e
end
section
variable {C : Ct} {W : WX} {σ : L2.St} {α β γ δ : Type} {μ₀ μ : List Addr} {ρ₀ ρ : Mn.Slots} {h : Mn.Hp} {H₀ H : Hp} {Q : VK}
theorem step_lstG {R2 : RelT γ δ} {b : Mn.B} {f : Mn.M γ} {Q2 : δ → Hp → Prop} (g : Good C W σ R2 μ₀ ρ₀ H₀ Q2 (Mn.bind (Mn.lstB b) (fun _ => f) ρ h)) : (∃ l, Mn.view ρ h b = some (.lst l)) ∧ Good C W σ R2 μ₀ ρ₀ H₀ Q2 (f ρ h) := by
  unfold Mn.lstB at g
  rw [bind_assoc] at g
  obtain ⟨w, e, g2⟩ := step_view g
  cases w with
  | lst l => exact ⟨⟨l, e⟩, g2⟩
  | _ => exact g2.elim
theorem step_dicG {R2 : RelT γ δ} {b : Mn.B} {f : Mn.M γ} {Q2 : δ → Hp → Prop} (g : Good C W σ R2 μ₀ ρ₀ H₀ Q2 (Mn.bind (Mn.dicB b) (fun _ => f) ρ h)) : (∃ l, Mn.view ρ h b = some (.dic l)) ∧ Good C W σ R2 μ₀ ρ₀ H₀ Q2 (f ρ h) := by
  unfold Mn.dicB at g
  rw [bind_assoc] at g
  obtain ⟨w, e, g2⟩ := step_view g
  cases w with
  | dic l => exact ⟨⟨l, e⟩, g2⟩
  | _ => exact g2.elim
theorem step_strG {R2 : RelT γ δ} {b : Mn.B} {f : Mn.M γ} {Q2 : δ → Hp → Prop} (g : Good C W σ R2 μ₀ ρ₀ H₀ Q2 (Mn.bind (Mn.strB b) (fun _ => f) ρ h)) : (∃ z, Mn.view ρ h b = some (.val (.str z))) ∧ Good C W σ R2 μ₀ ρ₀ H₀ Q2 (f ρ h) := by
  unfold Mn.strB at g
  rw [bind_assoc] at g
  obtain ⟨w, e, g2⟩ := step_view g
  cases w with
  | val x =>
    cases x with
    | str z => exact ⟨⟨z, e⟩, g2⟩
    | _ => exact g2.elim
  | _ => exact g2.elim
theorem firstAt_ok {d : PyData} : ∀ {ds : List PyData} {n i : Nat}, Mn.firstAt d n ds = some i → ∃ j z, i = n + j ∧ ds[j]? = some z ∧ PyData.eqv z d = true ∧ ∀ (m : Nat) (z' : PyData), m < j → ds[m]? = some z' → PyData.eqv z' d = false
  | [], _, _, e => by cases e
  | y :: r, n, i, e => by
    unfold Mn.firstAt at e
    by_cases c : PyData.eqv y d = true
    · rw [if_pos c] at e
      cases e
      exact ⟨0, y, rfl, rfl, c, fun m z' hm => absurd hm (Nat.not_lt_zero _)⟩
    · rw [if_neg c] at e
      obtain ⟨j, z, e1, e2, e3, e4⟩ := firstAt_ok e
      refine ⟨j + 1, z, by omega, by simpa using e2, e3, fun m z' hm hz => ?_⟩
      cases m with
      | zero =>
        simp at hz
        subst hz
        simpa using c
      | succ m => exact e4 m z' (by omega) (by simpa using hz)
theorem w_index {o a : Mn.M Mn.B} (t : TEv C W (Mn.two Mn.lstB Mn.indexV o a) σ H Q) : tBM C.K "list" (rIndexD C.K) (TEv C W o) (tCons (TEv C W a) tNil) σ H Q := by
  obtain ⟨μ, ρ, h, S, g⟩ := t
  refine sub S Fra.refl g fun x H1 μ1 ρ1 h1 b S1 F1 r1 g1 => ?_
  obtain ⟨⟨l0, e0⟩, g2⟩ := step_lstG g1
  obtain ⟨a0, hs0, ex, q0, _⟩ := view_ok S1 r1.1 e0
  subst ex
  refine ⟨.inl ⟨rfl, hs0, .inl q0⟩, sub S1 F1 g2 fun y H2 μ2 ρ2 h2 b2 S2 F2 r2 g3 => ?_⟩
  obtain ⟨v, w, e1, e2, g4⟩ := step_op2 g3
  unfold Mn.indexV at g4
  cases v with
  | lst l =>
    dsimp only at g4
    cases ed : Mn.toDW h2 w with
    | none => rw [ed] at g4; exact g4.elim
    | some d =>
      cases es : Mn.mapO (Mn.toD h2 59) l with
      | none => rw [ed, es] at g4; exact g4.elim
      | some ds =>
        rw [ed, es] at g4
        dsimp only at g4
        cases ef : Mn.firstAt d 0 ds with
        | none => rw [ef] at g4; exact g4.elim
        | some i =>
          rw [ef] at g4
          obtain ⟨j, z, ei, e3, e4, e5⟩ := firstAt_ok ef
          have rl := view_ok S2 (F2.rb S1 r1.1) e1
          obtain ⟨a1, hs1, ea, q1, rr⟩ := id rl
          cases ea
          obtain ⟨k1, k2⟩ := toDW_ok S2 (view_ok S2 r2.1 e2) ed
          obtain ⟨k3, k4⟩ := toDW_ok S2 (w := .lst l) (d := .list ds) rl (by show (Mn.mapO (Mn.toD h2 59) l).map PyData.list = _; rw [es]; rfl)
          refine ⟨a0, y, d, ds, j, z, rfl, rfl, k3, k1, k4, k2, e3, e4, e5, ?_⟩
          have ej : i = j := by omega
          subst ej
          exact g4 μ2 H2 _ S2 (F1.trans F2) ⟨rfl, fun z => z.elim⟩
  | val v => exact g4.elim
  | dic v => exact g4.elim
theorem countP_bl (bs : List Bool) (b : Bool) : ((bs.map V.bl).countP fun z => eqV z (.bl b)) = bs.count b := by
  rw [List.countP_map, List.count]
  rfl
theorem flat_bl : ∀ bs : List Bool, (bs.map V.bl).all flatV = true
  | [] => rfl
  | b :: r => by rw [List.map_cons, List.all_cons, flat_bl r]; rfl
theorem w_count {o a : Mn.M Mn.B} (t : TEv C W (Mn.two Mn.lstB Mn.countV o a) σ H Q) : tBM C.K "list" (rCntV C.K) (TEv C W o) (tCons (TEv C W a) tNil) σ H Q := by
  obtain ⟨μ, ρ, h, S, g⟩ := t
  refine sub S Fra.refl g fun x H1 μ1 ρ1 h1 b S1 F1 r1 g1 => ?_
  obtain ⟨⟨l0, e0⟩, g2⟩ := step_lstG g1
  obtain ⟨a0, hs0, ex, q0, _⟩ := view_ok S1 r1.1 e0
  subst ex
  refine ⟨.inl ⟨rfl, hs0, .inl q0⟩, sub S1 F1 g2 fun y H2 μ2 ρ2 h2 b2 S2 F2 r2 g3 => ?_⟩
  obtain ⟨v, w, e1, e2, g4⟩ := step_op2 g3
  unfold Mn.countV at g4
  cases v with
  | lst l =>
    cases w with
    | val w =>
      cases w with
      | bl c =>
        dsimp only at g4
        cases eb : Mn.allBools l with
        | none => rw [eb] at g4; exact g4.elim
        | some bs =>
          rw [eb] at g4
          obtain ⟨a1, hs1, ea, q1, rr⟩ := view_ok S2 (F2.rb S1 r1.1) e1
          cases ea
          have ry : y = V.bl c := view_ok S2 r2.1 e2
          have eh := RVs.bools rr eb
          subst eh
          refine ⟨a0, bs.map V.bl, .bl c, rfl, by rw [ry], .inl q1, rfl, flat_bl bs, ?_⟩
          rw [countP_bl]
          exact g4 μ2 H2 _ S2 (F1.trans F2) ⟨rfl, fun z => z.elim⟩
      | _ => exact g4.elim
    | _ => exact g4.elim
  | val v => exact g4.elim
  | dic v => exact g4.elim
theorem view_str {b : Mn.B} {x : V} {z : Str} (S : Sta C μ ρ h σ H) (r : RB C μ ρ σ H b x) (e : Mn.view ρ h b = some (.val (.str z))) : x = .str z ∧ PyData.strOk z = true := view_ok S r e
theorem strOk_joinS {y : Str} (oy : PyData.strOk y = true) : ∀ {ys : List Str}, (∀ x ∈ ys, PyData.strOk x = true) → PyData.strOk (Str.join y ys) = true
  | [], _ => (by decide +kernel : PyData.strOk Str.empty = true)
  | [x], h => h x (by simp)
  | x :: z :: r, h => by
    show PyData.strOk (x ++ y ++ Str.join y (z :: r)) = true
    exact strOk_append (strOk_append (h x (by simp)) oy) (strOk_joinS oy fun w hw => h w (by simp [hw]))
theorem strOk_join {y : Str} (oy : PyData.strOk y = true) {ys : List Str} (h : ∀ x ∈ ys, PyData.strOk x = true) : PyData.strOk (Txt.join y ys) = true := by
  rw [TL.join_eq]
  exact strOk_joinS oy h
theorem w_join {o a : Mn.M Mn.B} (t : TEv C W (Mn.two Mn.strB Mn.joinV o a) σ H Q) : tM1 (fun x xs H Q => ∃ a p, ∃ ys : List Str, x = .str a ∧ xs = [.ref p] ∧ (SqL C.K H p (ys.map V.str) ∨ SqT C.K H p (ys.map V.str)) ∧
      (ys.map (·.length)).sum + ys.length * a.length ≤ 16777216 ∧ Q (.str (Txt.join a ys)) H) (TEv C W o) (TEv C W a) σ H Q := by
  obtain ⟨μ, ρ, h, S, g⟩ := t
  refine sub S Fra.refl g fun x H1 μ1 ρ1 h1 b S1 F1 r1 g1 => ?_
  obtain ⟨⟨z0, e0⟩, g2⟩ := step_strG g1
  obtain ⟨ex, _⟩ := view_str S1 r1.1 e0
  subst ex
  refine ⟨⟨_, rfl⟩, sub S1 F1 g2 fun y H2 μ2 ρ2 h2 b2 S2 F2 r2 g3 => ?_⟩
  obtain ⟨v, w, e1, e2, g4⟩ := step_op2 g3
  unfold Mn.joinV at g4
  cases v with
  | val v =>
    cases v with
    | str z =>
      dsimp only at g4
      obtain ⟨ez, oz⟩ := view_str S2 (F2.rb S1 r1.1) e1
      obtain rfl : z = z0 := (V.str.inj ez).symm
      cases es : (Mn.seqOf w).bind Mn.allStrs with
      | none => rw [es] at g4; exact g4.elim
      | some ys =>
        rw [es] at g4
        dsimp only at g4
        by_cases c : (ys.map (·.length)).sum + ys.length * z.length ≤ Mn.limit
        · rw [if_pos c] at g4
          obtain ⟨l, el, ey⟩ := Option.bind_eq_some_iff.mp es
          have rw2 := view_ok S2 r2.1 e2
          have fin : ∀ {hs : List V}, RVs C μ2 H2 l hs → hs = ys.map V.str ∧ Q (.str (Txt.join z ys)) H2 := fun {hs} rr => by
            obtain ⟨k1, k2⟩ := RVs.strs rr ey
            exact ⟨k1, g4 μ2 H2 _ S2 (F1.trans F2) ⟨⟨rfl, strOk_join oz k2⟩, fun z => z.elim⟩⟩
          cases w with
          | lst q =>
            cases el
            obtain ⟨p, hs, rfl, q2, rr⟩ := rw2
            obtain ⟨k1, k2⟩ := fin rr
            exact ⟨z, p, ys, rfl, rfl, .inl (by rw [← k1]; exact .inl q2), c, k2⟩
          | val w =>
            cases w with
            | tup q =>
              cases el
              obtain ⟨p, hs, rfl, q2, rr⟩ := rw2
              obtain ⟨k1, k2⟩ := fin rr
              exact ⟨z, p, ys, rfl, rfl, .inr (by rw [← k1]; exact q2), c, k2⟩
            | _ => cases el
          | dic q => cases el
        · rw [if_neg c] at g4; exact g4.elim
    | _ => exact g4.elim
  | _ => exact g4.elim
def tSset (K : PySem.W.Frag) (te : TE) : TE := fun σ H Q => te σ H fun x H1 => ∃ (p : Addr) (ns : List Int), x = .ref p ∧ (SqL K H1 p (ns.map V.int) ∨ SqT K H1 p (ns.map V.int)) ∧ ns.length < 64 ∧
  ∀ l, H1 l = none → Q (.ref l) (upd H1 l (.lst ((Mn.sortO Mn.leI (Mn.dedup ns)).map V.int)))
theorem run_sset {X : Cx} {pins : List (Addr × Obj)} {σ : L2.St} {H : Hp} {s s1 : Shared} {a : Addr} {ns : List Int} {n : Nat} {Q : VK} (hc : X.calm = true) (I : Inv X pins σ H s) (k0 : ∀ b o, s.heap.get? b = some o → s1.heap.get? b = some o) (e0 : s1 = { s with heap := s1.heap, toks := s1.toks })
    (R : SetR X.w s1.heap a (fun j => decide (j ∈ ns)) n) (h64 : n < 64) (q : ∀ l, H l = none → Q (.ref l) (upd H l (.lst ((Mn.sortO Mn.leI (Mn.dedup ns)).map V.int)))) :
    wpAny (model X.prog X.w) X.A (call (.builtin "sorted") [.ref a]) (EP X pins σ Q) X.xe s1 := by
  have I1 : Inv X pins σ H s1 := by
    rw [e0]
    exact I.kept k0
  refine sorted_set R (I.ok.hd hc) h64 fun s' p out c ms k g o hp hg hi hs hm hl => ?_
  have em : ms = Mn.sortO Mn.leI (Mn.dedup ns) := set_is hs fun x => by rw [hm x]; exact decide_eq_true_iff
  have small : (ms.map V.int).length ≤ sizeLine := by
    rw [List.length_map, hl, sizeLine_eq]
    omega
  have free : H p = none := I1.hok.fresh hp
  have J : Inv X pins σ (upd H p (.lst (ms.map V.int))) { s1 with heap := s'.heap, gens := s'.gens, drawn := s'.drawn, toks := s'.toks } :=
    I1.call (ch := []) (Un.laid k hp free) (I1.hok.laid k hp ⟨small, out.toList, c, vals_of_ints hi, hg⟩) (by rw [g]; exact I1.bare) (fun _ z => nomatch z)
  have e : s' = { s1 with heap := s'.heap, gens := s'.gens, drawn := s'.drawn, toks := s'.toks } := by
    cases s'
    cases s1
    cases o
    rfl
  rw [e]
  refine ⟨.ref p, _, J, rfl, ?_⟩
  rw [em]
  exact q p free
theorem pe_sset {X : Cx} {e : Expr} {te : TE} {p p2 q pos : Pos} (hc : X.calm = true) (hg : Gl X "sorted") (hm : X.mg "sorted" = none) (hg2 : Gl X "set") (hm2 : X.mg "set" = none) (ha : PE X e te) (hn : notStar e = true) :
    PE X (.Call (.Name "sorted" p) [.Call (.Name "set" p2) [e] [] q] [] pos) (tSset X.K te) := by
  refine ⟨fun pins s σ H Q I h => ?_⟩
  have na := starEach_cons hn [] X.env
  refine Call_ (ld_blt I hg hm (by rfl) ?_)
  refine PyProof.Rows.callWith_builtin1 (PyProof.Rows.args_cons (Call_ (ld_blt I hg2 hm2 PyProof.Rows.boot_set ?_)) rfl) rfl rfl
  refine PyProof.Rows.callWith_type1 (PyProof.Rows.args_cons (thn (ha.run pins s σ H _ I h) fun v s1 ⟨x, H1, I1, r1, q1⟩ => PyProof.Rows.args_nil ?_) na) na rfl
  obtain ⟨a, ns, rfl, hq, h64, q1⟩ := q1
  obtain rfl : v = Value.ref a := r1
  have hb : ns.length + 1 < scanBound := by unfold scanBound; omega
  rcases hq with hq | hq
  · obtain ⟨its, r, pl, hz⟩ := I1.list hq
    exact set_ofList ns (I1.ok.hd hc) pl.isList (intsAre_of r) hb fun h' tk c R hc' k => PyProof.Rows.args_nil (run_sset hc I1 k rfl R (Nat.lt_of_le_of_lt hc' h64) q1)
  · obtain ⟨its, r, pl, hz⟩ := I1.tuple hq
    exact call_set_tupI ns (I1.ok.hd hc) pl (intsAre_of r) hb fun h' tk c R hc' k => PyProof.Rows.args_nil (run_sset hc I1 k rfl R (Nat.lt_of_le_of_lt hc' h64) q1)
theorem w_sset {G : Mn.Env} {a : Mn.M Mn.B} (t : TEv C W (Mn.bind a fun x => Mn.bind (Mn.viewM x) fun w => Mn.f1V .sset w) σ H Q) : tSset C.K (TEv C W a) σ H Q := by
  obtain ⟨μ, ρ, h, S, g⟩ := t
  refine sub S Fra.refl g fun x H1 μ1 ρ1 h1 b S1 F1 r1 g1 => ?_
  obtain ⟨w, e1, g2⟩ := step_view g1
  unfold Mn.f1V at g2
  dsimp only at g2
  cases es : Mn.seqOf w with
  | none => rw [es] at g2; exact g2.elim
  | some l =>
    rw [es] at g2
    dsimp only at g2
    cases ei : Mn.allInts l with
    | none => rw [ei] at g2; exact g2.elim
    | some ns =>
      rw [ei] at g2
      dsimp only at g2
      by_cases c : ns.length < 64
      · rw [if_pos c] at g2
        have rw1 := view_ok S1 r1.1 e1
        have fin : ∀ l', H1 l' = none → Q (.ref l') (upd H1 l' (.lst ((Mn.sortO Mn.leI (Mn.dedup ns)).map V.int))) := fun l' hl' => fin_l S1 F1 g2 (RVs.ofInts _) l' hl'
        cases w with
        | lst q =>
          cases es
          obtain ⟨p, hs, rfl, q2, rr⟩ := rw1
          exact ⟨p, ns, rfl, .inl (by rw [← RVs.ints rr ei]; exact .inl q2), c, fin⟩
        | val w =>
          cases w with
          | tup q =>
            cases es
            obtain ⟨p, hs, rfl, q2, rr⟩ := rw1
            exact ⟨p, ns, rfl, .inr (by rw [← RVs.ints rr ei]; exact q2), c, fin⟩
          | _ => cases es
        | dic q => cases es
      · rw [if_neg c] at g2; exact g2.elim
end
end Ms
end
section
namespace Ms
open PySem PySem.Spec PyProof.Rows L2
section
variable {C : Ct} {W : WX} {σ : L2.St} {γ δ : Type} {μ₀ μ μ' : List Addr} {ρ₀ ρ ρ' : Mn.Slots} {h h' : Mn.Hp} {H₀ H H' : Hp} {Q : VK}
theorem RBl.app {cs : List Mn.B} {ws : List V} (S : Sta C μ ρ h σ H) (F : Fra μ ρ σ H μ' ρ' σ H') (F0 : ∀ a, H a = none → H₀ a = none) : ∀ {bs : List Mn.B} {vs : List V}, RBl C H₀ μ ρ σ H bs vs → RBl C H μ' ρ' σ H' cs ws → RBl C H₀ μ' ρ' σ H' (bs ++ cs) (vs ++ ws)
  | [], vs, r, r2 => by
    rw [show vs = [] from r]
    have k : ∀ {bs : List Mn.B} {vs : List V}, RBl C H μ' ρ' σ H' bs vs → RBl C H₀ μ' ρ' σ H' bs vs := by
      intro bs
      induction bs with
      | nil => exact fun r => r
      | cons b r ih =>
        rintro vs ⟨v, vr, e, k1, k2, k3, k4⟩
        exact ⟨v, vr, e, k1, k2, fun o a e => ⟨F0 a (k3 o a e).1, (k3 o a e).2⟩, ih k4⟩
    exact k r2
  | b :: r, vs, ⟨v, vr, e, k1, k2, k3, k4⟩, r2 => by
    subst e
    refine ⟨v, vr ++ ws, rfl, F.rb S k1, k2, fun o a e => ⟨(k3 o a e).1, fun j c e1 o1 e2 => ?_⟩, RBl.app S F F0 k4 r2⟩
    have e1 : (r ++ cs)[j]? = some c := e1
    by_cases hj : j < r.length
    · rw [List.getElem?_append_left hj] at e1
      rw [List.getElem?_append_left (by rw [← k4.length]; exact hj)] at e2
      exact (k3 o a e).2 j c e1 o1 e2
    · have hl := k4.length
      rw [List.getElem?_append_right (by omega)] at e1
      rw [List.getElem?_append_right (by omega), ← hl] at e2
      obtain ⟨u, e3, _, _, n⟩ := RBl.get r2 e1
      rw [e2] at e3
      cases e3
      obtain ⟨a', w, e4, e5, _⟩ := own_some k1 o
      rw [e] at e4
      cases e4
      rw [n o1 a rfl] at e5
      cases e5
theorem densA_two (q : List Mn.Dn) : ∀ l : List Mn.Dn, Mn.densA (l ++ q) = Mn.bind (Mn.densA l) fun xs => Mn.bind (Mn.densA q) fun ys => Mn.ret (xs ++ ys)
  | [] => by
    show Mn.densA q = Mn.bind (Mn.densA q) fun ys => Mn.ret ([] ++ ys)
    funext s h
    unfold Mn.bind
    cases Mn.densA q s h <;> rfl
  | m :: l => by
    rw [List.cons_append]
    show Mn.bind m.v (fun b => Mn.bind (Mn.toArg b) fun x => Mn.bind (Mn.densA (l ++ q)) fun xs => Mn.ret (x :: xs)) = Mn.bind (Mn.bind m.v fun b => Mn.bind (Mn.toArg b) fun x => Mn.bind (Mn.densA l) fun xs => Mn.ret (x :: xs)) fun xs => Mn.bind (Mn.densA q) fun ys => Mn.ret (xs ++ ys)
    rw [densA_two q l]
    simp only [bind_assoc, ret_bind, List.cons_append]
def tCallKS (sp : Sp) (E : L2.St → XK) (t tk : TA) : TE := fun σ H Q => t σ H fun vs H1 => tk σ H1 fun zs H2 => sp (vs ++ zs) H2 Q (E σ)
theorem w_callK {G : Mn.Env} {f : Str} {l q : List Mn.Dn} (t : TEv C W (Mn.callM G f (l ++ q)) σ H Q) : tCallKS (spOf C (G.call f)) (WE W) (TRd C W (RBsx C) (Mn.densA l)) (TRd C W (RBsx C) (Mn.densA q)) σ H Q := by
  obtain ⟨μ, ρ, h, S, g⟩ := t
  unfold Mn.callM at g
  rw [densA_two, bind_assoc] at g
  refine sub S Fra.refl g fun vs H1 μ1 ρ1 h1 bs S1 F1 r1 g1 => ?_
  rw [bind_assoc] at g1
  refine sub S1 F1 g1 fun zs H2 μ2 ρ2 h2 cs S2 F2 r2 g2 => ?_
  have r3 := RBl.app S1 F2 F1.live r1 r2
  exact ⟨μ2, bs ++ cs, h2, S2.args r3, ended_of (bs := bs ++ cs) S2 (F1.trans F2) r3 g2⟩
def tMethKS (C : Ct) (G : Mn.Env) (m : Str) (E : L2.St → XK) (ta : TE) (t tk : TA) : TE := fun σ H Q => ta σ H fun x H1 => ∃ a c dx fs f, x = V.ref a ∧ H1 a = some (.ins (C.cl c) dx fs) ∧ fs.lookup m = none ∧ G.meth c m = some f ∧
  t σ H1 fun vs H2 => tk σ H2 fun zs H3 => spOf C (G.call f) (x :: (vs ++ zs)) H3 Q (E σ)
theorem RBl.back (F : ∀ a, H a = none → H₀ a = none) {bs : List Mn.B} : ∀ {vs : List V}, RBl C H μ ρ σ H' bs vs → RBl C H₀ μ ρ σ H' bs vs := by
  induction bs with
  | nil => exact fun r => r
  | cons b r ih =>
    rintro vs ⟨v, vr, e, k1, k2, k3, k4⟩
    exact ⟨v, vr, e, k1, k2, fun o a e => ⟨F a (k3 o a e).1, (k3 o a e).2⟩, ih k4⟩
theorem w_methK {G : Mn.Env} {m : Str} {o : Mn.M Mn.B} {l q : List Mn.Dn} (t : TEv C W (Mn.methM G o m (l ++ q)) σ H Q) : tMethKS C G m (WE W) (TEv C W o) (TRd C W (RBsx C) (Mn.densA l)) (TRd C W (RBsx C) (Mn.densA q)) σ H Q := by
  obtain ⟨μ, ρ, h, S, g⟩ := t
  refine sub S Fra.refl g fun x H1 μ1 ρ1 h1 b S1 F1 r1 g1 => ?_
  obtain ⟨v, rfl, g2⟩ := step_asVal g1
  unfold Mn.bind Mn.methV at g2
  cases v with
  | ref i =>
    dsimp only at g2
    cases eo : h1[i]? with
    | none => rw [eo] at g2; exact g2.elim
    | some ob =>
      rw [eo] at g2
      cases ob with
      | ins c fs =>
        dsimp only at g2
        obtain ⟨p, dx, hf, rfl, q0, r⟩ := ins_at S1 r1.1 eo
        rcases RFs.look m r with ⟨k1, k2⟩ | ⟨y, v, k1, k2, k3⟩
        · rw [k1] at g2
          cases em : G.meth c m with
          | none =>
            dsimp only at g2
            rw [em] at g2
            exact g2.elim
          | some f =>
            dsimp only at g2
            rw [em] at g2
            dsimp only at g2
            refine ⟨p, c, dx, hf, f, rfl, q0, k2, em, ?_⟩
            have g3 : Good C W σ (RBx C) μ ρ H Q (Mn.bind (Mn.densA (l ++ q)) (fun xs => Mn.doCall G f (.v (.ref i) :: xs)) ρ1 h1) := g2
            rw [densA_two, bind_assoc] at g3
            refine sub S1 F1 g3 fun vs H2 μ2 ρ2 h2 bs S2 F2 r2 g4 => ?_
            rw [bind_assoc] at g4
            refine sub S2 (F1.trans F2) g4 fun zs H3 μ3 ρ3 h3 cs S3 F3 r3 g5 => ?_
            have r4 : RBl C H μ3 ρ3 σ H3 (bs ++ cs) (vs ++ zs) := RBl.back F1.live (RBl.app S2 F3 F2.live r2 r3)
            have r5 : RBl C H μ3 ρ3 σ H3 (Mn.B.v (.ref i) :: (bs ++ cs)) (V.ref p :: (vs ++ zs)) := ⟨_, _, rfl, F3.rv S2 (F2.rv S1 r1.1), (fun i z => by cases z), fun z => z.elim, r4⟩
            exact ⟨μ3, Mn.B.v (.ref i) :: (bs ++ cs), h3, S3.args r5, ended_of (bs := Mn.B.v (.ref i) :: (bs ++ cs)) S3 ((F1.trans F2).trans F3) r5 g5⟩
        · rw [k1] at g2; exact g2.elim
      | _ => exact g2.elim
  | _ => exact g2.elim
theorem w_k0 {Q : List V → Hp → Prop} (t : TRd C W (RBsx C) (Mn.densA []) σ H Q) : tNil σ H Q := w_a0 t
end
section
variable (P : Program) (w : World) (K : PySem.W.Frag) (mg : Str → Option Value) (base : Heap) (C : Ct)
structure DefP (k : Nat) (fa : Addr) (run : List Mn.B → Mn.Hp → Mn.RC) (dvs : List V) (ds : List Value) : Prop where
  kp : PySem.W.keepIn K (.ref fa) = true
  ok : ∃ (fd : FuncData) (ps : List Str), FnOk P w K mg base (L2.CX P w) k fa fd ps (spOf C run) ∧ Binds K fd ps ds
  dv : Vals dvs ds
structure KwP (k : Nat) (fa : Addr) (run : List Mn.B → Mn.Hp → Mn.RC) (n : Nat) (ks : List Str) : Prop where
  kp : PySem.W.keepIn K (.ref fa) = true
  ok : ∃ (fd : FuncData) (ps : List Str), FnOk P w K mg base (L2.CX P w) k fa fd ps (spOf C run) ∧ n + ks.length = ps.length ∧
    ∀ (s : Shared) (us ws : List Value), K.In s.heap → us.length = n → ws.length = ks.length → BindsTo s fd ⟨us, ks.zip ws⟩ (ps.zip (us ++ ws))
structure Tx where
  blts : List Str
  dfl : Str → List Mn.Val → Bool
  kwd : Str → Nat → List Str → Bool
  mdfl : Str → List Mn.Val → Bool
  mkwd : Str → Nat → List Str → Bool
  cdfl : Str → List Mn.Val → Bool
  ty : Str → Bool
  glo : Str → Bool
  gdc : Str → Bool
  att : Str → Bool
  init : Str → Option Str
  exn : Str → Bool
  hnd : Str → Bool
def NamV (mg : Str → Option Value) (x : Str) (u : Value) : Prop := mg x = some u ∨ (mg x = none ∧ bootBuiltins x = some u ∧ x ≠ "__name__")
structure TxF (G : Mn.Env) (T : Tx) (k : Nat) : Prop where
  blt : ∀ x, T.blts.contains x = true → mg x = none
  glo : ∀ x, T.glo x = true → ∃ v y u, G.gv x = some v ∧ mg x = some u ∧ RelV y u ∧ ∀ μ H, RV C μ H v y
  gdc : ∀ d, T.gdc d = true → ∃ a, mg d = some (.ref a) ∧ GdF C w G d a
  dfl : ∀ f ys, T.dfl f ys = true → ∃ fa dvs ds, mg f = some (.ref fa) ∧ RDs C ys dvs ∧ DefP P w K mg base C k fa (G.call f) dvs ds
  kwd : ∀ f n ks, T.kwd f n ks = true → ∃ fa, mg f = some (.ref fa) ∧ KwP P w K mg base C k fa (G.call f) n ks
  mdfl : ∀ m ys, T.mdfl m ys = true → ∃ dvs ds, RDs C ys dvs ∧ ∀ c f, G.meth c m = some f → Cls K (C.cl c) ∧ ∃ fa, Meth K (C.cl c) m fa ∧ DefP P w K mg base C k fa (G.call f) dvs ds
  mkwd : ∀ m n ks, T.mkwd m n ks = true → ∀ c f, G.meth c m = some f → Cls K (C.cl c) ∧ ∃ fa, Meth K (C.cl c) m fa ∧ KwP P w K mg base C k fa (G.call f) (n + 1) ks
  cdfl : ∀ c ys, T.cdfl c ys = true → ∃ fa f dvs ds, T.init c = some f ∧ G.init c = some f ∧ mg c = some (.ref (C.cl c)) ∧ Mk K (C.cl c) fa ∧ RDs C ys dvs ∧ DefP P w K mg base C k fa (G.call f) dvs ds
  ty : ∀ t, T.ty t = true → ∃ v u, NamV mg t u ∧ RelV v u ∧ TyF C G t v u
  att : ∀ f, T.att f = true → ∀ c, G.att c f = true → Cls K (C.cl c) ∧ NoAttr K (C.cl c) f
  nolen : ∀ c, G.meth c "__len__" = none
  exn : ∀ c, T.exn c = true → mg c = some (.ref (C.cl c)) ∧ PySem.W.keepIn K (.ref (C.cl c)) = true ∧ PySem.W.subIn K (.ref (C.cl c)) (.type "BaseException") = some true ∧ PySem.W.typeIn K (.ref (C.cl c)) = some (.type "type") ∧
    ∃ bmB B newId initId, ExcBaseFacts B newId initId bmB ∧ PySem.W.excIn K (C.cl c) bmB newId = true
  hnd : ∀ d, T.hnd d = true → ∃ cv, NamV mg d cv ∧ ∀ c, C.ex c = true → PySem.W.exmOne K (.ref (C.cl c)) cv = some (G.sub c d)
  isx : ∀ c, G.isx c = true → C.ex c = true
end
structure Cs where
  N : List Str
  sc : Scope
  T : Tx
def visK : Option NameKind → Bool
  | some .local => true
  | some .cell => true
  | some .free => true
  | _ => false
structure XOk (cx : Cs) (X : Cx) (C : Ct) (W : WX) (G : Mn.Env) (k : Nat) : Prop where
  K : X.K = C.K
  calm : X.calm = true
  N : X.N = cx.N
  nd : X.N.Nodup
  vis : ∀ x, visK (cx.sc.names.lookup x) = true → Vis X.env.scope x
  loc : ∀ x, cx.sc.names.lookup x = some .local → X.env.scope.names.lookup x = some .local
  cel : ∀ x, cx.sc.names.lookup x = some .cell → X.env.scope.names.lookup x = some .cell ∧ X.fn x = true
  fre : ∀ x, cx.sc.names.lookup x = some .free → X.env.scope.names.lookup x = some .cell ∨ X.env.scope.names.lookup x = some .free
  gl : ∀ x, cx.sc.names.lookup x = some .globalImplicit → Gl X x
  room : Room (k + 1) X.A
  takes : Takes X W
  tx : TxF X.prog X.w X.K X.mg X.base C G cx.T k
section
variable {cx : Cs} {X : Cx} {C : Ct} {W : WX} {G : Mn.Env} {k : Nat}
theorem XOk.hu (x : XOk cx X C W G k) : X.A.units + 65 < cLine := by
  have := x.room.un
  omega
theorem XOk.locd (x : XOk cx X C W G k) {n : Str} (e : cx.sc.names.lookup n = some .local ∨ cx.sc.names.lookup n = some .cell) : Loc X.env.scope n ∧ (X.fn n = true ∨ X.env.scope.names.lookup n = some .local) := by
  rcases e with e | e
  · exact ⟨.inl (x.loc n e), .inr (x.loc n e)⟩
  · exact ⟨.inr (x.cel n e).1, .inl (x.cel n e).2⟩
theorem lookup_rel (f : Str → NameKind → Bool) : ∀ {names : List (Str × NameKind)} {x : Str} {k : NameKind}, names.lookup x = some k →
    (names.map fun (n, k) => if (k == NameKind.free && f n k) = true then (n, NameKind.cell) else (n, k)).lookup x = some (if (k == NameKind.free && f x k) = true then .cell else k)
  | [], _, _, h => by simp at h
  | (n, j) :: r, x, k, h => by
    rw [List.map_cons, List.lookup_cons]
    rw [List.lookup_cons] at h
    by_cases e : x = n
    · subst e
      simp only [beq_self_eq_true] at h
      cases h
      by_cases c : (j == NameKind.free && f x j) = true
      · simp only [c, if_true, beq_self_eq_true]
      · simp only [c, if_false, beq_self_eq_true, Bool.false_eq_true]
    · have e2 : (x == n) = false := beq_eq_false_iff_ne.mpr e
      rw [e2] at h
      have ih := lookup_rel f h
      by_cases c : (j == NameKind.free && f n j) = true
      · simp only [c, if_true, e2]
        exact ih
      · simp only [c, if_false, e2, Bool.false_eq_true]
        exact ih
theorem XOk.blk (x : XOk cx X C W G k) {s : Scope} (sh : Shared) (H : Hp) (a : Addr) (cl : List (Str × Addr)) (fp : List Addr) : XOk { cx with sc := s } (X.blk sh H s (compEnvC s cl a X.env) fp) C WF G k := by
  have lk : ∀ {n : Str} {j : NameKind}, s.names.lookup n = some j → (compEnvC s cl a X.env).scope.names.lookup n = some (if (j == NameKind.free && (X.env.scope.kind == .function && X.env.kindOf n == some .cell)) = true then .cell else j) := by
    intro n j e
    have := lookup_rel (fun n _ => X.env.scope.kind == .function && X.env.kindOf n == some .cell) e
    rw [← this]
    unfold compEnvC relabel
    dsimp only
    congr 1
    refine List.map_congr_left fun p _ => ?_
    obtain ⟨n, j⟩ := p
    dsimp only
    rw [Bool.and_assoc]
  refine ⟨x.K, x.calm, x.N, x.nd, fun n e => ?_, fun n e => lk e, fun n e => ⟨lk e, ?_⟩, fun n e => ?_, fun n e => lk e, x.room, takes_none5, x.tx⟩
  · cases ee : s.names.lookup n with
    | none => rw [show ({ cx with sc := s } : Cs).sc.names.lookup n = none from ee] at e; cases e
    | some j =>
      have q := lk ee
      cases j with
      | «local» => exact .inl q
      | cell => exact .inr (.inl q)
      | free =>
        by_cases c : (NameKind.free == NameKind.free && (X.env.scope.kind == .function && X.env.kindOf n == some .cell)) = true
        · rw [if_pos c] at q; exact .inr (.inl q)
        · rw [if_neg c] at q; exact .inr (.inr q)
      | globalExplicit => rw [show ({ cx with sc := s } : Cs).sc.names.lookup n = _ from ee] at e; cases e
      | globalImplicit => rw [show ({ cx with sc := s } : Cs).sc.names.lookup n = _ from ee] at e; cases e
  · show (s.names.lookup n == some .cell) = true
    rw [show s.names.lookup n = some .cell from e]
    rfl
  · have q := lk e
    by_cases c : (NameKind.free == NameKind.free && (X.env.scope.kind == .function && X.env.kindOf n == some .cell)) = true
    · rw [if_pos c] at q; exact .inl q
    · rw [if_neg c] at q; exact .inr q
theorem XOk.blkOk (x : XOk cx X C W G k) {s : Scope} {own : List (Str × Nat)} (b : blkC cx.N cx.sc s own = true) : BlkOk X.N X.env.scope s own := by
  obtain ⟨b1, b2, b3, b4, b5⟩ := blkOk_by b
  refine ⟨b1, b2, by rw [x.N]; exact b3, fun y hy e => ?_, fun y hy e => by rw [x.N]; exact b5 y hy e⟩
  rcases b4 y hy e with q | q
  · exact .inl (x.cel _ q).1
  · exact x.fre _ q
end
theorem PA.weaken {X : Cx} {e : List Expr} {t t' : TA} (h : PA X e t) (k : ∀ σ H Q, t' σ H Q → t σ H Q) : PA X e t' := ⟨fun pos pins s σ H Q I q => h.run pos pins s σ H Q I (k _ _ _ q)⟩
theorem PK.weaken {X : Cx} {e : List Keyword} {t t' : TA} (h : PK X e t) (k : ∀ σ H Q, t' σ H Q → t σ H Q) : PK X e t' := ⟨fun pos pins s σ H Q I q => h.run pos pins s σ H Q I (k _ _ _ q)⟩
theorem PO.weaken {X : Cx} {e : Option Expr} {t t' : TO} (h : PO X e t) (k : ∀ σ H Q, t' σ H Q → t σ H Q) : PO X e t' := ⟨fun pins s σ H Q I q => h.run pins s σ H Q I (k _ _ _ q)⟩
theorem PW.weaken {X : Cx} {e : Expr} {t t' : TT} (h : PW X e t) (k : ∀ σ H Q, t' σ H Q → t σ H Q) : PW X e t' := ⟨fun whole pins s σ H Q I q => h.run whole pins s σ H Q I (k _ _ _ q)⟩
theorem PTs.weaken {X : Cx} {e : List Expr} {t t' : TT} (h : PTs X e t) (k : ∀ σ H Q, t' σ H Q → t σ H Q) : PTs X e t' := ⟨fun pins s σ H Q I q => h.run pins s σ H Q I (k _ _ _ q)⟩
theorem PI.weaken {X : Cx} {tg e : Expr} {t t' : TI} (h : PI X tg e t) (k : ∀ σ H R, t' σ H R → t σ H R) : PI X tg e t' := ⟨fun pins s σ H R I q => h.run pins s σ H R I (k _ _ _ q)⟩
theorem PPs.weaken {X : Cx} {pos : Pos} {ks : List (Option Expr)} {vs : List Expr} {t : List (TE × TE)} (h : PPs X pos ks vs t) : PPs X pos ks vs t := h
end Ms
end
section
namespace Ms
open PySem PySem.Spec PyProof.Rows L2
section
variable {C : Ct} {W : WX} {σ : L2.St} {γ δ : Type} {μ₀ μ : List Addr} {ρ₀ ρ : Mn.Slots} {h : Mn.Hp} {H₀ H : Hp} {Q : VK}
def Stays {α : Type} (m : Mn.M α) : Prop := ∀ s h, (∃ a, m s h = .ok a s h) ∨ m s h = .bad
theorem isIn_stays (x y : Mn.View) : Stays (Mn.cmpV.isIn x y) := by
  intro s h
  unfold Mn.cmpV.isIn
  cases y with
  | lst l =>
    dsimp only
    cases Mn.toDW h x <;> cases Mn.mapO (Mn.toD h 59) l <;> first | exact .inr rfl | exact .inl ⟨_, rfl⟩
  | dic k =>
    cases x with
    | val v =>
      dsimp only
      cases Mn.keyOf v <;> first | exact .inr rfl | exact .inl ⟨_, rfl⟩
    | _ => exact .inr rfl
  | val y =>
    cases y with
    | tup l =>
      dsimp only
      cases Mn.toDW h x <;> cases Mn.mapO (Mn.toD h 59) l <;> first | exact .inr rfl | exact .inl ⟨_, rfl⟩
    | str b =>
      cases x with
      | val v => cases v <;> first | exact .inr rfl | exact .inl ⟨_, rfl⟩
      | _ => exact .inr rfl
    | _ => exact .inr rfl
theorem cmp_stays (op : CmpOp) (x y : Mn.View) : Stays (Mn.cmpV op x y) := by
  intro s h
  cases op with
  | Eq =>
    unfold Mn.cmpV
    dsimp only
    cases Mn.toDW h x <;> cases Mn.toDW h y <;> first | exact .inr rfl | exact .inl ⟨_, rfl⟩
  | NotEq =>
    unfold Mn.cmpV
    dsimp only
    cases Mn.toDW h x <;> cases Mn.toDW h y <;> first | exact .inr rfl | exact .inl ⟨_, rfl⟩
  | In => exact isIn_stays x y s h
  | NotIn =>
    show (∃ a, Mn.bind (Mn.cmpV.isIn x y) (fun b => Mn.ret (!b)) s h = .ok a s h) ∨ _
    rcases isIn_stays x y s h with ⟨a, e⟩ | e
    · exact .inl ⟨!a, by rw [bind_ok e] <;> rfl⟩
    · exact .inr (bind_bad e)
  | Is =>
    unfold Mn.cmpV
    dsimp only
    split <;> first | exact .inr rfl | exact .inl ⟨_, rfl⟩
  | IsNot =>
    unfold Mn.cmpV
    dsimp only
    split <;> first | exact .inr rfl | exact .inl ⟨_, rfl⟩
  | Lt =>
    unfold Mn.cmpV
    dsimp only
    split <;> first | exact .inr rfl | exact .inl ⟨_, rfl⟩
  | LtE =>
    unfold Mn.cmpV
    dsimp only
    split <;> first | exact .inr rfl | exact .inl ⟨_, rfl⟩
  | Gt =>
    unfold Mn.cmpV
    dsimp only
    split <;> first | exact .inr rfl | exact .inl ⟨_, rfl⟩
  | GtE =>
    unfold Mn.cmpV
    dsimp only
    split <;> first | exact .inr rfl | exact .inl ⟨_, rfl⟩
theorem w_cmp2 {o1 o2 : CmpOp} {a b c : Mn.M Mn.B} (t : TEv C W (Mn.cmp2M o1 o2 a b c) σ H Q) : tChain (rLf C W (RBx C) (cmpF o1)) (rLf C W (RBx C) (cmpF o2)) (TEv C W a) (TEv C W b) (TEv C W c) σ H Q := by
  obtain ⟨μ, ρ, h, S, g⟩ := t
  refine sub S Fra.refl g fun x H1 μ1 ρ1 h1 a S1 F1 r1 g1 => sub S1 F1 g1 fun y H2 μ2 ρ2 h2 b S2 F2 r2 g2 => ?_
  obtain ⟨v, w, e1, e2, g3⟩ := step_op2b g2
  refine ⟨σ, μ2, ρ2, h2, μ2, ρ2, H2, v, w, S2, Fra.refl, view_ok S2 (F2.rb S1 r1.1) e1, view_ok S2 r2.1 e2, ?_⟩
  rcases cmp_stays o1 v w ρ2 h2 with ⟨t, e⟩ | e
  · rw [bind_ok e] at g3
    unfold cmpF
    rw [bind_ok e]
    intro μ3 H3 z S3 F3 r3
    have F13 := (F1.trans F2).trans F3
    refine ⟨t, r3.1, ?_⟩
    cases t with
    | true =>
      rw [if_pos rfl]
      rw [if_pos rfl] at g3
      refine sub S3 F13 g3 fun u H4 μ4 ρ4 h4 d S4 F4 r4 g4 => ?_
      obtain ⟨v2, w2, e3, e4, g5⟩ := step_op2b g4
      exact ⟨σ, μ4, ρ4, h4, μ, ρ, H, v2, w2, S4, F13.trans F4, view_ok S4 (F4.rb S3 (F3.rb S2 r2.1)) e3, view_ok S4 r4.1 e4, g5⟩
    | false =>
      rw [if_neg (by simp)]
      rw [if_neg (by simp)] at g3
      exact g3 μ3 H3 _ S3 F13 ⟨rfl, fun z => z.elim⟩
  · rw [bind_bad e] at g3
    exact g3.elim
theorem op_gin {X : Cx} {G : Mn.Env} {d : Str} {a : Addr} (hK : X.K = C.K) (F : GdF C X.w G d a) : OpR X (compareOp .In) (fun x y H Q => ∃ (z : Str) (r : Option Value), x = V.str z ∧ y = V.ref a ∧ PySem.W.nsIn C.K a z = some r ∧ Q (.bl (r.isSome == true)) H) := by
  obtain ⟨es, n, kvs, D, _⟩ := F.ex
  intro pins s σ H x y v u Q I rx ry h
  obtain ⟨z, r, e1, e2, e3, q⟩ := h
  refine op_in_kd (D := by rw [hK]; exact D) pins s σ H x y v u Q I rx ry ⟨z, r, e1, e2, by rw [hK]; exact e3, ?_⟩
  cases r <;> exact q
theorem op_ngin {X : Cx} {G : Mn.Env} {d : Str} {a : Addr} (hK : X.K = C.K) (F : GdF C X.w G d a) : OpR X (compareOp .NotIn) (fun x y H Q => ∃ (z : Str) (r : Option Value), x = V.str z ∧ y = V.ref a ∧ PySem.W.nsIn C.K a z = some r ∧ Q (.bl (r.isSome == false)) H) := by
  obtain ⟨es, n, kvs, D, _⟩ := F.ex
  intro pins s σ H x y v u Q I rx ry h
  obtain ⟨z, r, e1, e2, e3, q⟩ := h
  refine op_notIn_kd (D := by rw [hK]; exact D) pins s σ H x y v u Q I rx ry ⟨z, r, e1, e2, by rw [hK]; exact e3, ?_⟩
  cases r <;> exact q
theorem pe_fldD {X : Cx} {e : Expr} {f : Str} {pos : Pos} {ta : TE} {G : Mn.Env} (hF : ∀ c, G.att c f = true → Cls X.K (C.cl c) ∧ NoAttr X.K (C.cl c) f) (he : PE X e ta) (h0 : notCall0 e = true) : PE X (.Attribute e f pos) (tFldD C G f ta) := by
  refine ⟨fun pins s σ H Q I h => ?_⟩
  refine attr_of (attributeBase_of h0 f X.env _) (thn (he.run pins s σ H _ I h) fun u s1 ⟨x, H1, I1, rx, a, c, dx, fs, v, ex, ea, ca, l, q⟩ => ?_)
  subst ex
  obtain rfl : u = Value.ref a := rx
  obtain ⟨k1, k2⟩ := hF c ca
  exact getattr_ok I1 ea k1 k2 l fun u' s2 I2 ru => ⟨v, H1, I2, ru, q⟩
theorem kw_names {ks : List Str} (pos : Pos) (env : Env) : ∀ {kws : List Keyword}, kws.map (·.arg) = ks.map some → (backToKw pos (keywordEach kws env)).map (·.1) = ks.map some
  | [], e => e
  | ⟨n, v, p⟩ :: r, e => by
    cases ks with
    | nil => cases e
    | cons k kr =>
      rw [List.map_cons, List.map_cons] at e
      injection e with e1 e2
      show n :: (backToKw pos (keywordEach r env)).map (·.1) = some k :: kr.map some
      rw [kw_names pos env e2]
      exact congrArg (· :: _) e1
theorem kw_facts {ks : List Str} {pos : Pos} {env : Env} {kws : List Keyword} (e : kws.map (·.arg) = ks.map some) :
    (backToKw pos (keywordEach kws env)).all (·.1.isSome) = true ∧ (backToKw pos (keywordEach kws env)).any (·.1.isNone) = false ∧ (backToKw pos (keywordEach kws env)).filterMap (·.1) = ks := by
  have q := kw_names pos env e
  have k : ∀ {l : List (Option Str × Sem Value)} {ks : List Str}, l.map (·.1) = ks.map some → l.all (·.1.isSome) = true ∧ l.any (·.1.isNone) = false ∧ l.filterMap (·.1) = ks := by
    intro l
    induction l with
    | nil =>
      intro ks e
      cases ks with
      | nil => exact ⟨rfl, rfl, rfl⟩
      | cons k kr => cases e
    | cons a r ih =>
      intro ks e
      cases ks with
      | nil => cases e
      | cons k kr =>
        rw [List.map_cons, List.map_cons] at e
        injection e with e1 e2
        obtain ⟨k1, k2, k3⟩ := ih e2
        rw [List.all_cons, List.any_cons, List.filterMap_cons, k1, k2, k3, e1]
        exact ⟨rfl, rfl, rfl⟩
  exact k q
section
variable {X : Cx} {G : Mn.Env} {k : Nat}
theorem run_kw {pins : List (Addr × Obj)} {σ : L2.St} {H : Hp} {s : Shared} {Q : VK} {us ws : List Value} {vs zs : List V} {fa : Addr} {run : List Mn.B → Mn.Hp → Mn.RC} {n : Nat} {ks : List Str} (F : KwP X.prog X.w X.K X.mg X.base C k fa run n ks) (hr : Room k X.A) (tk : Takes X W) (I : Inv X pins σ H s)
    (r : Vals vs us) (rz : Vals zs ws) (hn : us.length = n) (hk : ws.length = ks.length) (h : spOf C run (vs ++ zs) H Q (WE W σ)) : wpAny (model X.prog X.w) X.A (call (.ref fa) us (ks.zip ws)) (EP X pins σ Q) X.xe s := by
  obtain ⟨fd, ps, F1, hl, F2⟩ := F.ok
  refine wpAny_call (codeAny_mono (F1.run X.A X.stack s H ⟨us, ks.zip ws⟩ (us ++ ws) (vs ++ zs) Q (WE W σ) hr I.env0 (F2 s us ws I.kIn hn hk) (r.append rz) h) fun r s' hq => ?_)
  cases r with
  | error e => exact passAt tk σ pins H s e s' I hq
  | ok fl =>
    cases fl with
    | ret u => exact I.after hq
    | next => exact False.elim hq
    | brk => exact False.elim hq
    | cont => exact False.elim hq
theorem spOf_len {run : List Mn.B → Mn.Hp → Mn.RC} {fa : Addr} {fd : FuncData} {ps : List Str} {vs : List V} {E : XK} (F : FnOk X.prog X.w X.K X.mg X.base (L2.CX X.prog X.w) k fa fd ps (spOf C run)) (h : spOf C run vs H Q E) : vs.length = ps.length := F.len _ _ _ _ h
structure PAn (X : Cx) (es : List Expr) (t : TA) : Prop where
  run : ∀ (pos : Pos) (pins : List (Addr × Obj)) (s : Shared) (σ : L2.St) (H : Hp) (Q : List V → Hp → Prop), Inv X pins σ H s → t σ H Q → wpAny (model X.prog X.w) X.A (spliced (backTo pos (starEach es X.env))) (fun us s' => us.length = es.length ∧ AP X pins σ Q us s') X.xe s
structure PKn (X : Cx) (kws : List Keyword) (t : TA) : Prop where
  run : ∀ (pos : Pos) (pins : List (Addr × Obj)) (s : Shared) (σ : L2.St) (H : Hp) (Q : List V → Hp → Prop), Inv X pins σ H s → t σ H Q → wpAny (model X.prog X.w) X.A (evalAll ((backToKw pos (keywordEach kws X.env)).map (·.2))) (fun us s' => us.length = kws.length ∧ AP X pins σ Q us s') X.xe s
theorem pan_nil : PAn X [] tNil := ⟨fun _ _ _ _ H Q I h => Calls.spliced_nil ⟨rfl, [], H, I, .nil, h⟩⟩
theorem pan_cons {e : Expr} {es : List Expr} {te : TE} {t : TA} (ha : PE X e te) (hr : PAn X es t) (hn : notStar e = true) : PAn X (e :: es) (tCons te t) := by
  refine ⟨fun pos pins s σ H Q I h => ?_⟩
  refine PyProof.Rows.args_cons (thn (ha.run pins s σ H _ I h) fun u s1 ⟨x, H1, I1, r1, q1⟩ => ?_) (starEach_cons hn es X.env)
  exact thn (hr.run pos pins s1 σ H1 _ I1 q1) fun us s2 ⟨hl, vs, H2, I2, r2, q2⟩ => ⟨by rw [List.length_cons, List.length_cons, hl], x :: vs, H2, I2, .cons r1 r2, q2⟩
theorem pkn_nil : PKn X [] tNil := ⟨fun _ _ _ _ H Q I h => wpAny_evalAll_nil ⟨rfl, [], H, I, .nil, h⟩⟩
theorem pan_pa {es : List Expr} {t : TA} (h : PAn X es t) : PA X es t := ⟨fun pos pins s σ H Q I q => thn (h.run pos pins s σ H Q I q) fun _ _ z => z.2⟩
theorem pkn_cons {nm : Option Str} {kpos : Pos} {e : Expr} {kws : List Keyword} {te : TE} {t : TA} (ha : PE X e te) (hr : PKn X kws t) : PKn X (⟨nm, e, kpos⟩ :: kws) (tCons te t) := by
  refine ⟨fun pos pins s σ H Q I h => ?_⟩
  refine (wpAny_evalAll_cons (wpAny_bind (thn (ha.run pins s σ H _ I h) fun u s1 ⟨x, H1, I1, r1, q1⟩ => wpAny_bind (wpAny_standAt (wpAny_pure ?_)))) :
    wpAny _ _ (evalAll ((do let v ← eval e X.env; standAt pos; pure v) :: (backToKw pos (keywordEach kws X.env)).map (·.2))) _ _ s)
  exact thn (hr.run pos pins s1 σ H1 _ I1 q1) fun us s2 ⟨hl, xs, H2, I2, r2, q2⟩ => ⟨by rw [List.length_cons, List.length_cons, hl], x :: xs, H2, I2, .cons r1 r2, q2⟩
theorem any_or {a b : Bool} (h : a = false) (h2 : b = false) : (a || b) = false := by rw [h, h2]; rfl
theorem pe_callKS {f : Str} {p pos : Pos} {e : Expr} {es : List Expr} {kws : List Keyword} {t tk : TA} {fa : Addr} {run : List Mn.B → Mn.Hp → Mn.RC} {n : Nat} {ks : List Str} (F : KwP X.prog X.w X.K X.mg X.base C k fa run n ks) (hr : Room k X.A) (tk' : Takes X W) (hg : Gl X f) (hd : (f == ("__debug__" : Str)) = false) (hm : X.mg f = some (.ref fa))
    (hs : (e :: es).all notStar = true) (hn : (e :: es).length = n) (hk : kws.map (·.arg) = ks.map some) (ha : PAn X (e :: es) t) (hw : PKn X kws tk) : PE X (.Call (.Name f p) (e :: es) kws pos) (tCallKS (spOf C run) (WE W) t tk) := by
  have h1 : notStar e = true := by
    rw [List.all_cons, Bool.and_eq_true] at hs
    exact hs.1
  obtain ⟨k1, k2, k3⟩ := kw_facts (pos := pos) (env := X.env) hk
  refine ⟨fun pins s σ H Q I h => ?_⟩
  refine wpAny_Call_Name_kw (ld_glob I hg hm ?_ hd)
  refine PySem.W.callWith_KW (h₀ := X.base) I.ok.mod.kin F.kp k1 (thn (ha.run pos pins s σ H _ I h) fun us s1 ⟨hl, vs, H1, I1, r, q⟩ => ?_) (any_or (backTo_any hs pos X.env) k2) (starEach_cons h1 es X.env)
  refine thn (hw.run pos pins s1 σ H1 _ I1 q) fun ws s2 ⟨hl2, zs, H2, I2, rz, q2⟩ => ⟨I2.kIn, ?_⟩
  rw [k3]
  have e3 : kws.length = ks.length := by
    have := congrArg List.length hk
    rwa [List.length_map, List.length_map] at this
  exact run_kw F hr tk' I2 r rz (hl.trans hn) (hl2.trans e3) q2
theorem meth_formK {o : Expr} {m : Str} {apos pos : Pos} {args : List Expr} {kws : List Keyword} {ks : List Str} {env : Env} (h0 : notCall0 o = true) (hs : args.all notStar = true) (hn : args.length + kws.length < 29) (hk : kws.map (·.arg) = ks.map some) (hl : (apos.endLine == pos.line) = true) :
    eval (.Call (.Attribute o m apos) args kws pos) env = (do
      let ov ← eval o env
      standAt apos.atName
      let (f, first) ← holding [ov] (getMethod ov m (do return (← importBound o env).getD true))
      callWith pos f first (backTo pos (starEach args env)) (backToKw pos (keywordEach kws env))) := by
  obtain ⟨k1, k2, k3⟩ := kw_facts (pos := pos) (env := env) hk
  have form : methodCallForm (args.length + kws.length) (backTo pos (starEach args env)) (backToKw pos (keywordEach kws env)) = true := by
    unfold methodCallForm
    rw [backTo_all hs pos env, k1]
    simp
    split <;> omega
  have e : eval (.Call (.Attribute o m apos) args kws pos) env = (do
      let ov ← attributeBase o m env (eval o env)
      standAt apos.atName
      methodCall o m apos pos env ov (args.length + kws.length) (backTo pos (starEach args env)) (backToKw pos (keywordEach kws env))) := rfl
  rw [e, attributeBase_of h0]
  unfold methodCall
  rw [form]
  unfold calleeOf methodCallPos
  simp only [if_true, hl, Bool.not_true, Bool.false_or, pure_bind]
theorem pe_methKS {o : Expr} {m : Str} {apos pos : Pos} {e : Expr} {es : List Expr} {kws : List Keyword} {ta : TE} {t tk : TA} {n : Nat} {ks : List Str} (F : ∀ c f, G.meth c m = some f → Cls X.K (C.cl c) ∧ ∃ fa, Meth X.K (C.cl c) m fa ∧ KwP X.prog X.w X.K X.mg X.base C k fa (G.call f) (n + 1) ks) (hr : Room k X.A) (tk' : Takes X W)
    (h0 : notCall0 o = true) (hs : (e :: es).all notStar = true) (hn : (e :: es).length = n) (hk : kws.map (·.arg) = ks.map some) (hln : (e :: es).length + kws.length < 29) (hl : (apos.endLine == pos.line) = true) (he : PE X o ta) (ha : PAn X (e :: es) t) (hw : PKn X kws tk) :
    PE X (.Call (.Attribute o m apos) (e :: es) kws pos) (tMethKS C G m (WE W) ta t tk) := by
  have h1 : notStar e = true := by
    rw [List.all_cons, Bool.and_eq_true] at hs
    exact hs.1
  obtain ⟨k1, k2, k3⟩ := kw_facts (pos := pos) (env := X.env) hk
  refine ⟨fun pins s σ H Q I h => ?_⟩
  refine PySem.W.methodCall_KW (thn (he.run pins s σ H _ I h) fun u s1 ⟨x, H1, I1, rx, a, c, dx, fs, f, ex, ea, l, em, q⟩ => ?_) (meth_formK h0 hs hln hk hl)
  subst ex
  obtain rfl : u = Value.ref a := rx
  obtain ⟨cc, fa, hm, DF⟩ := F c f em
  refine getmeth_ok I1 ea cc hm l ?_
  refine PySem.W.callWith_KW (first := [.ref a]) (h₀ := X.base) I.ok.mod.kin hm.kp k1 (thn (ha.run pos pins s1 σ H1 _ I1 q) fun us s2 ⟨hl2, vs, H2, I2, r, q2⟩ => ?_) (any_or (backTo_any hs pos X.env) k2) (starEach_cons h1 es X.env)
  refine thn (hw.run pos pins s2 σ H2 _ I2 q2) fun ws s3 ⟨hl3, zs, H3, I3, rz, q3⟩ => ⟨I3.kIn, ?_⟩
  rw [k3]
  have e3 : kws.length = ks.length := by
    have := congrArg List.length hk
    rwa [List.length_map, List.length_map] at this
  exact run_kw (us := .ref a :: us) (vs := .ref a :: vs) DF hr tk' I3 (.cons rfl r) rz (by rw [List.length_cons, hl2, hn]) (hl3.trans e3) q3
theorem ps_fldD {o value : Expr} {f : Str} {pos pos' : Pos} {ta tv : TE} (hF : ∀ c, G.att c f = true → Cls X.K (C.cl c) ∧ NoAttr X.K (C.cl c) f) (ha : PE X o ta) (hv : PE X value tv) (hs : swapsWith value (some (.Attribute o f pos')) pos.line X.env = pure false) : PS X (.Assign [.Attribute o f pos'] value pos) (sFldD C G ta tv f) := by
  refine ⟨fun pins s σ H D I h => ?_⟩
  refine plainObj_wpAny_Assign_Attribute (thn (hv.run pins s σ H _ I h) fun u s1 ⟨y, H1, I1, ry, q⟩ => thn (ha.run pins s1 σ H1 _ I1 q) fun ov s2 ⟨x, H2, I2, rx, a, c, dx, fs, ex, ea, ca, l, q2⟩ => ?_) hs
  subst ex
  obtain rfl : ov = Value.ref a := rx
  obtain ⟨k1, k2⟩ := hF c ca
  exact setattr_ok I2 ea k1 k2 l ry fun s3 I3 => ⟨σ, _, I3, q2⟩
theorem ps_fldaugD {o value : Expr} {f : Str} {pos tpos : Pos} {ta tv : TE} {op : Operator} {rd : V → V → Hp → VK → Prop} (hF : ∀ c, G.att c f = true → Cls X.K (C.cl c) ∧ NoAttr X.K (C.cl c) f) (ha : PE X o ta) (hv : PE X value tv) (hop : InOp X op rd) : PS X (.AugAssign (.Attribute o f tpos) op value pos) (sFldAugD C G ta tv rd f) := by
  refine ⟨fun pins s σ H D I h => ?_⟩
  refine wpAny_AugAssign_AttributeAny (thn (ha.run pins s σ H _ I h) fun ov s1 ⟨x, H1, I1, rx, a, c, dx, fs, v, ex, ea, ca, l, q⟩ => ?_)
  subst ex
  obtain rfl : ov = Value.ref a := rx
  obtain ⟨k1, k2⟩ := hF c ca
  refine getattr_ok I1 ea k1 k2 l fun u s2 I2 ru => thn (hv.run pins s2 σ H1 _ I2 q) fun w3 s3 ⟨y, H2, I3, ry, q3⟩ => thn (hop pins s3 σ H2 v y u w3 _ I3 ru ry q3) fun w4 s4 ⟨z, H3, I4, rz, c', dx', fs', ea', ca', l', q4⟩ => ?_
  obtain ⟨j1, j2⟩ := hF c' ca'
  exact setattr_ok I4 ea' j1 j2 l' rz fun s5 I5 => ⟨σ, _, I5, q4⟩
end
end
end Ms
end
section
namespace Ms
open PySem PySem.Spec PyProof.Rows L2
structure Ck where
  v : Cs → Expr → Bool
  t : Cs → Expr → Bool
  it : Cs → Expr → Expr → Bool
def mkC (f : Cs → Expr → Bool) : Ck := ⟨f, fun cx x => isVal x && f cx x, fun cx x _ => f cx x⟩
structure Snd (c : Ck) (d : Mn.Env → Mn.Dn) : Prop where
  v : ∀ cx X C W G k, XOk cx X C W G k → ∀ x, c.v cx x = true → PE X x (TEv C W (d G).v) ∧ d G = Mn.mk (d G).v
  t : ∀ cx X C W G k, XOk cx X C W G k → ∀ x, c.t cx x = true → PT X x (TTv C W (tst (d G).v)) ∧ ∀ op l p, x = .BoolOp op l p → PW X x (TTv C W (tst (d G).v))
  it : ∀ cx X C W G k, XOk cx X C W G k → ∀ x tg, c.it cx x tg = true → PI X tg x (fun σ H R => TRd C W (RIx C) (d G).it σ H R)
theorem isVal_not {op : BoolOp} {l : List Expr} {p : Pos} (h : isVal (.BoolOp op l p) = true) : False := by cases h
theorem Snd.ofV {f : Cs → Expr → Bool} {m : Mn.Env → Mn.M Mn.B} (h : ∀ cx X C W G k, XOk cx X C W G k → ∀ x, f cx x = true → PE X x (TEv C W (m G))) : Snd (mkC f) (fun G => Mn.mk (m G)) where
  v := fun cx X C W G k x e hf => ⟨h cx X C W G k x e hf, rfl⟩
  t := fun cx X C W G k x e hf => by
    have hf' : (isVal e && f cx e) = true := hf
    rw [Bool.and_eq_true] at hf'
    refine ⟨PT.weaken (pt_val (h cx X C W G k x e hf'.2) (isTrue_of hf'.1 X.env)) fun σ H Q t => w_test t, ?_⟩
    rintro op l p rfl
    exact (isVal_not hf'.1).elim
  it := fun cx X C W G k x e tg hf => PI.weaken (pi_any (h cx X C W G k x e hf)) fun σ H R t => by
    rw [x.K]
    exact w_seq t
theorem Snd.ofVT {fv ft : Cs → Expr → Bool} {m : Mn.Env → Mn.M Mn.B} (h : ∀ cx X C W G k, XOk cx X C W G k → ∀ x, fv cx x = true → PE X x (TEv C W (m G)))
    (ht : ∀ cx X C W G k, XOk cx X C W G k → ∀ x, ft cx x = true → PT X x (TTv C W (tst (m G))) ∧ ∀ op l p, x = .BoolOp op l p → PW X x (TTv C W (tst (m G)))) : Snd ⟨fv, ft, fun cx x _ => fv cx x⟩ (fun G => Mn.mk (m G)) where
  v := fun cx X C W G k x e hf => ⟨h cx X C W G k x e hf, rfl⟩
  t := ht
  it := fun cx X C W G k x e tg hf => PI.weaken (pi_any (h cx X C W G k x e hf)) fun σ H R t => by
    rw [x.K]
    exact w_seq t
theorem and_t {a b : Bool} (h : (a && b) = true) : a = true ∧ b = true := by rwa [Bool.and_eq_true] at h
def okName (y : Str) : Bool := !(y == ("__debug__" : Str)) && !(y == ("__classdict__" : Str))
theorem okName_of {y : Str} (h : okName y = true) : (y == ("__debug__" : Str)) = false ∧ (y == ("__classdict__" : Str)) = false := by
  obtain ⟨a, b⟩ := and_t h
  exact ⟨by simpa using a, by simpa using b⟩
def isSlot (cx : Cs) (i : Nat) (y : Str) : Bool := decide (cx.N[i]? = some y) && (visK (cx.sc.names.lookup y) && okName y)
def isGl (cx : Cs) (y : Str) : Bool := decide (cx.sc.names.lookup y = some .globalImplicit) && !(y == ("__debug__" : Str))
def isB (cx : Cs) (y : Str) : Bool := isGl cx y && (cx.T.blts.contains y && !(decide (y = "__name__")))
section
variable {cx : Cs} {X : Cx} {C : Ct} {W : WX} {G : Mn.Env} {k : Nat}
theorem XOk.slot (x : XOk cx X C W G k) {i : Nat} {y : Str} {p : Pos} (h : isSlot cx i y = true) : PE X (.Name y p) (tVar i) := by
  obtain ⟨a, b⟩ := and_t h
  obtain ⟨b, c⟩ := and_t b
  obtain ⟨c, d⟩ := okName_of c
  exact pe_var (by rw [x.N]; exact of_decide_eq_true a) (x.vis y b) c d
theorem XOk.glb (x : XOk cx X C W G k) {y : Str} (h : isGl cx y = true) : Gl X y ∧ (y == ("__debug__" : Str)) = false := by
  obtain ⟨a, b⟩ := and_t h
  exact ⟨x.gl y (of_decide_eq_true a), by simpa using b⟩
theorem XOk.bl (x : XOk cx X C W G k) {y : Str} (h : isB cx y = true) : Gl X y ∧ (y == ("__debug__" : Str)) = false ∧ X.mg y = none ∧ y ≠ "__name__" := by
  obtain ⟨a, b⟩ := and_t h
  obtain ⟨b, c⟩ := and_t b
  obtain ⟨a1, a2⟩ := x.glb a
  exact ⟨a1, a2, x.tx.blt y b, by simpa using c⟩
end
def ckSlot (i : Nat) : Ck := mkC fun cx x => match x with
  | .Name y _ => isSlot cx i y
  | _ => false
theorem sn_slot (i : Nat) : Snd (ckSlot i) (fun _ => Mn.mk (Mn.ldSlot i)) := Snd.ofV fun cx X C W G k x e h => by
  cases e with
  | Name y p => exact PE.weaken (x.slot h) fun σ H Q t => w_slot t
  | _ => cases h
def isConst : Mn.Val → Const → Bool
  | .non, .none => true
  | .bl a, .bool b => a == b
  | .int a, .int b => a == b
  | .str a, .str b => decide (a = b) && PyData.strOk a
  | _, _ => false
def ckCst (v : Mn.Val) : Ck := mkC fun _ x => match x with
  | .Constant c _ _ => isConst v c
  | _ => false
theorem sn_cst (v : Mn.Val) : Snd (ckCst v) (fun _ => Mn.mk (Mn.ret (.v v))) := Snd.ofV fun cx X C W G k x e h => by
  cases e with
  | Constant c j p =>
    have h : isConst v c = true := h
    cases v with
    | non =>
      cases c <;> first | exact PE.weaken pe_non fun σ H Q t => w_cst (x := .non) (fun _ _ => rfl) t | cases h
    | bl a =>
      cases c with
      | bool b =>
        have e : a = b := by simpa [isConst] using h
        subst e
        exact PE.weaken pe_bl fun σ H Q t => w_cst (x := .bl a) (fun _ _ => rfl) t
      | _ => cases h
    | int a =>
      cases c with
      | int b =>
        have e : a = b := by simpa [isConst] using h
        subst e
        exact PE.weaken pe_int fun σ H Q t => w_cst (x := .int a) (fun _ _ => rfl) t
      | _ => cases h
    | str a =>
      cases c with
      | str b =>
        obtain ⟨h1, h2⟩ := and_t h
        have e : a = b := of_decide_eq_true h1
        subst e
        exact PE.weaken pe_str fun σ H Q t => w_cst (x := .str a) (fun _ _ => ⟨rfl, h2⟩) t
      | _ => cases h
    | _ => cases c <;> cases h
  | _ => cases h
def ckGlo (n : Str) : Ck := mkC fun cx x => match x with
  | .Name y _ => decide (n = y) && (isGl cx y && cx.T.glo y)
  | _ => false
theorem sn_glo (n : Str) : Snd (ckGlo n) (fun G => Mn.mk (Mn.ofO ((G.gv n).map .v))) := Snd.ofV fun cx X C W G k x e h => by
  cases e with
  | Name y p =>
    obtain ⟨h1, h2⟩ := and_t h
    obtain ⟨h2, h3⟩ := and_t h2
    have e : n = y := of_decide_eq_true h1
    subst e
    obtain ⟨v, z, u, e1, e2, e3, e4⟩ := x.tx.glo n h3
    obtain ⟨g1, g2⟩ := x.glb h2
    refine PE.weaken (pe_glob g1 e2 e3 g2) fun σ H Q t => ?_
    rw [e1] at t
    exact w_cst e4 t
  | _ => cases h
def ckBin (op : Operator) (a b : Ck) : Ck := mkC fun cx x => match x with
  | .BinOp ea o eb _ => decide (op = o) && (a.v cx ea && b.v cx eb)
  | _ => false
theorem sn_bin {op : Operator} {a b : Ck} {da db : Mn.Env → Mn.Dn} (sa : Snd a da) (sb : Snd b db) : Snd (ckBin op a b) (fun G => Mn.mk (Mn.binM op (da G).v (db G).v)) := Snd.ofV fun cx X C W G k x e h => by
  cases e with
  | BinOp ea o eb p =>
    obtain ⟨h1, h2⟩ := and_t h
    obtain ⟨h2, h3⟩ := and_t h2
    have e : op = o := of_decide_eq_true h1
    subst e
    exact PE.weaken (pe_op (op_bin x.K) (sa.v cx X C W G k x _ h2).1 (sb.v cx X C W G k x _ h3).1) fun σ H Q t => w_bin t
  | _ => cases h
def ckNeg (a : Ck) : Ck := mkC fun cx x => match x with
  | .UnaryOp .USub ea _ => a.v cx ea
  | _ => false
theorem sn_neg {a : Ck} {da : Mn.Env → Mn.Dn} (sa : Snd a da) : Snd (ckNeg a) (fun G => Mn.mk (Mn.negM (da G).v)) := Snd.ofV fun cx X C W G k x e h => by
  cases e with
  | UnaryOp o ea p =>
    cases o with
    | USub => exact PE.weaken (pe_un un_neg (sa.v cx X C W G k x _ h).1) fun σ H Q t => w_neg t
    | _ => cases h
  | _ => cases h
def ckNot (a : Ck) : Ck := ⟨fun cx x => match x with
  | .UnaryOp .Not ea _ => a.v cx ea
  | _ => false, fun cx x => match x with
  | .UnaryOp .Not ea _ => a.t cx ea
  | _ => false, fun cx x _ => match x with
  | .UnaryOp .Not ea _ => a.v cx ea
  | _ => false⟩
theorem sn_not {a : Ck} {da : Mn.Env → Mn.Dn} (sa : Snd a da) : Snd (ckNot a) (fun G => Mn.mk (Mn.notM (da G).v)) := Snd.ofVT (fun cx X C W G k x e h => by
  cases e with
  | UnaryOp o ea p =>
    cases o with
    | Not => exact PE.weaken (pe_not (sa.v cx X C W G k x _ h).1) fun σ H Q t => w_not t
    | _ => cases h
  | _ => cases h) (fun cx X C W G k x e h => by
  cases e with
  | UnaryOp o ea p =>
    cases o with
    | Not => exact ⟨PT.weaken (pt_not (sa.t cx X C W G k x _ h).1) fun σ H Q t => w_tnot t, fun op l p e => by cases e⟩
    | _ => cases h
  | _ => cases h)
def andF (f g : Cs → Expr → Bool) (cx : Cs) (x : Expr) : Bool := match x with
  | .BoolOp .And [ea, eb] _ => f cx ea && g cx eb
  | .BoolOp .And (ea :: eb :: ec :: r) p => f cx ea && g cx (.BoolOp .And (eb :: ec :: r) p)
  | _ => false
def orF (f g : Cs → Expr → Bool) (cx : Cs) (x : Expr) : Bool := match x with
  | .BoolOp .Or [ea, eb] _ => f cx ea && g cx eb
  | .BoolOp .Or (ea :: eb :: ec :: r) p => f cx ea && g cx (.BoolOp .Or (eb :: ec :: r) p)
  | _ => false
def ckAnd (a b : Ck) : Ck := ⟨andF a.v b.v, andF a.t b.t, fun cx x _ => andF a.v b.v cx x⟩
def ckOr (a b : Ck) : Ck := ⟨orF a.v b.v, orF a.t b.t, fun cx x _ => orF a.v b.v cx x⟩
theorem andF_is {f g : Cs → Expr → Bool} {cx : Cs} {x : Expr} (h : andF f g cx x = true) : (∃ a b p, x = .BoolOp .And [a, b] p ∧ f cx a = true ∧ g cx b = true) ∨ ∃ a b c r p, x = .BoolOp .And (a :: b :: c :: r) p ∧ f cx a = true ∧ g cx (.BoolOp .And (b :: c :: r) p) = true := by
  unfold andF at h
  split at h
  · obtain ⟨h1, h2⟩ := and_t h
    exact .inl ⟨_, _, _, rfl, h1, h2⟩
  · obtain ⟨h1, h2⟩ := and_t h
    exact .inr ⟨_, _, _, _, _, rfl, h1, h2⟩
  · cases h
theorem orF_is {f g : Cs → Expr → Bool} {cx : Cs} {x : Expr} (h : orF f g cx x = true) : (∃ a b p, x = .BoolOp .Or [a, b] p ∧ f cx a = true ∧ g cx b = true) ∨ ∃ a b c r p, x = .BoolOp .Or (a :: b :: c :: r) p ∧ f cx a = true ∧ g cx (.BoolOp .Or (b :: c :: r) p) = true := by
  unfold orF at h
  split at h
  · obtain ⟨h1, h2⟩ := and_t h
    exact .inl ⟨_, _, _, rfl, h1, h2⟩
  · obtain ⟨h1, h2⟩ := and_t h
    exact .inr ⟨_, _, _, _, _, rfl, h1, h2⟩
  · cases h
theorem sn_and {a b : Ck} {da db : Mn.Env → Mn.Dn} (sa : Snd a da) (sb : Snd b db) : Snd (ckAnd a b) (fun G => Mn.mk (Mn.andM (da G).v (db G).v)) := Snd.ofVT (fun cx X C W G k x e h => by
  rcases andF_is h with ⟨ea, eb, p, rfl, h1, h2⟩ | ⟨ea, eb, ec, r, p, rfl, h1, h2⟩
  · exact PE.weaken (pe_and (sa.v cx X C W G k x _ h1).1 (pe_one (sb.v cx X C W G k x _ h2).1)) fun σ H Q t => w_and t
  · exact PE.weaken (pe_and (sa.v cx X C W G k x _ h1).1 (sb.v cx X C W G k x _ h2).1) fun σ H Q t => w_and t) (fun cx X C W G k x e h => by
  have q : PW X e (TTv C W (tst (Mn.andM (da G).v (db G).v))) := by
    rcases andF_is h with ⟨ea, eb, p, rfl, h1, h2⟩ | ⟨ea, eb, ec, r, p, rfl, h1, h2⟩
    · exact PW.weaken (pw_and (sa.t cx X C W G k x _ h1).1 (pw_and1 (sb.t cx X C W G k x _ h2).1)) fun σ H Q t => w_tand t
    · exact PW.weaken (pw_and (sa.t cx X C W G k x _ h1).1 ((sb.t cx X C W G k x _ h2).2 _ _ _ rfl)) fun σ H Q t => w_tand t
  exact ⟨q.pt, fun _ _ _ _ => q⟩)
theorem sn_or {a b : Ck} {da db : Mn.Env → Mn.Dn} (sa : Snd a da) (sb : Snd b db) : Snd (ckOr a b) (fun G => Mn.mk (Mn.orM (da G).v (db G).v)) := Snd.ofVT (fun cx X C W G k x e h => by
  rcases orF_is h with ⟨ea, eb, p, rfl, h1, h2⟩ | ⟨ea, eb, ec, r, p, rfl, h1, h2⟩
  · exact PE.weaken (pe_or (sa.v cx X C W G k x _ h1).1 (pe_one (sb.v cx X C W G k x _ h2).1)) fun σ H Q t => w_or t
  · exact PE.weaken (pe_or (sa.v cx X C W G k x _ h1).1 (sb.v cx X C W G k x _ h2).1) fun σ H Q t => w_or t) (fun cx X C W G k x e h => by
  have q : PW X e (TTv C W (tst (Mn.orM (da G).v (db G).v))) := by
    rcases orF_is h with ⟨ea, eb, p, rfl, h1, h2⟩ | ⟨ea, eb, ec, r, p, rfl, h1, h2⟩
    · exact PW.weaken (pw_or (sa.t cx X C W G k x _ h1).1 (pw_or1 (sb.t cx X C W G k x _ h2).1)) fun σ H Q t => w_tor t
    · exact PW.weaken (pw_or (sa.t cx X C W G k x _ h1).1 ((sb.t cx X C W G k x _ h2).2 _ _ _ rfl)) fun σ H Q t => w_tor t
  exact ⟨q.pt, fun _ _ _ _ => q⟩)
def ckIfe (c a b : Ck) : Ck := ⟨fun cx x => match x with
  | .IfExp ec ea eb _ => c.t cx ec && (a.v cx ea && b.v cx eb)
  | _ => false, fun _ _ => false, fun cx x _ => match x with
  | .IfExp ec ea eb _ => c.t cx ec && (a.v cx ea && b.v cx eb)
  | _ => false⟩
theorem sn_ife {c a b : Ck} {dc da db : Mn.Env → Mn.Dn} (sc : Snd c dc) (sa : Snd a da) (sb : Snd b db) : Snd (ckIfe c a b) (fun G => Mn.mk (Mn.ifeM (dc G).v (da G).v (db G).v)) := Snd.ofVT (fun cx X C W G k x e h => by
  cases e with
  | IfExp ec ea eb p =>
    obtain ⟨h1, h2⟩ := and_t h
    obtain ⟨h2, h3⟩ := and_t h2
    exact PE.weaken (pe_ifExp (sc.t cx X C W G k x _ h1).1 (sa.v cx X C W G k x _ h2).1 (sb.v cx X C W G k x _ h3).1) fun σ H Q t => w_ife t
  | _ => cases h) (fun cx X C W G k x e h => by cases h)
def cmpF1 (op : CmpOp) (a b : Ck) (cx : Cs) (x : Expr) : Bool := match x with
  | .Compare ea [o] [eb] _ => decide (op = o) && (!behindInMarks o eb && (a.v cx ea && b.v cx eb))
  | _ => false
theorem cmpF1_is {op : CmpOp} {a b : Ck} {cx : Cs} {x : Expr} (h : cmpF1 op a b cx x = true) : ∃ ea eb p, x = .Compare ea [op] [eb] p ∧ behindInMarks op eb = false ∧ a.v cx ea = true ∧ b.v cx eb = true := by
  unfold cmpF1 at h
  split at h
  · obtain ⟨h1, h2⟩ := and_t h
    obtain ⟨h2, h3⟩ := and_t h2
    obtain ⟨h3, h4⟩ := and_t h3
    have e := of_decide_eq_true h1
    subst e
    exact ⟨_, _, _, rfl, by simpa using h2, h3, h4⟩
  · cases h
def ckCmp (op : CmpOp) (a b : Ck) : Ck := ⟨cmpF1 op a b, cmpF1 op a b, fun cx x _ => cmpF1 op a b cx x⟩
theorem sn_cmp {op : CmpOp} {a b : Ck} {da db : Mn.Env → Mn.Dn} (sa : Snd a da) (sb : Snd b db) : Snd (ckCmp op a b) (fun G => Mn.mk (Mn.cmpM op (da G).v (db G).v)) := Snd.ofVT (fun cx X C W G k x e h => by
  obtain ⟨ea, eb, p, rfl, hm, h1, h2⟩ := cmpF1_is h
  exact PE.weaken (pe_cmpR (op_cmp x.K x.hu) (sa.v cx X C W G k x _ h1).1 (sb.v cx X C W G k x _ h2).1 hm) fun σ H Q t => w_cmp t) (fun cx X C W G k x e h => by
  obtain ⟨ea, eb, p, rfl, hm, h1, h2⟩ := cmpF1_is h
  exact ⟨PT.weaken (pt_cmpR (op_cmp x.K x.hu) (sa.v cx X C W G k x _ h1).1 (sb.v cx X C W G k x _ h2).1 hm) fun σ H Q t => w_tval (fun Q t => w_cmp t) t, fun op l p e => by cases e⟩)
def cmpF2 (o1 o2 : CmpOp) (a b c : Ck) (cx : Cs) (x : Expr) : Bool := match x with
  | .Compare ea [p1, p2] [eb, ec] _ => (decide (o1 = p1) && decide (o2 = p2)) && (!lastMarks [p1, p2] [eb, ec] && (a.v cx ea && (b.v cx eb && c.v cx ec)))
  | _ => false
theorem cmpF2_is {o1 o2 : CmpOp} {a b c : Ck} {cx : Cs} {x : Expr} (h : cmpF2 o1 o2 a b c cx x = true) : ∃ ea eb ec p, x = .Compare ea [o1, o2] [eb, ec] p ∧ lastMarks [o1, o2] [eb, ec] = false ∧ a.v cx ea = true ∧ b.v cx eb = true ∧ c.v cx ec = true := by
  unfold cmpF2 at h
  split at h
  · obtain ⟨h1, h2⟩ := and_t h
    obtain ⟨h2, h3⟩ := and_t h2
    obtain ⟨h3, h4⟩ := and_t h3
    obtain ⟨h4, h5⟩ := and_t h4
    obtain ⟨h1, h6⟩ := and_t h1
    have e := of_decide_eq_true h1
    subst e
    have e := of_decide_eq_true h6
    subst e
    exact ⟨_, _, _, _, rfl, by simpa using h2, h3, h4, h5⟩
  · cases h
def ckCmp2 (o1 o2 : CmpOp) (a b c : Ck) : Ck := ⟨cmpF2 o1 o2 a b c, cmpF2 o1 o2 a b c, fun cx x _ => cmpF2 o1 o2 a b c cx x⟩
theorem sn_cmp2 {o1 o2 : CmpOp} {a b c : Ck} {da db dc : Mn.Env → Mn.Dn} (sa : Snd a da) (sb : Snd b db) (sc : Snd c dc) : Snd (ckCmp2 o1 o2 a b c) (fun G => Mn.mk (Mn.cmp2M o1 o2 (da G).v (db G).v (dc G).v)) := Snd.ofVT (fun cx X C W G k x e h => by
  obtain ⟨ea, eb, ec, p, rfl, hm, h1, h2, h3⟩ := cmpF2_is h
  exact PE.weaken (pe_chain (op_cmp x.K x.hu) (op_cmp x.K x.hu) (sa.v cx X C W G k x _ h1).1 (sb.v cx X C W G k x _ h2).1 (sc.v cx X C W G k x _ h3).1 hm) fun σ H Q t => w_cmp2 t) (fun cx X C W G k x e h => by
  obtain ⟨ea, eb, ec, p, rfl, hm, h1, h2, h3⟩ := cmpF2_is h
  exact ⟨PT.weaken (pt_chain (op_cmp x.K x.hu) (op_cmp x.K x.hu) (sa.v cx X C W G k x _ h1).1 (sb.v cx X C W G k x _ h2).1 (sc.v cx X C W G k x _ h3).1 hm) fun σ H Q t => w_tval (fun Q t => w_cmp2 t) t, fun op l p e => by cases e⟩)
end Ms
end
section
namespace Ms
open PySem PySem.Spec PyProof.Rows L2
abbrev Cd := Ck × (Mn.Env → Mn.Dn)
def SndL (ps : List Cd) : Prop := ∀ p ∈ ps, Snd p.1 p.2
def dnsOf (ps : List Cd) (G : Mn.Env) : List Mn.Dn := ps.map fun p => p.2 G
def okL : List Ck → Cs → List Expr → Bool
  | [], _, [] => true
  | c :: cs, cx, y :: ys => notStar y && (c.v cx y && okL cs cx ys)
  | _, _, _ => false
section
variable {cx : Cs} {X : Cx} {C : Ct} {W : WX} {G : Mn.Env} {k : Nat}
theorem okL_pa (x : XOk cx X C W G k) : ∀ {ps : List Cd} {ys : List Expr}, SndL ps → okL (ps.map (·.1)) cx ys = true → PA X ys (TRd C W (RVsx C) (Mn.densL (dnsOf ps G)))
  | [], [], _, _ => PA.weaken pa_nil fun σ H Q t => w_l0 t
  | [], _ :: _, _, h => by cases h
  | _ :: _, [], _, h => by cases h
  | p :: ps, y :: ys, s, h => by
    obtain ⟨h1, h2⟩ := and_t h
    obtain ⟨h2, h3⟩ := and_t h2
    exact PA.weaken (pa_cons ((s p (by simp)).v cx X C W G k x y h2).1 (okL_pa x (fun q hq => s q (by simp [hq])) h3) (starEach_cons h1 ys X.env)) fun σ H Q t => w_l1 t
end
def ckTup (cs : List Ck) : Ck := mkC fun cx x => match x with
  | .Tuple es _ _ => okL cs cx es
  | _ => false
def ckLst (cs : List Ck) : Ck := mkC fun cx x => match x with
  | .List es _ => okL cs cx es
  | _ => false
theorem sn_tup {ps : List Cd} (s : SndL ps) : Snd (ckTup (ps.map (·.1))) (fun G => Mn.mk (Mn.tupM (dnsOf ps G))) := Snd.ofV fun cx X C W G k x e h => by
  cases e with
  | Tuple es j p => exact PE.weaken (pe_tup (okL_pa x s h)) fun σ H Q t => w_tup t
  | _ => cases h
theorem sn_lst {ps : List Cd} (s : SndL ps) : Snd (ckLst (ps.map (·.1))) (fun G => Mn.mk (Mn.lstM (dnsOf ps G))) := Snd.ofV fun cx X C W G k x e h => by
  cases e with
  | List es p => exact PE.weaken (pe_lst (okL_pa x s h)) fun σ H Q t => w_lst t
  | _ => cases h
def ckIdx (a i : Ck) : Ck := mkC fun cx x => match x with
  | .Subscript ea ei _ => notSlice ei && (a.v cx ea && i.v cx ei)
  | _ => false
theorem sn_idx {a b : Ck} {da db : Mn.Env → Mn.Dn} (sa : Snd a da) (sb : Snd b db) : Snd (ckIdx a b) (fun G => Mn.mk (Mn.idxM (da G).v (db G).v)) := Snd.ofV fun cx X C W G k x e h => by
  cases e with
  | Subscript ea ei p =>
    obtain ⟨h1, h2⟩ := and_t h
    obtain ⟨h2, h3⟩ := and_t h2
    exact PE.weaken (pe_ix (op_idx x.K x.hu) (sa.v cx X C W G k x _ h2).1 (sb.v cx X C W G k x _ h3).1 (plainIx_of h1)) fun σ H Q t => w_idx t
  | _ => cases h
def okO : Option Ck → Cs → Option Expr → Bool
  | none, _, none => true
  | some c, cx, some y => c.v cx y
  | _, _, _ => false
def SndO (o : Option Cd) : Prop := ∀ p, o = some p → Snd p.1 p.2
def dnO' (o : Option Cd) (G : Mn.Env) : Option Mn.Dn := o.map fun p => p.2 G
section
variable {cx : Cs} {X : Cx} {C : Ct} {W : WX} {G : Mn.Env} {k : Nat}
theorem okO_po (x : XOk cx X C W G k) {o : Option Cd} {y : Option Expr} (s : SndO o) (h : okO (o.map (·.1)) cx y = true) : PO X y (TRd C W ROx (Mn.optD (dnO' o G))) := by
  cases o with
  | none =>
    cases y with
    | none => exact PO.weaken po_none fun σ H Q t => w_o0 t
    | some y => cases h
  | some p =>
    cases y with
    | none => cases h
    | some y => exact PO.weaken (po_some ((s p rfl).v cx X C W G k x y h).1) fun σ H Q t => w_o1 t
end
def ckSli (a : Ck) (lo hi : Option Ck) : Ck := mkC fun cx x => match x with
  | .Subscript ea (.Slice l h none _) _ => a.v cx ea && (okO lo cx l && okO hi cx h)
  | _ => false
theorem sn_sli {a : Ck} {da : Mn.Env → Mn.Dn} {lo hi : Option Cd} (sa : Snd a da) (sl : SndO lo) (sh : SndO hi) : Snd (ckSli a (lo.map (·.1)) (hi.map (·.1))) (fun G => Mn.mk (Mn.sliM (da G).v (dnO' lo G) (dnO' hi G))) := Snd.ofV fun cx X C W G k x e h => by
  split at h
  · obtain ⟨h1, h2⟩ := and_t h
    obtain ⟨h2, h3⟩ := and_t h2
    exact PE.weaken (pe_slice (op_sli x.K) (sa.v cx X C W G k x _ h1).1 (okO_po x sl h2) (okO_po x sh h3)) fun σ H Q t => w_sli t
  · cases h
def ckRev (a : Ck) : Ck := mkC fun cx x => match x with
  | .Subscript ea (.Slice none none (some (.UnaryOp .USub (.Constant (.int 1) _ _) _)) _) _ => a.v cx ea
  | _ => false
theorem sn_rev {a : Ck} {da : Mn.Env → Mn.Dn} (sa : Snd a da) : Snd (ckRev a) (fun G => Mn.mk (Mn.revM (da G).v)) := Snd.ofV fun cx X C W G k x e h => by
  split at h
  · exact PE.weaken (pe_revL (sa.v cx X C W G k x _ h).1) fun σ H Q t => w_rev t
  · cases h
def ckGix (d : Str) (i : Ck) : Ck := mkC fun cx x => match x with
  | .Subscript (.Name y _) ei _ => (decide (d = y) && (isGl cx y && cx.T.gdc y)) && (notSlice ei && i.v cx ei)
  | _ => false
theorem sn_gix {d : Str} {i : Ck} {di : Mn.Env → Mn.Dn} (si : Snd i di) : Snd (ckGix d i) (fun G => Mn.mk (Mn.gixM G d (di G).v)) := Snd.ofV fun cx X C W G k x e h => by
  split at h
  · obtain ⟨h0, h1⟩ := and_t h
    obtain ⟨h1, h2⟩ := and_t h1
    obtain ⟨h3, h4⟩ := and_t h0
    obtain ⟨h4, h5⟩ := and_t h4
    have e := of_decide_eq_true h3
    subst e
    obtain ⟨a, e1, F⟩ := x.tx.gdc d h5
    obtain ⟨g1, g2⟩ := x.glb h4
    refine PE.weaken (pe_ix ix_kdict (pe_glob (v := .ref a) g1 e1 rfl g2) (si.v cx X C W G k x _ h2).1 (plainIx_of h1)) fun σ H Q t => ?_
    rw [x.K]
    exact w_gix F t
  · cases h
def ckGin (d : Str) (i : Ck) (yes : Bool) : Ck := mkC fun cx x => match x with
  | .Compare ei [.In] [.Name y _] _ => yes && ((decide (d = y) && (isGl cx y && cx.T.gdc y)) && i.v cx ei)
  | .Compare ei [.NotIn] [.Name y _] _ => !yes && ((decide (d = y) && (isGl cx y && cx.T.gdc y)) && i.v cx ei)
  | _ => false
def ginF (d : Str) (i : Ck) (yes : Bool) (cx : Cs) (x : Expr) : Bool := match x with
  | .Compare ei [.In] [.Name y _] _ => yes && ((decide (d = y) && (isGl cx y && cx.T.gdc y)) && i.v cx ei)
  | .Compare ei [.NotIn] [.Name y _] _ => !yes && ((decide (d = y) && (isGl cx y && cx.T.gdc y)) && i.v cx ei)
  | _ => false
def ckGinT (d : Str) (i : Ck) (yes : Bool) : Ck := ⟨ginF d i yes, ginF d i yes, fun cx x _ => ginF d i yes cx x⟩
theorem sn_gin {d : Str} {i : Ck} {di : Mn.Env → Mn.Dn} {yes : Bool} (si : Snd i di) : Snd (ckGinT d i yes) (fun G => Mn.mk (Mn.ginM G d (di G).v yes)) := by
  have kk : ∀ cx X C W G k, XOk cx X C W G k → ∀ x, ginF d i yes cx x = true → PE X x (TEv C W (Mn.ginM G d (di G).v yes)) ∧ PT X x (TTv C W (tst (Mn.ginM G d (di G).v yes))) ∧ ∀ op l p, x ≠ .BoolOp op l p := fun cx X C W G k x e h => by
    unfold ginF at h
    split at h
    · obtain ⟨h0, h1⟩ := and_t h
      subst h0
      obtain ⟨h1, h2⟩ := and_t h1
      obtain ⟨h3, h4⟩ := and_t h1
      obtain ⟨h4, h5⟩ := and_t h4
      have e := of_decide_eq_true h3
      subst e
      obtain ⟨a, e1, F⟩ := x.tx.gdc d h5
      obtain ⟨g1, g2⟩ := x.glb h4
      refine ⟨PE.weaken (pe_cmpR (op_gin x.K F) (si.v cx X C W G k x _ h2).1 (pe_glob (v := .ref a) g1 e1 rfl g2) rfl) fun σ H Q t => w_gin F t, PT.weaken (pt_cmpR (op_gin x.K F) (si.v cx X C W G k x _ h2).1 (pe_glob (v := .ref a) g1 e1 rfl g2) rfl) fun σ H Q t => w_tval (fun Q t => w_gin F t) t, fun op l p e => by cases e⟩
    · obtain ⟨h0, h1⟩ := and_t h
      have hy : yes = false := by simpa using h0
      subst hy
      obtain ⟨h1, h2⟩ := and_t h1
      obtain ⟨h3, h4⟩ := and_t h1
      obtain ⟨h4, h5⟩ := and_t h4
      have e := of_decide_eq_true h3
      subst e
      obtain ⟨a, e1, F⟩ := x.tx.gdc d h5
      obtain ⟨g1, g2⟩ := x.glb h4
      refine ⟨PE.weaken (pe_cmpR (op_ngin x.K F) (si.v cx X C W G k x _ h2).1 (pe_glob (v := .ref a) g1 e1 rfl g2) rfl) fun σ H Q t => w_gin F t, PT.weaken (pt_cmpR (op_ngin x.K F) (si.v cx X C W G k x _ h2).1 (pe_glob (v := .ref a) g1 e1 rfl g2) rfl) fun σ H Q t => w_tval (fun Q t => w_gin F t) t, fun op l p e => by cases e⟩
    · cases h
  exact Snd.ofVT (fun cx X C W G k x e h => (kk cx X C W G k x e h).1) fun cx X C W G k x e h => ⟨(kk cx X C W G k x e h).2.1, fun op l p q => absurd q ((kk cx X C W G k x e h).2.2 op l p)⟩
def ckAtt (a : Ck) (f : Str) : Ck := mkC fun cx x => match x with
  | .Attribute ea g _ => decide (f = g) && (notCall0 ea && (cx.T.att f && a.v cx ea))
  | _ => false
theorem sn_att {a : Ck} {f : Str} {da : Mn.Env → Mn.Dn} (sa : Snd a da) : Snd (ckAtt a f) (fun G => Mn.mk (Mn.attM G (da G).v f)) := Snd.ofV fun cx X C W G k x e h => by
  cases e with
  | Attribute ea g p =>
    obtain ⟨h1, h2⟩ := and_t h
    obtain ⟨h2, h3⟩ := and_t h2
    obtain ⟨h3, h4⟩ := and_t h3
    have e := of_decide_eq_true h1
    subst e
    exact PE.weaken (pe_fldD (x.tx.att f h3) (sa.v cx X C W G k x _ h4).1 h2) fun σ H Q t => w_att t
  | _ => cases h
def okArgs : List Ck → Cs → List Expr → List Keyword → Bool
  | _, _, [], [] => true
  | c :: cs, cx, [], kw :: kws => c.v cx kw.value && okArgs cs cx [] kws
  | c :: cs, cx, y :: ys, kws => notStar y && (c.v cx y && okArgs cs cx ys kws)
  | [], _, _, _ => false
section
variable {cx : Cs} {X : Cx} {C : Ct} {W : WX} {G : Mn.Env} {k : Nat}
theorem okKw_is (x : XOk cx X C W G k) : ∀ {ps : List Cd} {kws : List Keyword}, SndL ps → okArgs (ps.map (·.1)) cx [] kws = true → ∃ p2 p3, ps = p2 ++ p3 ∧ p2.length = kws.length ∧ PKn X kws (TRd C W (RBsx C) (Mn.densA (dnsOf p2 G)))
  | ps, [], s, h => ⟨[], ps, rfl, rfl, ⟨fun pos pins st σ H Q I q => pkn_nil.run pos pins st σ H Q I (w_a0 q)⟩⟩
  | [], _ :: _, _, h => by cases h
  | p :: ps, ⟨n, v, kp⟩ :: kws, s, h => by
    obtain ⟨h1, h2⟩ := and_t h
    obtain ⟨p2, p3, e, hl, q⟩ := okKw_is x (fun q hq => s q (by simp [hq])) h2
    refine ⟨p :: p2, p3, by rw [e, List.cons_append], by rw [List.length_cons, List.length_cons, hl], ?_⟩
    have m := pkn_cons (nm := n) (kpos := kp) ((s p (by simp)).v cx X C W G k x v h1).1 q
    exact ⟨fun pos pins st σ H Q I q => m.run pos pins st σ H Q I (w_a1 q)⟩
theorem okArgs_is (x : XOk cx X C W G k) : ∀ {ps : List Cd} {es : List Expr} {kws : List Keyword}, SndL ps → okArgs (ps.map (·.1)) cx es kws = true → ∃ p1 p2 p3, ps = p1 ++ (p2 ++ p3) ∧ p1.length = es.length ∧ p2.length = kws.length ∧ es.all notStar = true ∧
    PAn X es (TRd C W (RBsx C) (Mn.densA (dnsOf p1 G))) ∧ PKn X kws (TRd C W (RBsx C) (Mn.densA (dnsOf p2 G)))
  | ps, [], kws, s, h => by
    obtain ⟨p2, p3, e, hl, q⟩ := okKw_is x s h
    exact ⟨[], p2, p3, e, rfl, hl, rfl, ⟨fun pos pins st σ H Q I q => pan_nil.run pos pins st σ H Q I (w_a0 q)⟩, q⟩
  | [], _ :: _, _, _, h => by cases h
  | p :: ps, y :: ys, kws, s, h => by
    obtain ⟨h1, h2⟩ := and_t h
    obtain ⟨h2, h3⟩ := and_t h2
    obtain ⟨p1, p2, p3, e, l1, l2, a, q1, q2⟩ := okArgs_is x (fun q hq => s q (by simp [hq])) h3
    refine ⟨p :: p1, p2, p3, by rw [e, List.cons_append], by rw [List.length_cons, List.length_cons, l1], l2, by rw [List.all_cons, h1, a]; rfl, ?_, q2⟩
    have m := pan_cons ((s p (by simp)).v cx X C W G k x y h2).1 q1 h1
    exact ⟨fun pos pins st σ H Q I q => m.run pos pins st σ H Q I (w_a1 q)⟩
end
def kwNames : List Keyword → Option (List Str)
  | [] => some []
  | ⟨some n, _, _⟩ :: r => (kwNames r).map (n :: ·)
  | _ :: _ => none
theorem kwNames_is : ∀ {kws : List Keyword} {ks : List Str}, kwNames kws = some ks → kws.map (·.arg) = ks.map some
  | [], ks, e => by cases e; rfl
  | ⟨some n, v, p⟩ :: r, ks, e => by
    unfold kwNames at e
    obtain ⟨q, e1, e2⟩ := Option.map_eq_some_iff.mp e
    subst e2
    rw [List.map_cons, List.map_cons, kwNames_is e1]
  | ⟨none, v, p⟩ :: r, ks, e => by cases e
def Tl (ps : List Cd) (tl : Nat → Option (List Mn.Val)) : Prop := ∀ n ys, tl n = some ys → ∀ G, dnsOf (ps.drop n) G = ys.map fun y => Mn.mk (Mn.ret (.v y))
def okCall (dfl : List Mn.Val → Bool) (kwd : Nat → List Str → Bool) (cs : List Ck) (tl : Nat → Option (List Mn.Val)) (cx : Cs) (es : List Expr) (kws : List Keyword) : Bool :=
  okArgs cs cx es kws && (match kws with
  | [] => (match tl es.length with
    | some ys => dfl ys
    | none => false)
  | kw :: kr => !es.isEmpty && (decide (cs.length = es.length + (kw :: kr).length) && (match kwNames (kw :: kr) with
    | some ks => kwd es.length ks
    | none => false)))
theorem okCall_is {dfl : List Mn.Val → Bool} {kwd : Nat → List Str → Bool} {ps : List Cd} {tl : Nat → Option (List Mn.Val)} {cx : Cs} {es : List Expr} {kws : List Keyword} {X : Cx} {C : Ct} {W : WX} {G : Mn.Env} {k : Nat} (x : XOk cx X C W G k) (s : SndL ps) (ht : Tl ps tl) (h : okCall dfl kwd (ps.map (·.1)) tl cx es kws = true) :
    (kws = [] ∧ ∃ l ys, dnsOf ps G = l ++ (ys.map fun y => Mn.mk (Mn.ret (.v y))) ∧ dfl ys = true ∧ es.all notStar = true ∧ PA X es (TRd C W (RBsx C) (Mn.densA l)) ∧ ((es = [] ∧ l = []) ∨ ∃ e er, es = e :: er)) ∨
    (∃ e er ks l q, es = e :: er ∧ kws.map (·.arg) = ks.map some ∧ kwd es.length ks = true ∧ dnsOf ps G = l ++ q ∧ es.all notStar = true ∧ PAn X es (TRd C W (RBsx C) (Mn.densA l)) ∧ PKn X kws (TRd C W (RBsx C) (Mn.densA q))) := by
  unfold okCall at h
  obtain ⟨h1, h2⟩ := and_t h
  obtain ⟨p1, p2, p3, e, l1, l2, a, q1, q2⟩ := okArgs_is x s h1
  cases kws with
  | nil =>
    obtain rfl : p2 = [] := List.eq_nil_of_length_eq_zero l2
    refine .inl ⟨rfl, ?_⟩
    dsimp only at h2
    cases et : tl es.length with
    | none => rw [et] at h2; cases h2
    | some ys =>
      rw [et] at h2
      refine ⟨dnsOf p1 G, ys, ?_, h2, a, pan_pa q1, ?_⟩
      · rw [← ht _ _ et G, e]
        unfold dnsOf
        rw [← l1, List.nil_append, List.drop_left, List.map_append]
      · cases es with
        | nil => exact .inl ⟨rfl, by rw [List.eq_nil_of_length_eq_zero l1]; rfl⟩
        | cons e0 er => exact .inr ⟨e0, er, rfl⟩
  | cons kw kr =>
    refine .inr ?_
    obtain ⟨h2, h3⟩ := and_t h2
    obtain ⟨h3, h4⟩ := and_t h3
    cases ek : kwNames (kw :: kr) with
    | none => rw [ek] at h4; cases h4
    | some ks =>
      rw [ek] at h4
      cases es with
      | nil => cases h2
      | cons e0 er =>
        refine ⟨e0, er, ks, dnsOf p1 G, dnsOf p2 G, rfl, kwNames_is ek, h4, ?_, a, q1, q2⟩
        have hl := of_decide_eq_true h3
        have : p3 = [] := by
          refine List.eq_nil_of_length_eq_zero ?_
          have := congrArg List.length e
          rw [List.length_append, List.length_append, l1, l2] at this
          rw [List.length_map] at hl
          omega
        rw [e, this]
        unfold dnsOf
        rw [List.append_nil, List.map_append]
def ckCall (f : Str) (cs : List Ck) (tl : Nat → Option (List Mn.Val)) : Ck := mkC fun cx x => match x with
  | .Call (.Name g _) es kws _ => (decide (f = g) && isGl cx g) && okCall (cx.T.dfl f) (cx.T.kwd f) cs tl cx es kws
  | _ => false
theorem sn_call {f : Str} {ps : List Cd} {tl : Nat → Option (List Mn.Val)} (s : SndL ps) (ht : Tl ps tl) : Snd (ckCall f (ps.map (·.1)) tl) (fun G => Mn.mk (Mn.callM G f (dnsOf ps G))) := Snd.ofV fun cx X C W G k x e h => by
  split at h
  · obtain ⟨h0, h1⟩ := and_t h
    obtain ⟨h2, h3⟩ := and_t h0
    have e := of_decide_eq_true h2
    subst e
    obtain ⟨g1, g2⟩ := x.glb h3
    rcases okCall_is x s ht h1 with ⟨rfl, l, ys, e, hd, a, q, ne⟩ | ⟨e0, er, ks, l, q, e1, ek, hk, e, a, q1, q2⟩
    · obtain ⟨fa, dvs, ds, m, r, D⟩ := x.tx.dfl _ _ hd
      rw [e]
      rcases ne with ⟨rfl, rfl⟩ | ⟨e0, er, rfl⟩
      · refine PE.weaken (pe_callD0 (W := W) (⟨D.kp, D.ok, D.dv⟩ : DefF X C k fa _ dvs ds) (x.room.mono (by omega)) x.takes g1 g2 m) fun σ H Q t => ?_
        obtain ⟨μ, ρ, h, S, g⟩ := w_call r t
        exact g μ H [] S Fra.refl rfl
      · rw [List.all_cons] at a
        obtain ⟨a1, a2⟩ := and_t a
        exact PE.weaken (pe_callD (W := W) (⟨D.kp, D.ok, D.dv⟩ : DefF X C k fa _ dvs ds) (x.room.mono (by omega)) x.takes g1 g2 m a1 a2 q) fun σ H Q t => w_call r t
    · obtain ⟨fa, m, D⟩ := x.tx.kwd _ _ _ hk
      subst e1
      rw [e]
      exact PE.weaken (pe_callKS (W := W) D (x.room.mono (by omega)) x.takes g1 g2 m a rfl ek q1 q2) fun σ H Q t => w_callK t
  · cases h
theorem Good.mono {C : Ct} {W : WX} {σ : L2.St} {α β : Type} {Rr : RelT α β} {μ₀ : List Addr} {ρ₀ : Mn.Slots} {H₀ : Hp} {Q Q' : β → Hp → Prop} (h : ∀ x H, Q x H → Q' x H) {r : Mn.R α} (g : Good C W σ Rr μ₀ ρ₀ H₀ Q r) : Good C W σ Rr μ₀ ρ₀ H₀ Q' r := by
  cases r with
  | bad => exact g
  | err c ρ hh => exact g
  | ok a ρ hh => exact fun μ H x S F r => h x H (g μ H x S F r)
theorem TRd.mono {C : Ct} {W : WX} {σ : L2.St} {H : Hp} {α β : Type} {Rr : RelT α β} {m : Mn.M α} {Q Q' : β → Hp → Prop} (h : ∀ x H, Q x H → Q' x H) (t : TRd C W Rr m σ H Q) : TRd C W Rr m σ H Q' := by
  obtain ⟨μ, ρ, hh, S, g⟩ := t
  exact ⟨μ, ρ, hh, S, g.mono h⟩
def ckMeth (o : Ck) (m : Str) (cs : List Ck) (tl : Nat → Option (List Mn.Val)) : Ck := mkC fun cx x => match x with
  | .Call (.Attribute eo g ap) es kws p => (decide (m = g) && (notCall0 eo && (decide (es.length + kws.length < 29) && (ap.endLine == p.line)))) && (o.v cx eo && okCall (cx.T.mdfl m) (cx.T.mkwd m) cs tl cx es kws)
  | _ => false
theorem sn_meth {o : Ck} {m : Str} {ps : List Cd} {tl : Nat → Option (List Mn.Val)} {d : Mn.Env → Mn.Dn} (so : Snd o d) (s : SndL ps) (ht : Tl ps tl) : Snd (ckMeth o m (ps.map (·.1)) tl) (fun G => Mn.mk (Mn.methM G (d G).v m (dnsOf ps G))) := Snd.ofV fun cx X C W G k x e h => by
  split at h
  · obtain ⟨i0, i1⟩ := and_t h
    obtain ⟨i2, i3⟩ := and_t i0
    obtain ⟨h3, i4⟩ := and_t i3
    obtain ⟨i5, h5⟩ := and_t i4
    obtain ⟨h1, h6⟩ := and_t i1
    have e := of_decide_eq_true i2
    subst e
    have hl := of_decide_eq_true i5
    have po := (so.v cx X C W G k x _ h1).1
    rcases okCall_is x s ht h6 with ⟨rfl, l, ys, e, hd, a, q, ne⟩ | ⟨e0, er, ks, l, q, e1, ek, hk, e, a, q1, q2⟩
    · obtain ⟨dvs, ds, r, D⟩ := x.tx.mdfl _ _ hd
      have F : ∀ c f, G.meth c m = some f → MetF X C k c m (G.call f) dvs ds := fun c f em => by
        obtain ⟨k1, fa, k2, k3⟩ := D c f em
        exact ⟨k1, fa, k2, ⟨k3.kp, k3.ok, k3.dv⟩⟩
      rw [e]
      rcases ne with ⟨rfl, rfl⟩ | ⟨e0, er, rfl⟩
      · refine PE.weaken (pe_methD0 (W := W) F (x.room.mono (by omega)) x.takes h3 h5 po) fun σ H Q t => TRd.mono (fun z H1 ⟨a, c, dx, fs, f, q1, q2, q3, q4, q5⟩ => ⟨a, c, dx, fs, f, q1, q2, q3, q4, w_a0 q5⟩) (w_meth (l := []) r t)
      · rw [List.all_cons] at a
        obtain ⟨a1, a2⟩ := and_t a
        exact PE.weaken (pe_methD (W := W) F (x.room.mono (by omega)) x.takes h3 a1 a2 (by omega) h5 po q) fun σ H Q t => w_meth r t
    · have D := x.tx.mkwd _ _ _ hk
      subst e1
      rw [e]
      exact PE.weaken (pe_methKS (W := W) D (x.room.mono (by omega)) x.takes h3 a rfl ek hl h5 po q1 q2) fun σ H Q t => w_methK t
  · cases h
end Ms
end
section
namespace Ms
open PySem PySem.Spec PyProof.Rows L2
def ckNew (c : Str) (f : Str) (cs : List Ck) (tl : Nat → Option (List Mn.Val)) : Ck := mkC fun cx x => match x with
  | .Call (.Name g _) es [] _ => (decide (c = g) && isGl cx g) && okCall (cx.T.cdfl c) (fun _ _ => false) cs tl cx es []
  | _ => false
theorem sn_new {c : Str} {f : Str} {ps : List Cd} {tl : Nat → Option (List Mn.Val)} (s : SndL ps) (ht : Tl ps tl) : Snd (ckNew c f (ps.map (·.1)) tl) (fun G => Mn.mk (Mn.newM G c (dnsOf ps G))) := Snd.ofV fun cx X C W G k x e h => by
  split at h
  · obtain ⟨i0, i1⟩ := and_t h
    obtain ⟨i2, i3⟩ := and_t i0
    have e := of_decide_eq_true i2
    subst e
    obtain ⟨g1, g2⟩ := x.glb i3
    rcases okCall_is x s ht i1 with ⟨_, l, ys, e, hd, a, q, ne⟩ | ⟨e0, er, ks, l, q, e1, ek, hk, _⟩
    · obtain ⟨fa, fn, dvs, ds, _, hi, m, M, r, D⟩ := x.tx.cdfl _ _ hd
      have F : MakF X C k c (G.call fn) dvs ds := ⟨fa, M, ⟨D.kp, D.ok, D.dv⟩⟩
      rw [e]
      rcases ne with ⟨rfl, rfl⟩ | ⟨e0, er, rfl⟩
      · refine PE.weaken (pe_makeD0 (G := G) (f := fn) (W := W) F x.room x.takes g1 g2 m) fun σ H Q t => w_a0 (w_new (l := []) r hi t)
      · rw [List.all_cons] at a
        obtain ⟨a1, a2⟩ := and_t a
        exact PE.weaken (pe_makeD (G := G) (f := fn) (W := W) F x.room x.takes g1 g2 m a1 a2 q) fun σ H Q t => w_new r hi t
    · cases hk
  · cases h
section
variable {cx : Cs} {X : Cx} {C : Ct} {W : WX} {G : Mn.Env} {k : Nat}
theorem pe_nam (x : XOk cx X C W G k) {y : Str} {p : Pos} {v : V} {u : Value} (h : isGl cx y = true) (n : NamV X.mg y u) (r : RelV v u) : PE X (.Name y p) (tC v) := by
  obtain ⟨g1, g2⟩ := x.glb h
  rcases n with m | ⟨m, b, nn⟩
  · exact pe_glob g1 m r g2
  · exact pe_bltn g1 m b r nn g2
theorem pa1 {e : Expr} {te : TE} (h : PE X e te) (n : notStar e = true) : PA X [e] (tCons te tNil) := pa_cons h pa_nil (starEach_cons n [] X.env)
theorem pa2 {e f : Expr} {te tf : TE} (h : PE X e te) (n : notStar e = true) (h2 : PE X f tf) (n2 : notStar f = true) : PA X [e, f] (tCons te (tCons tf tNil)) := pa_cons h (pa1 h2 n2) (starEach_cons n [f] X.env)
theorem pa3 {e f g : Expr} {te tf tg : TE} (h : PE X e te) (n : notStar e = true) (h2 : PE X f tf) (n2 : notStar f = true) (h3 : PE X g tg) (n3 : notStar g = true) : PA X [e, f, g] (tCons te (tCons tf (tCons tg tNil))) := pa_cons h (pa2 h2 n2 h3 n3) (starEach_cons n [f, g] X.env)
end
def ckIsi (a : Ck) (t : Str) : Ck := mkC fun cx x => match x with
  | .Call (.Name b _) [ea, .Name y _] [] _ => (decide (b = "isinstance") && isB cx b) && ((decide (t = y) && (isGl cx y && cx.T.ty y)) && (notStar ea && a.v cx ea))
  | _ => false
theorem sn_isi {a : Ck} {t : Str} {da : Mn.Env → Mn.Dn} (sa : Snd a da) : Snd (ckIsi a t) (fun G => Mn.mk (Mn.isiM G (da G).v t)) := Snd.ofV fun cx X C W G k x e h => by
  split at h
  · obtain ⟨i0, i1⟩ := and_t h
    obtain ⟨i2, i3⟩ := and_t i0
    obtain ⟨i4, i5⟩ := and_t i1
    obtain ⟨i6, i7⟩ := and_t i4
    obtain ⟨i8, i9⟩ := and_t i7
    obtain ⟨j1, j2⟩ := and_t i5
    have e := of_decide_eq_true i2
    subst e
    have e := of_decide_eq_true i6
    subst e
    obtain ⟨b1, b2, b3, b4⟩ := x.bl i3
    obtain ⟨v, u, n1, n2, n3⟩ := x.tx.ty t i9
    exact PE.weaken (pe_callB (call_isiD x.K n3) b1 b3 (by rfl) (pa2 (sa.v cx X C W G k x _ j2).1 j1 (pe_nam x i8 n1 n2) rfl) b4 b2 (starEach_cons j1 _ X.env) rfl) fun σ H Q t => w_isi t
  · cases h
def bfName : BF → Str
  | .b x => x
  | .t x => x
theorem bf_boot : ∀ {f : Mn.F1} {b : BF}, nameF f = some b → bootBuiltins (bfName b) = some b.val := by
  intro f b e
  cases f <;> cases e <;> rfl
theorem f1M_is {G : Mn.Env} (hn : ∀ c, G.meth c "__len__" = none) (f : Mn.F1) (m : Mn.M Mn.B) : Mn.f1M G f (Mn.bind m Mn.viewM) = Mn.bind m fun x => Mn.bind (Mn.viewM x) fun w => Mn.f1V f w := by
  unfold Mn.f1M
  rw [bind_assoc]
  congr 1
  funext x
  congr 1
  funext p
  split
  · rename_i a
    funext s h
    have e : Mn.methV G "__len__" (.ref a) s h = .bad := by
      unfold Mn.methV
      dsimp only
      split
      · split
        · rfl
        · rw [hn]
      · rfl
    rw [bind_bad e]
    rfl
  · rfl
def isSset : Mn.F1 → Bool
  | .sset => true
  | _ => false
def f1S (f : Mn.F1) (a : Ck) (cx : Cs) (x : Expr) : Bool := isSset f && (match x with
  | .Call (.Name b _) [.Call (.Name b2 _) [eb] [] _] [] _ => (decide (b = "sorted") && isB cx b) && ((decide (b2 = "set") && isB cx b2) && (notStar eb && a.v cx eb))
  | _ => false)
def f1G (f : Mn.F1) (a : Ck) (cx : Cs) (x : Expr) : Bool := match x with
  | .Call (.Name b _) [ea] [] _ => (match nameF f with
      | some bf => decide (b = bfName bf) && (isB cx b && (notStar ea && a.v cx ea))
      | none => false)
  | _ => false
def ckF1 (f : Mn.F1) (a : Ck) : Ck := mkC fun cx x => f1S f a cx x || f1G f a cx x
theorem f1_w {G : Mn.Env} {k : Nat} {a : Ck} {da : Mn.Env → Mn.Dn} (sa : Snd a da) {cx : Cs} {X : Cx} {C : Ct} {W : WX} (x : XOk cx X C W G k) {ee : Expr} (hv : a.v cx ee = true) (f : Mn.F1) : Mn.f1M G f (da G).w = Mn.bind (da G).v fun x => Mn.bind (Mn.viewM x) fun w => Mn.f1V f w := by
  have e : (da G).w = Mn.bind (da G).v Mn.viewM := by
    rw [(sa.v cx X C W G k x _ hv).2]
    rfl
  rw [e, f1M_is x.tx.nolen]
theorem sn_f1 {f : Mn.F1} {a : Ck} {da : Mn.Env → Mn.Dn} (sa : Snd a da) : Snd (ckF1 f a) (fun G => Mn.mk (Mn.f1M G f (da G).w)) := Snd.ofV fun cx X C W G k x e h => by
  rcases Bool.or_eq_true_iff.mp h with h | h
  · obtain ⟨h0, h1⟩ := and_t h
    obtain rfl : f = .sset := by cases f <;> first | rfl | cases h0
    split at h1
    · obtain ⟨i0, i1⟩ := and_t h1
      obtain ⟨i2, i3⟩ := and_t i0
      obtain ⟨i4, i5⟩ := and_t i1
      obtain ⟨i6, i7⟩ := and_t i4
      obtain ⟨i8, i9⟩ := and_t i5
      have e := of_decide_eq_true i2
      subst e
      have e := of_decide_eq_true i6
      subst e
      obtain ⟨b1, b2, b3, b4⟩ := x.bl i3
      obtain ⟨c1, c2, c3, c4⟩ := x.bl i7
      refine PE.weaken (pe_sset x.calm b1 b3 c1 c3 (sa.v cx X C W G k x _ i9).1 i8) fun σ H Q t => ?_
      rw [f1_w sa x i9] at t
      rw [x.K]
      exact w_sset (G := G) t
    · cases h1
  · unfold f1G at h
    split at h
    · split at h
      · rename_i bf hb
        obtain ⟨i0, i1⟩ := and_t h
        obtain ⟨i2, i3⟩ := and_t i1
        obtain ⟨i4, i5⟩ := and_t i3
        have e := of_decide_eq_true i0
        subst e
        obtain ⟨b1, b2, b3, b4⟩ := x.bl i2
        have cr := f1_call (C := C) (W := W) x.K x.calm hb
        have q := pa1 (sa.v cx X C W G k x _ i5).1 i4
        have bo := bf_boot hb
        have fin : ∀ σ H Q, TEv C W (Mn.f1M G f (da G).w) σ H Q → tCB (rF1 C W f) (tCons (TEv C W (da G).v) tNil) σ H Q := fun σ H Q t => by
          rw [f1_w sa x i5] at t
          exact w_f1 t
        cases bf with
        | b n => exact PE.weaken (pe_callB cr b1 b3 bo q b4 b2 (starEach_cons i4 [] X.env) rfl) fin
        | t n => exact PE.weaken (pe_callTy cr b1 b3 bo q b4 b2 (starEach_cons i4 [] X.env) rfl) fin
      · cases h
    · cases h
def ckTwo (n : Str) (a b : Ck) : Ck := mkC fun cx x => match x with
  | .Call (.Name y _) [ea, eb] [] _ => (decide (y = n) && isB cx y) && ((notStar ea && notStar eb) && (a.v cx ea && b.v cx eb))
  | _ => false
theorem sn_min2 {a b : Ck} {da db : Mn.Env → Mn.Dn} (sa : Snd a da) (sb : Snd b db) : Snd (ckTwo "min" a b) (fun G => Mn.mk (Mn.min2M (da G).v (db G).v)) := Snd.ofV fun cx X C W G k x e h => by
  split at h
  · obtain ⟨i0, i1⟩ := and_t h
    obtain ⟨i2, i3⟩ := and_t i0
    obtain ⟨i4, i5⟩ := and_t i1
    obtain ⟨i6, i7⟩ := and_t i4
    obtain ⟨i8, i9⟩ := and_t i5
    have e := of_decide_eq_true i2
    subst e
    obtain ⟨b1, b2, b3, b4⟩ := x.bl i3
    exact PE.weaken (pe_callB (call_min2 x.calm) b1 b3 (by rfl) (pa2 (sa.v cx X C W G k x _ i8).1 i6 (sb.v cx X C W G k x _ i9).1 i7) b4 b2 (starEach_cons i6 _ X.env) (by rw [starEach_cons i7]; rfl)) fun σ H Q t => w_min2 t
  · cases h
theorem sn_max2 {a b : Ck} {da db : Mn.Env → Mn.Dn} (sa : Snd a da) (sb : Snd b db) : Snd (ckTwo "max" a b) (fun G => Mn.mk (Mn.max2M (da G).v (db G).v)) := Snd.ofV fun cx X C W G k x e h => by
  split at h
  · obtain ⟨i0, i1⟩ := and_t h
    obtain ⟨i2, i3⟩ := and_t i0
    obtain ⟨i4, i5⟩ := and_t i1
    obtain ⟨i6, i7⟩ := and_t i4
    obtain ⟨i8, i9⟩ := and_t i5
    have e := of_decide_eq_true i2
    subst e
    obtain ⟨b1, b2, b3, b4⟩ := x.bl i3
    exact PE.weaken (pe_callB (call_max2 x.calm) b1 b3 (by rfl) (pa2 (sa.v cx X C W G k x _ i8).1 i6 (sb.v cx X C W G k x _ i9).1 i7) b4 b2 (starEach_cons i6 _ X.env) (by rw [starEach_cons i7]; rfl)) fun σ H Q t => w_max2 t
  · cases h
def ckM1 (m : Str) (o a : Ck) : Ck := mkC fun cx x => match x with
  | .Call (.Attribute eo y ap) [ea] [] p => (decide (y = m) && (notCall0 eo && (ap.endLine == p.line))) && (notStar ea && (o.v cx eo && a.v cx ea))
  | _ => false
theorem few1 {X : Cx} {e : Expr} (n : notStar e = true) (p : Pos) : ((backTo p (starEach [e] X.env)).all (fun x => !x.1) && (backToKw p (keywordEach [] X.env)).all (fun x => x.1.isSome) && decide (([e] : List Expr).length + ([] : List Keyword).length + (if ([] : List Keyword).isEmpty then 0 else 1) < 30)) = true := by
  rw [starEach_cons n]
  rfl
theorem sn_index {o a : Ck} {d da : Mn.Env → Mn.Dn} (so : Snd o d) (sa : Snd a da) : Snd (ckM1 "index" o a) (fun G => Mn.mk (Mn.two Mn.lstB Mn.indexV (d G).v (da G).v)) := Snd.ofV fun cx X C W G k x e h => by
  split at h
  · obtain ⟨i0, i1⟩ := and_t h
    obtain ⟨i2, i3⟩ := and_t i0
    obtain ⟨i4, i5⟩ := and_t i3
    obtain ⟨i6, i7⟩ := and_t i1
    obtain ⟨i8, i9⟩ := and_t i7
    have e := of_decide_eq_true i2
    subst e
    refine PE.weaken (pe_bm PySem.F.plainAttrs_list PySem.F.slot_list_index PySem.F.type_list_index (mt_indexD x.hu) (so.v cx X C W G k x _ i8).1 (pa1 (sa.v cx X C W G k x _ i9).1 i6) (attributeBase_of i4 _ X.env _) (few1 i6 _) i5 (starEach_cons i6 [] X.env) rfl) fun σ H Q t => ?_
    rw [x.K]
    exact w_index t
  · cases h
theorem sn_count {o a : Ck} {d da : Mn.Env → Mn.Dn} (so : Snd o d) (sa : Snd a da) : Snd (ckM1 "count" o a) (fun G => Mn.mk (Mn.two Mn.lstB Mn.countV (d G).v (da G).v)) := Snd.ofV fun cx X C W G k x e h => by
  split at h
  · obtain ⟨i0, i1⟩ := and_t h
    obtain ⟨i2, i3⟩ := and_t i0
    obtain ⟨i4, i5⟩ := and_t i3
    obtain ⟨i6, i7⟩ := and_t i1
    obtain ⟨i8, i9⟩ := and_t i7
    have e := of_decide_eq_true i2
    subst e
    refine PE.weaken (pe_bm PySem.F.plainAttrs_list PySem.F.slot_list_count PySem.F.type_list_count mt_lcountV (so.v cx X C W G k x _ i8).1 (pa1 (sa.v cx X C W G k x _ i9).1 i6) (attributeBase_of i4 _ X.env _) (few1 i6 _) i5 (starEach_cons i6 [] X.env) rfl) fun σ H Q t => ?_
    rw [x.K]
    exact w_count t
  · cases h
theorem sn_join {o a : Ck} {d da : Mn.Env → Mn.Dn} (so : Snd o d) (sa : Snd a da) : Snd (ckM1 "join" o a) (fun G => Mn.mk (Mn.two Mn.strB Mn.joinV (d G).v (da G).v)) := Snd.ofV fun cx X C W G k x e h => by
  split at h
  · obtain ⟨i0, i1⟩ := and_t h
    obtain ⟨i2, i3⟩ := and_t i0
    obtain ⟨i4, i5⟩ := and_t i3
    obtain ⟨i6, i7⟩ := and_t i1
    obtain ⟨i8, i9⟩ := and_t i7
    have e := of_decide_eq_true i2
    subst e
    refine PE.weaken (pe_join (so.v cx X C W G k x _ i8).1 (sa.v cx X C W G k x _ i9).1 (starEach_cons i6 [] X.env) (attributeBase_of i4 _ X.env _) i5) fun σ H Q t => ?_
    rw [x.K]
    exact w_join t
  · cases h
theorem const_pe {C : Ct} {X : Cx} {v : Mn.Val} {c : Const} {j : Nat} {p : Pos} (h : isConst v c = true) : ∃ kv, (∀ μ H, RV C μ H v kv) ∧ PE X (.Constant c j p) (tC kv) := by
  cases v with
  | non => cases c <;> first | exact ⟨.non, fun _ _ => rfl, pe_non⟩ | cases h
  | bl a =>
    cases c with
    | bool b =>
      have e : a = b := by simpa [isConst] using h
      subst e
      exact ⟨.bl a, fun _ _ => rfl, pe_bl⟩
    | _ => cases h
  | int a =>
    cases c with
    | int b =>
      have e : a = b := by simpa [isConst] using h
      subst e
      exact ⟨.int a, fun _ _ => rfl, pe_int⟩
    | _ => cases h
  | str a =>
    cases c with
    | str b =>
      obtain ⟨h1, h2⟩ := and_t h
      have e : a = b := of_decide_eq_true h1
      subst e
      exact ⟨.str a, fun _ _ => ⟨rfl, h2⟩, pe_str⟩
    | _ => cases h
  | _ => cases c <;> cases h
def okP : List (Mn.Val × Ck) → Cs → List (Option Expr) → List Expr → Bool
  | [], _, [], [] => true
  | (k, c) :: r, cx, some (.Constant kc _ _) :: ks, v :: vs => isConst k kc && (c.v cx v && okP r cx ks vs)
  | _, _, _, _ => false
def ckDct (l : List (Mn.Val × Ck)) : Ck := mkC fun cx x => match x with
  | .Dict ks vs _ => decide (l.length ≤ 15) && okP l cx ks vs
  | _ => false
section
variable {cx : Cs} {X : Cx} {C : Ct} {W : WX} {G : Mn.Env} {k : Nat}
theorem okP_is (x : XOk cx X C W G k) {pos : Pos} : ∀ {ps : List (Mn.Val × Cd)} {ks : List (Option Expr)} {vs : List Expr}, (∀ p ∈ ps, Snd p.2.1 p.2.2) → okP (ps.map fun p => (p.1, p.2.1)) cx ks vs = true →
    ∃ trs, PPs X pos ks vs trs ∧ (∀ σ H Q, TRd C W (RPsx C) (Mn.densP (ps.map fun p => (p.1, p.2.2 G))) σ H Q → tPairs trs σ H Q) ∧ ks.length = ps.length ∧ vs.length = ps.length ∧ ks.all (·.isSome) = true
  | [], [], [], _, _ => ⟨[], pps_nil, fun σ H Q t => w_p0 t, rfl, rfl, rfl⟩
  | (kv, p) :: ps, some (.Constant kc j kp) :: ks, v :: vs, s, h => by
    obtain ⟨h1, h2⟩ := and_t h
    obtain ⟨h2, h3⟩ := and_t h2
    obtain ⟨trs, q1, q2, q3, q4, q5⟩ := okP_is x (pos := pos) (fun p hp => s p (by simp [hp])) h3
    obtain ⟨u, r1, r2⟩ := const_pe (C := C) (X := X) (j := j) (p := kp) h1
    refine ⟨_, pps_cons r2 ((s (kv, p) (by simp)).v cx X C W G k x v h2).1 q1, fun σ H Q t => w_p1 r1 (fun H Q t => q2 σ H Q t) t, by rw [List.length_cons, List.length_cons, q3], by rw [List.length_cons, List.length_cons, q4], ?_⟩
    rw [List.all_cons, q5]
    rfl
  | [], _ :: _, _, _, h => by cases h
  | [], [], _ :: _, _, h => by cases h
  | (_, _) :: _, [], _, _, h => by cases h
  | (_, _) :: _, none :: _, _, _, h => by cases h
  | (_, _) :: _, some e :: _, [], _, h => by cases e <;> cases h
  | (_, _) :: _, some (.BoolOp ..) :: _, _ :: _, _, h => by cases h
  | (_, _) :: _, some (.NamedExpr ..) :: _, _ :: _, _, h => by cases h
  | (_, _) :: _, some (.BinOp ..) :: _, _ :: _, _, h => by cases h
  | (_, _) :: _, some (.UnaryOp ..) :: _, _ :: _, _, h => by cases h
  | (_, _) :: _, some (.Lambda ..) :: _, _ :: _, _, h => by cases h
  | (_, _) :: _, some (.IfExp ..) :: _, _ :: _, _, h => by cases h
  | (_, _) :: _, some (.Dict ..) :: _, _ :: _, _, h => by cases h
  | (_, _) :: _, some (.Set ..) :: _, _ :: _, _, h => by cases h
  | (_, _) :: _, some (.ListComp ..) :: _, _ :: _, _, h => by cases h
  | (_, _) :: _, some (.SetComp ..) :: _, _ :: _, _, h => by cases h
  | (_, _) :: _, some (.DictComp ..) :: _, _ :: _, _, h => by cases h
  | (_, _) :: _, some (.GeneratorExp ..) :: _, _ :: _, _, h => by cases h
  | (_, _) :: _, some (.Await ..) :: _, _ :: _, _, h => by cases h
  | (_, _) :: _, some (.Yield ..) :: _, _ :: _, _, h => by cases h
  | (_, _) :: _, some (.YieldFrom ..) :: _, _ :: _, _, h => by cases h
  | (_, _) :: _, some (.Compare ..) :: _, _ :: _, _, h => by cases h
  | (_, _) :: _, some (.Call ..) :: _, _ :: _, _, h => by cases h
  | (_, _) :: _, some (.FormattedValue ..) :: _, _ :: _, _, h => by cases h
  | (_, _) :: _, some (.JoinedStr ..) :: _, _ :: _, _, h => by cases h
  | (_, _) :: _, some (.Attribute ..) :: _, _ :: _, _, h => by cases h
  | (_, _) :: _, some (.Subscript ..) :: _, _ :: _, _, h => by cases h
  | (_, _) :: _, some (.Starred ..) :: _, _ :: _, _, h => by cases h
  | (_, _) :: _, some (.Name ..) :: _, _ :: _, _, h => by cases h
  | (_, _) :: _, some (.List ..) :: _, _ :: _, _, h => by cases h
  | (_, _) :: _, some (.Tuple ..) :: _, _ :: _, _, h => by cases h
  | (_, _) :: _, some (.Slice ..) :: _, _ :: _, _, h => by cases h
end
theorem sn_dct {ps : List (Mn.Val × Cd)} (s : ∀ p ∈ ps, Snd p.2.1 p.2.2) : Snd (ckDct (ps.map fun p => (p.1, p.2.1))) (fun G => Mn.mk (Mn.dctM (ps.map fun p => (p.1, p.2.2 G)))) := Snd.ofV fun cx X C W G k x e h => by
  split at h
  · rename_i ks vs pos
    obtain ⟨h1, h2⟩ := and_t h
    have hl := of_decide_eq_true h1
    rw [List.length_map] at hl
    obtain ⟨trs, q1, q2, q3, q4, q5⟩ := okP_is x (pos := pos) s h2
    have fin : ∀ σ H Q, TEv C W (Mn.dctM (ps.map fun p => (p.1, p.2.2 G))) σ H Q → tDisp trs σ H Q := fun σ H Q t => w_dct (by rw [List.length_map]; exact hl) (fun H Q t => q2 σ H Q t) t
    by_cases hz : ks = []
    · subst hz
      have hp : ps = [] := List.eq_nil_of_length_eq_zero q3.symm
      subst hp
      have hv : vs = [] := List.eq_nil_of_length_eq_zero q4
      subst hv
      refine PE.weaken pe_dnewK fun σ H Q t => fun p hp => ?_
      obtain ⟨k1, kvs, k2, k3, k4⟩ := w_dct (trs := []) (l := []) (by decide) (fun H Q t => w_p0 t) t p hp
      cases kvs with
      | nil =>
        have e : upd (upd H p (.dK [])) p (.dK (mergeK [] [])) = upd H p (.dK []) := upd_upd
        rw [e] at k4
        exact k4
      | cons a b => cases k2
    · exact PE.weaken (pe_disp q1 q5 (by rw [q3, q4]) hz (by rw [q3]; exact hl)) fin
  · cases h
end Ms
end
section
namespace Ms
open PySem PySem.Spec PyProof.Rows L2
def isLoc (cx : Cs) (i : Nat) (y : Str) : Bool := decide (cx.N[i]? = some y) && (match cx.sc.names.lookup y with
  | some .local => true
  | some .cell => true
  | _ => false)
def okNs : Cs → List Nat → List Expr → Bool
  | _, [], [] => true
  | cx, i :: r, .Name y _ :: es => isLoc cx i y && okNs cx r es
  | _, _, _ => false
def okTg (cx : Cs) : Mn.Tg → Expr → Bool
  | .one i, .Name y _ => isLoc cx i y
  | .many l, .Tuple es _ _ => okNs cx l es
  | _, _ => false
section
variable {cx : Cs} {X : Cx} {C : Ct} {W : WX} {G : Mn.Env} {k : Nat}
theorem XOk.lc (x : XOk cx X C W G k) {i : Nat} {y : Str} (h : isLoc cx i y = true) : X.N[i]? = some y ∧ Loc X.env.scope y ∧ (X.fn y = true ∨ X.env.scope.names.lookup y = some .local) := by
  obtain ⟨h1, h2⟩ := and_t h
  refine ⟨by rw [x.N]; exact of_decide_eq_true h1, ?_⟩
  cases e : cx.sc.names.lookup y with
  | none => rw [e] at h2; cases h2
  | some j =>
    rw [e] at h2
    cases j with
    | «local» => exact x.locd (.inl e)
    | cell => exact x.locd (.inr e)
    | _ => cases h2
theorem okNs_pg (x : XOk cx X C W G k) : ∀ {l : List Nat} {es : List Expr}, okNs cx l es = true → PGs X es (gsOf l) ∧ (assignEach es X.env).length = l.length ∧ (assignEach es X.env).findIdx? (·.1) = none
  | [], [], _ => ⟨pgs_nil, rfl, rfl⟩
  | [], _ :: _, h => nomatch (show false = true from h)
  | _ :: _, [], h => nomatch (show false = true from h)
  | i :: r, e :: es, h => by
    cases e with
    | Name y p =>
      obtain ⟨h1, h2⟩ := and_t h
      obtain ⟨q1, q2, q3⟩ := okNs_pg x h2
      obtain ⟨k1, k2, k3⟩ := x.lc h1
      refine ⟨pgs_cons (pg_name x.nd k1 k2 k3) q1 rfl, ?_, ?_⟩
      · show (assignEach es X.env).length + 1 = r.length + 1
        rw [q2]
      · show ((false, assign (.Name y p) X.env) :: assignEach es X.env).findIdx? (·.1) = none
        rw [List.findIdx?_cons, q3]
        rfl
    | _ => exact nomatch (show false = true from h)
theorem okTg_pg (x : XOk cx X C W G k) {t : Mn.Tg} {e : Expr} (h : okTg cx t e = true) : PG X e (tgOf C.K t) := by
  unfold okTg at h
  split at h
  · obtain ⟨k1, k2, k3⟩ := x.lc h
    exact pg_name x.nd k1 k2 k3
  · obtain ⟨q1, q2, q3⟩ := okNs_pg x h
    unfold tgOf
    rw [← x.K]
    exact pg_tup x.calm q1 q2 q3
  · cases h
end
def notSet : Expr → Bool
  | .Set _ _ _ => false
  | _ => true
theorem folded_of {e : Expr} (h : notSet e = true) (env : Env) (v : Value) : foldedSetIterable e env v = pure v := by
  cases e <;> first | rfl | cases h
def okC : Option Ck → Cs → List Expr → Bool
  | none, _, [] => true
  | some c, cx, [y] => c.t cx y
  | _, _, _ => false
def ownOf (cx : Cs) (own : List Nat) : List (Str × Nat) := own.map fun i => (cx.N.getD i Str.empty, i)
theorem ownOf_snd (cx : Cs) (own : List Nat) : (ownOf cx own).map (·.2) = own := by
  unfold ownOf
  rw [List.map_map]
  exact List.map_id own
def ckComp (e : Ck) (t : Mn.Tg) (it : Ck) (c : Option Ck) (own : List Nat) : Ck := mkC fun cx x => match x with
  | .ListComp ee [⟨et, ei, ifs, n⟩] s _ => (decide (n = 0) && (notSet ei && blkC cx.N cx.sc s (ownOf cx own))) && (((Mn.tgN t).all own.contains && okTg { cx with sc := s } t et) && (it.it cx ei et && (e.v { cx with sc := s } ee && okC c { cx with sc := s } ifs)))
  | _ => false
theorem w_yes {C : Ct} {W : WX} {σ : L2.St} {H : Hp} {Q : Bool → Hp → Prop} (t : TTv C W (Mn.tstD none) σ H Q) : tYes σ H Q := by
  obtain ⟨μ, ρ, h, S, g⟩ := t
  exact g μ H true S Fra.refl rfl
theorem sn_comp {e it : Ck} {de di : Mn.Env → Mn.Dn} {t : Mn.Tg} {c : Option Cd} {own : List Nat} (se : Snd e de) (si : Snd it di) (sc : SndO c) : Snd (ckComp e t it (c.map (·.1)) own) (fun G => Mn.mk (Mn.compM (de G).v t (di G).it (dnO' c G) own)) := Snd.ofV fun cx X C W G k x ex h => by
  split at h
  · rename_i ee et ei ifs n s pos
    obtain ⟨i0, i1⟩ := and_t h
    obtain ⟨i2, i3⟩ := and_t i0
    obtain ⟨i4, i5⟩ := and_t i3
    obtain ⟨i6, i7⟩ := and_t i1
    obtain ⟨i8, i9⟩ := and_t i6
    obtain ⟨j0, j1⟩ := and_t i7
    obtain ⟨j2, j3⟩ := and_t j1
    have hn := of_decide_eq_true i2
    subst hn
    have ok := x.blkOk i5
    have hg : ∀ (sh : Shared) (H : Hp) (a : Addr) (cl : List (Str × Addr)) (fp : List Addr), PG (X.blk sh H s (compEnvC s cl a X.env) fp) et (tgOf C.K t) := fun sh H a cl fp => okTg_pg (x.blk sh H a cl fp) i9
    have he : ∀ (sh : Shared) (H : Hp) (a : Addr) (cl : List (Str × Addr)) (fp : List Addr), PE (X.blk sh H s (compEnvC s cl a X.env) fp) ee (TEv C WF (de G).v) := fun sh H a cl fp => (se.v _ _ _ _ _ _ (x.blk sh H a cl fp) ee j2).1
    have ht : ∀ (sh : Shared) (H : Hp) (a : Addr) (cl : List (Str × Addr)) (fp : List Addr), PTs (X.blk sh H s (compEnvC s cl a X.env) fp) ifs (TTv C WF (Mn.tstD (dnO' c G))) := fun sh H a cl fp => by
      cases c with
      | none =>
        cases ifs with
        | nil => exact PTs.weaken pts_nil fun σ H Q t => w_yes t
        | cons a b => cases j3
      | some p =>
        cases ifs with
        | nil => cases j3
        | cons a b =>
          cases b with
          | nil => exact pts_one ((sc p rfl).t _ _ _ _ _ _ (x.blk sh H _ cl fp) a j3).1
          | cons _ _ => cases j3
    refine PE.weaken (pe_lc x.calm x.nd (si.it cx X C W G k x ei et j0) ok hg ht he (folded_of i4 X.env)) fun σ H Q t' => ?_
    rw [ownOf_snd]
    exact w_comp (fun j => Iff.rfl) (fun j hj => by
      have := List.all_eq_true.mp i8 j hj
      simpa using this) (fun R r => r) t'
  · cases h
def ckRng (a0 c1 : Bool) (a b c : Ck) : Ck := ⟨fun _ _ => false, fun _ _ => false, fun cx x _ => match x with
  | .Call (.Name n _) [eb] [] _ => (a0 && c1) && ((decide (n = "range") && isB cx n) && (notStar eb && b.v cx eb))
  | .Call (.Name n _) [ea, eb] [] _ => c1 && ((decide (n = "range") && isB cx n) && ((notStar ea && notStar eb) && (a.v cx ea && b.v cx eb)))
  | .Call (.Name n _) [ea, eb, ec] [] _ => (decide (n = "range") && isB cx n) && ((notStar ea && (notStar eb && notStar ec)) && (a.v cx ea && (b.v cx eb && c.v cx ec)))
  | _ => false⟩
theorem sn_rng {a0 c1 : Bool} {a b c : Ck} {da db dc : Mn.Env → Mn.Dn} (ha : a0 = true → ∀ G, da G = Mn.mk (Mn.ret (.v (.int 0)))) (hc : c1 = true → ∀ G, dc G = Mn.mk (Mn.ret (.v (.int 1)))) (sa : Snd a da) (sb : Snd b db) (sc : Snd c dc) : Snd (ckRng a0 c1 a b c) (fun G => Mn.mkI (Mn.rngI (da G).v (db G).v (dc G).v)) where
  v := fun cx X C W G k x e h => by cases h
  t := fun cx X C W G k x e h => by cases h
  it := fun cx X C W G k x e tg h => by
    unfold ckRng at h
    dsimp only at h
    split at h
    · obtain ⟨i0, i1⟩ := and_t h
      obtain ⟨i2, i3⟩ := and_t i0
      obtain ⟨i4, i5⟩ := and_t i1
      obtain ⟨i6, i7⟩ := and_t i4
      obtain ⟨i8, i9⟩ := and_t i5
      have e := of_decide_eq_true i6
      subst e
      obtain ⟨b1, b2, b3, b4⟩ := x.bl i7
      refine PI.weaken (pi_range1 b1 b3 (pa1 (sb.v cx X C W G k x _ i9).1 i8) (by rw [starEach_cons i8]; rfl)) fun σ H R t => ?_
      have t' : TRd C W (RIx C) (Mn.rngI (da G).v (db G).v (dc G).v) σ H R := t
      rw [ha i2 G, hc i3 G] at t'
      exact w_rng1 t'
    · obtain ⟨i0, i1⟩ := and_t h
      obtain ⟨i2, i3⟩ := and_t i1
      obtain ⟨i4, i5⟩ := and_t i2
      obtain ⟨i6, i7⟩ := and_t i3
      obtain ⟨i8, i9⟩ := and_t i6
      obtain ⟨j1, j2⟩ := and_t i7
      have e := of_decide_eq_true i4
      subst e
      obtain ⟨b1, b2, b3, b4⟩ := x.bl i5
      refine PI.weaken (pi_range2 b1 b3 (pa2 (sa.v cx X C W G k x _ j1).1 i8 (sb.v cx X C W G k x _ j2).1 i9) (by rw [starEach_cons i8, starEach_cons i9]; rfl) (by rw [starEach_cons i9]; rfl)) fun σ H R t => ?_
      have t' : TRd C W (RIx C) (Mn.rngI (da G).v (db G).v (dc G).v) σ H R := t
      rw [hc i0 G] at t'
      exact w_rng2 t'
    · obtain ⟨i0, i1⟩ := and_t h
      obtain ⟨i2, i3⟩ := and_t i0
      obtain ⟨i4, i5⟩ := and_t i1
      obtain ⟨i6, i7⟩ := and_t i4
      obtain ⟨i8, i9⟩ := and_t i7
      obtain ⟨j1, j2⟩ := and_t i5
      obtain ⟨j3, j4⟩ := and_t j2
      have e := of_decide_eq_true i2
      subst e
      obtain ⟨b1, b2, b3, b4⟩ := x.bl i3
      exact PI.weaken (pi_range3 b1 b3 (pa3 (sa.v cx X C W G k x _ j1).1 i6 (sb.v cx X C W G k x _ j3).1 i8 (sc.v cx X C W G k x _ j4).1 i9) (starEach_cons i6 _ X.env) (by rw [starEach_cons i8, starEach_cons i9]; rfl)) fun σ H R t => w_rng t
    · cases h
def ckZip (a b : Ck) : Ck := ⟨fun _ _ => false, fun _ _ => false, fun cx x tg => match x, tg with
  | .Call (.Name n _) [ea, eb] [] _, .Tuple _ _ _ => (decide (n = "zip") && isB cx n) && ((notStar ea && notStar eb) && (a.v cx ea && b.v cx eb))
  | _, _ => false⟩
theorem sn_zip {a b : Ck} {da db : Mn.Env → Mn.Dn} (sa : Snd a da) (sb : Snd b db) : Snd (ckZip a b) (fun G => Mn.mkI (Mn.zipI (da G).v (db G).v)) where
  v := fun cx X C W G k x e h => by cases h
  t := fun cx X C W G k x e h => by cases h
  it := fun cx X C W G k x e tg h => by
    unfold ckZip at h
    dsimp only at h
    split at h
    · obtain ⟨i0, i1⟩ := and_t h
      obtain ⟨i2, i3⟩ := and_t i0
      obtain ⟨i4, i5⟩ := and_t i1
      obtain ⟨i6, i7⟩ := and_t i4
      obtain ⟨i8, i9⟩ := and_t i5
      have e := of_decide_eq_true i2
      subst e
      obtain ⟨b1, b2, b3, b4⟩ := x.bl i3
      refine PI.weaken (pi_zipK b1 b3 (pa2 (sa.v cx X C W G k x _ i8).1 i6 (sb.v cx X C W G k x _ i9).1 i7) (starEach_cons i6 _ X.env) (by rw [starEach_cons i7]; rfl)) fun σ H R t => ?_
      rw [x.K]
      exact w_zip t
    · cases h
def ckEnu (a : Ck) : Ck := ⟨fun _ _ => false, fun _ _ => false, fun cx x tg => match x, tg with
  | .Call (.Name n _) [ea] [] _, .Tuple _ _ _ => (decide (n = "enumerate") && isB cx n) && (notStar ea && a.v cx ea)
  | _, _ => false⟩
theorem sn_enu {a : Ck} {da : Mn.Env → Mn.Dn} (sa : Snd a da) : Snd (ckEnu a) (fun G => Mn.mkI (Mn.enuI (da G).it)) where
  v := fun cx X C W G k x e h => by cases h
  t := fun cx X C W G k x e h => by cases h
  it := fun cx X C W G k x e tg h => by
    unfold ckEnu at h
    dsimp only at h
    split at h
    · obtain ⟨i0, i1⟩ := and_t h
      obtain ⟨i2, i3⟩ := and_t i0
      obtain ⟨i4, i5⟩ := and_t i1
      have e := of_decide_eq_true i2
      subst e
      obtain ⟨b1, b2, b3, b4⟩ := x.bl i3
      obtain ⟨p1, p2⟩ := sa.v cx X C W G k x _ i5
      refine PI.weaken (pi_enumK b1 b3 (pa1 p1 i4) (by rw [starEach_cons i4]; rfl)) fun σ H R t => ?_
      have t' : TRd C W (RIx C) (Mn.enuI (da G).it) σ H R := t
      rw [show (da G).it = Mn.seqI (da G).v from by rw [p2] <;> rfl] at t'
      rw [x.K]
      exact w_enu t'
    · cases h
def ckNev : Ck := ⟨fun _ _ => true, fun _ _ => true, fun _ _ _ => true⟩
theorem sn_nev : Snd ckNev (fun _ => Mn.mk Mn.bad) where
  v := fun cx X C W G k x e h => ⟨⟨fun pins s σ H Q I ⟨μ, ρ, hh, S, g⟩ => g.elim⟩, rfl⟩
  t := fun cx X C W G k x e h => ⟨⟨fun pins s σ H Q I ⟨μ, ρ, hh, S, g⟩ => g.elim⟩, fun op l p e => ⟨fun whole pins s σ H Q I ⟨μ, ρ, hh, S, g⟩ => g.elim⟩⟩
  it := fun cx X C W G k x e tg h => ⟨fun pins s σ H R I ⟨μ, ρ, hh, S, g⟩ => g.elim⟩
def ckBad : Ck := ⟨fun _ _ => false, fun _ _ => false, fun _ _ _ => false⟩
theorem sn_bad (d : Mn.Env → Mn.Dn) : Snd ckBad d where
  v := fun cx X C W G k x e h => by cases h
  t := fun cx X C W G k x e h => by cases h
  it := fun cx X C W G k x e tg h => by cases h
def tailOf : List Mn.E → Option (List Mn.Val)
  | [] => some []
  | .cst y :: r => (tailOf r).map (y :: ·)
  | _ :: _ => none
def isI (i : Int) : Mn.E → Bool
  | .cst (.int j) => decide (i = j)
  | _ => false
mutual
def ck : Mn.E → Ck
  | .slot i => ckSlot i
  | .cst v => ckCst v
  | .glo x => ckGlo x
  | .bin op a b => ckBin op (ck a) (ck b)
  | .neg a => ckNeg (ck a)
  | .not a => ckNot (ck a)
  | .and a b => ckAnd (ck a) (ck b)
  | .or a b => ckOr (ck a) (ck b)
  | .ife c a b => ckIfe (ck c) (ck a) (ck b)
  | .cmp op a b => ckCmp op (ck a) (ck b)
  | .cmp2 o1 o2 a b c => ckCmp2 o1 o2 (ck a) (ck b) (ck c)
  | .tup l => ckTup (cks l)
  | .lst l => ckLst (cks l)
  | .dct l => ckDct (ckP l)
  | .idx a i => ckIdx (ck a) (ck i)
  | .sli a lo hi => ckSli (ck a) (ckO lo) (ckO hi)
  | .rev a => ckRev (ck a)
  | .gix d i => ckGix d (ck i)
  | .gin d i yes => ckGinT d (ck i) yes
  | .att a f => ckAtt (ck a) f
  | .call f l => ckCall f (cks l) (fun n => tailOf (l.drop n))
  | .meth o m l => ckMeth (ck o) m (cks l) (fun n => tailOf (l.drop n))
  | .new c l => ckNew c c (cks l) (fun n => tailOf (l.drop n))
  | .isi a t => ckIsi (ck a) t
  | .f1 f a => ckF1 f (ck a)
  | .min2 a b => ckTwo "min" (ck a) (ck b)
  | .max2 a b => ckTwo "max" (ck a) (ck b)
  | .get2 _ _ _ => ckBad
  | .join o a => ckM1 "join" (ck o) (ck a)
  | .split _ _ => ckBad
  | .index o a => ckM1 "index" (ck o) (ck a)
  | .count o a => ckM1 "count" (ck o) (ck a)
  | .comp e t it c own => ckComp (ck e) t (ck it) (ckO c) own
  | .dcomp _ _ _ _ _ _ => ckBad
  | .rng a b c => ckRng (isI 0 a) (isI 1 c) (ck a) (ck b) (ck c)
  | .zip a b => ckZip (ck a) (ck b)
  | .enu a => ckEnu (ck a)
  | .nev => ckNev
termination_by structural x => x
def cks : List Mn.E → List Ck
  | [] => []
  | e :: r => ck e :: cks r
termination_by structural x => x
def ckO : Option Mn.E → Option Ck
  | none => none
  | some e => some (ck e)
termination_by structural x => x
def ckP : List (Mn.Val × Mn.E) → List (Mn.Val × Ck)
  | [] => []
  | p :: r => ckQ p :: ckP r
termination_by structural x => x
def ckQ : Mn.Val × Mn.E → Mn.Val × Ck
  | (k, e) => (k, ck e)
termination_by structural x => x
end
theorem dnL_drop (G : Mn.Env) : ∀ (n : Nat) (l : List Mn.E), Mn.dnL G (l.drop n) = (Mn.dnL G l).drop n
  | 0, l => rfl
  | n + 1, [] => rfl
  | n + 1, e :: r => dnL_drop G n r
theorem tailOf_dn (G : Mn.Env) : ∀ {l : List Mn.E} {ys : List Mn.Val}, tailOf l = some ys → Mn.dnL G l = ys.map fun y => Mn.mk (Mn.ret (.v y))
  | [], ys, e => by cases e; rfl
  | .cst y :: r, ys, e => by
    unfold tailOf at e
    obtain ⟨q, e1, rfl⟩ := Option.map_eq_some_iff.mp e
    show Mn.mk (Mn.ret (.v y)) :: Mn.dnL G r = _
    rw [tailOf_dn G e1]
    rfl
  | e :: r, ys, h => by
    cases e <;> first | (unfold tailOf at h; obtain ⟨q, e1, rfl⟩ := Option.map_eq_some_iff.mp h; show Mn.mk (Mn.ret (.v _)) :: Mn.dnL G r = _; rw [tailOf_dn G e1]; rfl) | cases h
theorem isI_dn (G : Mn.Env) {i : Int} {e : Mn.E} (h : isI i e = true) : Mn.dn G e = Mn.mk (Mn.ret (.v (.int i))) := by
  cases e with
  | cst v =>
    cases v with
    | int j =>
      have e : i = j := of_decide_eq_true h
      subst e
      rfl
    | _ => cases h
  | _ => cases h
def LOk (l : List Mn.E) : Prop := ∃ ps : List Cd, cks l = ps.map (·.1) ∧ (∀ G, Mn.dnL G l = dnsOf ps G) ∧ SndL ps
theorem LOk.tl {l : List Mn.E} {ps : List Cd} (h : ∀ G, Mn.dnL G l = dnsOf ps G) : Tl ps fun n => tailOf (l.drop n) := fun n ys e G => by
  rw [← tailOf_dn G e, dnL_drop, h G]
  unfold dnsOf
  rw [List.map_drop]
def OOk (o : Option Mn.E) : Prop := ∃ q : Option Cd, ckO o = q.map (·.1) ∧ (∀ G, Mn.dnO G o = dnO' q G) ∧ SndO q
def POk (l : List (Mn.Val × Mn.E)) : Prop := ∃ ps : List (Mn.Val × Cd), ckP l = ps.map (fun p => (p.1, p.2.1)) ∧ (∀ G, Mn.dnP G l = ps.map fun p => (p.1, p.2.2 G)) ∧ ∀ p ∈ ps, Snd p.2.1 p.2.2
mutual
theorem ck_ok : ∀ e : Mn.E, Snd (ck e) (fun G => Mn.dn G e)
  | .slot i => sn_slot i
  | .cst v => sn_cst v
  | .glo x => sn_glo x
  | .bin op a b => sn_bin (ck_ok a) (ck_ok b)
  | .neg a => sn_neg (ck_ok a)
  | .not a => sn_not (ck_ok a)
  | .and a b => sn_and (ck_ok a) (ck_ok b)
  | .or a b => sn_or (ck_ok a) (ck_ok b)
  | .ife c a b => sn_ife (ck_ok c) (ck_ok a) (ck_ok b)
  | .cmp op a b => sn_cmp (ck_ok a) (ck_ok b)
  | .cmp2 o1 o2 a b c => sn_cmp2 (ck_ok a) (ck_ok b) (ck_ok c)
  | .tup l => by
    obtain ⟨ps, e, d, s⟩ := cks_ok l
    have q := sn_tup s
    rw [← e] at q
    have e2 : (fun G => Mn.dn G (.tup l)) = fun G => Mn.mk (Mn.tupM (dnsOf ps G)) := funext fun G => by rw [← d G]; rfl
    rw [e2]
    exact q
  | .lst l => by
    obtain ⟨ps, e, d, s⟩ := cks_ok l
    have q := sn_lst s
    rw [← e] at q
    have e2 : (fun G => Mn.dn G (.lst l)) = fun G => Mn.mk (Mn.lstM (dnsOf ps G)) := funext fun G => by rw [← d G]; rfl
    rw [e2]
    exact q
  | .dct l => by
    obtain ⟨ps, e, d, s⟩ := ckP_ok l
    have q := sn_dct s
    rw [← e] at q
    have e2 : (fun G => Mn.dn G (.dct l)) = fun G => Mn.mk (Mn.dctM (ps.map fun p => (p.1, p.2.2 G))) := funext fun G => by rw [← d G]; rfl
    rw [e2]
    exact q
  | .idx a i => sn_idx (ck_ok a) (ck_ok i)
  | .sli a lo hi => by
    obtain ⟨p, e, d, s⟩ := ckO_ok lo
    obtain ⟨p2, e', d', s2⟩ := ckO_ok hi
    have q := sn_sli (ck_ok a) s s2
    rw [← e, ← e'] at q
    have e2 : (fun G => Mn.dn G (.sli a lo hi)) = fun G => Mn.mk (Mn.sliM (Mn.dn G a).v (dnO' p G) (dnO' p2 G)) := funext fun G => by rw [← d G, ← d' G]; rfl
    rw [e2]
    exact q
  | .rev a => sn_rev (ck_ok a)
  | .gix d i => sn_gix (ck_ok i)
  | .gin d i yes => sn_gin (ck_ok i)
  | .att a f => sn_att (ck_ok a)
  | .call f l => by
    obtain ⟨ps, e, d, s⟩ := cks_ok l
    have q := sn_call (f := f) s (LOk.tl d)
    rw [← e] at q
    have e2 : (fun G => Mn.dn G (.call f l)) = fun G => Mn.mk (Mn.callM G f (dnsOf ps G)) := funext fun G => by rw [← d G]; rfl
    rw [e2]
    exact q
  | .meth o m l => by
    obtain ⟨ps, e, d, s⟩ := cks_ok l
    have q := sn_meth (m := m) (ck_ok o) s (LOk.tl d)
    rw [← e] at q
    have e2 : (fun G => Mn.dn G (.meth o m l)) = fun G => Mn.mk (Mn.methM G (Mn.dn G o).v m (dnsOf ps G)) := funext fun G => by rw [← d G]; rfl
    rw [e2]
    exact q
  | .new c l => by
    obtain ⟨ps, e, d, s⟩ := cks_ok l
    have q := sn_new (c := c) (f := c) s (LOk.tl d)
    rw [← e] at q
    have e2 : (fun G => Mn.dn G (.new c l)) = fun G => Mn.mk (Mn.newM G c (dnsOf ps G)) := funext fun G => by rw [← d G]; rfl
    rw [e2]
    exact q
  | .isi a t => sn_isi (ck_ok a)
  | .f1 f a => sn_f1 (ck_ok a)
  | .min2 a b => sn_min2 (ck_ok a) (ck_ok b)
  | .max2 a b => sn_max2 (ck_ok a) (ck_ok b)
  | .get2 _ _ _ => sn_bad _
  | .join o a => sn_join (ck_ok o) (ck_ok a)
  | .split _ _ => sn_bad _
  | .index o a => sn_index (ck_ok o) (ck_ok a)
  | .count o a => sn_count (ck_ok o) (ck_ok a)
  | .comp e t it c own => by
    obtain ⟨p, e1, d, s⟩ := ckO_ok c
    have q := sn_comp (t := t) (own := own) (ck_ok e) (ck_ok it) s
    rw [← e1] at q
    have e2 : (fun G => Mn.dn G (.comp e t it c own)) = fun G => Mn.mk (Mn.compM (Mn.dn G e).v t (Mn.dn G it).it (dnO' p G) own) := funext fun G => by rw [← d G]; rfl
    rw [e2]
    exact q
  | .dcomp _ _ _ _ _ _ => sn_bad _
  | .rng a b c => sn_rng (fun h G => isI_dn G h) (fun h G => isI_dn G h) (ck_ok a) (ck_ok b) (ck_ok c)
  | .zip a b => sn_zip (ck_ok a) (ck_ok b)
  | .enu a => sn_enu (ck_ok a)
  | .nev => sn_nev
termination_by structural x => x
theorem cks_ok : ∀ l : List Mn.E, LOk l
  | [] => ⟨[], rfl, fun _ => rfl, fun p hp => by cases hp⟩
  | e :: r => by
    obtain ⟨ps, e1, d, s⟩ := cks_ok r
    refine ⟨(ck e, fun G => Mn.dn G e) :: ps, ?_, fun G => ?_, fun p hp => ?_⟩
    · show ck e :: cks r = _
      rw [e1]
      rfl
    · show Mn.dn G e :: Mn.dnL G r = _
      rw [d G]
      rfl
    · rcases List.mem_cons.mp hp with h | h
      · rw [h]; exact ck_ok e
      · exact s p h
termination_by structural x => x
theorem ckO_ok : ∀ o : Option Mn.E, OOk o
  | none => ⟨none, rfl, fun _ => rfl, fun p hp => by cases hp⟩
  | some e => ⟨some (ck e, fun G => Mn.dn G e), rfl, fun _ => rfl, fun p hp => by cases hp; exact ck_ok e⟩
termination_by structural x => x
theorem ckP_ok : ∀ l : List (Mn.Val × Mn.E), POk l
  | [] => ⟨[], rfl, fun _ => rfl, fun p hp => by cases hp⟩
  | p :: r => by
    obtain ⟨ps, e1, d, s⟩ := ckP_ok r
    have q := ckQ_ok p
    refine ⟨(p.1, ((ckQ p).2, fun G => (Mn.dnQ G p).2)) :: ps, ?_, fun G => ?_, fun z hz => ?_⟩
    · show ckQ p :: ckP r = _
      rw [e1, List.map_cons]
      obtain ⟨k, e⟩ := p
      rfl
    · show Mn.dnQ G p :: Mn.dnP G r = _
      rw [d G, List.map_cons]
      obtain ⟨k, e⟩ := p
      rfl
    · rcases List.mem_cons.mp hz with h | h
      · rw [h]; exact q
      · exact s z h
termination_by structural x => x
theorem ckQ_ok : ∀ p : Mn.Val × Mn.E, Snd (ckQ p).2 (fun G => (Mn.dnQ G p).2)
  | (k, e) => ck_ok e
termination_by structural x => x
end
end Ms
end
section
namespace Ms
open PySem PySem.Spec PyProof.Rows L2
structure YOk (cx : Cs) (X : Cx) (C : Ct) (W : WX) (G : Mn.Env) (k : Nat) : Prop extends XOk cx X C W G k where
  sc : X.env.scope = cx.sc
  kind : cx.sc.kind = .function
  stk : X.stack = X.env :: X.outer
  fr : X.env.frame = some X.env.locals
  nex : X.ex = []
  pass : PassesOwn (model X.prog X.w) X.A X.env X.xe
def SndS (c : Cs → Stmt → Bool) (m : Mn.Env → Mn.M Mn.Fl) (A : List Nat) : Prop := ∀ cx X C W G k, YOk cx X C W G k → ∀ st, c cx st = true → PS X st (TSv C W A (m G))
def SndB (c : Cs → List Stmt → Bool) (m : Mn.Env → Mn.M Mn.Fl) (A : List Nat) : Prop := ∀ cx X C W G k, YOk cx X C W G k → ∀ st, c cx st = true → PSs X st (TSv C W A (m G))
def notComp : Expr → Bool
  | .ListComp _ _ _ _ => false
  | .SetComp _ _ _ _ => false
  | .DictComp _ _ _ _ _ => false
  | _ => true
theorem swaps_none {e : Expr} (h : notComp e = true) (t : Option Expr) (l : Nat) (env : Env) : swapsWith e t l env = pure false := by
  cases e <;> first | rfl | cases h
theorem swaps_att (e o : Expr) (f : Str) (p : Pos) (l : Nat) (env : Env) : swapsWith e (some (.Attribute o f p)) l env = pure false := by
  cases e <;> rfl
theorem swaps_sub (e o i : Expr) (p : Pos) (l : Nat) (env : Env) : swapsWith e (some (.Subscript o i p)) l env = pure false := by
  cases e <;> rfl
theorem swaps_tup (e : Expr) (es : List Expr) (k : Nat) (p : Pos) (l : Nat) (env : Env) : swapsWith e (some (.Tuple es k p)) l env = pure false := by
  cases e <;> rfl
theorem sole_tup (e : Expr) (es : List Expr) (k : Nat) (p : Pos) (l : Nat) (env : Env) : swapsWithSole [.Tuple es k p] e l env = pure false := swaps_tup e es k p l env
theorem sole_sub (e o i : Expr) (p : Pos) (l : Nat) (env : Env) : swapsWithSole [.Subscript o i p] e l env = pure false := swaps_sub e o i p l env
def csEx (e : Ck) (cx : Cs) (s : Stmt) : Bool := match s with
  | .Expr x _ => notComp x && e.v cx x
  | _ => false
theorem ss_ex {e : Ck} {d : Mn.Env → Mn.Dn} {A : List Nat} (s : Snd e d) : SndS (csEx e) (fun G => Mn.bind (d G).v fun _ => Mn.ret .nx) A := fun cx X C W G k y st h => by
  cases st with
  | Expr x p =>
    obtain ⟨h1, h2⟩ := and_t h
    exact PS.weaken (ps_expr (s.v cx X C W G k y.toXOk x h2).1 (swaps_none h1 _ _ _)) fun D σ H t => s_ex t
  | _ => cases h
def csRt (e : Ck) (cx : Cs) (s : Stmt) : Bool := match s with
  | .Return (some x) _ => e.v cx x
  | _ => false
theorem ss_rt {e : Ck} {d : Mn.Env → Mn.Dn} {A : List Nat} (s : Snd e d) : SndS (csRt e) (fun G => Mn.bind (d G).v fun b => Mn.bind (Mn.toRet b) fun x => Mn.ret (.rt x)) A := fun cx X C W G k y st h => by
  cases st with
  | Return x p =>
    cases x with
    | some x => exact PS.weaken (ps_ret (s.v cx X C W G k y.toXOk x h).1) fun D σ H t => s_rt t
    | none => cases h
  | _ => cases h
def csRtn (_ : Cs) (s : Stmt) : Bool := match s with
  | .Return none _ => true
  | .Return (some (.Constant .none _ _)) _ => true
  | _ => false
theorem ss_rtn {A : List Nat} : SndS csRtn (fun _ => Mn.ret (.rt (.v .non))) A := fun cx X C W G k y st h => by
  unfold csRtn at h
  split at h
  · exact PS.weaken ps_retN fun D σ H t => s_retN t
  · exact PS.weaken (ps_ret pe_non) fun D σ H t => s_retN t
  · cases h
def csPas (_ : Cs) (s : Stmt) : Bool := match s with
  | .Pass _ => true
  | _ => false
theorem ss_pas {A : List Nat} : SndS csPas (fun _ => Mn.ret .nx) A := fun cx X C W G k y st h => by
  cases st with
  | Pass p => exact PS.weaken ps_pass fun D σ H t => s_nil t
  | _ => cases h
def csBrk (_ : Cs) (s : Stmt) : Bool := match s with
  | .Break _ => true
  | _ => false
theorem ss_brk {A : List Nat} : SndS csBrk (fun _ => Mn.ret .brk) A := fun cx X C W G k y st h => by
  cases st with
  | Break p => exact PS.weaken ps_break fun D σ H t => s_brk t
  | _ => cases h
def lcName (cx : Cs) (y : Str) : Bool := match cx.sc.names.lookup y with
  | some .local => true
  | _ => false
theorem lcName_is {cx : Cs} {y : Str} (h : lcName cx y = true) : cx.sc.names.lookup y = some .local := by
  unfold lcName at h
  split at h
  · assumption
  · cases h
def csNam (i : Nat) (e : Ck) (cx : Cs) (s : Stmt) : Bool := match s with
  | .Assign [.Name y _] x _ => isLoc cx i y && (notComp x && e.v cx x)
  | _ => false
theorem ss_nam {i : Nat} {e : Ck} {d : Mn.Env → Mn.Dn} (s : Snd e d) : SndS (csNam i e) (fun G => Mn.bind (d G).v (Mn.asgNam i)) [i] := fun cx X C W G k y st h => by
  unfold csNam at h
  split at h
  · obtain ⟨h1, h2⟩ := and_t h
    obtain ⟨h2, h3⟩ := and_t h2
    obtain ⟨k1, k2, k3⟩ := y.toXOk.lc h1
    exact PS.weaken (ps_set y.nd k1 k2 (s.v cx X C W G k y.toXOk _ h3).1 (swaps_none h2 _ _ _) k3) fun D σ H t => s_nam t
  · cases h
def compF (e : Ck) (t : Mn.Tg) (it : Ck) (c : Option Ck) (own : List Nat) (cx : Cs) (ee et ei : Expr) (ifs : List Expr) (s : Scope) : Bool :=
  (notSet ei && blkC cx.N cx.sc s (ownOf cx own)) && (((Mn.tgN t).all own.contains && okTg { cx with sc := s } t et) && (it.it cx ei et && (e.v { cx with sc := s } ee && okC c { cx with sc := s } ifs)))
structure CompP (X : Cx) (C : Ct) (G : Mn.Env) (ee et ei : Expr) (ifs : List Expr) (s : Scope) (own : List (Str × Nat)) (te tt : TE × TT) (wi : TI) (g : TG) : Prop where
  hi : PI X et ei wi
  ok : BlkOk X.N X.env.scope s own
  hg : ∀ (sh : Shared) (H : Hp) (a : Addr) (cl : List (Str × Addr)) (fp : List Addr), PG (X.blk sh H s (compEnvC s cl a X.env) fp) et g
  ht : ∀ (sh : Shared) (H : Hp) (a : Addr) (cl : List (Str × Addr)) (fp : List Addr), PTs (X.blk sh H s (compEnvC s cl a X.env) fp) ifs tt.2
  he : ∀ (sh : Shared) (H : Hp) (a : Addr) (cl : List (Str × Addr)) (fp : List Addr), PE (X.blk sh H s (compEnvC s cl a X.env) fp) ee te.1
  hs : ∀ x, foldedSetIterable ei X.env x = pure x
theorem comp_parts {e it : Ck} {de di : Mn.Env → Mn.Dn} {t : Mn.Tg} {c : Option Cd} {own : List Nat} (se : Snd e de) (si : Snd it di) (sc : SndO c) {cx : Cs} {X : Cx} {C : Ct} {W : WX} {G : Mn.Env} {k : Nat} (x : XOk cx X C W G k) {ee et ei : Expr} {ifs : List Expr} {s : Scope}
    (h : compF e t it (c.map (·.1)) own cx ee et ei ifs s = true) {t0 : TT} {e0 : TE} : CompP X C G ee et ei ifs s (ownOf cx own) (TEv C WF (de G).v, t0) (e0, TTv C WF (Mn.tstD (dnO' c G))) (fun σ H R => TRd C W (RIx C) (di G).it σ H R) (tgOf C.K t) := by
  obtain ⟨i0, i1⟩ := and_t h
  obtain ⟨i4, i5⟩ := and_t i0
  obtain ⟨i6, i7⟩ := and_t i1
  obtain ⟨i8, i9⟩ := and_t i6
  obtain ⟨j0, j1⟩ := and_t i7
  obtain ⟨j2, j3⟩ := and_t j1
  refine ⟨si.it cx X C W G k x ei et j0, x.blkOk i5, fun sh H a cl fp => okTg_pg (x.blk sh H a cl fp) i9, fun sh H a cl fp => ?_, fun sh H a cl fp => (se.v _ _ _ _ _ _ (x.blk sh H a cl fp) ee j2).1, folded_of i4 X.env⟩
  cases c with
  | none =>
    cases ifs with
    | nil => exact PTs.weaken pts_nil fun σ H Q t => w_yes t
    | cons a b => cases j3
  | some p =>
    cases ifs with
    | nil => cases j3
    | cons a b =>
      cases b with
      | nil => exact pts_one ((sc p rfl).t _ _ _ _ _ _ (x.blk sh H _ cl fp) a j3).1
      | cons _ _ => cases j3
def swT (y : Str) (py pos : Pos) (s : Scope) : Bool := (py.line == pos.line) && !(s.names.any fun (n, k) => n == y && (k == .local || k == .cell))
theorem sw_is {elt : Expr} {gs : List Comprehension} {scope : Scope} {pos py : Pos} {y : Str} {l : Nat} {env : Env} (hk : env.scope.kind = .function) (hy : env.scope.names.lookup y = some .local) : swapsWith (.ListComp elt gs scope pos) (some (.Name y py)) l env = pure (swT y py pos scope) := by
  have ky : env.kindOf y = some .local := hy
  have hb : env.blockKind = .function := by unfold Env.blockKind; rw [hk]; rfl
  unfold swapsWith swT
  simp only [hb, ky, Expr.pos]
  rfl
def csNamC (i : Nat) (e : Ck) (t : Mn.Tg) (it : Ck) (c : Option Ck) (own : List Nat) (cx : Cs) (s : Stmt) : Bool := match s with
  | .Assign [.Name y py] (.ListComp ee [⟨et, ei, ifs, n⟩] s pos) _ => (isLoc cx i y && lcName cx y) && (decide (n = 0) && compF e t it c own cx ee et ei ifs s)
  | _ => false
theorem w_compO {C : Ct} {W : WX} {σ : L2.St} {H : Hp} {Q : VK} {e : Mn.M Mn.B} {t : Mn.Tg} {it : Mn.M (List Mn.Val × Mn.Srcs)} {c : Option Mn.Dn} {own : List Nat} {cx : Cs} (ha : (Mn.tgN t).all own.contains = true) (t' : TEv C W (Mn.compM e t it c own) σ H Q) :
    tLc (fun σ H R => TRd C W (RIx C) it σ H R) (tgOf C.K t) (TTv C WF (Mn.tstD c)) (TEv C WF e) ((ownOf cx own).map (·.2)) σ H Q := by
  rw [ownOf_snd]
  exact w_comp (fun j => Iff.rfl) (fun j hj => by
    have := List.all_eq_true.mp ha j hj
    simpa using this) (fun R r => r) t'
theorem compF_own {e : Ck} {t : Mn.Tg} {it : Ck} {c : Option Ck} {own : List Nat} {cx : Cs} {ee et ei : Expr} {ifs : List Expr} {s : Scope} (h : compF e t it c own cx ee et ei ifs s = true) : (Mn.tgN t).all own.contains = true := (and_t (and_t (and_t h).2).1).1
theorem ss_namC {i : Nat} {e it : Ck} {de di : Mn.Env → Mn.Dn} {t : Mn.Tg} {c : Option Cd} {own : List Nat} (se : Snd e de) (si : Snd it di) (sc : SndO c) : SndS (csNamC i e t it (c.map (·.1)) own) (fun G => Mn.bind (Mn.compM (de G).v t (di G).it (dnO' c G) own) (Mn.asgNam i)) [i] := fun cx X C W G k y st h => by
  unfold csNamC at h
  split at h
  · rename_i yn py ee et ei ifs n s pos spos
    obtain ⟨h1, h2⟩ := and_t h
    obtain ⟨h1, h3⟩ := and_t h1
    obtain ⟨h2, h4⟩ := and_t h2
    have hn := of_decide_eq_true h2
    subst hn
    obtain ⟨k1, k2, k3⟩ := y.toXOk.lc h1
    have hl := y.loc _ (lcName_is h3)
    have hsw := sw_is (elt := ee) (gs := [⟨et, ei, ifs, 0⟩]) (pos := pos) (py := py) (scope := s) (l := spos.line) (env := X.env) (by rw [y.sc]; exact y.kind) hl
    have P := comp_parts (t0 := fun _ _ _ => True) (e0 := fun _ _ _ => True) se si sc y.toXOk h4 (G := G)
    cases e : swT yn py pos s with
    | true =>
      rw [e] at hsw
      refine PS.weaken (ps_setLc y.calm y.nd k1 hl hsw P.hi P.ok P.hg P.ht P.he P.hs) fun D σ H t => ?_
      exact w_compO (compF_own h4) (s_nam t)
    | false =>
      rw [e] at hsw
      refine PS.weaken (ps_set y.nd k1 k2 (pe_lc y.calm y.nd P.hi P.ok P.hg P.ht P.he P.hs) hsw k3) fun D σ H t => ?_
      exact w_compO (compF_own h4) (s_nam t)
  · cases h
def notTup : Expr → Bool
  | .Tuple _ _ _ => false
  | _ => true
theorem stores_none {e : Expr} (h : notTup e = true) (es : List Expr) (k : Nat) (p : Pos) (env : Env) : swappedStores [.Tuple es k p] e env = pure none := by
  cases e <;> first | rfl | cases h
theorem okNs_any {cx : Cs} {X : Cx} {C : Ct} {W : WX} {G : Mn.Env} {k : Nat} (x : XOk cx X C W G k) {l : List Nat} {es : List Expr} {j : Nat} {p : Pos} (h : okNs cx l es = true) : PG X (.Tuple es j p) (gAny C.K l) := by
  obtain ⟨q1, q2, q3⟩ := okNs_pg x h
  unfold gAny
  rw [← x.K]
  exact PG.or (pg_tup x.calm q1 q2 q3) (pg_unl x.calm q1 q2 q3)
def csUnp (l : List Nat) (e : Ck) (cx : Cs) (s : Stmt) : Bool := match s with
  | .Assign [.Tuple es _ _] x _ => okNs cx l es && (notTup x && e.v cx x)
  | _ => false
theorem ss_unp {l : List Nat} {e : Ck} {d : Mn.Env → Mn.Dn} (s : Snd e d) : SndS (csUnp l e) (fun G => Mn.bind (d G).v fun b => Mn.bind (Mn.viewM b) (Mn.unpack l)) l := fun cx X C W G k y st h => by
  unfold csUnp at h
  split at h
  · obtain ⟨h1, h2⟩ := and_t h
    obtain ⟨h2, h3⟩ := and_t h2
    exact PS.weaken (ps_asg (s.v cx X C W G k y.toXOk _ h3).1 (okNs_any y.toXOk h1) (sole_tup _ _ _ _ _ _) (stores_none h2 _ _ _ _)) fun D σ H t => s_unp t
  · cases h
def csAtt (o : Ck) (f : Str) (e : Ck) (cx : Cs) (s : Stmt) : Bool := match s with
  | .Assign [.Attribute eo g _] x _ => decide (f = g) && (cx.T.att f && (o.v cx eo && e.v cx x))
  | _ => false
theorem ss_att {o e : Ck} {f : Str} {d de : Mn.Env → Mn.Dn} {A : List Nat} (so : Snd o d) (se : Snd e de) : SndS (csAtt o f e) (fun G => Mn.bind (de G).v fun b => Mn.bind (Mn.toVal b) fun x => Mn.bind (d G).v fun y => Mn.bind (Mn.asVal y) fun v => Mn.putAt G f x v) A := fun cx X C W G k y st h => by
  unfold csAtt at h
  split at h
  · obtain ⟨h1, h2⟩ := and_t h
    obtain ⟨h2, h3⟩ := and_t h2
    obtain ⟨h3, h4⟩ := and_t h3
    have e := of_decide_eq_true h1
    subst e
    exact PS.weaken (ps_fldD (y.tx.att _ h2) (so.v cx X C W G k y.toXOk _ h3).1 (se.v cx X C W G k y.toXOk _ h4).1 (swaps_att _ _ _ _ _ _)) fun D σ H t => s_att t
  · cases h
theorem asg_sub {o i : Expr} (h : notSlice i = true) (pos : Pos) (env : Env) (v : Value) : assign (.Subscript o i pos) env v = (do
      let ov ← holding [v] (eval o env)
      let iv ← holding [v, ov] (eval i env)
      standAt pos
      holding [v, ov, iv] (setItem ov iv v)
      release [v, ov, iv] []) := by
  cases i <;> first | rfl | cases h
theorem hu1 {cx : Cs} {X : Cx} {C : Ct} {W : WX} {G : Mn.Env} {k : Nat} (x : XOk cx X C W G k) : X.A.units + 1 < cLine := by
  have := x.hu
  omega
def csSub (o i e : Ck) (cx : Cs) (s : Stmt) : Bool := match s with
  | .Assign [.Subscript eo ei _] x _ => notSlice ei && (o.v cx eo && (i.v cx ei && e.v cx x))
  | _ => false
theorem ss_sub {o i e : Ck} {d di de : Mn.Env → Mn.Dn} {A : List Nat} (so : Snd o d) (si : Snd i di) (se : Snd e de) : SndS (csSub o i e) (fun G => Mn.bind (de G).v fun b => Mn.bind (Mn.toVal b) fun x => Mn.bind (d G).v fun y => Mn.bind (di G).v fun z => Mn.bind (Mn.viewM z) fun w => Mn.putIx x y w) A := fun cx X C W G k y st h => by
  unfold csSub at h
  split at h
  · obtain ⟨h1, h2⟩ := and_t h
    obtain ⟨h2, h3⟩ := and_t h2
    obtain ⟨h3, h4⟩ := and_t h3
    refine PS.weaken (ps_asg (se.v cx X C W G k y.toXOk _ h4).1 (pg_sub (so.v cx X C W G k y.toXOk _ h2).1 (si.v cx X C W G k y.toXOk _ h3).1 (set_ld (hu1 y.toXOk)) (asg_sub h1 _ _)) (sole_sub _ _ _ _ _ _) rfl) fun D σ H t => s_sub t
  · cases h
def csAugN (i : Nat) (op : Operator) (e : Ck) (cx : Cs) (s : Stmt) : Bool := match s with
  | .AugAssign (.Name y _) o x _ => decide (op = o) && (isLoc cx i y && e.v cx x)
  | _ => false
theorem ss_augN {i : Nat} {op : Operator} {e : Ck} {d : Mn.Env → Mn.Dn} (s : Snd e d) : SndS (csAugN i op e) (fun G => Mn.bind (Mn.ldSlot i) fun x => Mn.bind (d G).v fun y => Mn.bind (Mn.op2 x y (Mn.iopV op)) (Mn.asgNam i)) [i] := fun cx X C W G k y st h => by
  unfold csAugN at h
  split at h
  · obtain ⟨h1, h2⟩ := and_t h
    obtain ⟨h2, h3⟩ := and_t h2
    have e := of_decide_eq_true h1
    subst e
    obtain ⟨k1, k2, k3⟩ := y.toXOk.lc h2
    exact PS.weaken (ps_aug y.nd k1 k2 (s.v cx X C W G k y.toXOk _ h3).1 ip_iop k3) fun D σ H t => s_augN t
  · cases h
def csAugA (o : Ck) (f : Str) (op : Operator) (e : Ck) (cx : Cs) (s : Stmt) : Bool := match s with
  | .AugAssign (.Attribute eo g _) p x _ => (decide (op = p) && decide (f = g)) && (cx.T.att f && (o.v cx eo && e.v cx x))
  | _ => false
theorem ss_augA {o e : Ck} {f : Str} {op : Operator} {d de : Mn.Env → Mn.Dn} {A : List Nat} (so : Snd o d) (se : Snd e de) : SndS (csAugA o f op e) (fun G => Mn.bind (d G).v fun y => Mn.bind (Mn.asVal y) fun v => Mn.bind (Mn.attV G f v) fun x => Mn.bind (de G).v fun z => Mn.bind (Mn.op2 x z (Mn.iopV op)) fun r => Mn.bind (Mn.asVal r) fun x => Mn.putAt G f x v) A := fun cx X C W G k y st h => by
  unfold csAugA at h
  split at h
  · obtain ⟨i1, i2⟩ := and_t h
    obtain ⟨h0, h1⟩ := and_t i1
    obtain ⟨h2, i3⟩ := and_t i2
    obtain ⟨h3, h4⟩ := and_t i3
    have e := of_decide_eq_true h0
    subst e
    have e := of_decide_eq_true h1
    subst e
    exact PS.weaken (ps_fldaugD (y.tx.att _ h2) (so.v cx X C W G k y.toXOk _ h3).1 (se.v cx X C W G k y.toXOk _ h4).1 (fun pins s σ H x y u v Q I rx ry q => ip_iop pins s σ H x y u v Q I rx ry q)) fun D σ H t => s_augA t
  · cases h
def csAugS (o i : Ck) (op : Operator) (e : Ck) (cx : Cs) (s : Stmt) : Bool := match s with
  | .AugAssign (.Subscript eo ei _) p x _ => (decide (op = p) && notSlice ei) && (o.v cx eo && (i.v cx ei && e.v cx x))
  | _ => false
theorem ss_augS {o i e : Ck} {op : Operator} {d di de : Mn.Env → Mn.Dn} {A : List Nat} (so : Snd o d) (si : Snd i di) (se : Snd e de) : SndS (csAugS o i op e) (fun G => Mn.bind (d G).v fun y => Mn.bind (di G).v fun z => Mn.bind (Mn.op2 y z Mn.getIx) fun x => Mn.bind (de G).v fun u => Mn.bind (Mn.op2 x u (Mn.iopV op)) fun r => Mn.bind (Mn.asVal r) fun x => Mn.bind (Mn.viewM z) fun w => Mn.putIx x y w) A := fun cx X C W G k y st h => by
  unfold csAugS at h
  split at h
  · obtain ⟨i1, i2⟩ := and_t h
    obtain ⟨h0, h1⟩ := and_t i1
    obtain ⟨h2, i3⟩ := and_t i2
    obtain ⟨h3, h4⟩ := and_t i3
    have e := of_decide_eq_true h0
    subst e
    refine PS.weaken (ps_augS (so.v cx X C W G k y.toXOk _ h2).1 (si.v cx X C W G k y.toXOk _ h3).1 (get_ld (hu1 y.toXOk)) (se.v cx X C W G k y.toXOk _ h4).1 ip_iop (set_ld (hu1 y.toXOk)) (augStore_of h1)) fun D σ H t => ?_
    rw [y.K]
    exact s_augS t
  · cases h
def csIf (c : Ck) (a b : Cs → List Stmt → Bool) (cx : Cs) (s : Stmt) : Bool := match s with
  | .If x p q _ => c.t cx x && (a cx p && b cx q)
  | _ => false
theorem ss_if {c : Ck} {a b : Cs → List Stmt → Bool} {d : Mn.Env → Mn.Dn} {ma mb : Mn.Env → Mn.M Mn.Fl} {A1 A2 : List Nat} (sc : Snd c d) (sa : SndB a ma A1) (sb : SndB b mb A2) : SndS (csIf c a b) (fun G => Mn.bind (d G).v fun x => Mn.bind (Mn.truth x) fun t => if t = true then ma G else mb G) (A1 ++ A2) := fun cx X C W G k y st h => by
  cases st with
  | If x p q pos =>
    obtain ⟨h1, h2⟩ := and_t h
    obtain ⟨h2, h3⟩ := and_t h2
    exact PS.weaken (ps_if (sc.t cx X C W G k y.toXOk x h1).1 (sa cx X C W G k y p h2) (sb cx X C W G k y q h3)) fun D σ H t => s_if t
  | _ => cases h
def csWhl (c : Ck) (b : Cs → List Stmt → Bool) (cx : Cs) (s : Stmt) : Bool := match s with
  | .While x p [] _ => c.t cx x && b cx p
  | _ => false
theorem ss_whl {c : Ck} {b : Cs → List Stmt → Bool} {d : Mn.Env → Mn.Dn} {mb : Mn.Env → Mn.M Mn.Fl} {A : List Nat} {n : Nat} (sc : Snd c d) (sb : SndB b mb A) : SndS (csWhl c b) (fun G => Mn.loop (Mn.bind (d G).v Mn.truth) (mb G) n) A := fun cx X C W G k y st h => by
  unfold csWhl at h
  split at h
  · obtain ⟨h1, h2⟩ := and_t h
    exact PS.weaken (ps_while y.pass (sc.t cx X C W G k y.toXOk _ h1).1 (sb cx X C W G k y _ h2)) fun D σ H t => s_whl t
  · cases h
def csFor (t : Mn.Tg) (it : Ck) (b : Cs → List Stmt → Bool) (cx : Cs) (s : Stmt) : Bool := match s with
  | .For tg ei p [] _ => notSet ei && (okTg cx t tg && (it.it cx ei tg && b cx p))
  | _ => false
theorem ss_for {t : Mn.Tg} {it : Ck} {b : Cs → List Stmt → Bool} {d : Mn.Env → Mn.Dn} {mb : Mn.Env → Mn.M Mn.Fl} {A : List Nat} (si : Snd it d) (sb : SndB b mb A) : SndS (csFor t it b) (fun G => Mn.bind (d G).it fun p => if Mn.srcOff (Mn.tgN t ++ A) p.2 = true then Mn.forL p.2 t (mb G) p.1 else Mn.bad) (Mn.tgN t ++ A) := fun cx X C W G k y st h => by
  unfold csFor at h
  split at h
  · obtain ⟨h1, h2⟩ := and_t h
    obtain ⟨h2, h3⟩ := and_t h2
    obtain ⟨h3, h4⟩ := and_t h3
    exact PS.weaken (ps_for y.pass y.calm (si.it cx X C W G k y.toXOk _ _ h3) (okTg_pg y.toXOk h2) (sb cx X C W G k y _ h4) (folded_of h1 X.env)) fun D σ H t' => s_for (fun R r => r) t'
  · cases h
def csApp (m : Str) (o e : Ck) (cx : Cs) (s : Stmt) : Bool := match s with
  | .Expr (.Call (.Attribute eo g ap) [x] [] p) _ => (decide (g = m) && (notCall0 eo && (ap.endLine == p.line))) && (notStar x && (o.v cx eo && e.v cx x))
  | _ => false
theorem ss_app {o e : Ck} {d de : Mn.Env → Mn.Dn} {A : List Nat} (so : Snd o d) (se : Snd e de) : SndS (csApp "append" o e) (fun G => Mn.appM (d G).v (de G).v) A := fun cx X C W G k y st h => by
  unfold csApp at h
  split at h
  · obtain ⟨i0, i1⟩ := and_t h
    obtain ⟨i2, i3⟩ := and_t i0
    obtain ⟨i4, i5⟩ := and_t i3
    obtain ⟨i6, i7⟩ := and_t i1
    obtain ⟨i8, i9⟩ := and_t i7
    have e := of_decide_eq_true i2
    subst e
    refine PS.weaken (ps_expr (pe_bm PySem.F.plainAttrs_list PySem.F.slot_list_append PySem.F.type_list_append mt_append (so.v cx X C W G k y.toXOk _ i8).1 (pa1 (se.v cx X C W G k y.toXOk _ i9).1 i6) (attributeBase_of i4 _ X.env _) (few1 i6 _) i5 (starEach_cons i6 [] X.env) rfl) rfl) fun D σ H t => ?_
    rw [y.K]
    exact s_app t
  · cases h
theorem ss_ext {o e : Ck} {d de : Mn.Env → Mn.Dn} {A : List Nat} (so : Snd o d) (se : Snd e de) : SndS (csApp "extend" o e) (fun G => Mn.extM (d G).v (de G).v) A := fun cx X C W G k y st h => by
  unfold csApp at h
  split at h
  · obtain ⟨i0, i1⟩ := and_t h
    obtain ⟨i2, i3⟩ := and_t i0
    obtain ⟨i4, i5⟩ := and_t i3
    obtain ⟨i6, i7⟩ := and_t i1
    obtain ⟨i8, i9⟩ := and_t i7
    have e := of_decide_eq_true i2
    subst e
    refine PS.weaken (ps_expr (pe_bm PySem.F.plainAttrs_list PySem.F.slot_list_extend PySem.F.type_list_extend mt_extendR (so.v cx X C W G k y.toXOk _ i8).1 (pa1 (se.v cx X C W G k y.toXOk _ i9).1 i6) (attributeBase_of i4 _ X.env _) (few1 i6 _) i5 (starEach_cons i6 [] X.env) rfl) rfl) fun D σ H t => ?_
    rw [y.K]
    exact s_ext t
  · cases h
def csRai (c : Str) (cx : Cs) (s : Stmt) : Bool := match s with
  | .Raise (some (.Call (.Name g _) [.Constant (.str _) _ _] [] _)) none _ => decide (c = g) && (isGl cx g && cx.T.exn c)
  | _ => false
theorem ss_rai {c : Str} {A : List Nat} : SndS (csRai c) (fun _ => fun s h => .err c s h) A := fun cx X C W G k y st h => by
  unfold csRai at h
  split at h
  · obtain ⟨h1, h2⟩ := and_t h
    obtain ⟨h2, h3⟩ := and_t h2
    have e := of_decide_eq_true h1
    subst e
    obtain ⟨g1, g2⟩ := y.toXOk.glb h2
    obtain ⟨m, kp, e1, e2, bmB, B, newId, initId, F, q⟩ := y.tx.exn _ h3
    exact PS.weaken (ps_raise y.calm y.takes (pmk_own F q m kp (raises_own e1 e2) g1 g2)) fun D σ H t => s_rai t
  · cases h
def csTry (b : Cs → List Stmt → Bool) (d : Str) (i j : Nat) (cx : Cs) (s : Stmt) : Bool := match s with
  | .Try body [.ExceptHandler (some (.Name g _)) (some n) [.Assign [.Name y _] (.Name n2 _) _] _] [] [] _ =>
    ((decide (d = g) && (isGl cx g && cx.T.hnd d)) && (decide (n = n2) && ((decide (i ≠ j) && okName n) && ((isLoc cx i n && lcName cx n) && (isLoc cx j y && lcName cx y))))) && b cx body
  | _ => false
theorem YOk.tr {cx : Cs} {X : Cx} {C : Ct} {W W' : WX} {G : Mn.Env} {k : Nat} (y : YOk cx X C W G k) {pn : List (Addr × Obj)} {xe : Value → Shared → Prop} (tk : Takes (X.tr pn xe) W') (hp : PassesOwn (model X.prog X.w) X.A X.env xe) : YOk cx (X.tr pn xe) C W' G k :=
  ⟨⟨y.K, y.calm, y.N, y.nd, y.vis, y.loc, y.cel, y.fre, y.gl, y.room, tk, y.tx⟩, y.sc, y.kind, y.stk, y.fr, y.nex, hp⟩
theorem ss_try {b : Cs → List Stmt → Bool} {d : Str} {i j : Nat} {mb : Mn.Env → Mn.M Mn.Fl} {A1 A : List Nat} (hA : ∀ k, k ∈ A1 → k ∈ A) (iA : i ∈ A) (jA : j ∈ A) (sb : SndB b mb A1) : SndS (csTry b d i j) (fun G => Mn.tryM G (mb G) [(d, some i, [.exc j])]) A := fun cx X C W G k y st h => by
  unfold csTry at h
  split at h
  · obtain ⟨h1, h2⟩ := and_t h
    obtain ⟨h3, h4⟩ := and_t h1
    obtain ⟨h5, h6⟩ := and_t h3
    obtain ⟨h7, h8⟩ := and_t h6
    obtain ⟨h9, i1⟩ := and_t h4
    obtain ⟨i2, i3⟩ := and_t i1
    obtain ⟨i4, i5⟩ := and_t i2
    obtain ⟨i6, i7⟩ := and_t i3
    obtain ⟨j1, j2⟩ := and_t i6
    obtain ⟨j3, j4⟩ := and_t i7
    have e := of_decide_eq_true h5
    subst e
    have e := of_decide_eq_true h9
    subst e
    have hij := of_decide_eq_true i4
    obtain ⟨cv, nv, he⟩ := y.tx.hnd _ h8
    obtain ⟨g1, g2⟩ := y.toXOk.glb h7
    obtain ⟨n1, n2⟩ := okName_of i5
    obtain ⟨k1, _, _⟩ := y.toXOk.lc j1
    obtain ⟨k2, _, _⟩ := y.toXOk.lc j3
    have nm : Names X d cv := ⟨g1, g2, nv⟩
    refine PS.weaken (ps_try_keep (tb := fun W => TSv C W A1 (mb G)) y.stk y.fr y.nex y.nd k1 k2 hij (y.loc _ (lcName_is j2)) (y.loc _ (lcName_is j4)) n1 n2 nm y.takes fun W' pn xe tk hp => sb cx _ C W' G k (y.tr tk hp) _ h2) fun D σ H t => ?_
    rw [y.K]
    exact s_tryK hij y.tx.isx (fun c hc => by rw [← y.K]; exact he c hc) hA iA jA t
  · cases h
def csNev (_ : Cs) (_ : Stmt) : Bool := true
theorem ss_nev {A : List Nat} : SndS csNev (fun _ => Mn.bad) A := fun cx X C W G k y st h => ⟨fun pins s σ H D I ⟨μ, ρ, hh, S, g⟩ => g.elim⟩
def csBad (_ : Cs) (_ : Stmt) : Bool := false
theorem ss_bad {m : Mn.Env → Mn.M Mn.Fl} {A : List Nat} : SndS csBad m A := fun cx X C W G k y st h => by cases h
def csAsg (t : Mn.T) (e : Mn.E) : Cs → Stmt → Bool := match t with
  | .nam i => (match e with
    | .comp e t it c own => csNamC i (ck e) t (ck it) (ckO c) own
    | e => csNam i (ck e))
  | .tup l => csUnp l (ck e)
  | .star _ _ => csBad
  | .att o f => csAtt (ck o) f (ck e)
  | .sub o i => csSub (ck o) (ck i) (ck e)
def csAug (t : Mn.T) (op : Operator) (e : Mn.E) : Cs → Stmt → Bool := match t with
  | .nam i => csAugN i op (ck e)
  | .att o f => csAugA (ck o) f op (ck e)
  | .sub o i => csAugS (ck o) (ck i) op (ck e)
  | _ => csBad
def csT (b : Cs → List Stmt → Bool) (hs : List (Str × Option Nat × List Mn.HS)) : Cs → Stmt → Bool := match hs with
  | [(d, some i, [.exc j])] => csTry b d i j
  | _ => csBad
mutual
def cs : Mn.S → Cs → Stmt → Bool
  | .ex e => csEx (ck e)
  | .rt e => csRt (ck e)
  | .rtn => csRtn
  | .asg t e => csAsg t e
  | .aug t op e => csAug t op e
  | .ite c a b => csIf (ck c) (css a) (css b)
  | .whl c b => csWhl (ck c) (css b)
  | .for_ t it b => csFor t (ck it) (css b)
  | .brk => csBrk
  | .pas => csPas
  | .rai c => csRai c
  | .try_ b hs => csT (css b) hs
  | .app o e => csApp "append" (ck o) (ck e)
  | .ext o e => csApp "extend" (ck o) (ck e)
  | .ins _ _ _ => csBad
  | .pop _ => csBad
  | .nev => csNev
termination_by structural x => x
def css : List Mn.S → Cs → List Stmt → Bool
  | [] => fun _ l => l.isEmpty
  | x :: r => fun cx l => match l with
    | [] => false
    | y :: ys => cs x cx y && css r cx ys
termination_by structural x => x
end
theorem ss_asg (t : Mn.T) (e : Mn.E) : SndS (csAsg t e) (fun G => Mn.asgM G t (Mn.den G e)) (Mn.tN t) := by
  cases t with
  | nam i =>
    cases e with
    | comp e t it c own =>
      obtain ⟨p, e1, d, s⟩ := ckO_ok c
      have q := ss_namC (i := i) (t := t) (own := own) (ck_ok e) (ck_ok it) s
      rw [← e1] at q
      have e2 : (fun G => Mn.asgM G (.nam i) (Mn.den G (.comp e t it c own))) = fun G => Mn.bind (Mn.compM (Mn.dn G e).v t (Mn.dn G it).it (dnO' p G) own) (Mn.asgNam i) := funext fun G => by rw [← d G]; rfl
      rw [e2]
      exact q
    | _ => exact ss_nam (ck_ok _)
  | tup l => exact ss_unp (ck_ok e)
  | star i j => exact ss_bad
  | att o f => exact ss_att (ck_ok o) (ck_ok e)
  | sub o i => exact ss_sub (ck_ok o) (ck_ok i) (ck_ok e)
theorem ss_aug (t : Mn.T) (op : Operator) (e : Mn.E) : SndS (csAug t op e) (fun G => Mn.augM G t op (Mn.den G e)) (Mn.tN t) := by
  cases t with
  | nam i => exact ss_augN (ck_ok e)
  | tup l => exact ss_bad
  | star i j => exact ss_bad
  | att o f => exact ss_augA (ck_ok o) (ck_ok e)
  | sub o i => exact ss_augS (ck_ok o) (ck_ok i) (ck_ok e)
theorem ss_t {b : Cs → List Stmt → Bool} {mb : Mn.Env → Mn.M Mn.Fl} {A1 : List Nat} (sb : SndB b mb A1) (hs : List (Str × Option Nat × List Mn.HS)) : SndS (csT b hs) (fun G => Mn.tryM G (mb G) hs) (A1 ++ Mn.hN hs) := by
  unfold csT
  split
  · exact ss_try (fun k hk => List.mem_append_left _ hk) (List.mem_append_right _ (by simp [Mn.hN, Mn.hsN])) (List.mem_append_right _ (by simp [Mn.hN, Mn.hsN])) sb
  · exact ss_bad
mutual
theorem cs_ok : ∀ s : Mn.S, SndS (cs s) (fun G => Mn.ex G s) (Mn.asgS s)
  | .ex e => ss_ex (ck_ok e)
  | .rt e => ss_rt (ck_ok e)
  | .rtn => ss_rtn
  | .asg t e => ss_asg t e
  | .aug t op e => ss_aug t op e
  | .ite c a b => ss_if (ck_ok c) (css_ok a) (css_ok b)
  | .whl c b => ss_whl (ck_ok c) (css_ok b)
  | .for_ t it b => ss_for (ck_ok it) (css_ok b)
  | .brk => ss_brk
  | .pas => ss_pas
  | .rai c => ss_rai
  | .try_ b hs => ss_t (css_ok b) hs
  | .app o e => ss_app (ck_ok o) (ck_ok e)
  | .ext o e => ss_ext (ck_ok o) (ck_ok e)
  | .ins _ _ _ => ss_bad
  | .pop _ => ss_bad
  | .nev => ss_nev
termination_by structural x => x
theorem css_ok : ∀ l : List Mn.S, SndB (css l) (fun G => Mn.exs G l) (Mn.asgSs l)
  | [] => fun cx X C W G k y st h => by
    cases st with
    | nil => exact PSs.weaken pss_nil fun D σ H t => s_nil t
    | cons a b => cases h
  | x :: r => fun cx X C W G k y st h => by
    cases st with
    | nil => cases h
    | cons a b =>
      obtain ⟨h1, h2⟩ := and_t h
      exact PSs.weaken (pss_cons (cs_ok x cx X C W G k y a h1) (css_ok r cx X C W G k y b h2)) fun D σ H t => s_seq t
termination_by structural x => x
end
end Ms
end
section
namespace Ms
open PySem PySem.Spec PyProof.Rows L2
theorem lookup_zip {α : Type} : ∀ {ps : List Str} {us : List α}, ps.length = us.length → ∀ x ∈ ps, ((ps.zip us).lookup x).isSome = true
  | [], _, _, x, h => by cases h
  | p :: ps, [], e, x, h => by cases e
  | p :: ps, u :: us, e, x, h => by
    rw [List.zip_cons_cons, List.lookup_cons]
    by_cases c : x = p
    · subst c
      simp
    · have c2 : (x == p) = false := beq_eq_false_iff_ne.mpr c
      rw [c2]
      rcases List.mem_cons.mp h with q | q
      · exact absurd q c
      · exact lookup_zip (Nat.succ.inj e) x q
theorem filterMap_zip {α : Type} {ps : List Str} {us : List α} : ps.Nodup → ps.length = us.length → (ps.filterMap fun n => ((ps.zip us).lookup n).map (n, ·)) = ps.zip us := by
  have k : ∀ (qs ps : List Str) (us : List α) (l : List (Str × α)), (∀ x ∈ ps, l.lookup x = (ps.zip us).lookup x) → ps.Nodup → ps.length = us.length → (ps.filterMap fun n => (l.lookup n).map (n, ·)) = ps.zip us := by
    intro _ ps
    induction ps with
    | nil => intro us l _ _ _; rfl
    | cons p r ih =>
      intro us l h nd e
      cases us with
      | nil => cases e
      | cons u us =>
        rw [List.filterMap_cons, h p (by simp), List.zip_cons_cons, List.lookup_cons]
        simp only [beq_self_eq_true, Option.map_some]
        rw [ih us l (fun x hx => ?_) (List.nodup_cons.mp nd).2 (Nat.succ.inj e)]
        rw [h x (by simp [hx]), List.zip_cons_cons, List.lookup_cons]
        have : (x == p) = false := beq_eq_false_iff_ne.mpr fun z => (List.nodup_cons.mp nd).1 (z ▸ hx)
        rw [this]
  exact fun nd e => k [] ps us _ (fun _ _ => rfl) nd e
theorem bind_plain {x qual : Str} {args : List Arg} {ds : List Expr} {body : List Stmt} {scope : Scope} {kV doc pm cdv ct : Value} {an : Option Addr} {us : List Value} (nd : (args.map (·.arg)).Nodup) (hl : us.length = (args.map (·.arg)).length) :
    bindArgs (PySem.W.fnOf x qual ⟨[], args, none, [], [], none, ds⟩ body scope .none kV doc pm an cdv ct) ⟨us, []⟩ = pure ((args.map (·.arg)).zip us) := by
  unfold bindArgs PySem.W.fnOf
  have e1 : seqItems? Value.none = pure none := rfl
  have hl2 : args.length = us.length := by rw [hl, List.length_map]
  have e2 : ∀ n ∈ args.map (·.arg), (((args.map (·.arg)).zip us).lookup n).isSome = true := lookup_zip (by rw [hl])
  have e3 : ∀ (l : List Str), (∀ n ∈ l, n ∈ args.map (·.arg)) → (l.filter fun n => (((args.map (·.arg)).zip us).lookup n).isNone) = [] := fun l h => List.filter_eq_nil_iff.mpr fun n hn => by
    have := e2 n (h n hn)
    cases q : ((args.map (·.arg)).zip us).lookup n with
    | none => rw [q] at this; cases this
    | some v => simp
  have e4 := filterMap_zip nd (us := us) (by rw [hl])
  simp [e1, hl2]
  rw [List.filterMap_map] at e4
  rw [if_neg ?_, e4]
  intro hc
  rw [e3 _ (fun n hn => by have := List.mem_of_mem_take hn; simpa using this)] at hc
  cases hc
section
variable {C : Ct} {μ : List Addr} {H : Hp}
theorem app_none {α : Type} {l : List (Option α)} {n i : Nat} {b : α} (e : (l ++ List.replicate n none)[i]? = some (some b)) : l[i]? = some (some b) := by
  by_cases h : i < l.length
  · rwa [List.getElem?_append_left h] at e
  · rw [List.getElem?_append_right (by omega), List.getElem?_replicate] at e
    split at e <;> cases e
theorem app_some {α : Type} {l : List (Option α)} {n i : Nat} {b : α} (e : l[i]? = some (some b)) : (l ++ List.replicate n none)[i]? = some (some b) := by
  rw [List.getElem?_append_left (List.getElem?_eq_some_iff.mp e).1]
  exact e
theorem own_ext {ρ : Mn.Slots} {σ : L2.St} {n m : Nat} {a : Addr} : Own (ρ ++ List.replicate n none) (σ ++ List.replicate m none) a ↔ Own ρ σ a :=
  ⟨fun ⟨i, b, e1, e2, e3⟩ => ⟨i, b, app_none e1, e2, app_none e3⟩, fun ⟨i, b, e1, e2, e3⟩ => ⟨i, b, app_some e1, e2, app_some e3⟩⟩
theorem Sta.ext {ρ : Mn.Slots} {h : Mn.Hp} {σ : L2.St} (S : Sta C μ ρ h σ H) (n : Nat) : Sta C μ (ρ ++ List.replicate n none) h (σ ++ List.replicate n none) H := by
  refine ⟨S.nd, S.len, S.obj, ?_, fun i b e => ?_, fun i j b c a e1 o1 v1 e2 o2 v2 => S.own i j b c a (app_none e1) o1 (app_none v1) (app_none e2) o2 (app_none v2)⟩
  · rw [List.length_append, List.length_append, S.slen, List.length_replicate, List.length_replicate]
  · obtain ⟨v, e1, r⟩ := S.slot i b (app_none e)
    exact ⟨v, app_some e1, r⟩
theorem Sta.bare {ρ : Mn.Slots} {h : Mn.Hp} {σ : L2.St} (S : Sta C μ ρ h σ H) : Sta C μ [] h [] H :=
  ⟨S.nd, S.len, S.obj, rfl, fun i b e => by simp at e, fun i j b c a e1 => by simp at e1⟩
theorem Fra.bare {ρ ρ' : Mn.Slots} {σ σ' : L2.St} {μ' : List Addr} {H' : Hp} {n m : Nat} (F : Fra μ (ρ ++ List.replicate n none) (σ ++ List.replicate m none) H μ' ρ' σ' H') : Fra μ ρ σ H μ' [] [] H' :=
  ⟨F.pre, fun a o e n1 n2 => by
    obtain ⟨k1, k2, _⟩ := F.keep a o e n1 fun z => n2 (own_ext.mp z)
    exact ⟨k1, k2, fun ⟨i, b, e, _⟩ => by simp at e⟩, F.live⟩
theorem body_start {G : Mn.Env} {f : Mn.Fn} {N : List Str} {vs : List V} {Q : VK} {E : XK} {A : List Nat} (hN : N.length = f.ns) (sp : spOf C (Mn.runFn G f) vs H Q E) :
    vs.length = f.np ∧ TSv C (fun cls d _ H => E cls d H) A (Mn.exs G f.body) { nx := fun _ H' => Q .non H', rt := Q } (L2.start N vs) H := by
  obtain ⟨μ, bs, h, S, g⟩ := sp
  have hl : bs.length = vs.length := by
    have := S.slen
    rwa [List.length_map, List.length_map] at this
  unfold Mn.runFn at g
  by_cases c : bs.length = f.np
  · rw [if_pos c] at g
    refine ⟨hl ▸ c, μ, bs.map some ++ List.replicate (f.ns - f.np) none, h, ?_, ?_⟩
    · unfold L2.start
      rw [hN, ← hl, c]
      exact S.ext _
    · have hs : L2.start N vs = vs.map some ++ List.replicate (f.ns - f.np) none := by
        unfold L2.start
        rw [hN, ← hl, c]
      rw [hs]
      cases e : Mn.exs G f.body (bs.map some ++ List.replicate (f.ns - f.np) none) h with
      | bad => rw [e] at g; exact g.elim
      | err c' ρ' h' =>
        rw [e] at g
        exact fun μ' σ' H' S' F' _ => g μ' H' S'.bare F'.bare
      | ok fl ρ' h' =>
        rw [e] at g
        intro μ' σ' H' S' F' _
        cases fl with
        | nx => exact g μ' H' .non S'.bare F'.bare rfl fun z => z.elim
        | brk => exact g.elim
        | rt b =>
          intro v r
          refine g μ' H' v S'.bare F'.bare r.1 fun o a ea => ?_
          rcases r.2 o a ea with k | k
          · exact .inl k
          · exact .inr (own_ext.mp k)
  · rw [if_neg c] at g
    exact g.elim
end
structure Fi where
  key : Str
  fn : Mn.Fn
  N : List Str
  ps : List Str
  d : He.DefD
def fnScB (N P : List Str) (sc : Scope) : Bool := (match sc.kind with
  | .function => true
  | _ => false) && ((!sc.isCoroutine && !sc.isGenerator) && (decide N.Nodup && (decide (N.take P.length = P) && ((P.all fun x => match sc.names.lookup x with
    | some .local => true
    | some .cell => true
    | _ => false) && sc.names.all fun y => match y.2 with
      | .free => false
      | _ => true))))
theorem fnScB_ok {N P : List Str} {sc : Scope} (h : fnScB N P sc = true) : FnScope N P sc := by
  obtain ⟨h1, h2⟩ := and_t h
  obtain ⟨h2, h3⟩ := and_t h2
  obtain ⟨h4, h5⟩ := and_t h2
  obtain ⟨h6, h7⟩ := and_t h3
  obtain ⟨h8, h9⟩ := and_t h7
  obtain ⟨i1, i2⟩ := and_t h9
  refine ⟨?_, by simpa using h4, by simpa using h5, of_decide_eq_true h6, of_decide_eq_true h8, fun x hx => ?_, fun y hy e => ?_⟩
  · cases e : sc.kind with
    | function => rfl
    | _ => rw [e] at h1; cases h1
  · have := List.all_eq_true.mp i1 x hx
    cases e : sc.names.lookup x with
    | none => rw [e] at this; cases this
    | some j =>
      rw [e] at this
      cases j with
      | «local» => exact .inl rfl
      | cell => exact .inr rfl
      | _ => cases this
  · have := List.all_eq_true.mp i2 y hy
    rw [e] at this
    cases this
def Fi.ok (T : Tx) (fi : Fi) : Bool := (decide (fi.N.length = fi.fn.ns) && decide (fi.ps.length = fi.fn.np)) && (fnScB fi.N fi.ps fi.d.scope && css fi.fn.body ⟨fi.N, fi.d.scope, T⟩ fi.d.body)
section
variable {P : Program} {w : World} {K : PySem.W.Frag} {mg : Str → Option Value} {base : Heap} {C : Ct} {G : Mn.Env} {T : Tx} {k : Nat}
theorem fi_step (hK : K = C.K) (F : TxF P w K mg base C G T k) {fi : Fi} {fa : Addr} {fd : FuncData} {dvs : List V} {kws : List (Str × V)} (D : FunD K fi.d.name fi.d.qual fi.d.params fi.d.body fi.d.scope dvs kws fa fd) (ok : fi.ok T = true) :
    FnOk P w K mg base (L2.CX P w) (k + 1 + 1) fa fd fi.ps (spOf C (Mn.runFn G fi.fn)) := by
  obtain ⟨h1, h2⟩ := and_t ok
  obtain ⟨h3, h4⟩ := and_t h1
  obtain ⟨h5, h6⟩ := and_t h2
  have hN := of_decide_eq_true h3
  have hP := of_decide_eq_true h4
  have S := fnScB_ok h5
  refine FunD.ok D S (fun vs H Q E sp => ?_) fun cdv A outer s H vs Q E hr sp => ?_
  · rw [(body_start (N := fi.N) (A := []) hN sp).1, hP]
  · have hv : ∀ x, visK (fi.d.scope.names.lookup x) = true → Vis fi.d.scope x := fun x e => by
      cases q : fi.d.scope.names.lookup x with
      | none => rw [q] at e; cases e
      | some j =>
        rw [q] at e
        cases j with
        | «local» => exact .inl q
        | cell => exact .inr (.inl q)
        | free => exact .inr (.inr q)
        | _ => cases e
    have X0 : XOk ⟨fi.N, fi.d.scope, T⟩ (cxOf (L2.CX P w) P w K mg base fi.N fi.d.qual fi.d.scope fa cdv A outer s H E) C (fun cls d _ H => E cls d H) G k :=
      ⟨hK, rfl, rfl, S.nd, hv, fun x e => e, fun x e => ⟨e, rfl⟩, fun x e => .inr e, fun x e => e, hr, takes_of rfl rfl rfl rfl, F⟩
    exact ⟨_, css_ok fi.fn.body ⟨fi.N, fi.d.scope, T⟩ _ C (fun cls d _ H => E cls d H) G k ⟨X0, rfl, S.kind, rfl, rfl, rfl, passes_of (K := fun e s'' => L2.CX P w outer H s E e s'') rfl⟩ fi.d.body h6, (body_start hN sp).2⟩
structure TxB (P : Program) (w : World) (K : PySem.W.Frag) (mg : Str → Option Value) (C : Ct) (t : Mn.Txt0) (T : Tx) (L : List Fi) : Prop where
  hK : K = C.K
  fns : ∀ f fd, t.fn f = some fd → ∃ fi ∈ L, fi.key = f ∧ fi.fn = fd
  one : ∀ fi ∈ L, ∀ fj ∈ L, fi.key = fj.key → fi = fj
  oks : ∀ fi ∈ L, fi.ok T = true
  defs : ∀ fi ∈ L, ∃ fd, FunD K fi.d.name fi.d.qual fi.d.params fi.d.body fi.d.scope (fi.d.dvs K) (fi.d.kws K) (He.fAd K fi.d.at_) fd
  blt : ∀ x, T.blts.contains x = true → mg x = none
  glo : ∀ x, T.glo x = true → ∃ v y u, t.gv x = some v ∧ mg x = some u ∧ RelV y u ∧ ∀ μ H, RV C μ H v y
  gdc : ∀ d, T.gdc d = true → ∃ a, mg d = some (.ref a) ∧ ∀ G : Mn.Env, G.gd = t.gd → GdF C w G d a
  dfl : ∀ f ys, T.dfl f ys = true → ∃ fi ∈ L, fi.key = f ∧ mg f = some (.ref (He.fAd K fi.d.at_)) ∧ ∃ dvs ds, RDs C ys dvs ∧ Vals dvs ds ∧ ∀ fd, FunD K fi.d.name fi.d.qual fi.d.params fi.d.body fi.d.scope (fi.d.dvs K) (fi.d.kws K) (He.fAd K fi.d.at_) fd → Binds K fd fi.ps ds
  kwd : ∀ f n ks, T.kwd f n ks = true → ∃ fi ∈ L, fi.key = f ∧ mg f = some (.ref (He.fAd K fi.d.at_)) ∧ n + ks.length = fi.ps.length ∧ ∀ fd, FunD K fi.d.name fi.d.qual fi.d.params fi.d.body fi.d.scope (fi.d.dvs K) (fi.d.kws K) (He.fAd K fi.d.at_) fd →
    ∀ (s : Shared) (us ws : List Value), K.In s.heap → us.length = n → ws.length = ks.length → BindsTo s fd ⟨us, ks.zip ws⟩ (fi.ps.zip (us ++ ws))
  mdfl : ∀ m ys, T.mdfl m ys = true → ∃ dvs ds, RDs C ys dvs ∧ Vals dvs ds ∧ ∀ c f, t.meth c m = some f → Cls K (C.cl c) ∧ ∃ fi ∈ L, fi.key = f ∧ Meth K (C.cl c) m (He.fAd K fi.d.at_) ∧ ∀ fd, FunD K fi.d.name fi.d.qual fi.d.params fi.d.body fi.d.scope (fi.d.dvs K) (fi.d.kws K) (He.fAd K fi.d.at_) fd → Binds K fd fi.ps ds
  mkwd : ∀ m n ks, T.mkwd m n ks = true → ∀ c f, t.meth c m = some f → Cls K (C.cl c) ∧ ∃ fi ∈ L, fi.key = f ∧ Meth K (C.cl c) m (He.fAd K fi.d.at_) ∧ n + 1 + ks.length = fi.ps.length ∧ ∀ fd, FunD K fi.d.name fi.d.qual fi.d.params fi.d.body fi.d.scope (fi.d.dvs K) (fi.d.kws K) (He.fAd K fi.d.at_) fd →
    ∀ (s : Shared) (us ws : List Value), K.In s.heap → us.length = n + 1 → ws.length = ks.length → BindsTo s fd ⟨us, ks.zip ws⟩ (fi.ps.zip (us ++ ws))
  cdfl : ∀ c ys, T.cdfl c ys = true → ∃ f, T.init c = some f ∧ t.init c = some f ∧ mg c = some (.ref (C.cl c)) ∧ ∃ fi ∈ L, fi.key = f ∧ Mk K (C.cl c) (He.fAd K fi.d.at_) ∧ PySem.W.keepIn K (.ref (He.fAd K fi.d.at_)) = true ∧ ∃ dvs ds, RDs C ys dvs ∧ Vals dvs ds ∧
    ∀ fd, FunD K fi.d.name fi.d.qual fi.d.params fi.d.body fi.d.scope (fi.d.dvs K) (fi.d.kws K) (He.fAd K fi.d.at_) fd → Binds K fd fi.ps ds
  ty : ∀ s, T.ty s = true → ∃ v u, NamV mg s u ∧ RelV v u ∧ ∀ G : Mn.Env, G.sub = t.sub → TyF C G s v u
  att : ∀ f, T.att f = true → ∀ c, t.att c f = true → Cls K (C.cl c) ∧ NoAttr K (C.cl c) f
  nolen : ∀ c, t.meth c "__len__" = none
  exn : ∀ c, T.exn c = true → mg c = some (.ref (C.cl c)) ∧ PySem.W.keepIn K (.ref (C.cl c)) = true ∧ PySem.W.subIn K (.ref (C.cl c)) (.type "BaseException") = some true ∧ PySem.W.typeIn K (.ref (C.cl c)) = some (.type "type") ∧
    ∃ bmB B newId initId, ExcBaseFacts B newId initId bmB ∧ PySem.W.excIn K (C.cl c) bmB newId = true
  hnd : ∀ d, T.hnd d = true → ∃ cv, NamV mg d cv ∧ ∀ c, C.ex c = true → PySem.W.exmOne K (.ref (C.cl c)) cv = some (t.sub c d)
  isx : ∀ c, t.isx c = true → C.ex c = true
variable {t : Mn.Txt0} {L : List Fi}
def FnsAt (P : Program) (w : World) (K : PySem.W.Frag) (mg : Str → Option Value) (base : Heap) (C : Ct) (L : List Fi) (run : Str → List Mn.B → Mn.Hp → Mn.RC) (k : Nat) : Prop := ∀ fi ∈ L, ∃ fd, FunD K fi.d.name fi.d.qual fi.d.params fi.d.body fi.d.scope (fi.d.dvs K) (fi.d.kws K) (He.fAd K fi.d.at_) fd ∧
  FnOk P w K mg base (L2.CX P w) k (He.fAd K fi.d.at_) fd fi.ps (spOf C (run fi.key))
theorem TxB.txF (B : TxB P w K mg C t T L) {run : Str → List Mn.B → Mn.Hp → Mn.RC} (F : FnsAt P w K mg base C L run k) : TxF P w K mg base C (Mn.envOf t run) T k := by
  refine ⟨B.blt, B.glo, fun d h => ?_, fun f ys h => ?_, fun f n ks h => ?_, fun m ys h => ?_, fun m n ks h => ?_, fun c ys h => ?_, fun s h => ?_, B.att, B.nolen, B.exn, B.hnd, B.isx⟩
  · obtain ⟨a, e, q⟩ := B.gdc d h
    exact ⟨a, e, q _ rfl⟩
  · obtain ⟨fi, hm, rfl, e, dvs, ds, r, v, q⟩ := B.dfl f ys h
    obtain ⟨fd, D, o⟩ := F fi hm
    exact ⟨_, dvs, ds, e, r, D.kp, ⟨fd, fi.ps, o, q fd D⟩, v⟩
  · obtain ⟨fi, hm, rfl, e, hl, q⟩ := B.kwd f n ks h
    obtain ⟨fd, D, o⟩ := F fi hm
    exact ⟨_, e, D.kp, fd, fi.ps, o, hl, q fd D⟩
  · obtain ⟨dvs, ds, r, v, q⟩ := B.mdfl m ys h
    refine ⟨dvs, ds, r, fun c f e => ?_⟩
    obtain ⟨k1, fi, hm, rfl, M, b⟩ := q c f e
    obtain ⟨fd, D, o⟩ := F fi hm
    exact ⟨k1, _, M, D.kp, ⟨fd, fi.ps, o, b fd D⟩, v⟩
  · intro c f e
    obtain ⟨k1, fi, hm, rfl, M, hl, b⟩ := B.mkwd m n ks h c f e
    obtain ⟨fd, D, o⟩ := F fi hm
    exact ⟨k1, _, M, D.kp, fd, fi.ps, o, hl, b fd D⟩
  · obtain ⟨f, e1, e2, e3, fi, hm, rfl, M, kp, dvs, ds, r, v, b⟩ := B.cdfl c ys h
    obtain ⟨fd, D, o⟩ := F fi hm
    exact ⟨_, fi.key, dvs, ds, e1, e2, e3, M, r, D.kp, ⟨fd, fi.ps, o, b fd D⟩, v⟩
  · obtain ⟨v, u, n, r, q⟩ := B.ty s h
    exact ⟨v, u, n, r, q _ rfl⟩
def lv (n : Nat) : Nat := 2 * n
theorem fns_all (B : TxB P w K mg C t T L) : ∀ n : Nat, FnsAt P w K mg base C L (Mn.call t n) (lv n)
  | 0 => fun fi hm => by
    obtain ⟨fd, D⟩ := B.defs fi hm
    exact ⟨fd, D, ⟨fun vs H Q E ⟨μ, bs, h, S, g⟩ => g.elim, fun A outer s H args us vs Q E hr e0 hb r ⟨μ, bs, h, S, g⟩ => g.elim⟩⟩
  | n + 1 => fun fi hm => by
    obtain ⟨fd, D⟩ := B.defs fi hm
    have ih := fns_all B n
    have st := fi_step B.hK (B.txF ih) D (B.oks fi hm)
    refine ⟨fd, D, st.imp fun vs H Q E ⟨μ, bs, h, S, g⟩ => ⟨μ, bs, h, S, ?_⟩⟩
    unfold Mn.call at g
    cases e : t.fn fi.key with
    | none => rw [e] at g; exact g.elim
    | some fd' =>
      rw [e] at g
      obtain ⟨fj, hj, e1, e2⟩ := B.fns _ _ e
      have e3 := B.one fj hj fi hm e1
      subst e3
      rw [e2]
      exact g
end
end Ms
end
section
namespace Ms
open PySem PySem.Spec PyProof.Rows L2
theorem bind_kw1 {x qual : Str} {args : List Arg} {kw : Arg} {kd : List (Option Expr)} {ds : List Expr} {body : List Stmt} {scope : Scope} {doc pm cdv ct : Value} {an : Option Addr} {us : List Value} {D : Addr} {v : Value} (nd : (args.map (·.arg) ++ [kw.arg]).Nodup) (hl : us.length = (args.map (·.arg)).length) :
    ∃ g, bindArgs (PySem.W.fnOf x qual ⟨[], args, none, [kw], kd, none, ds⟩ body scope .none (.ref D) doc pm an cdv ct) ⟨us, []⟩ = nsGet D kw.arg >>= g ∧ g (some v) = pure ((args.map (·.arg) ++ [kw.arg]).zip (us ++ [v])) := by
  unfold bindArgs PySem.W.fnOf
  have e1 : seqItems? Value.none = pure none := rfl
  have hl2 : args.length = us.length := by rw [hl, List.length_map]
  have nd1 : (args.map (·.arg)).Nodup := (List.nodup_append.mp nd).1
  have nk : kw.arg ∉ args.map (·.arg) := fun z => (List.nodup_append.mp nd).2.2 _ z _ (by simp) rfl
  have e2 : ∀ n ∈ args.map (·.arg), (((args.map (·.arg)).zip us).lookup n).isSome = true := lookup_zip (by rw [hl])
  have e3 : ∀ (l : List Str), (∀ n ∈ l, n ∈ args.map (·.arg)) → (l.filter fun n => (((args.map (·.arg)).zip us).lookup n).isNone) = [] := fun l h => List.filter_eq_nil_iff.mpr fun n hn => by
    have := e2 n (h n hn)
    cases q : ((args.map (·.arg)).zip us).lookup n with
    | none => rw [q] at this; cases this
    | some v => simp
  have e5 : ((args.map (·.arg)).zip us).lookup kw.arg = none := by
    have k : ∀ (ps : List Str) (us : List Value), kw.arg ∉ ps → (ps.zip us).lookup kw.arg = none := by
      intro ps
      induction ps with
      | nil => intro us _; rfl
      | cons p r ih =>
        intro us h
        cases us with
        | nil => rfl
        | cons u us =>
          rw [List.zip_cons_cons, List.lookup_cons]
          have c : (kw.arg == p) = false := beq_eq_false_iff_ne.mpr fun z => h (z ▸ List.mem_cons_self)
          rw [c]
          exact ih us fun z => h (List.mem_cons_of_mem _ z)
    exact k _ _ nk
  have e6 := filterMap_zip nd (us := us ++ [v]) (by simp [hl2])
  have e7 : (args.map (·.arg) ++ [kw.arg]).zip (us ++ [v]) = (args.map (·.arg)).zip us ++ [(kw.arg, v)] := List.zip_append (by rw [hl])
  simp [e1, hl2]
  rw [if_neg ?_, if_pos (by rw [e5]; rfl)]
  · refine ⟨_, LawfulMonad.bind_assoc _ _ _, ?_⟩
    rw [e7] at e6 ⊢
    simp at e6 ⊢
    rw [e6]
  · intro hc
    rw [e3 _ (fun n hn => by have := List.mem_of_mem_take hn; simpa using this)] at hc
    cases hc
end Ms
namespace Ms
open PySem PySem.Spec PyProof.Rows L2
theorem bind_kwc {x qual : Str} {args : List Arg} {kw : Arg} {kd : List (Option Expr)} {ds : List Expr} {body : List Stmt} {scope : Scope} {kV doc pm cdv ct : Value} {an : Option Addr} {us : List Value} {v : Value} (nd : (args.map (·.arg) ++ [kw.arg]).Nodup) (hl : us.length = (args.map (·.arg)).length) :
    bindArgs (PySem.W.fnOf x qual ⟨[], args, none, [kw], kd, none, ds⟩ body scope .none kV doc pm an cdv ct) ⟨us, [(kw.arg, v)]⟩ = pure ((args.map (·.arg) ++ [kw.arg]).zip (us ++ [v])) := by
  unfold bindArgs PySem.W.fnOf
  have e1 : seqItems? Value.none = pure none := rfl
  have hl2 : args.length = us.length := by rw [hl, List.length_map]
  have nk : kw.arg ∉ args.map (·.arg) := fun z => (List.nodup_append.mp nd).2.2 _ z _ (by simp) rfl
  have e5 : ((args.map (·.arg)).zip us).lookup kw.arg = none := by
    have k : ∀ (ps : List Str) (us : List Value), kw.arg ∉ ps → (ps.zip us).lookup kw.arg = none := by
      intro ps
      induction ps with
      | nil => intro us _; rfl
      | cons p r ih =>
        intro us h
        cases us with
        | nil => rfl
        | cons u us =>
          rw [List.zip_cons_cons, List.lookup_cons]
          have c : (kw.arg == p) = false := beq_eq_false_iff_ne.mpr fun z => h (z ▸ List.mem_cons_self)
          rw [c]
          exact ih us fun z => h (List.mem_cons_of_mem _ z)
    exact k _ _ nk
  have e7 : (args.map (·.arg) ++ [kw.arg]).zip (us ++ [v]) = (args.map (·.arg)).zip us ++ [(kw.arg, v)] := List.zip_append (by rw [hl])
  have e6 := filterMap_zip nd (us := us ++ [v]) (by simp [hl2])
  have e8 := lookup_zip (ps := args.map (·.arg) ++ [kw.arg]) (us := us ++ [v]) (by simp [hl2])
  rw [e7] at e6 e8 ⊢
  have e3 : ∀ (l : List Str), (∀ n ∈ l, n ∈ args.map (·.arg)) → (l.filter fun n => (((args.map (·.arg)).zip us ++ [(kw.arg, v)]).lookup n).isNone) = [] := fun l h => List.filter_eq_nil_iff.mpr fun n hn => by
    have := e8 n (List.mem_append_left _ (h n hn))
    cases q : ((args.map (·.arg)).zip us ++ [(kw.arg, v)]).lookup n with
    | none => rw [q] at this; cases this
    | some v => simp
  have e9 : (((args.map (·.arg)).zip us ++ [(kw.arg, v)]).lookup kw.arg).isNone = false := by
    have := e8 kw.arg (by simp)
    cases q : ((args.map (·.arg)).zip us ++ [(kw.arg, v)]).lookup kw.arg with
    | none => rw [q] at this; cases this
    | some v => rfl
  simp [e1, hl2, e5, e9]
  rw [if_neg ?_]
  · simp at e6
    rw [e6]
  · intro hc
    rw [e3 _ (fun n hn => by have := List.mem_of_mem_take hn; simpa using this)] at hc
    cases hc
end Ms
namespace Ms
open PySem PySem.Spec PyProof.Rows L2
theorem bind_r1 {x qual : Str} {a b c d : Arg} {ds : List Expr} {body : List Stmt} {scope : Scope} {T : Addr} {kV doc pm cdv ct : Value} {an : Option Addr} {u1 u2 u3 v : Value} (ha : a.arg = "self") (hb : b.arg = "node") (hc : c.arg = "slot") (hd : d.arg = "more") :
    ∃ k, bindArgs (PySem.W.fnOf x qual ⟨[], [a, b, c, d], none, [], [], none, ds⟩ body scope (.ref T) kV doc pm an cdv ct) ⟨[u1, u2, u3], []⟩ = seqItems? (.ref T) >>= k ∧ k (some #[v]) = pure ((["self", "node", "slot", "more"] : List Str).zip [u1, u2, u3, v]) := by
  obtain ⟨_, _, _⟩ := a
  obtain ⟨_, _, _⟩ := b
  obtain ⟨_, _, _⟩ := c
  obtain ⟨_, _, _⟩ := d
  dsimp only at ha hb hc hd
  subst ha hb hc hd
  exact ⟨_, rfl, rfl⟩
theorem bind_r0 {x qual : Str} {a b c d : Arg} {ds : List Expr} {body : List Stmt} {scope : Scope} {T : Addr} {kV doc pm cdv ct : Value} {an : Option Addr} {u1 u2 u3 u4 v : Value} (ha : a.arg = "self") (hb : b.arg = "node") (hc : c.arg = "slot") (hd : d.arg = "more") :
    ∃ k, bindArgs (PySem.W.fnOf x qual ⟨[], [a, b, c, d], none, [], [], none, ds⟩ body scope (.ref T) kV doc pm an cdv ct) ⟨[u1, u2, u3, u4], []⟩ = seqItems? (.ref T) >>= k ∧ k (some #[v]) = pure ((["self", "node", "slot", "more"] : List Str).zip [u1, u2, u3, u4]) := by
  obtain ⟨_, _, _⟩ := a
  obtain ⟨_, _, _⟩ := b
  obtain ⟨_, _, _⟩ := c
  obtain ⟨_, _, _⟩ := d
  dsimp only at ha hb hc hd
  subst ha hb hc hd
  exact ⟨_, rfl, rfl⟩
def refs1 (o : Obj) : List Addr := match o.data with
  | .func fd => He.refV fd.code ++ (He.refV fd.defaults ++ He.refV fd.kwdefaults)
  | .cls cd => [cd.ns]
  | .dict es _ => es.toList.flatMap fun e => He.refV e.val
  | .seq its _ => its.toList.flatMap He.refV
  | _ => []
def frL {α : Type} : List Nat → (List Nat → α) → α
  | [], k => k []
  | a :: r, k => HandSHeadRun.frNat a fun a => frL r fun r => k (a :: r)
theorem frL_eq {α : Type} : ∀ (l : List Nat) (k : List Nat → α), frL l k = k l
  | [], _ => rfl
  | a :: r, k => by
    unfold frL
    rw [HandSHeadRun.frNat_eq, frL_eq r]
def lvl (g : Addr → Option Obj) (as : List Addr) : List Addr := as.flatMap fun a => match g a with
  | some o => refs1 o
  | none => []
def withAs {α : Type} (g : Addr → Option Obj) (k : List Addr → α) : α :=
  frL (lvl g [mainGlobals]) fun l1 => frL (lvl g l1) fun l2 => frL (lvl g l2) fun l3 => frL (lvl g l3) fun l4 => k (mainGlobals :: (l1 ++ (l2 ++ (l3 ++ l4))))
def asM (g : Addr → Option Obj) : List Addr := withAs g id
theorem withAs_eq {α : Type} (g : Addr → Option Obj) (k : List Addr → α) : withAs g k = k (asM g) := by
  unfold asM withAs
  simp only [frL_eq, id]
def frP {α : Type} (g : Addr → Option Obj) : List Addr → (PySem.W.Frag → α) → α
  | [], k => k []
  | a :: r, k => match g a with
    | some o => frP g r fun K => k ((a, o) :: K)
    | none => frP g r k
theorem frP_eq {α : Type} (g : Addr → Option Obj) : ∀ (as : List Addr) (k : PySem.W.Frag → α), frP g as k = k (He.frG g as)
  | [], _ => rfl
  | a :: r, k => by
    unfold frP He.frG
    rw [List.filterMap_cons]
    cases g a with
    | none => exact frP_eq g r k
    | some o => exact frP_eq g r fun K => k ((a, o) :: K)
structure Txd where
  L : List Fi
  consts : List (Str × Mn.Val)
  dicts : List (Str × List (Str × Mn.Val))
  clss : List (Str × List Str)
  meths : List (Str × Str × Str)
  exns : List Str
  hnds : List Str
  tys : List (Str × String)
  blts : List Str
def lookG : Str → List (Str × List (Str × Mn.Val)) → Option (List (Str × Mn.Val))
  | _, [] => none
  | x, (y, v) :: r => if x = y then some v else lookG x r
def lookFi : Str → List Fi → Option Fi
  | _, [] => none
  | x, f :: r => if x = f.key then some f else lookFi x r
def lookM : Str → Str → List (Str × Str × Str) → Option Str
  | _, _, [] => none
  | c, m, (d, n, k) :: r => if c = d ∧ m = n then some k else lookM c m r
def lookA : Str → List (Str × List Str) → Option (List Str)
  | _, [] => none
  | x, (y, v) :: r => if x = y then some v else lookA x r
def Txd.txt (D : Txd) : Mn.Txt0 where
  fn := fun f => (lookFi f D.L).map (·.fn)
  gv := fun x => Mn.lookF x D.consts
  gd := fun x => lookG x D.dicts
  meth := fun c m => lookM c m D.meths
  att := fun c f => match lookA c D.clss with
    | some l => decide (f ∈ l)
    | none => false
  init := fun c => lookM c "__init__" D.meths
  sub := fun c d => decide (c = d) || (decide (d = "RowError") || decide (d = "IndexError"))
  isx := fun c => decide (c ∈ D.exns)
theorem lookFi_is {x : Str} {f : Fi} : ∀ {l : List Fi}, lookFi x l = some f → f ∈ l ∧ f.key = x
  | [], e => by cases e
  | g :: r, e => by
    unfold lookFi at e
    by_cases c : x = g.key
    · rw [if_pos c] at e
      cases e
      exact ⟨List.mem_cons_self, c.symm⟩
    · rw [if_neg c] at e
      obtain ⟨h1, h2⟩ := lookFi_is e
      exact ⟨List.mem_cons_of_mem _ h1, h2⟩
theorem lookM_is {c m k : Str} : ∀ {l : List (Str × Str × Str)}, lookM c m l = some k → (c, m, k) ∈ l
  | [], e => by cases e
  | (d, n, j) :: r, e => by
    unfold lookM at e
    by_cases h : c = d ∧ m = n
    · rw [if_pos h] at e
      cases e
      rw [h.1, h.2]
      exact List.mem_cons_self
    · rw [if_neg h] at e
      exact List.mem_cons_of_mem _ (lookM_is e)
theorem lookA_is {c : Str} {v : List Str} : ∀ {l : List (Str × List Str)}, lookA c l = some v → (c, v) ∈ l
  | [], e => by cases e
  | (d, n) :: r, e => by
    unfold lookA at e
    by_cases h : c = d
    · rw [if_pos h] at e
      cases e
      rw [h]
      exact List.mem_cons_self
    · rw [if_neg h] at e
      exact List.mem_cons_of_mem _ (lookA_is e)
def kind0 (fi : Fi) : Bool := match fi.d.params with
  | ⟨[], args, none, [], [], none, []⟩ => decide (args.map (·.arg) = fi.ps) && (fi.d.dfl.isEmpty && (fi.d.kwd.isEmpty && decide fi.ps.Nodup))
  | _ => false
def kind1 (fi : Fi) : Option (Nat × Str × Int) := match fi.d.params, fi.d.kwd with
  | ⟨[], args, none, [kw], _, none, []⟩, [(n, .int i)] => if args.map (·.arg) ++ [kw.arg] = fi.ps ∧ n = kw.arg ∧ fi.d.dfl.isEmpty = true ∧ fi.ps.Nodup then some (args.length, n, i) else none
  | _, _ => none
def kindR (fi : Fi) : Option Int := match fi.d.params, fi.d.dfl with
  | ⟨[], [a, b, c, d], none, [], [], none, [_]⟩, [.int i] => if fi.ps = (["self", "node", "slot", "more"] : List Str) ∧ a.arg = "self" ∧ b.arg = "node" ∧ c.arg = "slot" ∧ d.arg = "more" ∧ fi.d.kwd.isEmpty = true then some i else none
  | _, _ => none
def isI1 (i : Int) : List Mn.Val → Bool
  | [.int j] => decide (i = j)
  | _ => false
def tailOk (fi : Fi) (ys : List Mn.Val) : Bool := (kind0 fi && ys.isEmpty) || ((match kind1 fi with
  | some (_, _, i) => isI1 i ys
  | none => false) || (match kindR fi with
  | some i => ys.isEmpty || isI1 i ys
  | none => false))
def kwOk (fi : Fi) (n : Nat) (ks : List Str) : Bool := match kind1 fi with
  | some (m, k, _) => decide (n = m ∧ ks = [k])
  | none => false
def Txd.tx (D : Txd) : Tx where
  blts := D.blts
  dfl := fun f ys => match lookFi f D.L with
    | some fi => decide (fi.d.at_ = (f, none)) && tailOk fi ys
    | none => false
  kwd := fun f n ks => match lookFi f D.L with
    | some fi => decide (fi.d.at_ = (f, none)) && kwOk fi n ks
    | none => false
  mdfl := fun m ys => (ys.isEmpty && D.meths.all fun q => !(decide (q.2.1 = m)) || (match lookFi q.2.2 D.L with
      | some fi => decide (fi.d.at_ = (q.1, some m)) && kind0 fi
      | none => false)) || (match D.meths.filter fun q => decide (q.2.1 = m) with
      | [q] => (match lookFi q.2.2 D.L with
        | some fi => decide (fi.d.at_ = (q.1, some m)) && tailOk fi ys
        | none => false)
      | _ => false)
  mkwd := fun m n ks => D.meths.all fun q => !(decide (q.2.1 = m)) || (match lookFi q.2.2 D.L with
      | some fi => decide (fi.d.at_ = (q.1, some m)) && kwOk fi (n + 1) ks
      | none => false)
  cdfl := fun c ys => ys.isEmpty && ((D.clss.any fun p => decide (p.1 = c)) && (match lookM c "__init__" D.meths with
    | some k => (match lookFi k D.L with
      | some fi => decide (fi.d.at_ = (c, some ("__init__" : Str))) && kind0 fi
      | none => false)
    | none => false))
  ty := fun s => (D.tys.any fun q => decide (q.1 = s)) || decide (s ∈ D.exns)
  glo := fun x => (Mn.lookF x D.consts).isSome
  gdc := fun x => (lookG x D.dicts).isSome
  att := fun f => true
  init := fun c => lookM c "__init__" D.meths
  exn := fun c => decide (c ∈ D.exns)
  hnd := fun c => decide (c ∈ D.hnds)
def ctOf (D : Txd) (K : PySem.W.Frag) : Ct := ⟨K, He.ga K, fun c => decide (c ∈ D.exns)⟩
mutual
def cvB (K : PySem.W.Frag) : Mn.Val → Value → Bool
  | .non, u => (match u with
    | .none => true
    | _ => false)
  | .bl a, u => (match u with
    | .bool b => a == b
    | _ => false)
  | .int a, u => (match u with
    | .int b _ => decide (a = b)
    | _ => false)
  | .str a, u => (match u with
    | .str b _ => decide (a = b) && PyData.strOk a
    | _ => false)
  | .tup l, u => (match u with
    | .ref a => (match K.lookup a with
      | some ⟨.type c, _, .seq its _, _⟩ => decide (c = "tuple") && (decide (its.size ≤ sizeLine) && cvBs K l its.toList)
      | _ => false)
    | _ => false)
  | .exc _, _ => false
  | .ref _, _ => false
termination_by structural x => x
def cvBs (K : PySem.W.Frag) : List Mn.Val → List Value → Bool
  | [], us => us.isEmpty
  | v :: vs, us => (match us with
    | u :: us => cvB K v u && cvBs K vs us
    | [] => false)
termination_by structural x => x
end
mutual
theorem cvB_ok {K : PySem.W.Frag} {C : Ct} (hK : K = C.K) : ∀ {v : Mn.Val} {u : Value}, cvB K v u = true → ∃ y, RelV y u ∧ ∀ μ H, RV C μ H v y
  | .non, u, h => by
    cases u <;> first | exact ⟨.non, rfl, fun _ _ => rfl⟩ | exact nomatch (show false = true from h)
  | .bl a, u, h => by
    cases u with
    | bool b =>
      have e : (a == b) = true := h
      have e := eq_of_beq e
      subst e
      exact ⟨.bl a, rfl, fun _ _ => rfl⟩
    | _ => exact nomatch (show false = true from h)
  | .int a, u, h => by
    cases u with
    | int b t =>
      have e : a = b := of_decide_eq_true h
      subst e
      exact ⟨.int a, ⟨t, rfl⟩, fun _ _ => rfl⟩
    | _ => exact nomatch (show false = true from h)
  | .str a, u, h => by
    cases u with
    | str b t =>
      obtain ⟨h1, h2⟩ := and_t h
      have e : a = b := of_decide_eq_true h1
      subst e
      exact ⟨.str a, ⟨t, rfl⟩, fun _ _ => ⟨rfl, h2⟩⟩
    | _ => exact nomatch (show false = true from h)
  | .tup l, u, h => by
    cases u with
    | ref a =>
      have h : (match K.lookup a with
        | some ⟨.type c, _, .seq its _, _⟩ => decide (c = "tuple") && (decide (its.size ≤ sizeLine) && cvBs K l its.toList)
        | _ => false) = true := h
      cases q : K.lookup a with
      | none => rw [q] at h; cases h
      | some o =>
        obtain ⟨oc, od, dt, osl⟩ := o
        rw [q] at h
        cases oc with
        | type c =>
          cases dt with
          | seq its n =>
            obtain ⟨h1, h2⟩ := and_t h
            obtain ⟨h2, h3⟩ := and_t h2
            have e : c = "tuple" := of_decide_eq_true h1
            subst e
            obtain ⟨ys, r, k⟩ := cvBs_ok hK h3
            exact ⟨.ref a, rfl, fun μ H => ⟨a, ys, rfl, .inr ⟨_, its, n, by rw [← hK]; exact q, rfl, rfl, of_decide_eq_true h2, r⟩, k μ H⟩⟩
          | _ => cases h
        | _ => cases dt <;> cases h
    | _ => exact nomatch (show false = true from h)
  | .exc _, _, h => nomatch (show false = true from h)
  | .ref _, _, h => nomatch (show false = true from h)
theorem cvBs_ok {K : PySem.W.Frag} {C : Ct} (hK : K = C.K) : ∀ {vs : List Mn.Val} {us : List Value}, cvBs K vs us = true → ∃ ys, Vals ys us ∧ ∀ μ H, RVs C μ H vs ys
  | [], us, h => by
    cases us with
    | nil => exact ⟨[], .nil, fun _ _ => rfl⟩
    | cons a b => exact nomatch (show false = true from h)
  | v :: vs, us, h => by
    cases us with
    | nil => exact nomatch (show false = true from h)
    | cons u us =>
      obtain ⟨h1, h2⟩ := and_t h
      obtain ⟨y, r, k⟩ := cvB_ok hK h1
      obtain ⟨ys, rs, ks⟩ := cvBs_ok hK h2
      exact ⟨y :: ys, .cons r rs, fun μ H => ⟨y, ys, rfl, k μ H, ks μ H⟩⟩
end
def entsB (K : PySem.W.Frag) : List (Str × Mn.Val) → List DictEntry → Bool
  | [], [] => true
  | kv :: r, e :: es => (match e.key with
    | .str x _ => decide (x = kv.1)
    | _ => false) && (cvB K kv.2 e.val && entsB K r es)
  | _, _ => false
theorem entsB_ok {K : PySem.W.Frag} {C : Ct} (hK : K = C.K) : ∀ {kvs : List (Str × Mn.Val)} {es : List DictEntry}, entsB K kvs es = true → Paired (EntR C) kvs es
  | [], [], _ => .nil
  | [], _ :: _, h => nomatch (show false = true from h)
  | _ :: _, [], h => nomatch (show false = true from h)
  | kv :: r, e :: es, h => by
    obtain ⟨h1, h2⟩ := and_t h
    obtain ⟨h2, h3⟩ := and_t h2
    refine .cons ⟨?_, cvB_ok hK h2⟩ (entsB_ok hK h3)
    split at h1
    · rename_i x t q
      have ex : x = kv.1 := of_decide_eq_true h1
      exact ⟨t, by rw [q, ex]⟩
    · cases h1
def ieBase : List Value := [.type "IndexError", .type "LookupError", .type "Exception", .type "BaseException", .type "object"]
def exnB (K : PySem.W.Frag) (c : Str) : Bool := (He.Fa.glo c).ok K && (PySem.W.keepIn K (.ref (He.ga K c)) && (decide (PySem.W.subIn K (.ref (He.ga K c)) (.type "BaseException") = some true) && (decide (PySem.W.typeIn K (.ref (He.ga K c)) = some (.type "type")) && PySem.W.excIn K (He.ga K c) ieBase "IndexError.__new__")))
def excB (K : PySem.W.Frag) (D : Addr) : Bool := (He.eqO (PySem.W.findIn K (.ref D) "__getattribute__") (some (some (.builtin "BaseException.__getattribute__"))) && He.eqO (PySem.W.findIn K (.ref D) "__getattr__") (some none)) &&
  ((PySem.W.hasDictIn K D && He.eqO (PySem.W.findIn K (.ref D) "__class__") (some (some (.builtin "object.__class__")))) && ((He.eqO (PySem.W.specialIn K (.builtin "object.__class__") "__get__") (some (some (.builtin "getset_descriptor.__get__"))) && decide (PySem.W.takesIn K (.builtin "object.__class__") = some true)) && decide (PySem.W.mroIn K D (.type "object") = some true)))
theorem excB_ok {K : PySem.W.Frag} {D : Addr} (h : excB K D = true) (s : PySem.W.subIn K (.ref D) (.type "BaseException") = some true) : ExcC K D := by
  obtain ⟨h1, h2⟩ := and_t h
  obtain ⟨h3, h4⟩ := and_t h1
  obtain ⟨h5, h6⟩ := and_t h2
  obtain ⟨h7, h8⟩ := and_t h5
  obtain ⟨h9, i1⟩ := and_t h6
  obtain ⟨i2, i3⟩ := and_t h9
  exact ⟨He.eqO_ok h3, He.eqO_ok h4, s, h7, He.eqO_ok h8, He.eqO_ok i2, of_decide_eq_true i3, of_decide_eq_true i1⟩
def tyB (K : PySem.W.Frag) (sub : Str → Str → Bool) (exns : List Str) (s : Str) (u : Value) : Bool := (tyNames.all fun n => match kbOf s n with
  | none => true
  | some b => decide (PySem.W.kitOne K (.type n) u = some b)) && exns.all fun c => decide (PySem.W.kitOne K (.ref (He.ga K c)) u = some (sub c s))
def isLst (o : Obj) : Bool := match o.cls with
  | .type c => decide (c = "list")
  | _ => false
def Txd.allB (D : Txd) (K : PySem.W.Frag) : Bool :=
  ((K.all fun p => !isLst p.2) && (D.blts.all fun x => (He.Fa.free x).ok K)) &&
  (((D.consts.all fun p => match PySem.W.nsIn K mainGlobals p.1 with
    | some (some u) => cvB K p.2 u
    | _ => false) && (D.dicts.all fun p => match PySem.W.nsIn K mainGlobals p.1 with
    | some (some (.ref a)) => (match K.lookup a with
      | some ⟨_, _, .dict es _, _⟩ => entsB K p.2 es.toList
      | _ => false)
    | _ => false)) &&
  (((D.clss.all fun p => ((He.Fa.glo p.1).ok K && (He.Fa.cls p.1).ok K) && ((He.Fa.mkr p.1).ok K && p.2.all fun f => (He.Fa.noat p.1 f).ok K)) && (D.meths.all fun q => (He.Fa.cls q.1).ok K && (He.Fa.meth q.1 q.2.1).ok K)) &&
  (((D.exns.all fun c => exnB K c && excB K (He.ga K c)) && (D.hnds.all fun d => (He.Fa.glo d).ok K && D.exns.all fun c => decide (PySem.W.exmOne K (.ref (He.ga K c)) (.ref (He.ga K d)) = some (D.txt.sub c d)))) &&
  (((D.tys.all fun q => (He.Fa.free q.1).ok K && tyB K D.txt.sub D.exns q.1 (.type q.2)) && (D.exns.all fun c => tyB K D.txt.sub D.exns c (.ref (He.ga K c)))) &&
  (D.L.all fun fi => fi.d.ok K && (match fi.d.at_ with
    | (x, none) => (He.Fa.glo x).ok K
    | _ => true))))))
abbrev AlX : Type := Bool × List He.FnW × List (Option (List (Option (Str × Int))))
def obsX (D : Txd) (K : PySem.W.Frag) : AlX := (D.allB K, D.L.map (fun fi => He.fnW K fi.d.at_), D.dicts.map fun p => He.dicW K (He.ga K p.1))
def valX (D : Txd) (w : World) : AlX := (true, D.L.map (fun fi => fi.d.val), D.dicts.map fun p => some (He.keysIn w.params (p.2.map (·.1))))
def SaysX (D : Txd) (w : World) (K : PySem.W.Frag) : Prop := obsX D K = valX D w
def obsXG (D : Txd) (g : Addr → Option Obj) : AlX := withAs g fun as => frP g as fun K => obsX D K
theorem obsXG_eq (D : Txd) (g : Addr → Option Obj) : obsXG D g = obsX D (He.frG g (asM g)) := by
  unfold obsXG
  rw [withAs_eq, frP_eq]
def hookX (D : Txd) : PySem.W.Hook where
  α := AlX
  obs := fun s => obsXG D s.heap.get?
  val := fun w => valX D w
  says := fun w h => ∃ K : PySem.W.Frag, K.In h ∧ SaysX D w K
  of := fun _ _ e => ⟨_, He.frG_in, (obsXG_eq _ _).symm.trans e⟩
  keeps := fun _ _ _ ⟨K, hK, c⟩ k => ⟨K, PySem.W.Frag.In.keeps hK k, c⟩
theorem obX_eq {D : Txd} {g : Addr → Option Obj} {s : Shared} (h : ∀ a, g a = s.heap.get? a) : obsXG D g = (hookX D).obs s := by
  have e : g = s.heap.get? := funext h
  rw [e] <;> rfl
end Ms
end
section
namespace Ms
open PySem PySem.Spec PyProof.Rows L2
def Txd.static (D : Txd) : Bool := (decide (D.L.map (·.key)).Nodup && (D.L.all fun fi => fi.ok D.tx)) && ((D.tys.all fun q => (match bootBuiltins q.1 with
  | some (.type n) => decide (n = q.2)
  | _ => false) && !(decide (q.1 = "__name__"))) && D.meths.all fun q => !(decide (q.2.1 = "__len__")))
section
variable {D : Txd} {w : World} {K : PySem.W.Frag} {h : Heap} {mg : Str → Option Value}
theorem keys_inj : ∀ {l : List Fi}, (l.map (·.key)).Nodup → ∀ fi ∈ l, ∀ fj ∈ l, fi.key = fj.key → fi = fj
  | [], _, _, h, _, _, _ => by cases h
  | f :: r, nd, fi, hi, fj, hj, e => by
    rw [List.map_cons, List.nodup_cons] at nd
    rcases List.mem_cons.mp hi with hi | hi
    · rcases List.mem_cons.mp hj with hj | hj
      · rw [hi, hj]
      · exact absurd (List.mem_map.mpr ⟨fj, hj, by rw [← e, hi]⟩) nd.1
    · rcases List.mem_cons.mp hj with hj | hj
      · exact absurd (List.mem_map.mpr ⟨fi, hi, by rw [e, hj]⟩) nd.1
      · exact keys_inj nd.2 fi hi fj hj e
theorem lookF_mem {x : Str} {v : Mn.Val} : ∀ {l : List (Str × Mn.Val)}, Mn.lookF x l = some v → (x, v) ∈ l
  | [], e => by cases e
  | (y, u) :: r, e => by
    unfold Mn.lookF at e
    by_cases c : x = y
    · rw [if_pos c] at e
      cases e
      rw [c]
      exact List.mem_cons_self
    · rw [if_neg c] at e
      exact List.mem_cons_of_mem _ (lookF_mem e)
theorem lookG_mem {x : Str} {v : List (Str × Mn.Val)} : ∀ {l : List (Str × List (Str × Mn.Val))}, lookG x l = some v → (x, v) ∈ l
  | [], e => by cases e
  | (y, u) :: r, e => by
    unfold lookG at e
    by_cases c : x = y
    · rw [if_pos c] at e
      cases e
      rw [c]
      exact List.mem_cons_self
    · rw [if_neg c] at e
      exact List.mem_cons_of_mem _ (lookG_mem e)
theorem funD_uniq {x q : Str} {ps : Arguments} {b : List Stmt} {sc : Scope} {dv : List V} {kw : List (Str × V)} {f : Addr} {fd fd' : FuncData} (F : FunD K x q ps b sc dv kw f fd) (F' : FunD K x q ps b sc dv kw f fd') : fd' = fd := by
  obtain ⟨oc, od, dV, kV, doc, pm, an, cdv, ct, osl, _, l, _⟩ := F.ex
  obtain ⟨oc', od', dV', kV', doc', pm', an', cdv', ct', osl', _, l', _⟩ := F'.ex
  rw [l] at l'
  cases l'
  rfl
theorem kind0_is {fi : Fi} (h : kind0 fi = true) : ∃ args, fi.d.params = ⟨[], args, none, [], [], none, []⟩ ∧ args.map (·.arg) = fi.ps ∧ fi.d.dfl = [] ∧ fi.d.kwd = [] ∧ fi.ps.Nodup := by
  unfold kind0 at h
  split at h
  · rename_i args e
    obtain ⟨h1, h2⟩ := and_t h
    obtain ⟨h2, h3⟩ := and_t h2
    obtain ⟨h3, h4⟩ := and_t h3
    exact ⟨args, e, of_decide_eq_true h1, List.isEmpty_iff.mp h2, List.isEmpty_iff.mp h3, of_decide_eq_true h4⟩
  · cases h
theorem kind1_is {fi : Fi} {n : Nat} {x : Str} {i : Int} (h : kind1 fi = some (n, x, i)) : ∃ args kw kd, fi.d.params = ⟨[], args, none, [kw], kd, none, []⟩ ∧ args.map (·.arg) ++ [kw.arg] = fi.ps ∧ x = kw.arg ∧ n = args.length ∧ fi.d.dfl = [] ∧ fi.d.kwd = [(x, .int i)] ∧ fi.ps.Nodup := by
  unfold kind1 at h
  split at h
  · rename_i args kw kd n2 i2 e1 e2
    split at h
    · rename_i c
      cases h
      obtain ⟨c1, c2, c3, c4⟩ := c
      exact ⟨args, kw, kd, e1, c1, c2, rfl, List.isEmpty_iff.mp c3, e2, c4⟩
    · cases h
  · cases h
abbrev FD (K : PySem.W.Frag) (fi : Fi) (fd : FuncData) : Prop := FunD K fi.d.name fi.d.qual fi.d.params fi.d.body fi.d.scope (fi.d.dvs K) (fi.d.kws K) (He.fAd K fi.d.at_) fd
theorem binds_0 {fi : Fi} (h : kind0 fi = true) {fd : FuncData} (F : FD K fi fd) : Binds K fd fi.ps [] := by
  obtain ⟨args, e, ep, ed, ek, nd⟩ := kind0_is h
  have e1 : fi.d.dvs K = [] := by unfold He.DefD.dvs; rw [ed]; rfl
  have e2 : fi.d.kws K = [] := by unfold He.DefD.kws; rw [ek]; rfl
  unfold FD at F
  rw [e1, e2, e] at F
  refine FunD.bindsN F fun kV doc pm an cdv ct us hl => ?_
  rw [← ep] at hl nd ⊢
  exact bind_plain nd hl
theorem binds_1 {fi : Fi} {n : Nat} {x : Str} {i : Int} (h : kind1 fi = some (n, x, i)) {fd : FuncData} (F : FD K fi fd) : ∃ ds, Vals [V.int i] ds ∧ Binds K fd fi.ps ds := by
  obtain ⟨args, kw, kd, e, ep, ex, en, ed, ek, nd⟩ := kind1_is h
  have e1 : fi.d.dvs K = [] := by unfold He.DefD.dvs; rw [ed]; rfl
  have e2 : fi.d.kws K = [(x, V.int i)] := by unfold He.DefD.kws; rw [ek]; rfl
  unfold FD at F
  rw [e1, e2, e] at F
  have hn : args.length + [(x, V.int i)].length = fi.ps.length := by rw [← ep, List.length_append, List.length_map]; rfl
  refine FunD.binds0 F args.length (by simp) hn fun Dd doc pm an cdv ct us ks hu hk => ?_
  cases ks with
  | nil => cases hk
  | cons v kr =>
    cases kr with
    | cons _ _ => cases hk
    | nil =>
      rw [← ep] at nd ⊢
      obtain ⟨g, g1, g2⟩ := bind_kw1 (x := fi.d.name) (qual := fi.d.qual) (kd := kd) (ds := []) (body := fi.d.body) (scope := fi.d.scope) (doc := doc) (pm := pm) (cdv := cdv) (ct := ct) (an := an) (D := Dd) (v := v) nd (us := us) (by rw [hu, List.length_map])
      refine ⟨_, _, g, pure, pure, _, ?_, g2, ?_⟩
      · rw [g1, ex]
        simp
      · show pure _ >>= pure = pure _
        rw [pure_bind]
theorem binds_k {fi : Fi} {n : Nat} {x : Str} {i : Int} (h : kind1 fi = some (n, x, i)) {fd : FuncData} (F : FD K fi fd) : n + 1 = fi.ps.length ∧ ∀ (s : Shared) (us ws : List Value), K.In s.heap → us.length = n → ws.length = 1 → BindsTo s fd ⟨us, [x].zip ws⟩ (fi.ps.zip (us ++ ws)) := by
  obtain ⟨args, kw, kd, e, ep, ex, en, ed, ek, nd⟩ := kind1_is h
  have e1 : fi.d.dvs K = [] := by unfold He.DefD.dvs; rw [ed]; rfl
  refine ⟨by rw [← ep, List.length_append, List.length_map, en]; rfl, fun s us ws X hu hw => ?_⟩
  unfold FD at F
  rw [e1, e] at F
  obtain ⟨oc, od, dV, kV, doc, pm, an, cdv, ct, osl, efd, l, _, dv, _⟩ := F.ex
  have hd : dV = .none := by
    rcases dv with ⟨_, z⟩ | ⟨z, _⟩
    · exact z
    · exact absurd rfl z
  subst hd efd
  cases ws with
  | nil => cases hw
  | cons v wr =>
    cases wr with
    | cons _ _ => cases hw
    | nil =>
      rw [← ep] at nd ⊢
      rw [ex]
      have q := bind_kwc (x := fi.d.name) (qual := fi.d.qual) (kd := kd) (ds := []) (body := fi.d.body) (scope := fi.d.scope) (kV := kV) (doc := doc) (pm := pm) (cdv := cdv) (ct := ct) (an := an) (v := v) nd (us := us) (by rw [hu, en, List.length_map])
      refine BindsTo.of_looks fun M => ?_
      show PySem.W.Looks M s.heap (bindArgs _ ⟨us, [(kw.arg, v)]⟩) _
      rw [q]
      exact PySem.W.Looks.of_pure rfl
theorem rds_nil {C : Ct} : RDs C [] [] := fun _ _ => rfl
theorem rds_int {C : Ct} (i : Int) : RDs C [.int i] [V.int i] := fun _ _ => ⟨_, _, rfl, rfl, rfl⟩
theorem kindR_is {fi : Fi} {i : Int} (h : kindR fi = some i) : ∃ a b c d e, fi.d.params = ⟨[], [a, b, c, d], none, [], [], none, [e]⟩ ∧ fi.ps = (["self", "node", "slot", "more"] : List Str) ∧ a.arg = "self" ∧ b.arg = "node" ∧ c.arg = "slot" ∧ d.arg = "more" ∧ fi.d.dfl = [.int i] ∧ fi.d.kwd = [] := by
  unfold kindR at h
  split at h
  · rename_i a b c d e i2 e1 e2
    split at h
    · rename_i q
      cases h
      obtain ⟨q1, q2, q3, q4, q5, q6⟩ := q
      exact ⟨a, b, c, d, e, e1, q1, q2, q3, q4, q5, e2, List.isEmpty_iff.mp q6⟩
    · cases h
  · cases h
theorem binds_r1 {fi : Fi} {i : Int} (h : kindR fi = some i) {fd : FuncData} (F : FD K fi fd) : ∃ ds, Vals [V.int i] ds ∧ Binds K fd fi.ps ds := by
  obtain ⟨a, b, c, d, e, ep, eps, ha, hb, hc, hd, ed, ek⟩ := kindR_is h
  have e1 : fi.d.dvs K = [V.int i] := by unfold He.DefD.dvs; rw [ed]; rfl
  unfold FD at F
  rw [e1, ep] at F
  rw [eps]
  refine FunD.binds1 F 3 0 (by simp) rfl fun T kV doc pm an cdv ct us its hu hi => ?_
  match us, its, hu, hi with
  | [u1, u2, u3], [v], _, _ => exact bind_r1 ha hb hc hd
theorem binds_r0 {fi : Fi} {i : Int} (h : kindR fi = some i) {fd : FuncData} (F : FD K fi fd) : Binds K fd fi.ps [] := by
  obtain ⟨a, b, c, d, e, ep, eps, ha, hb, hc, hd, ed, ek⟩ := kindR_is h
  have e1 : fi.d.dvs K = [V.int i] := by unfold He.DefD.dvs; rw [ed]; rfl
  unfold FD at F
  rw [e1, ep] at F
  rw [eps]
  obtain ⟨ds, v, bb⟩ := FunD.binds1 (ps := (["self", "node", "slot", "more"] : List Str)) F 4 1 (by simp) rfl fun T kV doc pm an cdv ct us its hu hi => by
    match us, its, hu, hi with
    | [u1, u2, u3, u4], [v], _, _ => exact bind_r0 ha hb hc hd
  have v' : Vals [] ds := v
  cases v'
  exact bb
theorem tail_binds {fi : Fi} {ys : List Mn.Val} (h : tailOk fi ys = true) {C : Ct} {fd : FuncData} (F : FD K fi fd) : ∃ dvs ds, RDs C ys dvs ∧ Vals dvs ds ∧ ∀ fd', FD K fi fd' → Binds K fd' fi.ps ds := by
  rcases Bool.or_eq_true_iff.mp h with h | h
  · obtain ⟨h1, h2⟩ := and_t h
    rw [List.isEmpty_iff.mp h2]
    exact ⟨[], [], rds_nil, .nil, fun fd' F' => binds_0 h1 F'⟩
  · rcases Bool.or_eq_true_iff.mp h with h | h
    rotate_left
    · split at h
      · rename_i i e
        rcases Bool.or_eq_true_iff.mp h with h | h
        · rw [List.isEmpty_iff.mp h]
          exact ⟨[], [], rds_nil, .nil, fun fd' F' => binds_r0 e F'⟩
        · obtain ⟨ds, v, b⟩ := binds_r1 e F
          have ey : ys = [.int i] := by
            unfold isI1 at h
            split at h
            · rw [of_decide_eq_true h]
            · cases h
          rw [ey]
          exact ⟨_, ds, rds_int i, v, fun fd' F' => by rw [funD_uniq F F']; exact b⟩
      · cases h
    split at h
    · rename_i n x i e
      obtain ⟨ds, v, b⟩ := binds_1 e F
      have ey : ys = [.int i] := by
        unfold isI1 at h
        split at h
        · rw [of_decide_eq_true h]
        · cases h
      rw [ey]
      exact ⟨_, ds, rds_int i, v, fun fd' F' => by rw [funD_uniq F F']; exact b⟩
    · cases h
theorem all_mem {α : Type} {l : List α} {p : α → Bool} (h : l.all p = true) {a : α} (m : a ∈ l) : p a = true := List.all_eq_true.mp h a m
theorem txB_of {P : Program} (X : K.In h) (Gn : h.Ns mainGlobals mg) (c : SaysX D w K) (st : D.static = true) : TxB P w K mg (ctOf D K) D.txt D.tx D.L := by
  have ca : D.allB K = true := congrArg (fun z : AlX => z.1) c
  have cf : D.L.map (fun fi => He.fnW K fi.d.at_) = D.L.map fun fi => fi.d.val := congrArg (fun z : AlX => z.2.1) c
  have cd : D.dicts.map (fun p => He.dicW K (He.ga K p.1)) = D.dicts.map fun p => some (He.keysIn w.params (p.2.map (·.1))) := congrArg (fun z : AlX => z.2.2) c
  obtain ⟨a1, a2⟩ := and_t ca
  obtain ⟨a1, a3⟩ := and_t a1
  obtain ⟨a4, a5⟩ := and_t a2
  obtain ⟨a6, a7⟩ := and_t a4
  obtain ⟨a8, a9⟩ := and_t a5
  obtain ⟨b1, b2⟩ := and_t a8
  obtain ⟨b3, b4⟩ := and_t a9
  obtain ⟨b5, b6⟩ := and_t b3
  obtain ⟨b7, b8⟩ := and_t b4
  obtain ⟨b9, c1⟩ := and_t b7
  obtain ⟨s1, s2⟩ := and_t st
  obtain ⟨s3, s4⟩ := and_t s1
  obtain ⟨s5, s6⟩ := and_t s2
  have defs : ∀ fi ∈ D.L, ∃ fd, FD K fi fd := fun fi hm => by
    have e : He.fnW K fi.d.at_ = fi.d.val := by
      have : ∀ l : List Fi, l.map (fun fi => He.fnW K fi.d.at_) = l.map (fun fi => fi.d.val) → ∀ fi ∈ l, He.fnW K fi.d.at_ = fi.d.val := by
        intro l
        induction l with
        | nil => intro _ fi h; cases h
        | cons f r ih =>
          intro e fi hm
          rw [List.map_cons, List.map_cons] at e
          injection e with e1 e2
          rcases List.mem_cons.mp hm with z | z
          · rw [z]; exact e1
          · exact ih e2 fi z
      exact this _ cf fi hm
    exact He.DefD.funD e (and_t (all_mem b8 hm)).1
  have globF : ∀ fi ∈ D.L, ∀ x, fi.d.at_ = (x, none) → mg x = some (.ref (He.fAd K fi.d.at_)) := fun fi hm x e => by
    have := (and_t (all_mem b8 hm)).2
    rw [e] at this ⊢
    exact He.glo_ok X Gn this
  have exF : ∀ c ∈ D.exns, exnB K c = true ∧ excB K (He.ga K c) = true := fun c hc => and_t (all_mem b5 hc)
  have exS : ∀ c ∈ D.exns, PySem.W.subIn K (.ref (He.ga K c)) (.type "BaseException") = some true := fun c hc => of_decide_eq_true (and_t (and_t (and_t (exF c hc).1).2).2).1
  have ty1 : ∀ (s : Str) (u : Value) (v : V), ClsV v u → tyB K D.txt.sub D.exns s u = true → ∀ G : Mn.Env, G.sub = D.txt.sub → TyF (ctOf D K) G s v u := fun s u v cv hb G hs => by
    obtain ⟨h1, h2⟩ := and_t hb
    refine ⟨cv, fun n hn b e => ?_, fun c hc => ?_⟩
    · have := all_mem h1 hn
      rw [e] at this
      exact of_decide_eq_true this
    · have hc' : c ∈ D.exns := of_decide_eq_true hc
      rw [hs]
      exact ⟨excB_ok (exF c hc').2 (exS c hc'), of_decide_eq_true (all_mem h2 hc')⟩
  refine ⟨rfl, fun f fd e => ?_, keys_inj (of_decide_eq_true s3), fun fi hm => all_mem s4 hm, defs, fun x hx => ?_, fun x hx => ?_, fun d hd => ?_, fun f ys hf => ?_, fun f n ks hf => ?_, fun m ys hf => ?_, fun m n ks hf cc f e => ?_, fun cc ys hf => ?_, fun s hs => ?_, fun f _ cc e => ?_, fun cc => ?_, fun cc hc => ?_, fun d hd => ?_, fun cc hc => hc⟩
  · obtain ⟨fi, e1, e2⟩ := Option.map_eq_some_iff.mp e
    obtain ⟨k1, k2⟩ := lookFi_is e1
    exact ⟨fi, k1, k2, e2⟩
  · have hx' : D.blts.contains x = true := hx
    exact He.free_ok X Gn (all_mem a3 (by simpa using hx'))
  · obtain ⟨v, e⟩ := Option.isSome_iff_exists.mp hx
    have hm := all_mem a6 (lookF_mem e)
    dsimp only at hm
    split at hm
    · rename_i u eu
      obtain ⟨y, r, k⟩ := cvB_ok (C := ctOf D K) rfl hm
      exact ⟨v, y, u, e, PySem.W.mg_of X Gn eu, r, k⟩
    · cases hm
  · obtain ⟨kvs, e⟩ := Option.isSome_iff_exists.mp hd
    have mem := lookG_mem e
    have hm := all_mem a7 mem
    dsimp only at hm
    split at hm
    · rename_i a ea
      have ga : He.ga K d = a := by unfold He.ga; rw [ea]
      refine ⟨a, PySem.W.mg_of X Gn ea, fun G hG => ?_⟩
      have ed : He.dicW K (He.ga K d) = some (He.keysIn w.params (kvs.map (·.1))) := by
        have : ∀ l : List (Str × List (Str × Mn.Val)), l.map (fun p => He.dicW K (He.ga K p.1)) = l.map (fun p => some (He.keysIn w.params (p.2.map (·.1)))) → (d, kvs) ∈ l → He.dicW K (He.ga K d) = some (He.keysIn w.params (kvs.map (·.1))) := by
          intro l
          induction l with
          | nil => intro _ h; cases h
          | cons f r ih =>
            intro e hm
            rw [List.map_cons, List.map_cons] at e
            injection e with e1 e2
            rcases List.mem_cons.mp hm with z | z
            · rw [← z] at e1; exact e1
            · exact ih e2 z
        exact this _ cd mem
      obtain ⟨es, n, KD⟩ := He.dicW_ok ed
      rw [ga] at KD
      rw [KD.at_] at hm
      exact ⟨es, n, kvs, KD, by rw [hG]; exact e, entsB_ok rfl hm⟩
    · cases hm
  · have hf' : (match lookFi f D.L with
      | some fi => decide (fi.d.at_ = (f, none)) && tailOk fi ys
      | none => false) = true := hf
    cases e : lookFi f D.L with
    | none => rw [e] at hf'; cases hf'
    | some fi =>
      rw [e] at hf'
      obtain ⟨h1, h2⟩ := and_t hf'
      obtain ⟨k1, k2⟩ := lookFi_is e
      have ea := of_decide_eq_true h1
      obtain ⟨fd, F⟩ := defs fi k1
      obtain ⟨dvs, ds, r, v, b⟩ := tail_binds (C := ctOf D K) h2 F
      exact ⟨fi, k1, k2, globF fi k1 f ea, dvs, ds, r, v, b⟩
  · have hf' : (match lookFi f D.L with
      | some fi => decide (fi.d.at_ = (f, none)) && kwOk fi n ks
      | none => false) = true := hf
    cases e : lookFi f D.L with
    | none => rw [e] at hf'; cases hf'
    | some fi =>
      rw [e] at hf'
      obtain ⟨h1, h2⟩ := and_t hf'
      obtain ⟨k1, k2⟩ := lookFi_is e
      have ea := of_decide_eq_true h1
      unfold kwOk at h2
      split at h2
      · rename_i m x i ek
        obtain ⟨e1, e2⟩ := of_decide_eq_true h2
        subst e1 e2
        obtain ⟨fd, F⟩ := defs fi k1
        exact ⟨fi, k1, k2, globF fi k1 f ea, (binds_k ek F).1, fun fd' F' s us ws Xs hu hw => (binds_k ek F').2 s us ws Xs hu hw⟩
      · cases h2
  · rcases Bool.or_eq_true_iff.mp hf with hf | hf
    · obtain ⟨hy, hf⟩ := and_t hf
      rw [List.isEmpty_iff.mp hy]
      refine ⟨[], [], rds_nil, .nil, fun cc f e => ?_⟩
      have mem := lookM_is e
      have q1 := all_mem b2 mem
      obtain ⟨q1, q2⟩ := and_t q1
      refine ⟨He.cls_ok q1, ?_⟩
      have q3 : ((D.meths.all fun q => !(decide (q.2.1 = m)) || (match lookFi q.2.2 D.L with
        | some fi => decide (fi.d.at_ = (q.1, some m)) && kind0 fi
        | none => false))) = true := hf
      have q4 := all_mem q3 mem
      dsimp only at q4
      rw [decide_eq_true rfl] at q4
      have q4 : (match lookFi f D.L with
        | some fi => decide (fi.d.at_ = (cc, some m)) && kind0 fi
        | none => false) = true := q4
      cases ef : lookFi f D.L with
      | none => rw [ef] at q4; cases q4
      | some fi =>
        rw [ef] at q4
        obtain ⟨h1, h2⟩ := and_t q4
        obtain ⟨k1, k2⟩ := lookFi_is ef
        have ea := of_decide_eq_true h1
        refine ⟨fi, k1, k2, ?_, fun fd F => binds_0 h2 F⟩
        rw [ea]
        exact He.meth_ok q2
    · have q3 : (match D.meths.filter fun q => decide (q.2.1 = m) with
        | [q] => (match lookFi q.2.2 D.L with
          | some fi => decide (fi.d.at_ = (q.1, some m)) && tailOk fi ys
          | none => false)
        | _ => false) = true := hf
      split at q3
      · rename_i q eq
        cases ef : lookFi q.2.2 D.L with
        | none => rw [ef] at q3; cases q3
        | some fi =>
          rw [ef] at q3
          obtain ⟨h1, h2⟩ := and_t q3
          obtain ⟨k1, k2⟩ := lookFi_is ef
          have ea := of_decide_eq_true h1
          obtain ⟨fd, F⟩ := defs fi k1
          obtain ⟨dvs, ds, r, v, b⟩ := tail_binds (C := ctOf D K) h2 F
          refine ⟨dvs, ds, r, v, fun cc f e => ?_⟩
          have mem := lookM_is e
          have q1 := all_mem b2 mem
          obtain ⟨q1, q2⟩ := and_t q1
          have hq : (cc, m, f) ∈ D.meths.filter fun q => decide (q.2.1 = m) := List.mem_filter.mpr ⟨mem, by simp⟩
          rw [eq] at hq
          have hq := List.mem_singleton.mp hq
          subst hq
          refine ⟨He.cls_ok q1, fi, k1, k2, ?_, b⟩
          rw [ea]
          exact He.meth_ok q2
      · cases q3
  · have mem := lookM_is e
    have q1 := all_mem b2 mem
    obtain ⟨q1, q2⟩ := and_t q1
    refine ⟨He.cls_ok q1, ?_⟩
    have q3 : ((D.meths.all fun q => !(decide (q.2.1 = m)) || (match lookFi q.2.2 D.L with
      | some fi => decide (fi.d.at_ = (q.1, some m)) && kwOk fi (n + 1) ks
      | none => false))) = true := hf
    have q4 := all_mem q3 mem
    dsimp only at q4
    rw [decide_eq_true rfl] at q4
    have q4 : (match lookFi f D.L with
      | some fi => decide (fi.d.at_ = (cc, some m)) && kwOk fi (n + 1) ks
      | none => false) = true := q4
    cases ef : lookFi f D.L with
    | none => rw [ef] at q4; cases q4
    | some fi =>
      rw [ef] at q4
      obtain ⟨h1, h2⟩ := and_t q4
      obtain ⟨k1, k2⟩ := lookFi_is ef
      have ea := of_decide_eq_true h1
      unfold kwOk at h2
      split at h2
      · rename_i m' x i ek
        obtain ⟨e1, e2⟩ := of_decide_eq_true h2
        subst e1 e2
        obtain ⟨fd, F⟩ := defs fi k1
        refine ⟨fi, k1, k2, ?_, (binds_k ek F).1, fun fd' F' s us ws Xs hu hw => (binds_k ek F').2 s us ws Xs hu hw⟩
        rw [ea]
        exact He.meth_ok q2
      · cases h2
  · obtain ⟨h1, h2⟩ := and_t hf
    obtain ⟨h2, h3⟩ := and_t h2
    rw [List.isEmpty_iff.mp h1]
    obtain ⟨p, hp, ep⟩ := List.any_eq_true.mp h2
    have ep := of_decide_eq_true ep
    cases em : lookM cc "__init__" D.meths with
    | none => rw [em] at h3; cases h3
    | some f =>
      rw [em] at h3
      dsimp only at h3
      cases ef : lookFi f D.L with
      | none => rw [ef] at h3; cases h3
      | some fi =>
        rw [ef] at h3
        obtain ⟨h4, h5⟩ := and_t h3
        obtain ⟨k1, k2⟩ := lookFi_is ef
        have ea := of_decide_eq_true h4
        obtain ⟨q1, q2⟩ := and_t (all_mem b1 hp)
        obtain ⟨q3, q4⟩ := and_t q1
        obtain ⟨q5, q6⟩ := and_t q2
        rw [ep] at q3 q5
        obtain ⟨fd, F⟩ := defs fi k1
        refine ⟨f, em, em, He.glo_ok X Gn q3, fi, k1, k2, ?_, F.kp, [], [], rds_nil, .nil, fun fd F => binds_0 h5 F⟩
        rw [ea]
        exact He.mkr_ok q5
  · rcases Bool.or_eq_true_iff.mp hs with hs | hs
    · obtain ⟨q, hq, eq⟩ := List.any_eq_true.mp hs
      have eq := of_decide_eq_true eq
      obtain ⟨q1, q2⟩ := and_t (all_mem b9 hq)
      obtain ⟨q3, q4⟩ := and_t (all_mem s5 hq)
      rw [eq] at q1 q2 q3 q4
      split at q3
      · rename_i n en
        have e2 := of_decide_eq_true q3
        subst e2
        exact ⟨.ty q.2, .type q.2, .inr ⟨He.free_ok X Gn q1, en, by simpa using q4⟩, rfl, ty1 s _ _ (.ty _) q2⟩
      · cases q3
    · have hc := of_decide_eq_true hs
      have q := all_mem c1 hc
      exact ⟨.ref (He.ga K s), .ref (He.ga K s), .inl (He.glo_ok X Gn (and_t (exF s hc).1).1), rfl, ty1 s _ _ (.own _) q⟩
  · have e' : (match lookA cc D.clss with
      | some l => decide (f ∈ l)
      | none => false) = true := e
    cases el : lookA cc D.clss with
    | none => rw [el] at e'; cases e'
    | some l =>
      rw [el] at e'
      have hf := of_decide_eq_true e'
      obtain ⟨q1, q2⟩ := and_t (all_mem b1 (lookA_is el))
      exact ⟨He.cls_ok (and_t q1).2, He.noat_ok (all_mem (and_t q2).2 hf)⟩
  · cases e : D.txt.meth cc "__len__" with
    | none => rfl
    | some f =>
      have := all_mem s6 (lookM_is e)
      dsimp only at this
      rw [decide_eq_true rfl] at this
      cases this
  · have hc := of_decide_eq_true hc
    obtain ⟨q1, q2⟩ := and_t (exF cc hc).1
    obtain ⟨q3, q4⟩ := and_t q2
    obtain ⟨q5, q6⟩ := and_t q4
    obtain ⟨q7, q8⟩ := and_t q6
    exact ⟨He.glo_ok X Gn q1, q3, of_decide_eq_true q5, of_decide_eq_true q7, ieBase, "IndexError", "IndexError.__new__", "IndexError.__init__", F.excBase_IndexError, q8⟩
  · have hd := of_decide_eq_true hd
    obtain ⟨q1, q2⟩ := and_t (all_mem b6 hd)
    exact ⟨.ref (He.ga K d), .inl (He.glo_ok X Gn q1), fun c hc => of_decide_eq_true (all_mem q2 (of_decide_eq_true hc))⟩
end
end Ms
end
section
namespace Ms
open PySem PySem.Spec PyProof.Rows L2
theorem mem_of_look {a : Addr} {o : Obj} : ∀ {l : List (Addr × Obj)}, l.lookup a = some o → (a, o) ∈ l
  | [], e => by cases e
  | (b, u) :: r, e => by
    rw [List.lookup_cons] at e
    by_cases c : a = b
    · subst c
      simp only [beq_self_eq_true] at e
      cases e
      exact List.mem_cons_self
    · rw [beq_eq_false_iff_ne.mpr c] at e
      exact List.mem_cons_of_mem _ (mem_of_look e)
theorem law_sp {D : Txd} {K : PySem.W.Frag} {N : Nat} {a : Addr} {ns : List Int} {H : Hp} {h' : Mn.Hp} (nl : (K.all fun p => !isLst p.2) = true) (run : Mn.call D.txt N "law" [.v (.ref 0)] [.frz (ns.map .int)] = .ok (.v (.bl true)) h') (hO : Only H) (hS : SqL K H a (ns.map V.int)) :
    spOf (ctOf D K) (Mn.call D.txt N "law") [.ref a] H (fun v _ => v = .bl true) fun _ _ _ => False := by
  have hf : ∃ o, H a = some (.frz o (.lst (ns.map V.int))) := by
    rcases hS with (e | e) | ⟨o, its, n, e, c, _⟩
    · rcases hO a with z | ⟨o, xs, z⟩
      · rw [e] at z; cases z
      · rw [e] at z; cases z
    · exact e
    · have := List.all_eq_true.mp nl _ (mem_of_look e)
      unfold isLst at this
      dsimp only at this
      rw [c] at this
      cases this
  obtain ⟨o, hf⟩ := hf
  refine ⟨[a], [.v (.ref 0)], [.frz (ns.map .int)], ⟨by simp, rfl, fun i ob e => ?_, rfl, fun i b e => ?_, fun i j b c x e1 o1 => ?_⟩, ?_⟩
  · cases i with
    | zero =>
      cases e
      exact ⟨a, rfl, o, ns.map V.int, hf, RVs.ofInts ns⟩
    | succ i => cases e
  · cases i with
    | zero =>
      cases e
      exact ⟨.ref a, rfl, a, rfl, rfl⟩
    | succ i => cases e
  · cases i with
    | zero =>
      cases e1
      exact o1.elim
    | succ i => cases e1
  · rw [run]
    exact fun μ' H' v _ _ r _ => r
theorem walk_x {l : PySem.W.OpenLaw} {n N : Nat} {q : Program} {loose : List Str} {XP : (Str → Option Value) → Heap → Prop} {d : DefRec} {D : Txd} {fl : Fi} {x : Str} (hn : l.most = some n) (hz : n ≤ sizeLine) (hdf : d.params.defaults = []) (hr : Room (lv N) callerA) (hname : d.name = "law") (st : D.static = true)
    (hfl : lookFi "law" D.L = some fl) (hat : fl.d.at_ = (("law" : Str), none)) (hk : kind0 fl = true) (hp : fl.ps = [x]) (run : ∀ ns : List Int, ns.length ≤ n → ∃ h', Mn.call D.txt N "law" [.v (.ref 0)] [.frz (ns.map .int)] = .ok (.v (.bl true)) h') :
    PySem.W.WalkO q loose XP (hookX D).says l.row.toRowW d [] (fun f vs => PySem.call f vs) := by
  refine Att.attach_call hn hdf fun w s₀ s₁ mg mb fa o pm cd doc a vs ns G Y ho hd hcd hmg hobj hints hlen hg => ?_
  obtain ⟨K, X, c⟩ := Y
  have B := txB_of (P := l.prog) X G.T.g c st
  obtain ⟨m1, m2⟩ := lookFi_is hfl
  have nl := (and_t (and_t (show D.allB K = true from congrArg (fun z : AlX => z.1) c)).1).1
  have hfa : fa = He.fAd K fl.d.at_ := by
    have h1 := (and_t (all_mem (and_t (and_t (and_t (and_t (and_t (show D.allB K = true from congrArg (fun z : AlX => z.1) c)).2).2).2).2).2 m1)).2
    rw [hat] at h1 ⊢
    have h2 := He.glo_ok X G.T.g h1
    rw [← hname, hmg] at h2
    exact (Value.ref.inj (Option.some.inj h2)).trans (by rw [hname]; rfl)
  have F0 := fns_all (base := s₁.heap) B N fl m1
  obtain ⟨fd, FD0, _⟩ := F0
  obtain ⟨args, e, ep, ed, ek, nd⟩ := kind0_is hk
  have bind : ∀ (s : Shared) (u : Value), BindsTo s fd ⟨[u], []⟩ [(x, u)] := fun s u => by
    have e1 : fl.d.dvs K = [] := by unfold He.DefD.dvs; rw [ed]; rfl
    have F1 := FD0
    rw [e1, e] at F1
    have b := FunD.bindsA (ps := fl.ps) F1 (fun kV doc pm an cdv ct us hl => by
      rw [← ep] at hl nd ⊢
      exact bind_plain nd hl) s [u] (by rw [hp]; rfl)
    rw [hp] at b
    exact b
  have hrun := run ns hlen
  obtain ⟨h', er⟩ := hrun
  refine law_call (CX := L2.CX l.prog w) X G.T.g G.T.b G.T.builtins G.T.nolimit hg hobj hints (Nat.le_trans hlen hz) hr (fd := fd) (x := x) (sp := spOf (ctOf D K) (Mn.call D.txt N "law")) (fun base _ _ => ?_) bind (fun H hO hS => law_sp nl er hO hS) fun H e s' z => ?_
  · obtain ⟨fd', FD', ok⟩ := fns_all (base := base) B N fl m1
    rw [funD_uniq FD0 FD'] at ok
    rw [hfa, ← hp, ← m2]
    exact ok
  · obtain ⟨_, _, _, _, _, _, _, _, _, _, _, _, z⟩ := z
    exact z
end Ms
end
section
namespace Mn
open PySem
def f__wall : Fn := ⟨1, 1, [
  .whl (.cst (.bl true)) [.pas]]⟩
def f_is_number : Fn := ⟨3, 3, [
  .rt (.and (.isi (.slot 0) "int") (.and (.not (.isi (.slot 0) "bool")) (.cmp2 .LtE .LtE (.slot 1) (.slot 0) (.slot 2))))]⟩
def f_is_items : Fn := ⟨1, 2, [
  .ite (.or (.not (.isi (.slot 0) "tuple")) (.cmp .Gt (.f1 .len (.slot 0)) (.glo "MOST_ITEMS"))) [.rt (.cst (.bl false))] [],
  .rt (.f1 .all (.comp (.call "is_number" [(.slot 1), (.neg (.glo "GREAT")), (.glo "GREAT")]) (.one 1) (.slot 0) none [1]))]⟩
def f_is_word : Fn := ⟨1, 2, [
  .rt (.and (.isi (.slot 0) "str") (.and (.cmp2 .LtE .LtE (.cst (.int 1)) (.f1 .len (.slot 0)) (.cst (.int 4))) (.f1 .all (.comp (.cmp .In (.slot 1) (.glo "LETTERS")) (.one 1) (.slot 0) none [1]))))]⟩
def f_is_part : Fn := ⟨3, 3, [
  .ite (.gin "WORDS" (.slot 1) true) [.rt (.and (.isi (.slot 0) "str") (.cmp .In (.slot 0) (.gix "WORDS" (.slot 1))))] [],
  .ite (.cmp .Eq (.slot 1) (.cst (.str "l"))) [.rt (.call "is_items" [(.slot 0)])] [],
  .ite (.cmp .Eq (.slot 1) (.cst (.str "w"))) [.rt (.call "is_word" [(.slot 0)])] [],
  .ite (.cmp .Eq (.slot 1) (.cst (.str "k"))) [.rt (.call "is_number" [(.slot 0), (.cst (.int 0)), (.bin .Sub (.slot 2) (.cst (.int 1)))])] [],
  .rt (.ife (.cmp .Eq (.slot 1) (.cst (.str "n"))) (.call "is_number" [(.slot 0), (.cst (.int 1)), (.cst (.int 9))]) (.call "is_number" [(.slot 0), (.neg (.glo "GREAT")), (.glo "GREAT")]))]⟩
def f_is_node : Fn := ⟨2, 5, [
  .ite (.or (.not (.isi (.slot 0) "tuple")) (.or (.cmp .Eq (.slot 0) (.tup [])) (.or (.not (.isi (.idx (.slot 0) (.cst (.int 0))) "str")) (.gin "KINDS" (.idx (.slot 0) (.cst (.int 0))) false)))) [.rt (.cst (.bl false))] [],
  .asg (.nam 2) (.gix "KINDS" (.idx (.slot 0) (.cst (.int 0)))),
  .ite (.or (.cmp .NotEq (.f1 .len (.slot 0)) (.bin .Add (.f1 .len (.slot 2)) (.cst (.int 1)))) (.not (.f1 .all (.comp (.call "is_part" [(.slot 3), (.slot 4), (.slot 1)]) (.many [3, 4]) (.zip (.sli (.slot 0) (some (.cst (.int 1))) none) (.slot 2)) none [3, 4])))) [.rt (.cst (.bl false))] [],
  .rt (.ife (.and (.cmp .Gt (.f1 .len (.slot 0)) (.cst (.int 2))) (.cmp .In (.idx (.slot 0) (.cst (.int 1))) (.tup [(.cst (.str "rest")), (.cst (.str "parts"))]))) (.cmp .GtE (.idx (.slot 0) (.cst (.int 2))) (.cst (.int 1))) (.cst (.bl true)))]⟩
def f_is_plan : Fn := ⟨1, 2, [
  .ite (.or (.not (.isi (.slot 0) "tuple")) (.not (.cmp2 .LtE .LtE (.cst (.int 1)) (.f1 .len (.slot 0)) (.glo "MOST_NODES")))) [.rt (.cst (.bl false))] [],
  .rt (.f1 .all (.comp (.call "is_node" [(.slot 1), (.f1 .len (.slot 0))]) (.one 1) (.slot 0) none [1]))]⟩
def f_look_plan : Fn := ⟨1, 1, [
  .ite (.not (.call "is_plan" [(.slot 0)])) [.rai "BadPlan"] []]⟩
def f_look_node : Fn := ⟨2, 2, [
  .ite (.not (.call "is_number" [(.slot 1), (.cst (.int 0)), (.bin .Sub (.f1 .len (.slot 0)) (.cst (.int 1)))])) [.rai "NoNode"] []]⟩
def f_inputs_of : Fn := ⟨1, 3, [
  .rt (.comp (.slot 1) (.many [1, 2]) (.zip (.sli (.slot 0) (some (.cst (.int 1))) none) (.gix "KINDS" (.idx (.slot 0) (.cst (.int 0))))) (some (.cmp .Eq (.slot 2) (.cst (.str "k")))) [1, 2])]⟩
def f_sources_of : Fn := ⟨1, 3, [
  .rt (.comp (.slot 1) (.many [1, 2]) (.enu (.slot 0)) (some (.cmp .In (.idx (.slot 2) (.cst (.int 0))) (.glo "SOURCES"))) [1, 2])]⟩
def f_sources : Fn := ⟨1, 1, [
  .ex (.call "look_plan" [(.slot 0)]),
  .rt (.call "sources_of" [(.slot 0)])]⟩
def f_reads : Fn := ⟨2, 2, [
  .ex (.call "look_plan" [(.slot 0)]),
  .ex (.call "look_node" [(.slot 0), (.slot 1)]),
  .rt (.f1 .sset (.call "inputs_of" [(.idx (.slot 0) (.slot 1))]))]⟩
def f_part_text : Fn := ⟨1, 2, [
  .ite (.isi (.slot 0) "tuple") [.rt (.bin .Add (.bin .Add (.cst (.str "(")) (.join (.cst (.str ",")) (.comp (.f1 .str (.slot 1)) (.one 1) (.slot 0) none [1]))) (.cst (.str ")")))] [],
  .rt (.f1 .str (.slot 0))]⟩
def f_plan_text : Fn := ⟨1, 3, [
  .ex (.call "look_plan" [(.slot 0)]),
  .rt (.join (.cst (.str "")) (.comp (.bin .Add (.join (.cst (.str " ")) (.comp (.call "part_text" [(.slot 2)]) (.one 2) (.slot 1) none [2])) (.cst (.str "\n"))) (.one 1) (.slot 0) none [1]))]⟩
def f_Cell___init__ : Fn := ⟨1, 1, [
  .asg (.att (.slot 0) "row") (.lst []),
  .asg (.att (.slot 0) "is_over") (.cst (.bl false)),
  .asg (.att (.slot 0) "spots") (.dct []),
  .asg (.att (.slot 0) "turn") (.cst (.int 0)),
  .asg (.att (.slot 0) "number") (.cst (.int 0)),
  .asg (.att (.slot 0) "last") (.cst .non),
  .asg (.att (.slot 0) "aside") (.cst (.int 0)),
  .asg (.att (.slot 0) "ended") (.lst [])]⟩
def f_Cell_twin : Fn := ⟨1, 1, [
  .ex (.call "_wall" [(.cst (.int 0))])]⟩
def f_live_nodes : Fn := ⟨2, 5, [
  .asg (.nam 2) (.f1 .sset (.slot 1)),
  .asg (.nam 3) (.cst (.int 0)),
  .whl (.cmp .Lt (.slot 3) (.f1 .len (.slot 2))) [.ext (.slot 2) (.f1 .sset (.comp (.slot 4) (.one 4) (.call "inputs_of" [(.idx (.slot 0) (.idx (.slot 2) (.slot 3)))]) (some (.cmp .NotIn (.slot 4) (.slot 2))) [4])), .aug (.nam 3) .Add (.cst (.int 1))],
  .rt (.f1 .sorted (.slot 2))]⟩
def f_look_readers : Fn := ⟨2, 3, [
  .ite (.or (.not (.isi (.slot 1) "tuple")) (.not (.cmp2 .LtE .LtE (.cst (.int 1)) (.f1 .len (.slot 1)) (.glo "MOST_READERS")))) [.rai "BadReaders"] [],
  .ite (.not (.f1 .all (.comp (.call "is_number" [(.slot 2), (.cst (.int 0)), (.bin .Sub (.f1 .len (.slot 0)) (.cst (.int 1)))]) (.one 2) (.slot 1) none [2]))) [.rai "BadReaders"] []]⟩
def f_reckoned : Fn := ⟨1, 1, [
  .rt (.bin .Mod (.slot 0) (.glo "REST"))]⟩
def f_each_of : Fn := ⟨3, 3, [
  .ite (.cmp .Eq (.slot 0) (.cst (.str "add"))) [.rt (.call "reckoned" [(.bin .Add (.slot 2) (.slot 1))])] [],
  .rt (.ife (.cmp .Eq (.slot 0) (.cst (.str "mul"))) (.call "reckoned" [(.bin .Mult (.slot 2) (.slot 1))]) (.call "reckoned" [(.bin .Mod (.slot 2) (.slot 1))]))]⟩
def f_both_of : Fn := ⟨3, 3, [
  .ite (.cmp .Eq (.slot 0) (.cst (.str "add"))) [.rt (.call "reckoned" [(.bin .Add (.slot 1) (.slot 2))])] [],
  .ite (.cmp .Eq (.slot 0) (.cst (.str "sub"))) [.rt (.call "reckoned" [(.bin .Sub (.slot 1) (.slot 2))])] [],
  .ite (.cmp .Eq (.slot 0) (.cst (.str "mul"))) [.rt (.call "reckoned" [(.bin .Mult (.slot 1) (.slot 2))])] [],
  .rt (.call "reckoned" [(.ife (.cmp .Eq (.slot 0) (.cst (.str "least"))) (.min2 (.slot 1) (.slot 2)) (.max2 (.slot 1) (.slot 2)))])]⟩
def f_fold_of : Fn := ⟨2, 2, [
  .ite (.cmp .Eq (.slot 0) (.cst (.str "sum"))) [.rt (.call "reckoned" [(.f1 .sum (.slot 1))])] [],
  .rt (.call "reckoned" [(.ife (.cmp .Eq (.slot 0) (.cst (.str "least"))) (.f1 .min (.slot 1)) (.f1 .max (.slot 1)))])]⟩
def f_holds : Fn := ⟨3, 3, [
  .ite (.cmp .Eq (.slot 0) (.cst (.str "even"))) [.rt (.cmp .Eq (.bin .Mod (.slot 2) (.cst (.int 2))) (.cst (.int 0)))] [],
  .ite (.cmp .Eq (.slot 0) (.cst (.str "below"))) [.rt (.cmp .Lt (.slot 2) (.slot 1))] [],
  .rt (.ife (.cmp .Eq (.slot 0) (.cst (.str "same"))) (.cmp .Eq (.slot 2) (.slot 1)) (.cmp .Eq (.bin .Mod (.slot 2) (.slot 1)) (.cst (.int 0))))]⟩
def f_Web___init__ : Fn := ⟨3, 6, [
  .ex (.call "look_plan" [(.slot 1)]),
  .ex (.call "look_readers" [(.slot 1), (.slot 2)]),
  .asg (.att (.slot 0) "plan") (.slot 1),
  .asg (.att (.slot 0) "readers") (.slot 2),
  .asg (.att (.slot 0) "live") (.call "live_nodes" [(.slot 1), (.slot 2)]),
  .asg (.att (.slot 0) "cells") (.comp (.new "Cell" []) (.one 3) (.slot 1) none [3]),
  .for_ (.one 3) (.att (.slot 0) "live") [.nev],
  .asg (.att (.slot 0) "outer") (.comp (.cst (.int 0)) (.one 3) (.slot 2) none [3]),
  .nev,
  .asg (.att (.slot 0) "closed") (.dct []),
  .asg (.att (.slot 0) "stack") (.lst []),
  .asg (.att (.slot 0) "count") (.cst (.int 0)),
  .asg (.att (.slot 0) "limit") (.cst (.int 0)),
  .asg (.att (.slot 0) "greatest") (.cst (.int 0)),
  .asg (.att (.slot 0) "asks") (.lst [])]⟩
def f_Web___len__ : Fn := ⟨1, 1, [
  .rt (.f1 .len (.att (.slot 0) "asks"))]⟩
def f_Web_item_at : Fn := ⟨3, 5, [
  .asg (.nam 3) (.idx (.att (.slot 0) "cells") (.slot 1)),
  .whl (.cmp .GtE (.slot 2) (.f1 .len (.att (.slot 3) "row"))) [.ite (.att (.slot 3) "is_over") [.rt (.glo "END")] [], .asg (.nam 4) (.meth (.slot 0) "tell" [(.slot 1)]), .ite (.cmp .NotIn (.idx (.slot 4) (.cst (.int 0))) (.tup [(.cst (.str "item")), (.cst (.str "end"))])) [.rt (.slot 4)] []],
  .rt (.tup [(.cst (.str "item")), (.idx (.att (.slot 3) "row") (.slot 2))])]⟩
def f_Web_tell : Fn := ⟨2, 5, [
  .ite (.cmp .In (.slot 1) (.att (.slot 0) "stack")) [.asg (.nam 2) (.sli (.att (.slot 0) "stack") (some (.index (.att (.slot 0) "stack") (.slot 1))) none), .asg (.nam 3) (.index (.slot 2) (.f1 .min (.slot 2))), .rt (.tup [(.cst (.str "ring")), (.f1 .tuple (.bin .Add (.sli (.slot 2) (some (.slot 3)) none) (.sli (.slot 2) none (some (.slot 3)))))])] [],
  .app (.att (.slot 0) "stack") (.slot 1),
  .asg (.nam 4) (.meth (.slot 0) "next_of" [(.slot 1)]),
  .nev,
  .rt (.slot 4)]⟩
def f_Web_give : Fn := ⟨4, 7, [
  .ite (.cmp .Eq (.att (.slot 0) "count") (.att (.slot 0) "limit")) [.rt (.glo "FAR")] [],
  .aug (.att (.slot 0) "count") .Add (.cst (.int 1)),
  .asg (.nam 4) (.idx (.att (.slot 0) "cells") (.slot 1)),
  .app (.att (.slot 4) "row") (.slot 2),
  .for_ (.many [5, 6]) (.enu (.slot 3)) [.ite (.cmp .In (.slot 5) (.att (.slot 4) "spots")) [.aug (.sub (.att (.slot 4) "spots") (.slot 5)) .Add (.slot 6)] []],
  .rt (.tup [(.cst (.str "item")), (.slot 2)])]⟩
def f_Web_over : Fn := ⟨2, 2, [
  .ite (.cmp .Eq (.att (.slot 0) "count") (.att (.slot 0) "limit")) [.rt (.glo "FAR")] [],
  .aug (.att (.slot 0) "count") .Add (.cst (.int 1)),
  .asg (.att (.idx (.att (.slot 0) "cells") (.slot 1)) "is_over") (.cst (.bl true)),
  .rt (.glo "END")]⟩
def f_Web_read : Fn := ⟨4, 4, [
  .rt (.meth (.slot 0) "item_at" [(.idx (.call "inputs_of" [(.idx (.att (.slot 0) "plan") (.slot 1))]) (.slot 2)), (.bin .Add (.idx (.att (.idx (.att (.slot 0) "cells") (.slot 1)) "spots") (.slot 2)) (.slot 3))])]⟩
def f_Web_stop : Fn := ⟨3, 3, [
  .rt (.ife (.cmp .Eq (.slot 2) (.glo "END")) (.meth (.slot 0) "over" [(.slot 1)]) (.slot 2))]⟩
def f_Web_next_of : Fn := ⟨2, 3, [
  .asg (.nam 2) (.idx (.idx (.att (.slot 0) "plan") (.slot 1)) (.cst (.int 0))),
  .ite (.cmp .In (.slot 2) (.glo "SOURCES")) [.rt (.meth (.slot 0) "source" [(.slot 1)])] [],
  .ite (.cmp .In (.slot 2) (.tup [(.cst (.str "ahead")), (.cst (.str "each")), (.cst (.str "both")), (.cst (.str "first")), (.cst (.str "sums"))])) [.rt (.meth (.slot 0) "simple" [(.slot 1)])] [],
  .ite (.cmp .In (.slot 2) (.tup [(.cst (.str "keep")), (.cst (.str "from")), (.cst (.str "until")), (.cst (.str "skip"))])) [.rt (.meth (.slot 0) "sieve" [(.slot 1)])] [],
  .ite (.cmp .In (.slot 2) (.tup [(.cst (.str "change")), (.cst (.str "runs"))])) [.rt (.meth (.slot 0) "side" [(.slot 1)])] [],
  .ite (.cmp .In (.slot 2) (.tup [(.cst (.str "then")), (.cst (.str "turns")), (.cst (.str "merge"))])) [.rt (.meth (.slot 0) "joined" [(.slot 1)])] [],
  .ite (.cmp .Eq (.slot 2) (.cst (.str "window"))) [.rt (.meth (.slot 0) "window" [(.slot 1)])] [],
  .rt (.ife (.cmp .Eq (.slot 2) (.cst (.str "cross"))) (.meth (.slot 0) "cross" [(.slot 1)]) (.meth (.slot 0) "again" [(.slot 1)]))]⟩
def f_Web_source : Fn := ⟨2, 5, [
  .asg (.nam 2) (.idx (.att (.slot 0) "cells") (.slot 1)),
  .asg (.nam 3) (.idx (.att (.slot 0) "plan") (.slot 1)),
  .asg (.nam 4) (.f1 .len (.att (.slot 2) "row")),
  .ite (.cmp .Eq (.idx (.slot 3) (.cst (.int 0))) (.cst (.str "count"))) [.rt (.meth (.slot 0) "give" [(.slot 1), (.call "reckoned" [(.bin .Add (.idx (.slot 3) (.cst (.int 1))) (.bin .Mult (.slot 4) (.idx (.slot 3) (.cst (.int 2)))))]), (.tup [])])] [],
  .ite (.cmp .Eq (.idx (.slot 3) (.cst (.int 0))) (.cst (.str "list"))) [.rt (.ife (.cmp .Lt (.slot 4) (.f1 .len (.idx (.slot 3) (.cst (.int 1))))) (.meth (.slot 0) "give" [(.slot 1), (.idx (.idx (.slot 3) (.cst (.int 1))) (.slot 4)), (.tup [])]) (.meth (.slot 0) "over" [(.slot 1)]))] [],
  .ite (.cmp .Lt (.slot 4) (.f1 .len (.idx (.att (.slot 0) "feeds") (.idx (.slot 3) (.cst (.int 1)))))) [.rt (.meth (.slot 0) "give" [(.slot 1), (.idx (.idx (.att (.slot 0) "feeds") (.idx (.slot 3) (.cst (.int 1)))) (.slot 4)), (.tup [])])] [],
  .rt (.ife (.cmp .In (.idx (.slot 3) (.cst (.int 1))) (.att (.slot 0) "closed")) (.meth (.slot 0) "over" [(.slot 1)]) (.tup [(.cst (.str "wait")), (.slot 1)]))]⟩
def f_Web_simple : Fn := ⟨2, 7, [
  .asg (.nam 2) (.idx (.att (.slot 0) "plan") (.slot 1)),
  .asg (.nam 3) (.idx (.att (.slot 0) "cells") (.slot 1)),
  .ite (.and (.cmp .Eq (.idx (.slot 2) (.cst (.int 0))) (.cst (.str "ahead"))) (.cmp .Lt (.f1 .len (.att (.slot 3) "row")) (.f1 .len (.idx (.slot 2) (.cst (.int 1)))))) [.rt (.meth (.slot 0) "give" [(.slot 1), (.idx (.idx (.slot 2) (.cst (.int 1))) (.f1 .len (.att (.slot 3) "row"))), (.tup [])])] [],
  .ite (.and (.cmp .Eq (.idx (.slot 2) (.cst (.int 0))) (.cst (.str "first"))) (.cmp .Eq (.f1 .len (.att (.slot 3) "row")) (.idx (.slot 2) (.cst (.int 1))))) [.rt (.meth (.slot 0) "over" [(.slot 1)])] [],
  .asg (.nam 4) (.meth (.slot 0) "read" [(.slot 1), (.cst (.int 0)), (.cst (.int 0))]),
  .ite (.cmp .NotEq (.idx (.slot 4) (.cst (.int 0))) (.cst (.str "item"))) [.rt (.meth (.slot 0) "stop" [(.slot 1), (.slot 4)])] [],
  .asg (.nam 5) (.idx (.slot 4) (.cst (.int 1))),
  .ite (.cmp .Eq (.idx (.slot 2) (.cst (.int 0))) (.cst (.str "each"))) [.asg (.nam 5) (.call "each_of" [(.idx (.slot 2) (.cst (.int 1))), (.idx (.slot 2) (.cst (.int 2))), (.slot 5)])] [.ite (.cmp .Eq (.idx (.slot 2) (.cst (.int 0))) (.cst (.str "sums"))) [.asg (.nam 5) (.call "reckoned" [(.bin .Add (.ife (.cmp .NotEq (.att (.slot 3) "row") (.lst [])) (.idx (.att (.slot 3) "row") (.neg (.cst (.int 1)))) (.cst (.int 0))) (.slot 5))])] [.ite (.cmp .Eq (.idx (.slot 2) (.cst (.int 0))) (.cst (.str "both"))) [.asg (.nam 6) (.meth (.slot 0) "read" [(.slot 1), (.cst (.int 1)), (.cst (.int 0))]), .ite (.cmp .NotEq (.idx (.slot 6) (.cst (.int 0))) (.cst (.str "item"))) [.rt (.meth (.slot 0) "stop" [(.slot 1), (.slot 6)])] [], .asg (.nam 5) (.call "both_of" [(.idx (.slot 2) (.cst (.int 1))), (.slot 5), (.idx (.slot 6) (.cst (.int 1)))])] []]],
  .rt (.meth (.slot 0) "give" [(.slot 1), (.slot 5), (.tup [(.cst (.int 1)), (.cst (.int 1))])])]⟩
def f_Web_sieve : Fn := ⟨2, 6, [
  .asg (.nam 2) (.idx (.att (.slot 0) "plan") (.slot 1)),
  .asg (.nam 3) (.idx (.att (.slot 0) "cells") (.slot 1)),
  .whl (.cst (.bl true)) [.asg (.nam 4) (.meth (.slot 0) "read" [(.slot 1), (.cst (.int 0)), (.cst (.int 0))]), .ite (.cmp .NotEq (.idx (.slot 4) (.cst (.int 0))) (.cst (.str "item"))) [.rt (.meth (.slot 0) "stop" [(.slot 1), (.slot 4)])] [], .ite (.cmp .Eq (.idx (.slot 2) (.cst (.int 0))) (.cst (.str "skip"))) [.asg (.nam 5) (.cmp .Eq (.att (.slot 3) "aside") (.idx (.slot 2) (.cst (.int 1))))] [.ite (.cmp .Eq (.idx (.slot 2) (.cst (.int 0))) (.cst (.str "from"))) [.asg (.nam 5) (.or (.cmp .NotEq (.att (.slot 3) "row") (.lst [])) (.call "holds" [(.idx (.slot 2) (.cst (.int 1))), (.idx (.slot 2) (.cst (.int 2))), (.idx (.slot 4) (.cst (.int 1)))]))] [.asg (.nam 5) (.call "holds" [(.idx (.slot 2) (.cst (.int 1))), (.idx (.slot 2) (.cst (.int 2))), (.idx (.slot 4) (.cst (.int 1)))])]], .ite (.cmp .Eq (.idx (.slot 2) (.cst (.int 0))) (.cst (.str "until"))) [.rt (.ife (.slot 5) (.meth (.slot 0) "over" [(.slot 1)]) (.meth (.slot 0) "give" [(.slot 1), (.idx (.slot 4) (.cst (.int 1))), (.tup [(.cst (.int 1))])]))] [], .ite (.slot 5) [.rt (.meth (.slot 0) "give" [(.slot 1), (.idx (.slot 4) (.cst (.int 1))), (.tup [(.cst (.int 1))])])] [], .aug (.sub (.att (.slot 3) "spots") (.cst (.int 0))) .Add (.cst (.int 1)), .aug (.att (.slot 3) "aside") .Add (.cst (.int 1))]]⟩
def f_Web_side : Fn := ⟨2, 5, [
  .asg (.nam 2) (.idx (.att (.slot 0) "plan") (.slot 1)),
  .asg (.nam 3) (.idx (.att (.slot 0) "cells") (.slot 1)),
  .whl (.cst (.bl true)) [.asg (.nam 4) (.meth (.slot 0) "read" [(.slot 1), (.cst (.int 0)), (.cst (.int 0))]), .ite (.cmp .NotIn (.idx (.slot 4) (.cst (.int 0))) (.tup [(.cst (.str "item")), (.cst (.str "end"))])) [.rt (.slot 4)] [], .ite (.cmp .Eq (.idx (.slot 2) (.cst (.int 0))) (.cst (.str "change"))) [.ite (.cmp .Eq (.slot 4) (.glo "END")) [.rt (.meth (.slot 0) "over" [(.slot 1)])] [], .ite (.cmp .NotEq (.idx (.slot 4) (.cst (.int 1))) (.att (.slot 3) "last")) [.rt (.meth (.slot 0) "told_change" [(.slot 1), (.idx (.slot 4) (.cst (.int 1)))])] []] [.ite (.or (.cmp .Eq (.slot 4) (.glo "END")) (.and (.cmp .Gt (.att (.slot 3) "number") (.cst (.int 0))) (.cmp .NotEq (.idx (.slot 4) (.cst (.int 1))) (.att (.slot 3) "last")))) [.rt (.meth (.slot 0) "told_run" [(.slot 1)])] []], .aug (.sub (.att (.slot 3) "spots") (.cst (.int 0))) .Add (.cst (.int 1)), .aug (.att (.slot 3) "number") .Add (.cst (.int 1)), .asg (.att (.slot 3) "last") (.idx (.slot 4) (.cst (.int 1)))]]⟩
def f_Web_told_change : Fn := ⟨3, 4, [
  .asg (.nam 3) (.meth (.slot 0) "give" [(.slot 1), (.slot 2), (.tup [(.cst (.int 1))])]),
  .ite (.cmp .NotEq (.slot 3) (.glo "FAR")) [.asg (.att (.idx (.att (.slot 0) "cells") (.slot 1)) "last") (.slot 2)] [],
  .rt (.slot 3)]⟩
def f_Web_told_run : Fn := ⟨2, 4, [
  .asg (.nam 2) (.idx (.att (.slot 0) "cells") (.slot 1)),
  .ite (.cmp .Eq (.att (.slot 2) "number") (.cst (.int 0))) [.rt (.meth (.slot 0) "over" [(.slot 1)])] [],
  .asg (.nam 3) (.meth (.slot 0) "give" [(.slot 1), (.att (.slot 2) "number"), (.tup [])]),
  .ite (.cmp .NotEq (.slot 3) (.glo "FAR")) [.asg (.att (.slot 2) "number") (.cst (.int 0))] [],
  .rt (.slot 3)]⟩
def f_Web_joined : Fn := ⟨2, 7, [
  .asg (.nam 2) (.idx (.idx (.att (.slot 0) "plan") (.slot 1)) (.cst (.int 0))),
  .ite (.cmp .Eq (.slot 2) (.cst (.str "merge"))) [.rt (.meth (.slot 0) "merged" [(.slot 1)])] [],
  .asg (.nam 3) (.idx (.att (.slot 0) "cells") (.slot 1)),
  .whl (.cmp .Lt (.f1 .len (.att (.slot 3) "ended")) (.cst (.int 2))) [.asg (.nam 4) (.att (.slot 3) "turn"), .asg (.nam 5) (.meth (.slot 0) "read" [(.slot 1), (.slot 4), (.cst (.int 0))]), .ite (.cmp .Eq (.idx (.slot 5) (.cst (.int 0))) (.cst (.str "item"))) [.asg (.nam 6) (.meth (.slot 0) "give" [(.slot 1), (.idx (.slot 5) (.cst (.int 1))), (.tup [(.f1 .int (.cmp .Eq (.slot 4) (.cst (.int 0)))), (.f1 .int (.cmp .Eq (.slot 4) (.cst (.int 1))))])]), .ite (.and (.cmp .NotEq (.slot 6) (.glo "FAR")) (.and (.cmp .Eq (.slot 2) (.cst (.str "turns"))) (.cmp .Eq (.att (.slot 3) "ended") (.lst [])))) [.asg (.att (.slot 3) "turn") (.bin .Sub (.cst (.int 1)) (.slot 4))] [], .rt (.slot 6)] [], .ite (.cmp .NotEq (.slot 5) (.glo "END")) [.rt (.slot 5)] [], .app (.att (.slot 3) "ended") (.slot 4), .asg (.att (.slot 3) "turn") (.bin .Sub (.cst (.int 1)) (.slot 4)), .ite (.and (.cmp .Eq (.slot 2) (.cst (.str "then"))) (.cmp .Eq (.slot 4) (.cst (.int 1)))) [.asg (.att (.slot 3) "ended") (.lst [(.cst (.int 0)), (.cst (.int 1))])] []],
  .rt (.meth (.slot 0) "over" [(.slot 1)])]⟩
def f_Web_merged : Fn := ⟨2, 4, [
  .asg (.nam 2) (.meth (.slot 0) "read" [(.slot 1), (.cst (.int 0)), (.cst (.int 0))]),
  .ite (.cmp .NotIn (.idx (.slot 2) (.cst (.int 0))) (.tup [(.cst (.str "item")), (.cst (.str "end"))])) [.rt (.slot 2)] [],
  .asg (.nam 3) (.meth (.slot 0) "read" [(.slot 1), (.cst (.int 1)), (.cst (.int 0))]),
  .ite (.cmp .NotIn (.idx (.slot 3) (.cst (.int 0))) (.tup [(.cst (.str "item")), (.cst (.str "end"))])) [.rt (.slot 3)] [],
  .ite (.and (.cmp .Eq (.slot 2) (.glo "END")) (.cmp .Eq (.slot 3) (.glo "END"))) [.rt (.meth (.slot 0) "over" [(.slot 1)])] [],
  .ite (.or (.cmp .Eq (.slot 3) (.glo "END")) (.and (.cmp .NotEq (.slot 2) (.glo "END")) (.cmp .LtE (.idx (.slot 2) (.cst (.int 1))) (.idx (.slot 3) (.cst (.int 1)))))) [.rt (.meth (.slot 0) "give" [(.slot 1), (.idx (.slot 2) (.cst (.int 1))), (.tup [(.cst (.int 1)), (.cst (.int 0))])])] [],
  .rt (.meth (.slot 0) "give" [(.slot 1), (.idx (.slot 3) (.cst (.int 1))), (.tup [(.cst (.int 0)), (.cst (.int 1))])])]⟩
def f_Web_window : Fn := ⟨2, 11, [
  .asg (.tup [2, 3, 4, 5, 6]) (.idx (.att (.slot 0) "plan") (.slot 1)),
  .asg (.nam 7) (.idx (.att (.slot 0) "cells") (.slot 1)),
  .whl (.cmp .Gt (.att (.slot 7) "aside") (.cst (.int 0))) [.asg (.nam 8) (.meth (.slot 0) "read" [(.slot 1), (.cst (.int 0)), (.cst (.int 0))]), .ite (.cmp .NotEq (.idx (.slot 8) (.cst (.int 0))) (.cst (.str "item"))) [.rt (.meth (.slot 0) "stop" [(.slot 1), (.slot 8)])] [], .aug (.sub (.att (.slot 7) "spots") (.cst (.int 0))) .Add (.cst (.int 1)), .aug (.att (.slot 7) "aside") .Sub (.cst (.int 1))],
  .asg (.nam 9) (.lst []),
  .whl (.cmp .Lt (.f1 .len (.slot 9)) (.slot 4)) [.asg (.nam 8) (.meth (.slot 0) "read" [(.slot 1), (.cst (.int 0)), (.f1 .len (.slot 9))]), .ite (.cmp .NotEq (.idx (.slot 8) (.cst (.int 0))) (.cst (.str "item"))) [.rt (.meth (.slot 0) "stop" [(.slot 1), (.slot 8)])] [], .app (.slot 9) (.idx (.slot 8) (.cst (.int 1)))],
  .asg (.nam 10) (.meth (.slot 0) "give" [(.slot 1), (.call "fold_of" [(.slot 3), (.slot 9)]), (.tup [(.min2 (.slot 4) (.slot 5))])]),
  .ite (.cmp .NotEq (.slot 10) (.glo "FAR")) [.asg (.att (.slot 7) "aside") (.max2 (.cst (.int 0)) (.bin .Sub (.slot 5) (.slot 4)))] [],
  .rt (.slot 10)]⟩
def f_Web_cross : Fn := ⟨2, 12, [
  .asg (.tup [2, 3, 4, 5]) (.idx (.att (.slot 0) "plan") (.slot 1)),
  .asg (.nam 6) (.idx (.att (.slot 0) "cells") (.slot 1)),
  .nev,
  .whl (.cst (.bl true)) [.ite (.and (.att (.slot 7) "is_over") (.and (.att (.slot 8) "is_over") (.cmp .Gt (.att (.slot 6) "number") (.bin .Add (.f1 .len (.att (.slot 7) "row")) (.f1 .len (.att (.slot 8) "row")))))) [.rt (.meth (.slot 0) "over" [(.slot 1)])] [], .asg (.nam 9) (.meth (.slot 0) "item_at" [(.slot 4), (.att (.slot 6) "turn")]), .ite (.cmp .NotIn (.idx (.slot 9) (.cst (.int 0))) (.tup [(.cst (.str "item")), (.cst (.str "end"))])) [.rt (.slot 9)] [], .ite (.and (.cmp .Eq (.slot 9) (.glo "END")) (.cmp .Eq (.att (.slot 6) "turn") (.cst (.int 0)))) [.rt (.meth (.slot 0) "over" [(.slot 1)])] [], .ite (.cmp .NotEq (.slot 9) (.glo "END")) [.asg (.nam 10) (.meth (.slot 0) "item_at" [(.slot 5), (.bin .Sub (.att (.slot 6) "number") (.att (.slot 6) "turn"))]), .ite (.cmp .NotIn (.idx (.slot 10) (.cst (.int 0))) (.tup [(.cst (.str "item")), (.cst (.str "end"))])) [.rt (.slot 10)] [], .ite (.and (.cmp .Eq (.slot 10) (.glo "END")) (.cmp .Eq (.att (.slot 6) "number") (.att (.slot 6) "turn"))) [.rt (.meth (.slot 0) "over" [(.slot 1)])] [], .ite (.cmp .NotEq (.slot 10) (.glo "END")) [.asg (.nam 11) (.meth (.slot 0) "give" [(.slot 1), (.call "both_of" [(.slot 3), (.idx (.slot 9) (.cst (.int 1))), (.idx (.slot 10) (.cst (.int 1)))]), (.tup [])]), .ite (.cmp .NotEq (.slot 11) (.glo "FAR")) [.ex (.meth (.slot 0) "step_cross" [(.slot 6)])] [], .rt (.slot 11)] []] [], .ex (.meth (.slot 0) "step_cross" [(.slot 6)])]]⟩
def f_Web_step_cross : Fn := ⟨2, 2, [
  .aug (.att (.slot 1) "turn") .Add (.cst (.int 1)),
  .ite (.cmp .Gt (.att (.slot 1) "turn") (.att (.slot 1) "number")) [.aug (.att (.slot 1) "number") .Add (.cst (.int 1)), .asg (.att (.slot 1) "turn") (.cst (.int 0))] []]⟩
def f_Web_again : Fn := ⟨2, 5, [
  .asg (.nam 2) (.idx (.att (.slot 0) "cells") (.slot 1)),
  .asg (.nam 3) (.meth (.slot 0) "item_at" [(.idx (.idx (.att (.slot 0) "plan") (.slot 1)) (.cst (.int 1))), (.att (.slot 2) "turn")]),
  .ite (.and (.cmp .Eq (.slot 3) (.glo "END")) (.cmp .Gt (.att (.slot 2) "turn") (.cst (.int 0)))) [.asg (.att (.slot 2) "turn") (.cst (.int 0)), .asg (.nam 3) (.meth (.slot 0) "item_at" [(.idx (.idx (.att (.slot 0) "plan") (.slot 1)) (.cst (.int 1))), (.cst (.int 0))])] [],
  .ite (.cmp .NotEq (.idx (.slot 3) (.cst (.int 0))) (.cst (.str "item"))) [.rt (.meth (.slot 0) "stop" [(.slot 1), (.slot 3)])] [],
  .asg (.nam 4) (.meth (.slot 0) "give" [(.slot 1), (.idx (.slot 3) (.cst (.int 1))), (.tup [])]),
  .ite (.cmp .NotEq (.slot 4) (.glo "FAR")) [.aug (.att (.slot 2) "turn") .Add (.cst (.int 1))] [],
  .rt (.slot 4)]⟩
def f_Web_look_reader : Fn := ⟨2, 2, [
  .ite (.not (.call "is_number" [(.slot 1), (.cst (.int 0)), (.bin .Sub (.f1 .len (.att (.slot 0) "readers")) (.cst (.int 1)))])) [.rai "NoReader"] []]⟩
def f_Web_ask : Fn := ⟨3, 4, [
  .ex (.meth (.slot 0) "look_reader" [(.slot 1)]),
  .ite (.not (.call "is_number" [(.slot 2), (.cst (.int 1)), (.glo "MOST_TELLINGS")])) [.rai "BadNumber"] [],
  .app (.att (.slot 0) "asks") (.slot 1),
  .asg (.att (.slot 0) "count") (.cst (.int 0)),
  .asg (.att (.slot 0) "limit") (.slot 2),
  .asg (.nam 3) (.meth (.slot 0) "item_at" [(.idx (.att (.slot 0) "readers") (.slot 1)), (.idx (.att (.slot 0) "outer") (.slot 1))]),
  .ite (.cmp .Eq (.idx (.slot 3) (.cst (.int 0))) (.cst (.str "item"))) [.aug (.sub (.att (.slot 0) "outer") (.slot 1)) .Add (.cst (.int 1))] [],
  .asg (.att (.slot 0) "greatest") (.max2 (.att (.slot 0) "greatest") (.meth (.slot 0) "kept" [])),
  .rt (.slot 3)]⟩
def f_Web_look_word : Fn := ⟨2, 2, [
  .ite (.or (.not (.isi (.slot 1) "str")) (.cmp .NotIn (.slot 1) (.att (.slot 0) "feeds"))) [.rai "NoWord"] []]⟩
def f_Web_feed : Fn := ⟨3, 4, [
  .ex (.meth (.slot 0) "look_word" [(.slot 1)]),
  .ite (.or (.not (.isi (.slot 2) "list")) (.not (.f1 .all (.comp (.call "is_number" [(.slot 3), (.neg (.glo "GREAT")), (.glo "GREAT")]) (.one 3) (.slot 2) none [3])))) [.rai "BadItems"] [],
  .ite (.cmp .In (.slot 1) (.att (.slot 0) "closed")) [.rai "Closed"] [],
  .asg (.sub (.att (.slot 0) "feeds") (.slot 1)) (.bin .Add (.idx (.att (.slot 0) "feeds") (.slot 1)) (.slot 2))]⟩
def f_Web_close : Fn := ⟨2, 2, [
  .ex (.meth (.slot 0) "look_word" [(.slot 1)]),
  .ite (.cmp .In (.slot 1) (.att (.slot 0) "closed")) [.rai "Closed"] [],
  .asg (.sub (.att (.slot 0) "closed") (.slot 1)) (.cst (.bl true))]⟩
def f_Web_asked : Fn := ⟨2, 2, [
  .ite (.or (.not (.call "is_number" [(.slot 1), (.cst (.int 0)), (.bin .Sub (.f1 .len (.att (.slot 0) "plan")) (.cst (.int 1)))])) (.cmp .NotIn (.idx (.idx (.att (.slot 0) "plan") (.slot 1)) (.cst (.int 0))) (.glo "SOURCES"))) [.rai "NoNode"] [],
  .rt (.f1 .len (.att (.idx (.att (.slot 0) "cells") (.slot 1)) "row"))]⟩
def f_Web_kept_of : Fn := ⟨2, 7, [
  .asg (.nam 2) (.comp (.slot 6) (.many [6, 5]) (.zip (.att (.slot 0) "outer") (.att (.slot 0) "readers")) (some (.cmp .Eq (.slot 5) (.slot 1))) [6, 5]),
  .for_ (.one 3) (.att (.slot 0) "live") [.ite (.not (.att (.idx (.att (.slot 0) "cells") (.slot 3)) "is_over")) [.for_ (.many [4, 5]) (.enu (.call "inputs_of" [(.idx (.att (.slot 0) "plan") (.slot 3))])) [.ite (.cmp .Eq (.slot 5) (.slot 1)) [.app (.slot 2) (.idx (.att (.idx (.att (.slot 0) "cells") (.slot 3)) "spots") (.slot 4))] []]] []],
  .rt (.ife (.cmp .NotEq (.slot 2) (.lst [])) (.max2 (.cst (.int 0)) (.bin .Sub (.f1 .len (.att (.idx (.att (.slot 0) "cells") (.slot 1)) "row")) (.f1 .min (.slot 2)))) (.cst (.int 0)))]⟩
def f_Web_kept : Fn := ⟨1, 2, [
  .rt (.f1 .sum (.comp (.meth (.slot 0) "kept_of" [(.slot 1)]) (.one 1) (.att (.slot 0) "live") none [1]))]⟩
def f_Web_most_kept : Fn := ⟨1, 1, [
  .rt (.att (.slot 0) "greatest")]⟩
def f_Web_places : Fn := ⟨1, 1, [
  .rt (.f1 .list (.att (.slot 0) "outer"))]⟩
def f_Web_twin : Fn := ⟨1, 1, [
  .ex (.call "_wall" [(.cst (.int 1))])]⟩
def f_look_many : Fn := ⟨2, 2, [
  .ite (.or (.not (.call "is_number" [(.slot 0), (.cst (.int 0)), (.glo "MOST_FIRSTS")])) (.not (.call "is_number" [(.slot 1), (.cst (.int 1)), (.glo "MOST_TELLINGS")]))) [.rai "BadNumber"] []]⟩
def f_begun : Fn := ⟨4, 7, [
  .ex (.call "look_plan" [(.slot 0)]),
  .ex (.call "look_node" [(.slot 0), (.slot 1)]),
  .ex (.call "look_many" [(.slot 2), (.slot 3)]),
  .asg (.nam 4) (.new "Web" [(.slot 0), (.tup [(.slot 1)])]),
  .asg (.nam 5) (.lst []),
  .whl (.cmp .Lt (.f1 .len (.slot 5)) (.slot 2)) [.asg (.nam 6) (.meth (.slot 4) "ask" [(.cst (.int 0)), (.slot 3)]), .ite (.cmp .NotEq (.idx (.slot 6) (.cst (.int 0))) (.cst (.str "item"))) [.rt (.tup [(.slot 4), (.slot 5), (.idx (.slot 6) (.cst (.int 0)))])] [], .app (.slot 5) (.idx (.slot 6) (.cst (.int 1)))],
  .rt (.tup [(.slot 4), (.slot 5), (.cst (.str "more"))])]⟩
def f_firsts : Fn := ⟨4, 7, [
  .asg (.tup [4, 5, 6]) (.call "begun" [(.slot 0), (.slot 1), (.slot 2), (.slot 3)]),
  .rt (.tup [(.slot 5), (.slot 6)])]⟩
def f_needed : Fn := ⟨4, 8, [
  .asg (.tup [4, 5, 6]) (.call "begun" [(.slot 0), (.slot 1), (.slot 2), (.slot 3)]),
  .nev]⟩
def f_room : Fn := ⟨4, 7, [
  .asg (.tup [4, 5, 6]) (.call "begun" [(.slot 0), (.slot 1), (.slot 2), (.slot 3)]),
  .rt (.meth (.slot 4) "most_kept" [])]⟩
def f_is_call : Fn := ⟨1, 1, [
  .ite (.or (.not (.isi (.slot 0) "tuple")) (.or (.cmp .Lt (.f1 .len (.slot 0)) (.cst (.int 2))) (.not (.isi (.idx (.slot 0) (.cst (.int 0))) "str")))) [.rt (.cst (.bl false))] [],
  .ite (.cmp .Eq (.idx (.slot 0) (.cst (.int 0))) (.cst (.str "ask"))) [.rt (.and (.cmp .Eq (.f1 .len (.slot 0)) (.cst (.int 3))) (.and (.call "is_number" [(.idx (.slot 0) (.cst (.int 1))), (.cst (.int 0)), (.bin .Sub (.glo "MOST_READERS") (.cst (.int 1)))]) (.call "is_number" [(.idx (.slot 0) (.cst (.int 2))), (.cst (.int 1)), (.glo "MOST_TELLINGS")])))] [],
  .ite (.cmp .Eq (.idx (.slot 0) (.cst (.int 0))) (.cst (.str "feed"))) [.rt (.and (.cmp .Eq (.f1 .len (.slot 0)) (.cst (.int 3))) (.and (.call "is_word" [(.idx (.slot 0) (.cst (.int 1)))]) (.call "is_items" [(.idx (.slot 0) (.cst (.int 2)))])))] [],
  .rt (.and (.cmp .Eq (.idx (.slot 0) (.cst (.int 0))) (.cst (.str "close"))) (.and (.cmp .Eq (.f1 .len (.slot 0)) (.cst (.int 2))) (.call "is_word" [(.idx (.slot 0) (.cst (.int 1)))])))]⟩
def f_look_history : Fn := ⟨1, 2, [
  .ite (.or (.not (.isi (.slot 0) "list")) (.or (.cmp .Gt (.f1 .len (.slot 0)) (.glo "MOST_CALLS")) (.not (.f1 .all (.comp (.call "is_call" [(.slot 1)]) (.one 1) (.slot 0) none [1]))))) [.rai "BadCalls"] []]⟩
def f_done : Fn := ⟨2, 2, [
  .ite (.cmp .Eq (.idx (.slot 1) (.cst (.int 0))) (.cst (.str "ask"))) [.rt (.meth (.slot 0) "ask" [(.idx (.slot 1) (.cst (.int 1))), (.idx (.slot 1) (.cst (.int 2)))])] [],
  .ite (.cmp .Eq (.idx (.slot 1) (.cst (.int 0))) (.cst (.str "feed"))) [.ex (.meth (.slot 0) "feed" [(.idx (.slot 1) (.cst (.int 1))), (.f1 .list (.idx (.slot 1) (.cst (.int 2))))])] [.ex (.meth (.slot 0) "close" [(.idx (.slot 1) (.cst (.int 1)))])],
  .rt (.cst .non)]⟩
def f_played : Fn := ⟨3, 6, [
  .asg (.nam 3) (.new "Web" [(.slot 0), (.slot 1)]),
  .ex (.call "look_history" [(.slot 2)]),
  .asg (.nam 4) (.lst []),
  .for_ (.one 5) (.slot 2) [.nev],
  .rt (.slot 4)]⟩
def f_least_of : Fn := ⟨2, 2, [
  .ite (.or (.cmp .Is (.slot 0) (.cst .non)) (.cmp .Is (.slot 1) (.cst .non))) [.rt (.ife (.cmp .Is (.slot 0) (.cst .non)) (.slot 1) (.slot 0))] [],
  .rt (.min2 (.slot 0) (.slot 1))]⟩
def f_sum_of : Fn := ⟨2, 2, [
  .rt (.ife (.or (.cmp .Is (.slot 0) (.cst .non)) (.cmp .Is (.slot 1) (.cst .non))) (.cst .non) (.bin .Add (.slot 0) (.slot 1)))]⟩
def f_of_two : Fn := ⟨3, 3, [
  .ite (.cmp .Eq (.slot 0) (.cst (.str "both"))) [.rt (.call "least_of" [(.slot 1), (.slot 2)])] [],
  .ite (.cmp .Eq (.slot 0) (.cst (.str "cross"))) [.ite (.or (.cmp .Eq (.slot 1) (.cst (.int 0))) (.cmp .Eq (.slot 2) (.cst (.int 0)))) [.rt (.cst (.int 0))] [], .rt (.ife (.or (.cmp .Is (.slot 1) (.cst .non)) (.cmp .Is (.slot 2) (.cst .non))) (.cst .non) (.bin .Mult (.slot 1) (.slot 2)))] [],
  .rt (.call "sum_of" [(.slot 1), (.slot 2)])]⟩
def f_of_one : Fn := ⟨2, 3, [
  .asg (.nam 2) (.idx (.slot 0) (.cst (.int 0))),
  .ite (.cmp .Eq (.slot 2) (.cst (.str "ahead"))) [.rt (.call "sum_of" [(.f1 .len (.idx (.slot 0) (.cst (.int 1)))), (.slot 1)])] [],
  .ite (.cmp .Eq (.slot 2) (.cst (.str "first"))) [.rt (.call "least_of" [(.idx (.slot 0) (.cst (.int 1))), (.slot 1)])] [],
  .ite (.cmp .Eq (.slot 2) (.cst (.str "again"))) [.rt (.ife (.cmp .Eq (.slot 1) (.cst (.int 0))) (.cst (.int 0)) (.cst .non))] [],
  .ite (.or (.cmp .Is (.slot 1) (.cst .non)) (.cmp .In (.slot 2) (.tup [(.cst (.str "each")), (.cst (.str "sums"))]))) [.rt (.slot 1)] [],
  .ite (.cmp .Eq (.slot 2) (.cst (.str "skip"))) [.rt (.max2 (.cst (.int 0)) (.bin .Sub (.slot 1) (.idx (.slot 0) (.cst (.int 1)))))] [],
  .rt (.max2 (.cst (.int 0)) (.bin .Add (.bin .FloorDiv (.bin .Sub (.slot 1) (.idx (.slot 0) (.cst (.int 2)))) (.idx (.slot 0) (.cst (.int 3)))) (.cst (.int 1))))]⟩
def f_length_of : Fn := ⟨3, 6, [
  .asg (.nam 3) (.idx (.slot 0) (.slot 1)),
  .ite (.or (.cmp .In (.slot 1) (.slot 2)) (.cmp .In (.idx (.slot 3) (.cst (.int 0))) (.glo "UNSURE"))) [.rai "Unsure"] [],
  .ite (.cmp .Eq (.idx (.slot 3) (.cst (.int 0))) (.cst (.str "count"))) [.rt (.cst .non)] [],
  .ite (.cmp .Eq (.idx (.slot 3) (.cst (.int 0))) (.cst (.str "list"))) [.rt (.f1 .len (.idx (.slot 3) (.cst (.int 1))))] [],
  .asg (.nam 4) (.comp (.call "length_of" [(.slot 0), (.slot 5), (.bin .Add (.slot 2) (.lst [(.slot 1)]))]) (.one 5) (.call "inputs_of" [(.slot 3)]) none [5]),
  .rt (.ife (.cmp .Eq (.f1 .len (.slot 4)) (.cst (.int 1))) (.call "of_one" [(.slot 3), (.idx (.slot 4) (.cst (.int 0)))]) (.call "of_two" [(.idx (.slot 3) (.cst (.int 0))), (.idx (.slot 4) (.cst (.int 0))), (.idx (.slot 4) (.cst (.int 1)))]))]⟩
def f_length : Fn := ⟨2, 2, [
  .ex (.call "look_plan" [(.slot 0)]),
  .ex (.call "look_node" [(.slot 0), (.slot 1)]),
  .rt (.call "length_of" [(.slot 0), (.slot 1), (.lst [])])]⟩
def f_shape_of : Fn := ⟨1, 3, [
  .rt (.bin .Add (.tup [(.idx (.slot 0) (.cst (.int 0)))]) (.f1 .tuple (.comp (.slot 1) (.many [1, 2]) (.zip (.sli (.slot 0) (some (.cst (.int 1))) none) (.gix "KINDS" (.idx (.slot 0) (.cst (.int 0))))) (some (.cmp .NotEq (.slot 2) (.cst (.str "k")))) [1, 2])))]⟩
def f_pairs_of : Fn := ⟨4, 11, [
  .asg (.nam 4) (.lst [(.tup [(.slot 1), (.slot 3)])]),
  .asg (.nam 5) (.cst (.int 0)),
  .whl (.cmp .Lt (.slot 5) (.f1 .len (.slot 4))) [.asg (.tup [6, 7]) (.idx (.slot 4) (.slot 5)), .ite (.cmp .NotEq (.call "shape_of" [(.idx (.slot 0) (.slot 6))]) (.call "shape_of" [(.idx (.slot 2) (.slot 7))])) [.rt (.cst .non)] [], .nev, .ext (.slot 4) (.comp (.slot 10) (.many [9, 10]) (.enu (.slot 8)) (some (.cmp .NotIn (.slot 10) (.bin .Add (.slot 4) (.sli (.slot 8) none (some (.slot 9)))))) [9, 10]), .aug (.nam 5) .Add (.cst (.int 1))],
  .rt (.f1 .sorted (.slot 4))]⟩
def f_look_both : Fn := ⟨4, 4, [
  .ex (.call "look_plan" [(.slot 0)]),
  .ex (.call "look_node" [(.slot 0), (.slot 1)]),
  .ex (.call "look_plan" [(.slot 2)]),
  .ex (.call "look_node" [(.slot 2), (.slot 3)])]⟩
def f_paper : Fn := ⟨4, 4, [
  .ex (.call "look_both" [(.slot 0), (.slot 1), (.slot 2), (.slot 3)]),
  .rt (.call "pairs_of" [(.slot 0), (.slot 1), (.slot 2), (.slot 3)])]⟩
def f_is_pair : Fn := ⟨3, 3, [
  .ite (.or (.not (.isi (.slot 0) "tuple")) (.cmp .NotEq (.f1 .len (.slot 0)) (.cst (.int 2)))) [.rt (.cst (.bl false))] [],
  .rt (.and (.call "is_number" [(.idx (.slot 0) (.cst (.int 0))), (.cst (.int 0)), (.bin .Sub (.f1 .len (.slot 1)) (.cst (.int 1)))]) (.call "is_number" [(.idx (.slot 0) (.cst (.int 1))), (.cst (.int 0)), (.bin .Sub (.f1 .len (.slot 2)) (.cst (.int 1)))]))]⟩
def f_shows : Fn := ⟨5, 8, [
  .ex (.call "look_both" [(.slot 0), (.slot 1), (.slot 2), (.slot 3)]),
  .ite (.or (.not (.isi (.slot 4) "list")) (.not (.f1 .all (.comp (.call "is_pair" [(.slot 5), (.slot 0), (.slot 2)]) (.one 5) (.slot 4) none [5])))) [.rt (.cst (.bl false))] [],
  .ite (.or (.not (.f1 .all (.comp (.cmp .Lt (.slot 5) (.slot 6)) (.many [5, 6]) (.zip (.slot 4) (.sli (.slot 4) (some (.cst (.int 1))) none)) none [5, 6]))) (.cmp .NotIn (.tup [(.slot 1), (.slot 3)]) (.slot 4))) [.rt (.cst (.bl false))] [],
  .for_ (.many [5, 6]) (.slot 4) [.ite (.cmp .NotEq (.call "shape_of" [(.idx (.slot 0) (.slot 5))]) (.call "shape_of" [(.idx (.slot 2) (.slot 6))])) [.rt (.cst (.bl false))] [], .nev],
  .rt (.cst (.bl true))]⟩
def f_reached : Fn := ⟨2, 5, [
  .asg (.nam 2) (.lst []),
  .asg (.nam 3) (.f1 .list (.slot 1)),
  .whl (.cmp .NotEq (.slot 3) (.lst [])) [.nev, .ite (.cmp .NotIn (.slot 4) (.slot 2)) [.app (.slot 2) (.slot 4), .ext (.slot 3) (.call "inputs_of" [(.idx (.slot 0) (.slot 4))])] []],
  .rt (.slot 2)]⟩
def f_moved : Fn := ⟨2, 5, [
  .asg (.nam 2) (.comp (.ife (.cmp .Eq (.slot 4) (.cst (.str "k"))) (.idx (.slot 1) (.slot 3)) (.slot 3)) (.many [3, 4]) (.zip (.sli (.slot 0) (some (.cst (.int 1))) none) (.gix "KINDS" (.idx (.slot 0) (.cst (.int 0))))) none [3, 4]),
  .rt (.bin .Add (.tup [(.idx (.slot 0) (.cst (.int 0)))]) (.f1 .tuple (.slot 2)))]⟩
def f_least : Fn := ⟨2, 8, [
  .ex (.call "look_plan" [(.slot 0)]),
  .ite (.or (.not (.isi (.slot 1) "tuple")) (.not (.cmp2 .LtE .LtE (.cst (.int 1)) (.f1 .len (.slot 1)) (.cst (.int 12))))) [.rai "NoNode"] [],
  .for_ (.one 2) (.slot 1) [.ex (.call "look_node" [(.slot 0), (.slot 2)])],
  .asg (.nam 3) (.lst []),
  .asg (.nam 4) (.dct []),
  .for_ (.one 2) (.call "reached" [(.slot 0), (.slot 1)]) [.asg (.nam 5) (.comp (.slot 6) (.many [6, 7]) (.enu (.slot 3)) (some (.cmp .IsNot (.call "pairs_of" [(.slot 0), (.slot 2), (.slot 0), (.slot 7)]) (.cst .non))) [6, 7]), .ite (.cmp .Eq (.slot 5) (.lst [])) [.app (.slot 3) (.slot 2)] [], .asg (.sub (.slot 4) (.slot 2)) (.ife (.cmp .NotEq (.slot 5) (.lst [])) (.idx (.slot 5) (.cst (.int 0))) (.bin .Sub (.f1 .len (.slot 3)) (.cst (.int 1))))],
  .rt (.tup [(.f1 .tuple (.comp (.call "moved" [(.idx (.slot 0) (.slot 2)), (.slot 4)]) (.one 2) (.slot 3) none [2])), (.f1 .tuple (.comp (.idx (.slot 4) (.slot 2)) (.one 2) (.slot 1) none [2]))])]⟩
def f_parted : Fn := ⟨6, 14, [
  .ex (.call "look_plan" [(.slot 0)]),
  .ex (.call "look_node" [(.slot 0), (.slot 1)]),
  .ex (.call "look_plan" [(.slot 2)]),
  .ex (.call "look_node" [(.slot 2), (.slot 3)]),
  .ex (.call "look_many" [(.slot 4), (.slot 5)]),
  .asg (.tup [6, 7, 8]) (.call "begun" [(.slot 0), (.slot 1), (.slot 4), (.slot 5)]),
  .asg (.tup [6, 9, 10]) (.call "begun" [(.slot 2), (.slot 3), (.slot 4), (.slot 5)]),
  .ite (.cmp .Eq (.slot 7) (.slot 9)) [.rt (.ife (.cmp .Eq (.slot 8) (.slot 10)) (.cst .non) (.f1 .len (.slot 7)))] [],
  .nev,
  .rt (.ife (.cmp .NotEq (.slot 11) (.lst [])) (.idx (.slot 11) (.cst (.int 0))) (.min2 (.f1 .len (.slot 7)) (.f1 .len (.slot 9))))]⟩
def f_listed : Fn := ⟨2, 4, [
  .ite (.cmp .Eq (.idx (.slot 0) (.cst (.int 0))) (.cst (.str "each"))) [.rt (.f1 .tuple (.comp (.call "each_of" [(.idx (.slot 0) (.cst (.int 1))), (.idx (.slot 0) (.cst (.int 2))), (.slot 3)]) (.one 3) (.slot 1) none [3]))] [],
  .asg (.nam 2) (.lst []),
  .for_ (.one 3) (.slot 1) [.app (.slot 2) (.call "reckoned" [(.bin .Add (.ife (.cmp .NotEq (.slot 2) (.lst [])) (.idx (.slot 2) (.neg (.cst (.int 1)))) (.cst (.int 0))) (.slot 3))])],
  .rt (.f1 .tuple (.slot 2))]⟩
def f_all_rules : Fn := ⟨2, 6, [
  .asg (.nam 2) (.idx (.slot 0) (.slot 1)),
  .asg (.nam 3) (.call "inputs_of" [(.slot 2)]),
  .asg (.nam 4) (.dct []),
  .ite (.or (.cmp .NotEq (.f1 .len (.slot 3)) (.cst (.int 1))) (.cmp .Eq (.idx (.slot 3) (.cst (.int 0))) (.slot 1))) [.rt (.slot 4)] [],
  .asg (.nam 5) (.idx (.slot 0) (.idx (.slot 3) (.cst (.int 0)))),
  .ite (.and (.cmp .Eq (.idx (.slot 2) (.cst (.int 0))) (.cst (.str "each"))) (.and (.cmp .Eq (.idx (.slot 5) (.cst (.int 0))) (.cst (.str "each"))) (.cmp .Eq (.idx (.slot 2) (.cst (.int 1))) (.idx (.slot 5) (.cst (.int 1)))))) [.ite (.cmp .Eq (.idx (.slot 2) (.cst (.int 1))) (.cst (.str "add"))) [.asg (.sub (.slot 4) (.cst (.str "adds"))) (.tup [(.cst (.str "each")), (.cst (.str "add")), (.call "reckoned" [(.bin .Add (.idx (.slot 2) (.cst (.int 2))) (.idx (.slot 5) (.cst (.int 2))))]), (.idx (.slot 5) (.cst (.int 3)))])] [], .ite (.cmp .Eq (.idx (.slot 2) (.cst (.int 1))) (.cst (.str "mul"))) [.asg (.sub (.slot 4) (.cst (.str "muls"))) (.tup [(.cst (.str "each")), (.cst (.str "mul")), (.call "reckoned" [(.bin .Mult (.idx (.slot 2) (.cst (.int 2))) (.idx (.slot 5) (.cst (.int 2))))]), (.idx (.slot 5) (.cst (.int 3)))])] []] [],
  .ite (.and (.cmp .Eq (.idx (.slot 2) (.cst (.int 0))) (.cst (.str "skip"))) (.and (.cmp .Eq (.idx (.slot 5) (.cst (.int 0))) (.cst (.str "skip"))) (.cmp .LtE (.bin .Add (.idx (.slot 2) (.cst (.int 1))) (.idx (.slot 5) (.cst (.int 1)))) (.cst (.int 9))))) [.asg (.sub (.slot 4) (.cst (.str "skips"))) (.tup [(.cst (.str "skip")), (.bin .Add (.idx (.slot 2) (.cst (.int 1))) (.idx (.slot 5) (.cst (.int 1)))), (.idx (.slot 5) (.cst (.int 2)))])] [],
  .ite (.and (.cmp .Eq (.idx (.slot 2) (.cst (.int 0))) (.cst (.str "first"))) (.cmp .Eq (.idx (.slot 5) (.cst (.int 0))) (.cst (.str "first")))) [.asg (.sub (.slot 4) (.cst (.str "firsts"))) (.tup [(.cst (.str "first")), (.min2 (.idx (.slot 2) (.cst (.int 1))) (.idx (.slot 5) (.cst (.int 1)))), (.idx (.slot 5) (.cst (.int 2)))])] [],
  .ite (.and (.cmp .Eq (.idx (.slot 2) (.cst (.int 0))) (.cst (.str "ahead"))) (.and (.cmp .Eq (.idx (.slot 5) (.cst (.int 0))) (.cst (.str "ahead"))) (.cmp .LtE (.f1 .len (.bin .Add (.idx (.slot 2) (.cst (.int 1))) (.idx (.slot 5) (.cst (.int 1))))) (.glo "MOST_ITEMS")))) [.asg (.sub (.slot 4) (.cst (.str "aheads"))) (.tup [(.cst (.str "ahead")), (.bin .Add (.idx (.slot 2) (.cst (.int 1))) (.idx (.slot 5) (.cst (.int 1)))), (.idx (.slot 5) (.cst (.int 2)))])] [],
  .ite (.and (.cmp .Eq (.idx (.slot 2) (.cst (.int 0))) (.cst (.str "ahead"))) (.cmp .Eq (.idx (.slot 2) (.cst (.int 1))) (.tup []))) [.asg (.sub (.slot 4) (.cst (.str "empty"))) (.slot 5)] [],
  .ite (.and (.cmp .Eq (.idx (.slot 2) (.cst (.int 0))) (.cst (.str "change"))) (.cmp .Eq (.idx (.slot 5) (.cst (.int 0))) (.cst (.str "change")))) [.asg (.sub (.slot 4) (.cst (.str "same"))) (.slot 5)] [],
  .ite (.and (.cmp .In (.idx (.slot 2) (.cst (.int 0))) (.tup [(.cst (.str "each")), (.cst (.str "sums"))])) (.cmp .Eq (.idx (.slot 5) (.cst (.int 0))) (.cst (.str "list")))) [.asg (.sub (.slot 4) (.cst (.str "lists"))) (.tup [(.cst (.str "list")), (.call "listed" [(.slot 2), (.idx (.slot 5) (.cst (.int 1)))])])] [],
  .rt (.slot 4)]⟩
def f_rules_at : Fn := ⟨2, 2, [
  .ex (.call "look_plan" [(.slot 0)]),
  .ex (.call "look_node" [(.slot 0), (.slot 1)]),
  .nev]⟩
def f_rewritten : Fn := ⟨3, 4, [
  .ex (.call "look_plan" [(.slot 0)]),
  .ex (.call "look_node" [(.slot 0), (.slot 1)]),
  .asg (.nam 3) (.call "all_rules" [(.slot 0), (.slot 1)]),
  .ite (.or (.not (.isi (.slot 2) "str")) (.cmp .NotIn (.slot 2) (.slot 3))) [.rai "NoRule"] [],
  .rt (.bin .Add (.bin .Add (.sli (.slot 0) none (some (.slot 1))) (.tup [(.idx (.slot 3) (.slot 2))])) (.sli (.slot 0) (some (.bin .Add (.slot 1) (.cst (.int 1)))) none))]⟩
def f__law_town : Fn := ⟨1, 1, [
  .rt (.bin .Add (.lst [(.cst (.int 0))]) (.f1 .list (.slot 0)))]⟩
def f__law_draw : Fn := ⟨3, 6, [
  .asg (.sub (.slot 1) (.cst (.int 0))) (.bin .Add (.idx (.slot 1) (.cst (.int 0))) (.cst (.int 1))),
  .ite (.cmp .Eq (.slot 0) (.lst [])) [.rt (.bin .Mod (.bin .FloorDiv (.bin .Mult (.bin .Mult (.idx (.slot 1) (.cst (.int 0))) (.idx (.slot 1) (.cst (.int 0)))) (.cst (.int 7))) (.cst (.int 3))) (.slot 2))] [],
  .asg (.nam 3) (.bin .Mod (.idx (.slot 1) (.cst (.int 0))) (.f1 .len (.slot 0))),
  .asg (.nam 4) (.idx (.slot 1) (.bin .Add (.cst (.int 1)) (.slot 3))),
  .ite (.and (.cmp .GtE (.idx (.slot 0) (.slot 3)) (.bin .Pow (.cst (.int 10)) (.cst (.int 18)))) (.cmp .Gt (.slot 4) (.cst (.int 0)))) [.asg (.sub (.slot 1) (.bin .Add (.cst (.int 1)) (.slot 3))) (.bin .FloorDiv (.slot 4) (.slot 2)), .rt (.bin .Mod (.slot 4) (.slot 2))] [],
  .asg (.nam 5) (.bin .Mod (.bin .Add (.idx (.slot 0) (.slot 3)) (.bin .Mult (.cst (.int 104729)) (.idx (.slot 1) (.cst (.int 0))))) (.cst (.int 4294967291))),
  .asg (.nam 5) (.bin .Mod (.bin .Pow (.slot 5) (.cst (.int 5))) (.cst (.int 4294967279))),
  .rt (.bin .Mod (.bin .FloorDiv (.bin .Mod (.bin .Add (.bin .Mult (.bin .FloorDiv (.slot 5) (.cst (.int 64))) (.cst (.int 69621))) (.slot 5)) (.cst (.int 4294967231))) (.cst (.int 8))) (.slot 2))]⟩
def f__law_pick : Fn := ⟨3, 3, [
  .rt (.idx (.slot 2) (.call "_law_draw" [(.slot 0), (.slot 1), (.f1 .len (.slot 2))]))]⟩
def f__law_whole : Fn := ⟨1, 1, [
  .rt (.and (.isi (.slot 0) "int") (.not (.isi (.slot 0) "bool")))]⟩
def f__law_word : Fn := ⟨1, 2, [
  .ite (.not (.isi (.slot 0) "IndexError")) [.rt (.neg (.cst (.int 1)))] [],
  .asg (.nam 1) (.lst [(.isi (.slot 0) "BadPlan"), (.isi (.slot 0) "BadText"), (.isi (.slot 0) "BadReaders")]),
  .asg (.nam 1) (.bin .Add (.slot 1) (.lst [(.isi (.slot 0) "BadNumber"), (.isi (.slot 0) "NoReader"), (.isi (.slot 0) "NoNode")])),
  .asg (.nam 1) (.bin .Add (.slot 1) (.lst [(.isi (.slot 0) "NoWord"), (.isi (.slot 0) "NoRule"), (.isi (.slot 0) "BadItems")])),
  .asg (.nam 1) (.bin .Add (.slot 1) (.lst [(.isi (.slot 0) "BadCalls"), (.isi (.slot 0) "Closed"), (.isi (.slot 0) "Unsure")])),
  .rt (.ife (.cmp .Eq (.count (.slot 1) (.cst (.bl true))) (.cst (.int 1))) (.index (.slot 1) (.cst (.bl true))) (.neg (.cst (.int 1))))]⟩
def f__law_refused : Fn := ⟨1, 2, [
  .asg (.nam 1) (.lst [(.cst (.str "plan")), (.cst (.str "text")), (.cst (.str "readers")), (.cst (.str "number")), (.cst (.str "reader")), (.cst (.str "node")), (.cst (.str "word")), (.cst (.str "rule")), (.cst (.str "items")), (.cst (.str "calls"))]),
  .asg (.nam 1) (.bin .Add (.slot 1) (.lst [(.cst (.str "closed")), (.cst (.str "unsure"))])),
  .rt (.tup [(.cst (.str "refused")), (.index (.slot 1) (.slot 0))])]⟩
def f__law_told : Fn := ⟨2, 5, [
  .asg (.nam 2) (.cst .non),
  .asg (.nam 3) (.cst .non),
  .try_ [.asg (.nam 3) (.call "_law_one" [(.slot 0), (.slot 1)])] [("RowError", (some 4), [.exc 2])],
  .ite (.cmp .Is (.slot 2) (.cst .non)) [.rt (.tup [(.cst (.str "found")), (.slot 3)])] [],
  .rt (.tup [(.cst (.str "refused")), (.call "_law_word" [(.slot 2)])])]⟩
def f__law_node : Fn := ⟨4, 16, [
  .asg (.tup [4, 5]) (.comp (.call "_law_draw" [(.slot 0), (.slot 1), (.slot 2)]) (.one 15) (.rng (.cst (.int 0)) (.cst (.int 2)) (.cst (.int 1))) none [15]),
  .asg (.tup [6, 7]) (.comp (.bin .Add (.cst (.int 1)) (.call "_law_draw" [(.slot 0), (.slot 1), (.cst (.int 4))])) (.one 15) (.rng (.cst (.int 0)) (.cst (.int 2)) (.cst (.int 1))) none [15]),
  .asg (.nam 8) (.call "_law_pick" [(.slot 0), (.slot 1), (.lst [(.cst (.int 0)), (.cst (.int 1)), (.cst (.int 2)), (.cst (.int 3)), (.neg (.cst (.int 1))), (.cst (.int 7)), (.cst (.int 1000)), (.neg (.cst (.int 5)))])]),
  .asg (.nam 9) (.f1 .tuple (.comp (.call "_law_draw" [(.slot 0), (.slot 1), (.cst (.int 5))]) (.one 15) (.rng (.cst (.int 0)) (.call "_law_draw" [(.slot 0), (.slot 1), (.cst (.int 5))]) (.cst (.int 1))) none [15])),
  .ite (.slot 3) [.rt (.call "_law_pick" [(.slot 0), (.slot 1), (.lst [(.tup [(.cst (.str "count")), (.slot 8), (.bin .Sub (.slot 6) (.cst (.int 2)))]), (.tup [(.cst (.str "count")), (.cst (.int 1)), (.cst (.int 1))]), (.tup [(.cst (.str "list")), (.slot 9)]), (.tup [(.cst (.str "fed")), (.cst (.str "ab"))])])])] [],
  .asg (.nam 10) (.call "_law_pick" [(.slot 0), (.slot 1), (.lst [(.cst (.str "add")), (.cst (.str "sub")), (.cst (.str "mul")), (.cst (.str "least")), (.cst (.str "most"))])]),
  .asg (.nam 11) (.call "_law_pick" [(.slot 0), (.slot 1), (.lst [(.cst (.str "even")), (.cst (.str "below")), (.cst (.str "same"))])]),
  .asg (.nam 12) (.call "_law_draw" [(.slot 0), (.slot 1), (.cst (.int 9))]),
  .ite (.cmp .Lt (.slot 12) (.cst (.int 3))) [.asg (.nam 13) (.lst [(.tup [(.cst (.str "ahead")), (.slot 9), (.slot 4)]), (.tup [(.cst (.str "each")), (.cst (.str "add")), (.slot 8), (.slot 4)]), (.tup [(.cst (.str "each")), (.cst (.str "mul")), (.slot 8), (.slot 4)]), (.tup [(.cst (.str "each")), (.cst (.str "rest")), (.bin .Add (.slot 6) (.cst (.int 1))), (.slot 4)])]), .rt (.call "_law_pick" [(.slot 0), (.slot 1), (.bin .Add (.slot 13) (.lst [(.tup [(.cst (.str "both")), (.slot 10), (.slot 4), (.slot 5)]), (.tup [(.cst (.str "both")), (.cst (.str "add")), (.slot 4), (.slot 5)])]))])] [],
  .ite (.cmp .Lt (.slot 12) (.cst (.int 5))) [.asg (.nam 13) (.lst [(.tup [(.cst (.str "keep")), (.slot 11), (.slot 8), (.slot 4)]), (.tup [(.cst (.str "keep")), (.cst (.str "parts")), (.slot 6), (.slot 4)]), (.tup [(.cst (.str "until")), (.slot 11), (.slot 8), (.slot 4)]), (.tup [(.cst (.str "from")), (.slot 11), (.slot 8), (.slot 4)])]), .rt (.call "_law_pick" [(.slot 0), (.slot 1), (.bin .Add (.slot 13) (.lst [(.tup [(.cst (.str "first")), (.slot 6), (.slot 4)]), (.tup [(.cst (.str "skip")), (.slot 7), (.slot 4)]), (.tup [(.cst (.str "sums")), (.slot 4)])]))])] [],
  .ite (.cmp .Lt (.slot 12) (.cst (.int 7))) [.rt (.call "_law_pick" [(.slot 0), (.slot 1), (.lst [(.tup [(.cst (.str "change")), (.slot 4)]), (.tup [(.cst (.str "runs")), (.slot 4)]), (.tup [(.cst (.str "then")), (.slot 4), (.slot 5)]), (.tup [(.cst (.str "turns")), (.slot 4), (.slot 5)]), (.tup [(.cst (.str "merge")), (.slot 4), (.slot 5)])])])] [],
  .asg (.nam 14) (.call "_law_pick" [(.slot 0), (.slot 1), (.lst [(.cst (.str "sum")), (.cst (.str "least")), (.cst (.str "most"))])]),
  .asg (.nam 13) (.lst [(.tup [(.cst (.str "window")), (.slot 14), (.slot 6), (.slot 7), (.slot 4)]), (.tup [(.cst (.str "cross")), (.slot 10), (.slot 4), (.slot 5)]), (.tup [(.cst (.str "again")), (.slot 4)]), (.tup [(.cst (.str "first")), (.bin .Add (.slot 6) (.cst (.int 3))), (.slot 4)])]),
  .rt (.call "_law_pick" [(.slot 0), (.slot 1), (.slot 13)])]⟩
def f__law_plan : Fn := ⟨2, 6, [
  .asg (.nam 2) (.bin .Add (.cst (.int 2)) (.call "_law_draw" [(.slot 0), (.slot 1), (.cst (.int 6))])),
  .asg (.nam 3) (.lst [(.call "_law_node" [(.slot 0), (.slot 1), (.slot 2), (.cst (.bl true))]), (.call "_law_node" [(.slot 0), (.slot 1), (.slot 2), (.cst (.bl true))])]),
  .for_ (.one 4) (.rng (.cst (.int 2)) (.slot 2) (.cst (.int 1))) [.asg (.nam 5) (.call "_law_node" [(.slot 0), (.slot 1), (.ife (.cmp .Eq (.call "_law_draw" [(.slot 0), (.slot 1), (.cst (.int 3))]) (.cst (.int 0))) (.slot 2) (.slot 4)), (.cst (.bl false))]), .app (.slot 3) (.slot 5)],
  .rt (.f1 .tuple (.slot 3))]⟩
def f__law_items : Fn := ⟨1, 2, [
  .ite (.or (.not (.isi (.slot 0) "tuple")) (.cmp .Gt (.f1 .len (.slot 0)) (.cst (.int 9)))) [.rt (.cst (.bl false))] [],
  .rt (.cmp .Eq (.comp (.slot 1) (.one 1) (.slot 0) (some (.not (.call "_law_number" [(.slot 1), (.bin .Sub (.cst (.int 0)) (.bin .Pow (.cst (.int 10)) (.cst (.int 6)))), (.bin .Pow (.cst (.int 10)) (.cst (.int 6)))]))) [1]) (.lst []))]⟩
def f__law_one : Fn := ⟨2, 2, [
  .ite (.cmp .Lt (.slot 0) (.cst (.int 4))) [.ite (.cmp .Lt (.slot 0) (.cst (.int 2))) [.rt (.ife (.cmp .Eq (.slot 0) (.cst (.int 0))) (.call "plan_text" [(.slot 1)]) (.call "sources" [(.slot 1)]))] [], .rt (.ife (.cmp .Eq (.slot 0) (.cst (.int 2))) (.call "reads" [(.slot 1), (.cst .non)]) (.meth (.new "Web" [(.slot 1), (.cst .non)]) "kept" []))] [],
  .ite (.cmp .Lt (.slot 0) (.cst (.int 8))) [.ite (.cmp .Lt (.slot 0) (.cst (.int 6))) [.rt (.ife (.cmp .Eq (.slot 0) (.cst (.int 4))) (.call "firsts" [(.slot 1), (.cst .non), (.cst .non), (.cst (.int 1000))]) (.call "needed" [(.slot 1), (.cst .non), (.cst .non), (.cst (.int 1000))]))] [], .rt (.ife (.cmp .Eq (.slot 0) (.cst (.int 6))) (.call "room" [(.slot 1), (.cst .non), (.cst .non), (.cst (.int 1000))]) (.call "parted" [(.slot 1), (.cst .non), (.cst .non), (.cst .non), (.cst .non), (.cst (.int 1000))]))] [],
  .ite (.cmp .Lt (.slot 0) (.cst (.int 12))) [.ite (.cmp .Lt (.slot 0) (.cst (.int 10))) [.rt (.ife (.cmp .Eq (.slot 0) (.cst (.int 8))) (.call "paper" [(.slot 1), (.cst .non), (.cst .non), (.cst .non)]) (.call "shows" [(.slot 1), (.cst .non), (.cst .non), (.cst .non), (.cst (.int 1))]))] [], .rt (.ife (.cmp .Eq (.slot 0) (.cst (.int 10))) (.call "least" [(.slot 1), (.cst .non)]) (.call "rules_at" [(.slot 1), (.cst .non)]))] [],
  .ite (.cmp .Lt (.slot 0) (.cst (.int 14))) [.rt (.ife (.cmp .Eq (.slot 0) (.cst (.int 12))) (.call "rewritten" [(.slot 1), (.cst .non), (.cst .non)]) (.call "played" [(.slot 1), (.cst .non), (.cst .non)]))] [],
  .rt (.call "length" [(.slot 1), (.cst .non)])]⟩
def f__law_number : Fn := ⟨3, 3, [
  .rt (.and (.call "_law_whole" [(.slot 0)]) (.cmp2 .LtE .LtE (.slot 1) (.slot 0) (.slot 2)))]⟩
def f__law_kinds : Fn := ⟨0, 2, [
  .asg (.nam 0) (.dct [((.str "count"), (.cst (.str "cc"))), ((.str "list"), (.cst (.str "l"))), ((.str "fed"), (.cst (.str "w"))), ((.str "ahead"), (.cst (.str "lk"))), ((.str "each"), (.cst (.str "eck"))), ((.str "both"), (.cst (.str "bkk"))), ((.str "keep"), (.cst (.str "rck")))]),
  .for_ (.one 1) (.tup [(.cst (.str "until")), (.cst (.str "from"))]) [.asg (.sub (.slot 0) (.slot 1)) (.cst (.str "rck"))],
  .for_ (.one 1) (.tup [(.cst (.str "first")), (.cst (.str "skip"))]) [.asg (.sub (.slot 0) (.slot 1)) (.cst (.str "nk"))],
  .for_ (.one 1) (.tup [(.cst (.str "sums")), (.cst (.str "change")), (.cst (.str "runs")), (.cst (.str "again"))]) [.asg (.sub (.slot 0) (.slot 1)) (.cst (.str "k"))],
  .for_ (.one 1) (.tup [(.cst (.str "then")), (.cst (.str "turns")), (.cst (.str "merge"))]) [.asg (.sub (.slot 0) (.slot 1)) (.cst (.str "kk"))],
  .asg (.sub (.slot 0) (.cst (.str "window"))) (.cst (.str "fnnk")),
  .asg (.sub (.slot 0) (.cst (.str "cross"))) (.cst (.str "bkk")),
  .rt (.slot 0)]⟩
def f__law_part : Fn := ⟨3, 6, [
  .asg (.nam 3) (.cst (.str "abcdefghijklmnopqrstuvwxyz")),
  .asg (.nam 4) (.dct [((.str "e"), (.lst [(.cst (.str "add")), (.cst (.str "mul")), (.cst (.str "rest"))])), ((.str "b"), (.lst [(.cst (.str "add")), (.cst (.str "sub")), (.cst (.str "mul")), (.cst (.str "least")), (.cst (.str "most"))])), ((.str "f"), (.lst [(.cst (.str "sum")), (.cst (.str "least")), (.cst (.str "most"))]))]),
  .asg (.sub (.slot 4) (.cst (.str "r"))) (.lst [(.cst (.str "even")), (.cst (.str "below")), (.cst (.str "same")), (.cst (.str "parts"))]),
  .ite (.cmp .In (.slot 1) (.slot 4)) [.rt (.and (.isi (.slot 0) "str") (.cmp .In (.slot 0) (.idx (.slot 4) (.slot 1))))] [],
  .ite (.cmp .Eq (.slot 1) (.cst (.str "w"))) [.rt (.and (.isi (.slot 0) "str") (.and (.cmp2 .Lt .Lt (.cst (.int 0)) (.f1 .len (.slot 0)) (.cst (.int 5))) (.cmp .Eq (.comp (.slot 5) (.one 5) (.slot 0) (some (.cmp .NotIn (.slot 5) (.slot 3))) [5]) (.lst []))))] [],
  .ite (.cmp .Eq (.slot 1) (.cst (.str "l"))) [.rt (.call "_law_items" [(.slot 0)])] [],
  .ite (.cmp .Eq (.slot 1) (.cst (.str "k"))) [.rt (.call "_law_number" [(.slot 0), (.cst (.int 0)), (.bin .Sub (.slot 2) (.cst (.int 1)))])] [],
  .rt (.ife (.cmp .Eq (.slot 1) (.cst (.str "n"))) (.call "_law_number" [(.slot 0), (.cst (.int 1)), (.cst (.int 9))]) (.call "_law_number" [(.slot 0), (.bin .Sub (.cst (.int 0)) (.bin .Pow (.cst (.int 10)) (.cst (.int 6)))), (.bin .Pow (.cst (.int 10)) (.cst (.int 6)))]))]⟩
def f__law_good : Fn := ⟨2, 5, [
  .ite (.or (.not (.isi (.slot 0) "tuple")) (.or (.cmp .Eq (.slot 0) (.tup [])) (.or (.not (.isi (.idx (.slot 0) (.cst (.int 0))) "str")) (.cmp .NotIn (.idx (.slot 0) (.cst (.int 0))) (.call "_law_kinds" []))))) [.rt (.cst (.bl false))] [],
  .asg (.nam 2) (.idx (.call "_law_kinds" []) (.idx (.slot 0) (.cst (.int 0)))),
  .ite (.cmp .NotEq (.f1 .len (.slot 0)) (.bin .Add (.f1 .len (.slot 2)) (.cst (.int 1)))) [.rt (.cst (.bl false))] [],
  .ite (.cmp .NotEq (.comp (.cst (.int 1)) (.many [3, 4]) (.zip (.sli (.slot 0) (some (.cst (.int 1))) none) (.slot 2)) (some (.not (.call "_law_part" [(.slot 3), (.slot 4), (.slot 1)]))) [3, 4]) (.lst [])) [.rt (.cst (.bl false))] [],
  .rt (.or (.cmp .NotIn (.idx (.slot 0) (.cst (.int 0))) (.tup [(.cst (.str "each")), (.cst (.str "keep")), (.cst (.str "until")), (.cst (.str "from"))])) (.or (.cmp .NotIn (.idx (.slot 0) (.cst (.int 1))) (.tup [(.cst (.str "rest")), (.cst (.str "parts"))])) (.cmp .Gt (.idx (.slot 0) (.cst (.int 2))) (.cst (.int 0)))))]⟩
def f_law : Fn := ⟨1, 15, [
  .asg (.nam 1) (.call "_law_town" [(.slot 0)]),
  .asg (.nam 2) (.call "_law_plan" [(.slot 0), (.slot 1)]),
  .asg (.nam 3) (.lst [(.tup [(.cst (.str "count")), (.cst (.int 1))]), (.tup [(.cst (.str "count")), (.cst (.int 1)), (.cst (.bl true))]), (.tup [(.cst (.str "count")), (.bin .Add (.bin .Pow (.cst (.int 10)) (.cst (.int 6))) (.cst (.int 1))), (.cst (.int 0))]), (.tup [(.cst (.str "list")), (.lst [(.cst (.int 1))])]), (.tup [(.cst (.str "list")), (.bin .Mult (.tup [(.cst (.int 1))]) (.cst (.int 10)))])]),
  .app (.slot 3) (.tup [(.cst (.str "list")), (.tup [(.cst (.str "a"))])]),
  .asg (.nam 3) (.bin .Add (.slot 3) (.lst [(.tup [(.cst (.str "fed")), (.cst (.str "abcde"))]), (.tup [(.cst (.str "fed")), (.cst (.str ""))]), (.tup [(.cst (.str "fed")), (.cst (.str "A"))]), (.tup [(.cst (.str "each")), (.cst (.str "sub")), (.cst (.int 1)), (.cst (.int 0))]), (.tup [(.cst (.str "each")), (.cst (.str "rest")), (.cst (.int 0)), (.cst (.int 0))])])),
  .app (.slot 3) (.tup [(.cst (.str "keep")), (.cst (.str "parts")), (.cst (.int 0)), (.cst (.int 1))]),
  .asg (.nam 3) (.bin .Add (.slot 3) (.lst [(.tup [(.cst (.str "first")), (.cst (.int 0)), (.cst (.int 0))]), (.tup [(.cst (.str "first")), (.cst (.int 10)), (.cst (.int 0))]), (.tup [(.cst (.str "skip")), (.cst (.int 1)), (.cst (.int 99))]), (.tup [(.cst (.str "sums")), (.neg (.cst (.int 1)))]), (.tup [(.cst (.str "sums")), (.cst (.bl true))]), (.tup [(.cst (.str "then")), (.cst (.int 0))])])),
  .app (.slot 3) (.tup [(.cst (.str "none")), (.cst (.int 0))]),
  .asg (.nam 3) (.bin .Add (.slot 3) (.lst [(.tup [(.cst (.str "window")), (.cst (.str "add")), (.cst (.int 1)), (.cst (.int 1)), (.cst (.int 0))]), (.tup [(.cst (.str "window")), (.cst (.str "sum")), (.cst (.int 1)), (.cst (.int 0)), (.cst (.int 0))]), (.lst [(.cst (.str "sums")), (.cst (.int 0))]), (.cst .non), (.tup []), (.tup [(.cst (.str "again")), (.cst (.int 0))])])),
  .app (.slot 3) (.tup [(.cst (.str "both")), (.cst (.str "least")), (.cst (.int 0)), (.cst (.int 0))]),
  .asg (.nam 4) (.call "_law_draw" [(.slot 0), (.slot 1), (.f1 .len (.slot 2))]),
  .asg (.nam 5) (.bin .Add (.bin .Add (.sli (.slot 2) none (some (.slot 4))) (.tup [(.call "_law_pick" [(.slot 0), (.slot 1), (.slot 3)])])) (.sli (.slot 2) (some (.bin .Add (.slot 4) (.cst (.int 1)))) none)),
  .ite (.cmp .Eq (.call "_law_draw" [(.slot 0), (.slot 1), (.cst (.int 4))]) (.cst (.int 0))) [.asg (.nam 5) (.call "_law_pick" [(.slot 0), (.slot 1), (.lst [(.cst .non), (.f1 .list (.slot 2)), (.tup []), (.sli (.bin .Mult (.slot 2) (.cst (.int 7))) none (some (.cst (.int 13)))), (.sli (.bin .Mult (.slot 2) (.cst (.int 6))) none (some (.cst (.int 12)))), (.idx (.slot 2) (.cst (.int 0))), (.cst (.int 7))])])] [],
  .asg (.nam 6) (.and (.isi (.slot 5) "tuple") (.cmp2 .Lt .Lt (.cst (.int 0)) (.f1 .len (.slot 5)) (.cst (.int 13)))),
  .ite (.slot 6) [.asg (.nam 6) (.cmp .Eq (.comp (.slot 11) (.one 11) (.slot 5) (some (.not (.call "_law_good" [(.slot 11), (.f1 .len (.slot 5))]))) [11]) (.lst []))] [],
  .ite (.or (.cmp .NotEq (.cmp .Is (.call "is_plan" [(.slot 5)]) (.cst (.bl true))) (.slot 6)) (.cmp .Eq (.cmp .Is (.call "is_plan" [(.slot 5)]) (.cst (.bl false))) (.slot 6))) [.rt (.cst (.bl false))] [],
  .asg (.nam 7) (.comp (.call "_law_told" [(.slot 12), (.slot 5)]) (.one 12) (.rng (.cst (.int 0)) (.cst (.int 15)) (.cst (.int 1))) none [12]),
  .ite (.not (.slot 6)) [.rt (.cmp .Eq (.slot 7) (.bin .Mult (.lst [(.call "_law_refused" [(.cst (.str "plan"))])]) (.cst (.int 15))))] [],
  .asg (.nam 8) (.bin .Mult (.lst [(.call "_law_refused" [(.cst (.str "node"))])]) (.cst (.int 6))),
  .ite (.or (.cmp .NotEq (.idx (.idx (.slot 7) (.cst (.int 0))) (.cst (.int 0))) (.cst (.str "found"))) (.or (.cmp .NotEq (.idx (.slot 7) (.cst (.int 3))) (.call "_law_refused" [(.cst (.str "readers"))])) (.cmp .NotEq (.bin .Add (.bin .Add (.sli (.slot 7) (some (.cst (.int 4))) (some (.cst (.int 7)))) (.sli (.slot 7) (some (.cst (.int 7))) (some (.cst (.int 8))))) (.sli (.slot 7) (some (.cst (.int 10))) (some (.cst (.int 12))))) (.slot 8)))) [.rt (.cst (.bl false))] [],
  .ite (.cmp .NotEq (.call "sources" [(.slot 5)]) (.comp (.slot 9) (.one 9) (.rng (.cst (.int 0)) (.f1 .len (.slot 5)) (.cst (.int 1))) (some (.cmp .In (.idx (.idx (.slot 5) (.slot 9)) (.cst (.int 0))) (.tup [(.cst (.str "count")), (.cst (.str "list")), (.cst (.str "fed"))]))) [9])) [.rt (.cst (.bl false))] [],
  .for_ (.one 9) (.rng (.cst (.int 0)) (.f1 .len (.slot 5)) (.cst (.int 1))) [.asg (.nam 10) (.idx (.call "_law_kinds" []) (.idx (.idx (.slot 5) (.slot 9)) (.cst (.int 0)))), .ite (.cmp .NotEq (.call "reads" [(.slot 5), (.slot 9)]) (.f1 .sset (.comp (.slot 13) (.many [13, 14]) (.zip (.sli (.idx (.slot 5) (.slot 9)) (some (.cst (.int 1))) none) (.slot 10)) (some (.cmp .Eq (.slot 14) (.cst (.str "k")))) [13, 14]))) [.rt (.cst (.bl false))] []],
  .rt (.cst (.bl true))]⟩
end Mn
end
section
namespace Lw
open PySem PySem.Spec PyProof.Rows L2 Ms
def top (i : Nat) : Stmt := PySem.Challenge.pw_askedrows_k01_plans.main.body.getD i (.Pass ⟨0, 0, 0, 0⟩)
def n0_0 : List Str := ["k"]
def i0 : Fi := ⟨"_wall", Mn.f__wall, n0_0, ["k"], ⟨("_wall", none), "_wall", "_wall", defArgs (top 0), defBody (top 0), defScope (top 0), [], []⟩⟩
def n1_0 : List Str := ["thing", "least", "most"]
def i1 : Fi := ⟨"is_number", Mn.f_is_number, n1_0, ["thing", "least", "most"], ⟨("is_number", none), "is_number", "is_number", defArgs (top 23), defBody (top 23), defScope (top 23), [], []⟩⟩
def n2_0 : List Str := ["thing", "one"]
def i2 : Fi := ⟨"is_items", Mn.f_is_items, n2_0, ["thing"], ⟨("is_items", none), "is_items", "is_items", defArgs (top 24), defBody (top 24), defScope (top 24), [], []⟩⟩
def n3_0 : List Str := ["thing", "sign"]
def i3 : Fi := ⟨"is_word", Mn.f_is_word, n3_0, ["thing"], ⟨("is_word", none), "is_word", "is_word", defArgs (top 25), defBody (top 25), defScope (top 25), [], []⟩⟩
def n4_0 : List Str := ["thing", "kind", "many"]
def i4 : Fi := ⟨"is_part", Mn.f_is_part, n4_0, ["thing", "kind", "many"], ⟨("is_part", none), "is_part", "is_part", defArgs (top 26), defBody (top 26), defScope (top 26), [], []⟩⟩
def n5_0 : List Str := ["thing", "many", "kinds", "one", "kind"]
def i5 : Fi := ⟨"is_node", Mn.f_is_node, n5_0, ["thing", "many"], ⟨("is_node", none), "is_node", "is_node", defArgs (top 27), defBody (top 27), defScope (top 27), [], []⟩⟩
def n6_0 : List Str := ["thing", "node"]
def i6 : Fi := ⟨"is_plan", Mn.f_is_plan, n6_0, ["thing"], ⟨("is_plan", none), "is_plan", "is_plan", defArgs (top 28), defBody (top 28), defScope (top 28), [], []⟩⟩
def n7_0 : List Str := ["plan"]
def i7 : Fi := ⟨"look_plan", Mn.f_look_plan, n7_0, ["plan"], ⟨("look_plan", none), "look_plan", "look_plan", defArgs (top 29), defBody (top 29), defScope (top 29), [], []⟩⟩
def n8_0 : List Str := ["plan", "node"]
def i8 : Fi := ⟨"look_node", Mn.f_look_node, n8_0, ["plan", "node"], ⟨("look_node", none), "look_node", "look_node", defArgs (top 30), defBody (top 30), defScope (top 30), [], []⟩⟩
def n9_0 : List Str := ["node", "one", "kind"]
def i9 : Fi := ⟨"inputs_of", Mn.f_inputs_of, n9_0, ["node"], ⟨("inputs_of", none), "inputs_of", "inputs_of", defArgs (top 31), defBody (top 31), defScope (top 31), [], []⟩⟩
def n10_0 : List Str := ["plan", "at", "node"]
def i10 : Fi := ⟨"sources_of", Mn.f_sources_of, n10_0, ["plan"], ⟨("sources_of", none), "sources_of", "sources_of", defArgs (top 32), defBody (top 32), defScope (top 32), [], []⟩⟩
def n11_0 : List Str := ["plan"]
def i11 : Fi := ⟨"sources", Mn.f_sources, n11_0, ["plan"], ⟨("sources", none), "sources", "sources", defArgs (top 33), defBody (top 33), defScope (top 33), [], []⟩⟩
def n12_0 : List Str := ["plan", "node"]
def i12 : Fi := ⟨"reads", Mn.f_reads, n12_0, ["plan", "node"], ⟨("reads", none), "reads", "reads", defArgs (top 34), defBody (top 34), defScope (top 34), [], []⟩⟩
def n13_0 : List Str := ["part", "one"]
def i13 : Fi := ⟨"part_text", Mn.f_part_text, n13_0, ["part"], ⟨("part_text", none), "part_text", "part_text", defArgs (top 35), defBody (top 35), defScope (top 35), [], []⟩⟩
def n14_0 : List Str := ["plan", "node", "part"]
def i14 : Fi := ⟨"plan_text", Mn.f_plan_text, n14_0, ["plan"], ⟨("plan_text", none), "plan_text", "plan_text", defArgs (top 36), defBody (top 36), defScope (top 36), [], []⟩⟩
def n15_0 : List Str := ["self"]
def i15 : Fi := ⟨"Cell.__init__", Mn.f_Cell___init__, n15_0, ["self"], ⟨("Cell", some "__init__"), "__init__", "Cell.__init__", defArgs (inClass (top 39) 0), defBody (inClass (top 39) 0), defScope (inClass (top 39) 0), [], []⟩⟩
def n16_0 : List Str := ["self"]
def i16 : Fi := ⟨"Cell.twin", Mn.f_Cell_twin, n16_0, ["self"], ⟨("Cell", some "twin"), "twin", "Cell.twin", defArgs (inClass (top 39) 1), defBody (inClass (top 39) 1), defScope (inClass (top 39) 1), [], []⟩⟩
def n17_0 : List Str := ["plan", "readers", "found", "at", "one"]
def i17 : Fi := ⟨"live_nodes", Mn.f_live_nodes, n17_0, ["plan", "readers"], ⟨("live_nodes", none), "live_nodes", "live_nodes", defArgs (top 40), defBody (top 40), defScope (top 40), [], []⟩⟩
def n18_0 : List Str := ["plan", "readers", "one"]
def i18 : Fi := ⟨"look_readers", Mn.f_look_readers, n18_0, ["plan", "readers"], ⟨("look_readers", none), "look_readers", "look_readers", defArgs (top 41), defBody (top 41), defScope (top 41), [], []⟩⟩
def n19_0 : List Str := ["number"]
def i19 : Fi := ⟨"reckoned", Mn.f_reckoned, n19_0, ["number"], ⟨("reckoned", none), "reckoned", "reckoned", defArgs (top 44), defBody (top 44), defScope (top 44), [], []⟩⟩
def n20_0 : List Str := ["op", "number", "item"]
def i20 : Fi := ⟨"each_of", Mn.f_each_of, n20_0, ["op", "number", "item"], ⟨("each_of", none), "each_of", "each_of", defArgs (top 45), defBody (top 45), defScope (top 45), [], []⟩⟩
def n21_0 : List Str := ["op", "one", "other"]
def i21 : Fi := ⟨"both_of", Mn.f_both_of, n21_0, ["op", "one", "other"], ⟨("both_of", none), "both_of", "both_of", defArgs (top 46), defBody (top 46), defScope (top 46), [], []⟩⟩
def n22_0 : List Str := ["fold", "items"]
def i22 : Fi := ⟨"fold_of", Mn.f_fold_of, n22_0, ["fold", "items"], ⟨("fold_of", none), "fold_of", "fold_of", defArgs (top 47), defBody (top 47), defScope (top 47), [], []⟩⟩
def n23_0 : List Str := ["rule", "number", "item"]
def i23 : Fi := ⟨"holds", Mn.f_holds, n23_0, ["rule", "number", "item"], ⟨("holds", none), "holds", "holds", defArgs (top 48), defBody (top 48), defScope (top 48), [], []⟩⟩
def n24_0 : List Str := ["self", "plan", "readers", "node", "at", "one"]
def i24 : Fi := ⟨"Web.__init__", Mn.f_Web___init__, n24_0, ["self", "plan", "readers"], ⟨("Web", some "__init__"), "__init__", "Web.__init__", defArgs (inClass (top 53) 0), defBody (inClass (top 53) 0), defScope (inClass (top 53) 0), [], []⟩⟩
def n25_0 : List Str := ["self"]
def i25 : Fi := ⟨"Web.__len__", Mn.f_Web___len__, n25_0, ["self"], ⟨("Web", some "__len__"), "__len__", "Web.__len__", defArgs (inClass (top 53) 1), defBody (inClass (top 53) 1), defScope (inClass (top 53) 1), [], []⟩⟩
def n26_0 : List Str := ["self", "node", "index", "cell", "found"]
def i26 : Fi := ⟨"Web.item_at", Mn.f_Web_item_at, n26_0, ["self", "node", "index"], ⟨("Web", some "item_at"), "item_at", "Web.item_at", defArgs (inClass (top 53) 2), defBody (inClass (top 53) 2), defScope (inClass (top 53) 2), [], []⟩⟩
def n27_0 : List Str := ["self", "node", "way", "least", "found"]
def i27 : Fi := ⟨"Web.tell", Mn.f_Web_tell, n27_0, ["self", "node"], ⟨("Web", some "tell"), "tell", "Web.tell", defArgs (inClass (top 53) 3), defBody (inClass (top 53) 3), defScope (inClass (top 53) 3), [], []⟩⟩
def n28_0 : List Str := ["self", "node", "item", "passes", "cell", "slot", "many"]
def i28 : Fi := ⟨"Web.give", Mn.f_Web_give, n28_0, ["self", "node", "item", "passes"], ⟨("Web", some "give"), "give", "Web.give", defArgs (inClass (top 53) 4), defBody (inClass (top 53) 4), defScope (inClass (top 53) 4), [], []⟩⟩
def n29_0 : List Str := ["self", "node"]
def i29 : Fi := ⟨"Web.over", Mn.f_Web_over, n29_0, ["self", "node"], ⟨("Web", some "over"), "over", "Web.over", defArgs (inClass (top 53) 5), defBody (inClass (top 53) 5), defScope (inClass (top 53) 5), [], []⟩⟩
def n30_0 : List Str := ["self", "node", "slot", "more"]
def i30 : Fi := ⟨"Web.read", Mn.f_Web_read, n30_0, ["self", "node", "slot", "more"], ⟨("Web", some "read"), "read", "Web.read", defArgs (inClass (top 53) 6), defBody (inClass (top 53) 6), defScope (inClass (top 53) 6), [.int 0], []⟩⟩
def n31_0 : List Str := ["self", "node", "found"]
def i31 : Fi := ⟨"Web.stop", Mn.f_Web_stop, n31_0, ["self", "node", "found"], ⟨("Web", some "stop"), "stop", "Web.stop", defArgs (inClass (top 53) 7), defBody (inClass (top 53) 7), defScope (inClass (top 53) 7), [], []⟩⟩
def n32_0 : List Str := ["self", "node", "op"]
def i32 : Fi := ⟨"Web.next_of", Mn.f_Web_next_of, n32_0, ["self", "node"], ⟨("Web", some "next_of"), "next_of", "Web.next_of", defArgs (inClass (top 53) 8), defBody (inClass (top 53) 8), defScope (inClass (top 53) 8), [], []⟩⟩
def n33_0 : List Str := ["self", "node", "cell", "row", "at"]
def i33 : Fi := ⟨"Web.source", Mn.f_Web_source, n33_0, ["self", "node"], ⟨("Web", some "source"), "source", "Web.source", defArgs (inClass (top 53) 9), defBody (inClass (top 53) 9), defScope (inClass (top 53) 9), [], []⟩⟩
def n34_0 : List Str := ["self", "node", "row", "cell", "found", "item", "other"]
def i34 : Fi := ⟨"Web.simple", Mn.f_Web_simple, n34_0, ["self", "node"], ⟨("Web", some "simple"), "simple", "Web.simple", defArgs (inClass (top 53) 10), defBody (inClass (top 53) 10), defScope (inClass (top 53) 10), [], []⟩⟩
def n35_0 : List Str := ["self", "node", "row", "cell", "found", "good"]
def i35 : Fi := ⟨"Web.sieve", Mn.f_Web_sieve, n35_0, ["self", "node"], ⟨("Web", some "sieve"), "sieve", "Web.sieve", defArgs (inClass (top 53) 11), defBody (inClass (top 53) 11), defScope (inClass (top 53) 11), [], []⟩⟩
def n36_0 : List Str := ["self", "node", "row", "cell", "found"]
def i36 : Fi := ⟨"Web.side", Mn.f_Web_side, n36_0, ["self", "node"], ⟨("Web", some "side"), "side", "Web.side", defArgs (inClass (top 53) 12), defBody (inClass (top 53) 12), defScope (inClass (top 53) 12), [], []⟩⟩
def n37_0 : List Str := ["self", "node", "item", "found"]
def i37 : Fi := ⟨"Web.told_change", Mn.f_Web_told_change, n37_0, ["self", "node", "item"], ⟨("Web", some "told_change"), "told_change", "Web.told_change", defArgs (inClass (top 53) 13), defBody (inClass (top 53) 13), defScope (inClass (top 53) 13), [], []⟩⟩
def n38_0 : List Str := ["self", "node", "cell", "found"]
def i38 : Fi := ⟨"Web.told_run", Mn.f_Web_told_run, n38_0, ["self", "node"], ⟨("Web", some "told_run"), "told_run", "Web.told_run", defArgs (inClass (top 53) 14), defBody (inClass (top 53) 14), defScope (inClass (top 53) 14), [], []⟩⟩
def n39_0 : List Str := ["self", "node", "op", "cell", "slot", "found", "told"]
def i39 : Fi := ⟨"Web.joined", Mn.f_Web_joined, n39_0, ["self", "node"], ⟨("Web", some "joined"), "joined", "Web.joined", defArgs (inClass (top 53) 15), defBody (inClass (top 53) 15), defScope (inClass (top 53) 15), [], []⟩⟩
def n40_0 : List Str := ["self", "node", "one", "other"]
def i40 : Fi := ⟨"Web.merged", Mn.f_Web_merged, n40_0, ["self", "node"], ⟨("Web", some "merged"), "merged", "Web.merged", defArgs (inClass (top 53) 16), defBody (inClass (top 53) 16), defScope (inClass (top 53) 16), [], []⟩⟩
def n41_0 : List Str := ["self", "node", "op", "fold", "many", "step", "k", "cell", "found", "items", "told"]
def i41 : Fi := ⟨"Web.window", Mn.f_Web_window, n41_0, ["self", "node"], ⟨("Web", some "window"), "window", "Web.window", defArgs (inClass (top 53) 17), defBody (inClass (top 53) 17), defScope (inClass (top 53) 17), [], []⟩⟩
def n42_0 : List Str := ["self", "node", "op", "name", "k", "j", "cell", "ones", "others", "one", "other", "told"]
def i42 : Fi := ⟨"Web.cross", Mn.f_Web_cross, n42_0, ["self", "node"], ⟨("Web", some "cross"), "cross", "Web.cross", defArgs (inClass (top 53) 18), defBody (inClass (top 53) 18), defScope (inClass (top 53) 18), [], []⟩⟩
def n43_0 : List Str := ["self", "cell"]
def i43 : Fi := ⟨"Web.step_cross", Mn.f_Web_step_cross, n43_0, ["self", "cell"], ⟨("Web", some "step_cross"), "step_cross", "Web.step_cross", defArgs (inClass (top 53) 19), defBody (inClass (top 53) 19), defScope (inClass (top 53) 19), [], []⟩⟩
def n44_0 : List Str := ["self", "node", "cell", "found", "told"]
def i44 : Fi := ⟨"Web.again", Mn.f_Web_again, n44_0, ["self", "node"], ⟨("Web", some "again"), "again", "Web.again", defArgs (inClass (top 53) 20), defBody (inClass (top 53) 20), defScope (inClass (top 53) 20), [], []⟩⟩
def n45_0 : List Str := ["self", "reader"]
def i45 : Fi := ⟨"Web.look_reader", Mn.f_Web_look_reader, n45_0, ["self", "reader"], ⟨("Web", some "look_reader"), "look_reader", "Web.look_reader", defArgs (inClass (top 53) 21), defBody (inClass (top 53) 21), defScope (inClass (top 53) 21), [], []⟩⟩
def n46_0 : List Str := ["self", "reader", "most", "found"]
def i46 : Fi := ⟨"Web.ask", Mn.f_Web_ask, n46_0, ["self", "reader", "most"], ⟨("Web", some "ask"), "ask", "Web.ask", defArgs (inClass (top 53) 22), defBody (inClass (top 53) 22), defScope (inClass (top 53) 22), [], [("most", .int 1000)]⟩⟩
def n47_0 : List Str := ["self", "word"]
def i47 : Fi := ⟨"Web.look_word", Mn.f_Web_look_word, n47_0, ["self", "word"], ⟨("Web", some "look_word"), "look_word", "Web.look_word", defArgs (inClass (top 53) 23), defBody (inClass (top 53) 23), defScope (inClass (top 53) 23), [], []⟩⟩
def n48_0 : List Str := ["self", "word", "numbers", "one"]
def i48 : Fi := ⟨"Web.feed", Mn.f_Web_feed, n48_0, ["self", "word", "numbers"], ⟨("Web", some "feed"), "feed", "Web.feed", defArgs (inClass (top 53) 24), defBody (inClass (top 53) 24), defScope (inClass (top 53) 24), [], []⟩⟩
def n49_0 : List Str := ["self", "word"]
def i49 : Fi := ⟨"Web.close", Mn.f_Web_close, n49_0, ["self", "word"], ⟨("Web", some "close"), "close", "Web.close", defArgs (inClass (top 53) 25), defBody (inClass (top 53) 25), defScope (inClass (top 53) 25), [], []⟩⟩
def n50_0 : List Str := ["self", "node"]
def i50 : Fi := ⟨"Web.asked", Mn.f_Web_asked, n50_0, ["self", "node"], ⟨("Web", some "asked"), "asked", "Web.asked", defArgs (inClass (top 53) 26), defBody (inClass (top 53) 26), defScope (inClass (top 53) 26), [], []⟩⟩
def n51_0 : List Str := ["self", "node", "some", "reader", "slot", "one", "place"]
def i51 : Fi := ⟨"Web.kept_of", Mn.f_Web_kept_of, n51_0, ["self", "node"], ⟨("Web", some "kept_of"), "kept_of", "Web.kept_of", defArgs (inClass (top 53) 27), defBody (inClass (top 53) 27), defScope (inClass (top 53) 27), [], []⟩⟩
def n52_0 : List Str := ["self", "node"]
def i52 : Fi := ⟨"Web.kept", Mn.f_Web_kept, n52_0, ["self"], ⟨("Web", some "kept"), "kept", "Web.kept", defArgs (inClass (top 53) 28), defBody (inClass (top 53) 28), defScope (inClass (top 53) 28), [], []⟩⟩
def n53_0 : List Str := ["self"]
def i53 : Fi := ⟨"Web.most_kept", Mn.f_Web_most_kept, n53_0, ["self"], ⟨("Web", some "most_kept"), "most_kept", "Web.most_kept", defArgs (inClass (top 53) 29), defBody (inClass (top 53) 29), defScope (inClass (top 53) 29), [], []⟩⟩
def n54_0 : List Str := ["self"]
def i54 : Fi := ⟨"Web.places", Mn.f_Web_places, n54_0, ["self"], ⟨("Web", some "places"), "places", "Web.places", defArgs (inClass (top 53) 30), defBody (inClass (top 53) 30), defScope (inClass (top 53) 30), [], []⟩⟩
def n55_0 : List Str := ["self"]
def i55 : Fi := ⟨"Web.twin", Mn.f_Web_twin, n55_0, ["self"], ⟨("Web", some "twin"), "twin", "Web.twin", defArgs (inClass (top 53) 31), defBody (inClass (top 53) 31), defScope (inClass (top 53) 31), [], []⟩⟩
def n56_0 : List Str := ["many", "most"]
def i56 : Fi := ⟨"look_many", Mn.f_look_many, n56_0, ["many", "most"], ⟨("look_many", none), "look_many", "look_many", defArgs (top 56), defBody (top 56), defScope (top 56), [], []⟩⟩
def n57_0 : List Str := ["plan", "node", "many", "most", "web", "items", "found"]
def i57 : Fi := ⟨"begun", Mn.f_begun, n57_0, ["plan", "node", "many", "most"], ⟨("begun", none), "begun", "begun", defArgs (top 57), defBody (top 57), defScope (top 57), [], []⟩⟩
def n58_0 : List Str := ["plan", "node", "many", "most", "web", "items", "word"]
def i58 : Fi := ⟨"firsts", Mn.f_firsts, n58_0, ["plan", "node", "many", "most"], ⟨("firsts", none), "firsts", "firsts", defArgs (top 58), defBody (top 58), defScope (top 58), [], [("most", .int 1000)]⟩⟩
def n59_0 : List Str := ["plan", "node", "many", "most", "web", "items", "word", "source"]
def i59 : Fi := ⟨"needed", Mn.f_needed, n59_0, ["plan", "node", "many", "most"], ⟨("needed", none), "needed", "needed", defArgs (top 59), defBody (top 59), defScope (top 59), [], [("most", .int 1000)]⟩⟩
def n60_0 : List Str := ["plan", "node", "many", "most", "web", "items", "word"]
def i60 : Fi := ⟨"room", Mn.f_room, n60_0, ["plan", "node", "many", "most"], ⟨("room", none), "room", "room", defArgs (top 60), defBody (top 60), defScope (top 60), [], [("most", .int 1000)]⟩⟩
def n61_0 : List Str := ["thing"]
def i61 : Fi := ⟨"is_call", Mn.f_is_call, n61_0, ["thing"], ⟨("is_call", none), "is_call", "is_call", defArgs (top 63), defBody (top 63), defScope (top 63), [], []⟩⟩
def n62_0 : List Str := ["history", "one"]
def i62 : Fi := ⟨"look_history", Mn.f_look_history, n62_0, ["history"], ⟨("look_history", none), "look_history", "look_history", defArgs (top 64), defBody (top 64), defScope (top 64), [], []⟩⟩
def n63_0 : List Str := ["web", "call"]
def i63 : Fi := ⟨"done", Mn.f_done, n63_0, ["web", "call"], ⟨("done", none), "done", "done", defArgs (top 65), defBody (top 65), defScope (top 65), [], []⟩⟩
def n64_0 : List Str := ["plan", "readers", "history", "web", "found", "call"]
def i64 : Fi := ⟨"played", Mn.f_played, n64_0, ["plan", "readers", "history"], ⟨("played", none), "played", "played", defArgs (top 66), defBody (top 66), defScope (top 66), [], []⟩⟩
def n65_0 : List Str := ["one", "other"]
def i65 : Fi := ⟨"least_of", Mn.f_least_of, n65_0, ["one", "other"], ⟨("least_of", none), "least_of", "least_of", defArgs (top 69), defBody (top 69), defScope (top 69), [], []⟩⟩
def n66_0 : List Str := ["one", "other"]
def i66 : Fi := ⟨"sum_of", Mn.f_sum_of, n66_0, ["one", "other"], ⟨("sum_of", none), "sum_of", "sum_of", defArgs (top 70), defBody (top 70), defScope (top 70), [], []⟩⟩
def n67_0 : List Str := ["op", "one", "other"]
def i67 : Fi := ⟨"of_two", Mn.f_of_two, n67_0, ["op", "one", "other"], ⟨("of_two", none), "of_two", "of_two", defArgs (top 71), defBody (top 71), defScope (top 71), [], []⟩⟩
def n68_0 : List Str := ["row", "one", "op"]
def i68 : Fi := ⟨"of_one", Mn.f_of_one, n68_0, ["row", "one"], ⟨("of_one", none), "of_one", "of_one", defArgs (top 72), defBody (top 72), defScope (top 72), [], []⟩⟩
def n69_0 : List Str := ["plan", "node", "above", "row", "found", "one"]
def i69 : Fi := ⟨"length_of", Mn.f_length_of, n69_0, ["plan", "node", "above"], ⟨("length_of", none), "length_of", "length_of", defArgs (top 73), defBody (top 73), defScope (top 73), [], []⟩⟩
def n70_0 : List Str := ["plan", "node"]
def i70 : Fi := ⟨"length", Mn.f_length, n70_0, ["plan", "node"], ⟨("length", none), "length", "length", defArgs (top 74), defBody (top 74), defScope (top 74), [], []⟩⟩
def n71_0 : List Str := ["node", "one", "kind"]
def i71 : Fi := ⟨"shape_of", Mn.f_shape_of, n71_0, ["node"], ⟨("shape_of", none), "shape_of", "shape_of", defArgs (top 76), defBody (top 76), defScope (top 76), [], []⟩⟩
def n72_0 : List Str := ["plan", "node", "other", "other_node", "found", "at", "one", "two", "more", "k", "pair"]
def i72 : Fi := ⟨"pairs_of", Mn.f_pairs_of, n72_0, ["plan", "node", "other", "other_node"], ⟨("pairs_of", none), "pairs_of", "pairs_of", defArgs (top 77), defBody (top 77), defScope (top 77), [], []⟩⟩
def n73_0 : List Str := ["plan", "node", "other", "other_node"]
def i73 : Fi := ⟨"look_both", Mn.f_look_both, n73_0, ["plan", "node", "other", "other_node"], ⟨("look_both", none), "look_both", "look_both", defArgs (top 78), defBody (top 78), defScope (top 78), [], []⟩⟩
def n74_0 : List Str := ["plan", "node", "other", "other_node"]
def i74 : Fi := ⟨"paper", Mn.f_paper, n74_0, ["plan", "node", "other", "other_node"], ⟨("paper", none), "paper", "paper", defArgs (top 79), defBody (top 79), defScope (top 79), [], []⟩⟩
def n75_0 : List Str := ["thing", "plan", "other"]
def i75 : Fi := ⟨"is_pair", Mn.f_is_pair, n75_0, ["thing", "plan", "other"], ⟨("is_pair", none), "is_pair", "is_pair", defArgs (top 80), defBody (top 80), defScope (top 80), [], []⟩⟩
def n76_0 : List Str := ["plan", "node", "other", "other_node", "thing", "one", "two", "pair"]
def i76 : Fi := ⟨"shows", Mn.f_shows, n76_0, ["plan", "node", "other", "other_node", "thing"], ⟨("shows", none), "shows", "shows", defArgs (top 81), defBody (top 81), defScope (top 81), [], []⟩⟩
def n77_0 : List Str := ["plan", "nodes", "found", "left", "node"]
def i77 : Fi := ⟨"reached", Mn.f_reached, n77_0, ["plan", "nodes"], ⟨("reached", none), "reached", "reached", defArgs (top 82), defBody (top 82), defScope (top 82), [], []⟩⟩
def n78_0 : List Str := ["node", "numbers", "parts", "one", "kind"]
def i78 : Fi := ⟨"moved", Mn.f_moved, n78_0, ["node", "numbers"], ⟨("moved", none), "moved", "moved", defArgs (top 83), defBody (top 83), defScope (top 83), [], []⟩⟩
def n79_0 : List Str := ["plan", "nodes", "node", "kept", "numbers", "akin", "at", "one"]
def i79 : Fi := ⟨"least", Mn.f_least, n79_0, ["plan", "nodes"], ⟨("least", none), "least", "least", defArgs (top 84), defBody (top 84), defScope (top 84), [], []⟩⟩
def n80_0 : List Str := ["plan", "node", "other", "other_node", "many", "most", "web", "ones", "word", "others", "other_word", "unlike"]
def n80_1 : List Str := ["at", "pair"]
def i80 : Fi := ⟨"parted", Mn.f_parted, n80_0 ++ n80_1, ["plan", "node", "other", "other_node", "many", "most"], ⟨("parted", none), "parted", "parted", defArgs (top 86), defBody (top 86), defScope (top 86), [], [("most", .int 1000)]⟩⟩
def n81_0 : List Str := ["node", "items", "found", "item"]
def i81 : Fi := ⟨"listed", Mn.f_listed, n81_0, ["node", "items"], ⟨("listed", none), "listed", "listed", defArgs (top 88), defBody (top 88), defScope (top 88), [], []⟩⟩
def n82_0 : List Str := ["plan", "node", "one", "inputs", "found", "two"]
def i82 : Fi := ⟨"all_rules", Mn.f_all_rules, n82_0, ["plan", "node"], ⟨("all_rules", none), "all_rules", "all_rules", defArgs (top 89), defBody (top 89), defScope (top 89), [], []⟩⟩
def n83_0 : List Str := ["plan", "node"]
def i83 : Fi := ⟨"rules_at", Mn.f_rules_at, n83_0, ["plan", "node"], ⟨("rules_at", none), "rules_at", "rules_at", defArgs (top 90), defBody (top 90), defScope (top 90), [], []⟩⟩
def n84_0 : List Str := ["plan", "node", "rule", "found"]
def i84 : Fi := ⟨"rewritten", Mn.f_rewritten, n84_0, ["plan", "node", "rule"], ⟨("rewritten", none), "rewritten", "rewritten", defArgs (top 91), defBody (top 91), defScope (top 91), [], []⟩⟩
def n85_0 : List Str := ["_law_script"]
def i85 : Fi := ⟨"_law_town", Mn.f__law_town, n85_0, ["_law_script"], ⟨("_law_town", none), "_law_town", "_law_town", defArgs (top 93), defBody (top 93), defScope (top 93), [], []⟩⟩
def n86_0 : List Str := ["_law_script", "_law_town_here", "_law_many", "_law_at", "_law_left", "_law_number_here"]
def i86 : Fi := ⟨"_law_draw", Mn.f__law_draw, n86_0, ["_law_script", "_law_town_here", "_law_many"], ⟨("_law_draw", none), "_law_draw", "_law_draw", defArgs (top 94), defBody (top 94), defScope (top 94), [], []⟩⟩
def n87_0 : List Str := ["_law_script", "_law_town_here", "_law_some"]
def i87 : Fi := ⟨"_law_pick", Mn.f__law_pick, n87_0, ["_law_script", "_law_town_here", "_law_some"], ⟨("_law_pick", none), "_law_pick", "_law_pick", defArgs (top 95), defBody (top 95), defScope (top 95), [], []⟩⟩
def n88_0 : List Str := ["_law_thing"]
def i88 : Fi := ⟨"_law_whole", Mn.f__law_whole, n88_0, ["_law_thing"], ⟨("_law_whole", none), "_law_whole", "_law_whole", defArgs (top 96), defBody (top 96), defScope (top 96), [], []⟩⟩
def n89_0 : List Str := ["_law_caught", "_law_kinds_here"]
def i89 : Fi := ⟨"_law_word", Mn.f__law_word, n89_0, ["_law_caught"], ⟨("_law_word", none), "_law_word", "_law_word", defArgs (top 97), defBody (top 97), defScope (top 97), [], []⟩⟩
def n90_0 : List Str := ["_law_word_here", "_law_words"]
def i90 : Fi := ⟨"_law_refused", Mn.f__law_refused, n90_0, ["_law_word_here"], ⟨("_law_refused", none), "_law_refused", "_law_refused", defArgs (top 98), defBody (top 98), defScope (top 98), [], []⟩⟩
def n91_0 : List Str := ["_law_way", "_law_some", "_law_caught", "_law_found", "e"]
def i91 : Fi := ⟨"_law_told", Mn.f__law_told, n91_0, ["_law_way", "_law_some"], ⟨("_law_told", none), "_law_told", "_law_told", defArgs (top 99), defBody (top 99), defScope (top 99), [], []⟩⟩
def n92_0 : List Str := ["_law_script", "_law_town_here", "_law_many", "_law_source", "_law_k", "_law_j", "_law_n", "_law_m", "_law_c", "_law_items_here", "_law_both", "_law_rule"]
def n92_1 : List Str := ["_law_way", "_law_some", "_law_fold", "_law_time"]
def i92 : Fi := ⟨"_law_node", Mn.f__law_node, n92_0 ++ n92_1, ["_law_script", "_law_town_here", "_law_many", "_law_source"], ⟨("_law_node", none), "_law_node", "_law_node", defArgs (top 100), defBody (top 100), defScope (top 100), [], []⟩⟩
def n93_0 : List Str := ["_law_script", "_law_town_here", "_law_many", "_law_found", "_law_at", "_law_node_here"]
def i93 : Fi := ⟨"_law_plan", Mn.f__law_plan, n93_0, ["_law_script", "_law_town_here"], ⟨("_law_plan", none), "_law_plan", "_law_plan", defArgs (top 101), defBody (top 101), defScope (top 101), [], []⟩⟩
def n94_0 : List Str := ["_law_thing", "_law_one_here"]
def i94 : Fi := ⟨"_law_items", Mn.f__law_items, n94_0, ["_law_thing"], ⟨("_law_items", none), "_law_items", "_law_items", defArgs (top 102), defBody (top 102), defScope (top 102), [], []⟩⟩
def n95_0 : List Str := ["_law_way", "_law_some"]
def i95 : Fi := ⟨"_law_one", Mn.f__law_one, n95_0, ["_law_way", "_law_some"], ⟨("_law_one", none), "_law_one", "_law_one", defArgs (top 103), defBody (top 103), defScope (top 103), [], []⟩⟩
def n96_0 : List Str := ["_law_thing", "_law_low", "_law_top"]
def i96 : Fi := ⟨"_law_number", Mn.f__law_number, n96_0, ["_law_thing", "_law_low", "_law_top"], ⟨("_law_number", none), "_law_number", "_law_number", defArgs (top 104), defBody (top 104), defScope (top 104), [], []⟩⟩
def n97_0 : List Str := ["_law_found", "_law_word_here"]
def i97 : Fi := ⟨"_law_kinds", Mn.f__law_kinds, n97_0, [], ⟨("_law_kinds", none), "_law_kinds", "_law_kinds", defArgs (top 105), defBody (top 105), defScope (top 105), [], []⟩⟩
def n98_0 : List Str := ["_law_thing", "_law_kind", "_law_many", "_law_small", "_law_words", "_law_sign"]
def i98 : Fi := ⟨"_law_part", Mn.f__law_part, n98_0, ["_law_thing", "_law_kind", "_law_many"], ⟨("_law_part", none), "_law_part", "_law_part", defArgs (top 106), defBody (top 106), defScope (top 106), [], []⟩⟩
def n99_0 : List Str := ["_law_thing", "_law_many", "_law_kinds_here", "_law_one_here", "_law_kind"]
def i99 : Fi := ⟨"_law_good", Mn.f__law_good, n99_0, ["_law_thing", "_law_many"], ⟨("_law_good", none), "_law_good", "_law_good", defArgs (top 107), defBody (top 107), defScope (top 107), [], []⟩⟩
def n100_0 : List Str := ["_law_script", "_law_town_here", "_law_plan_here", "_law_odd", "_law_at", "_law_thing", "_law_good_here", "_law_told_here", "_law_nodes", "_law_k", "_law_kinds_here", "_law_node_here"]
def n100_1 : List Str := ["_law_way", "_law_one_here", "_law_kind"]
def i100 : Fi := ⟨"law", Mn.f_law, n100_0 ++ n100_1, ["_law_script"], ⟨("law", none), "law", "law", defArgs (top 108), defBody (top 108), defScope (top 108), [], []⟩⟩
def fis0 : List Fi := [i0, i1, i2, i3, i4, i5, i6, i7, i8, i9, i10, i11, i12, i13, i14, i15, i16, i17, i18, i19, i20, i21, i22, i23, i24, i25, i26, i27, i28, i29, i30, i31, i32, i33, i34]
def fis1 : List Fi := [i35, i36, i37, i38, i39, i40, i41, i42, i43, i44, i45, i46, i47, i48, i49, i50, i51, i52, i53, i54, i55, i56, i57, i58, i59, i60, i61, i62, i63, i64, i65, i66, i67, i68, i69]
def fis2 : List Fi := [i70, i71, i72, i73, i74, i75, i76, i77, i78, i79, i80, i81, i82, i83, i84, i85, i86, i87, i88, i89, i90, i91, i92, i93, i94, i95, i96, i97, i98, i99, i100]
def fis : List Fi := fis0 ++ fis1 ++ fis2
def consts0 : List (Str × Mn.Val) := [("GREAT", (.int 1000000)), ("MOST_NODES", (.int 12)), ("MOST_ITEMS", (.int 9)), ("LETTERS", (.str "abcdefghijklmnopqrstuvwxyz")), ("SOURCES", (.tup [(.str "count"), (.str "list"), (.str "fed")])), ("MOST_READERS", (.int 5)), ("REST", (.int 999983)), ("MOST_TELLINGS", (.int 5000)), ("END", (.tup [(.str "end")])), ("FAR", (.tup [(.str "far")]))]
def consts1 : List (Str × Mn.Val) := [("MOST_FIRSTS", (.int 200)), ("MOST_CALLS", (.int 200)), ("UNSURE", (.tup [(.str "fed"), (.str "keep"), (.str "until"), (.str "from"), (.str "change"), (.str "runs")]))]
def consts : List (Str × Mn.Val) := consts0 ++ consts1
def dicts0 : List (Str × List (Str × Mn.Val)) := [("KINDS", [("count", (.str "cc")), ("list", (.str "l")), ("fed", (.str "w")), ("ahead", (.str "lk")), ("each", (.str "eck")), ("both", (.str "bkk")), ("keep", (.str "rck")), ("until", (.str "rck")), ("from", (.str "rck")), ("first", (.str "nk")), ("skip", (.str "nk")), ("sums", (.str "k")), ("change", (.str "k")), ("runs", (.str "k")), ("then", (.str "kk")), ("turns", (.str "kk")), ("merge", (.str "kk")), ("window", (.str "fnnk")), ("cross", (.str "bkk")), ("again", (.str "k"))]), ("WORDS", [("e", (.tup [(.str "add"), (.str "mul"), (.str "rest")])), ("b", (.tup [(.str "add"), (.str "sub"), (.str "mul"), (.str "least"), (.str "most")])), ("r", (.tup [(.str "even"), (.str "below"), (.str "same"), (.str "parts")])), ("f", (.tup [(.str "sum"), (.str "least"), (.str "most")]))])]
def dicts : List (Str × List (Str × Mn.Val)) := dicts0
def clss0 : List (Str × List Str) := [("Cell", ["row", "is_over", "spots", "turn", "number", "last", "aside", "ended"]), ("Web", ["plan", "readers", "live", "cells", "outer", "feeds", "closed", "stack", "count", "limit", "greatest", "asks"])]
def clss : List (Str × List Str) := clss0
def meths0 : List (Str × Str × Str) := [("Cell", "__init__", "Cell.__init__"), ("Cell", "twin", "Cell.twin"), ("Web", "__init__", "Web.__init__"), ("Web", "item_at", "Web.item_at"), ("Web", "tell", "Web.tell"), ("Web", "give", "Web.give"), ("Web", "over", "Web.over"), ("Web", "read", "Web.read"), ("Web", "stop", "Web.stop"), ("Web", "next_of", "Web.next_of"), ("Web", "source", "Web.source"), ("Web", "simple", "Web.simple")]
def meths1 : List (Str × Str × Str) := [("Web", "sieve", "Web.sieve"), ("Web", "side", "Web.side"), ("Web", "told_change", "Web.told_change"), ("Web", "told_run", "Web.told_run"), ("Web", "joined", "Web.joined"), ("Web", "merged", "Web.merged"), ("Web", "window", "Web.window"), ("Web", "cross", "Web.cross"), ("Web", "step_cross", "Web.step_cross"), ("Web", "again", "Web.again"), ("Web", "look_reader", "Web.look_reader"), ("Web", "ask", "Web.ask")]
def meths2 : List (Str × Str × Str) := [("Web", "look_word", "Web.look_word"), ("Web", "feed", "Web.feed"), ("Web", "close", "Web.close"), ("Web", "asked", "Web.asked"), ("Web", "kept_of", "Web.kept_of"), ("Web", "kept", "Web.kept"), ("Web", "most_kept", "Web.most_kept"), ("Web", "places", "Web.places"), ("Web", "twin", "Web.twin")]
def meths : List (Str × Str × Str) := meths0 ++ meths1 ++ meths2
def exns0 : List Str := ["RowError", "BadPlan", "BadText", "BadReaders", "BadNumber", "NoReader", "NoNode", "NoWord", "NoRule", "BadCalls", "Unsure", "BadItems"]
def exns1 : List Str := ["Closed"]
def exns : List Str := exns0 ++ exns1
def hnds0 : List Str := ["RowError"]
def hnds : List Str := hnds0
def tys0 : List (Str × String) := [("tuple", "tuple"), ("int", "int"), ("str", "str"), ("IndexError", "IndexError"), ("bool", "bool"), ("list", "list")]
def tys : List (Str × String) := tys0
def blts0 : List Str := ["all", "sorted", "isinstance", "str", "min", "max", "list", "tuple", "range", "set", "len", "enumerate"]
def blts1 : List Str := ["sum", "zip", "int"]
def blts : List Str := blts0 ++ blts1
def D : Txd := ⟨fis, consts, dicts, clss, meths, exns, hnds, tys, blts⟩
def lawAt : Nat := 108
def names0 : List PySem.Str := ["_wall", "__name__", "RowError", "BadPlan", "BadText", "BadReaders", "BadNumber", "NoReader", "NoNode", "NoWord", "NoRule", "BadCalls"]
def names1 : List PySem.Str := ["Unsure", "BadItems", "Closed", "GREAT", "MOST_NODES", "MOST_ITEMS", "LETTERS", "KINDS", "WORDS", "SOURCES", "is_number", "is_items"]
def names2 : List PySem.Str := ["is_word", "is_part", "is_node", "is_plan", "look_plan", "look_node", "inputs_of", "sources_of", "sources", "reads", "part_text", "plan_text"]
def names3 : List PySem.Str := ["MOST_READERS", "Cell", "live_nodes", "look_readers", "REST", "reckoned", "each_of", "both_of", "fold_of", "holds", "MOST_TELLINGS", "END"]
def names4 : List PySem.Str := ["FAR", "Web", "MOST_FIRSTS", "look_many", "begun", "firsts", "needed", "room", "MOST_CALLS", "is_call", "look_history", "done"]
def names5 : List PySem.Str := ["played", "UNSURE", "least_of", "sum_of", "of_two", "of_one", "length_of", "length", "shape_of", "pairs_of", "look_both", "paper"]
def names6 : List PySem.Str := ["is_pair", "shows", "reached", "moved", "least", "parted", "listed", "all_rules", "rules_at", "rewritten", "_law_town", "_law_draw"]
def names7 : List PySem.Str := ["_law_pick", "_law_whole", "_law_word", "_law_refused", "_law_told", "_law_node", "_law_plan", "_law_items", "_law_one", "_law_number", "_law_kinds", "_law_part"]
def names8 : List PySem.Str := ["_law_good"]
def names : List PySem.Str := names0 ++ names1 ++ names2 ++ names3 ++ names4 ++ names5 ++ names6 ++ names7 ++ names8
def fl : Fi := i100
theorem static : D.static = true := by decide +kernel
end Lw
end
section
namespace Lw
open PySem PySem.Spec PyProof.Rows L2 Ms
abbrev R : PySem.W.OpenRow := PySem.W.OpenLaw.row PySem.Challenge.rw_askedrows_k01_plans
abbrev hk : PySem.W.Hook := hookX D
def ob (s : PySem.W.SharedT) : AlX := obsXG D (HandSHeadRun.getT s)
theorem ob_eq (s : PySem.W.SharedT) : ob s = hk.obs s.abs := obX_eq (HandSHeadRun.getT_eq s)
theorem runF (w : World) : HandSHeadRun.RunEq R (PySem.W.view R.prog [lawAt]) hk ob 30000 names (w.withFollow "special-get-raises" false) := by
  intro os
  kernel_rfl
theorem runT (w : World) : HandSHeadRun.RunEq R (PySem.W.view R.prog [lawAt]) hk ob 30000 names (w.withFollow "special-get-raises" true) := by
  intro os
  kernel_rfl
theorem run (w : World) : HandSHeadRun.RunEq R (PySem.W.view R.prog [lawAt]) hk ob 30000 names w := PySem.W.byRow2 "special-get-raises" (P := fun w => HandSHeadRun.RunEq R (PySem.W.view R.prog [lawAt]) hk ob 30000 names w) runF runT w
end Lw
end
section
namespace Mn
open PySem
def W {α : Type} (m : M α) (s : Slots) (h : Hp) (Q : α → Slots → Hp → Prop) (X : Str → Slots → Hp → Prop) : Prop := match m s h with
  | .ok a s' h' => Q a s' h'
  | .err c s' h' => X c s' h'
  | .bad => False
section
variable {α β : Type} {s : Slots} {h : Hp} {X : Str → Slots → Hp → Prop} {G : Env}
theorem W.of_eq {m : M α} {Q : α → Slots → Hp → Prop} {a : α} {s' : Slots} {h' : Hp} (e : m s h = .ok a s' h') (q : Q a s' h') : W m s h Q X := by unfold W; rw [e]; exact q
theorem W.to_eq {m : M α} {Q : α → Slots → Hp → Prop} (w : W m s h Q fun _ _ _ => False) : ∃ a s' h', m s h = .ok a s' h' ∧ Q a s' h' := by
  unfold W at w
  split at w
  · rename_i a s' h' e
    exact ⟨a, s', h', e, w⟩
  · exact w.elim
  · exact w.elim
theorem W.mono {m : M α} {Q Q' : α → Slots → Hp → Prop} {X' : Str → Slots → Hp → Prop} (w : W m s h Q X) (q : ∀ a s h, Q a s h → Q' a s h) (x : ∀ c s h, X c s h → X' c s h) : W m s h Q' X' := by
  unfold W at w ⊢
  split
  · rename_i e; rw [e] at w; exact q _ _ _ w
  · rename_i e; rw [e] at w; exact x _ _ _ w
  · rename_i e; rw [e] at w; exact w
@[simp ↓] theorem W_bind {m : M α} {f : α → M β} {Q : β → Slots → Hp → Prop} : W (bind m f) s h Q X = W m s h (fun a s' h' => W (f a) s' h' Q X) X := by
  unfold W bind; cases m s h <;> rfl
@[simp ↓] theorem W_ret {a : α} {Q : α → Slots → Hp → Prop} : W (ret a) s h Q X = Q a s h := rfl
@[simp ↓] theorem W_bad {Q : α → Slots → Hp → Prop} : W bad s h Q X = False := rfl
@[simp ↓] theorem W_ite {c : Prop} [Decidable c] {a b : M α} {Q : α → Slots → Hp → Prop} : W (if c then a else b) s h Q X ↔ (c → W a s h Q X) ∧ (¬ c → W b s h Q X) := by
  by_cases e : c <;> simp [e]
@[simp ↓] theorem W_ofO_some {a : α} {Q : α → Slots → Hp → Prop} : W (ofO (some a)) s h Q X = Q a s h := rfl
@[simp ↓] theorem W_ofO_none {Q : α → Slots → Hp → Prop} : W (ofO none) s h Q X = False := rfl
@[simp] theorem viewV_non : viewV h .non = some (.val .non) := rfl
@[simp] theorem viewV_bl {b} : viewV h (.bl b) = some (.val (.bl b)) := rfl
@[simp] theorem viewV_int {b} : viewV h (.int b) = some (.val (.int b)) := rfl
@[simp] theorem viewV_str {b} : viewV h (.str b) = some (.val (.str b)) := rfl
@[simp] theorem viewV_tup {b} : viewV h (.tup b) = some (.val (.tup b)) := rfl
@[simp] theorem viewV_exc {b} : viewV h (.exc b) = some (.val (.exc b)) := rfl
@[simp] theorem view_v {x} : view s h (.v x) = viewV h x := rfl
@[simp] theorem view_l {x} : view s h (.l x) = some (.lst x) := rfl
@[simp] theorem view_d {x} : view s h (.d x) = some (.dic x) := rfl
theorem viewS_v {i x} (e : s[i]? = some (some (.v x))) : view s h (.sl i) = viewV h x := by simp [view, viewS, e]
@[simp] theorem view_sl {i} : view s h (.sl i) = (match s[i]? with
  | some (some (.l xs)) => some (.lst xs)
  | some (some (.d k)) => some (.dic k)
  | some (some (.v x)) => viewV h x
  | _ => none) := rfl
@[simp ↓] theorem W_viewM {b} {Q : View → Slots → Hp → Prop} : W (viewM b) s h Q X = (match view s h b with
  | some w => Q w s h
  | none => False) := by unfold W viewM; cases view s h b <;> rfl
@[simp ↓] theorem W_ldSlot {i} {Q : B → Slots → Hp → Prop} : W (ldSlot i) s h Q X = (match s[i]? with
  | some (some (.v x)) => Q (.v x) s h
  | some (some (.l _)) => Q (.sl i) s h
  | some (some (.d _)) => Q (.sl i) s h
  | _ => False) := by unfold W ldSlot; split <;> rename_i e <;> split at e <;> first | cases e; rename_i q; simp [q] | simp_all
@[simp ↓] theorem W_toVal_v {x} {Q : Val → Slots → Hp → Prop} : W (toVal (.v x)) s h Q X = Q x s h := rfl
@[simp ↓] theorem W_toVal_l {x} {Q : Val → Slots → Hp → Prop} : W (toVal (.l x)) s h Q X = Q (.ref h.length) s (h ++ [.lst x]) := rfl
@[simp ↓] theorem W_toVal_d {x} {Q : Val → Slots → Hp → Prop} : W (toVal (.d x)) s h Q X = Q (.ref h.length) s (h ++ [.dic x]) := rfl
@[simp ↓] theorem W_toVal_sl {i} {Q : Val → Slots → Hp → Prop} : W (toVal (.sl i)) s h Q X = (match s[i]? with
    | some (some (.v x)) => Q x s h
    | some (some (.l xs)) => Q (.ref h.length) (s.set i (some (.v (.ref h.length)))) (h ++ [.lst xs])
    | some (some (.d k)) => Q (.ref h.length) (s.set i (some (.v (.ref h.length)))) (h ++ [.dic k])
    | _ => False) := by unfold W toVal; dsimp only; split <;> rename_i e <;> split at e <;> first | cases e; rename_i q; simp [q] | simp_all
@[simp ↓] theorem W_toArg_v {x} {Q : B → Slots → Hp → Prop} : W (toArg (.v x)) s h Q X = Q (.v x) s h := rfl
@[simp ↓] theorem W_toArg_l {x} {Q : B → Slots → Hp → Prop} : W (toArg (.l x)) s h Q X = Q (.l x) s h := rfl
@[simp ↓] theorem W_toArg_d {x} {Q : B → Slots → Hp → Prop} : W (toArg (.d x)) s h Q X = Q (.d x) s h := rfl
@[simp ↓] theorem W_toArg_sl {i} {Q : B → Slots → Hp → Prop} : W (toArg (.sl i)) s h Q X = W (toVal (.sl i)) s h (fun x s h => Q (.v x) s h) X := by
  unfold toArg; rw [W_bind]; rfl
@[simp ↓] theorem W_toRet_v {x} {Q : B → Slots → Hp → Prop} : W (toRet (.v x)) s h Q X = Q (.v x) s h := rfl
@[simp ↓] theorem W_toRet_l {x} {Q : B → Slots → Hp → Prop} : W (toRet (.l x)) s h Q X = Q (.l x) s h := rfl
@[simp ↓] theorem W_toRet_d {x} {Q : B → Slots → Hp → Prop} : W (toRet (.d x)) s h Q X = Q (.d x) s h := rfl
@[simp ↓] theorem W_toRet_sl {i} {Q : B → Slots → Hp → Prop} : W (toRet (.sl i)) s h Q X = (match s[i]? with
    | some (some (.sl _)) => False
    | some (some b) => Q b s h
    | _ => False) := by unfold W toRet; dsimp only; split <;> rename_i e <;> split at e <;> first | cases e; rename_i q; simp_all | simp_all
@[simp ↓] theorem W_asVal_v {x} {Q : Val → Slots → Hp → Prop} : W (asVal (.v x)) s h Q X = Q x s h := rfl
@[simp ↓] theorem W_truth {b} {Q : Bool → Slots → Hp → Prop} : W (truth (.v (.bl b))) s h Q X = Q b s h := rfl
@[simp ↓] theorem W_op2 {x y} {f : View → View → M α} {Q : α → Slots → Hp → Prop} : W (op2 x y f) s h Q X = (match view s h x, view s h y with
  | some a, some b => W (f a b) s h Q X
  | _, _ => False) := by unfold W op2; cases view s h x <;> cases view s h y <;> rfl
@[simp ↓] theorem W_eq {x y} {Q : Bool → Slots → Hp → Prop} : W (cmpV .Eq x y) s h Q X = (match toDW h x, toDW h y with
    | some d, some e => Q (PyData.eqv d e) s h
    | _, _ => False) := by unfold W cmpV; dsimp only; cases toDW h x <;> cases toDW h y <;> rfl
@[simp ↓] theorem W_ne {x y} {Q : Bool → Slots → Hp → Prop} : W (cmpV .NotEq x y) s h Q X = (match toDW h x, toDW h y with
    | some d, some e => Q (!PyData.eqv d e) s h
    | _, _ => False) := by unfold W cmpV; dsimp only; cases toDW h x <;> cases toDW h y <;> rfl
@[simp ↓] theorem W_lt {i j} {Q : Bool → Slots → Hp → Prop} : W (cmpV .Lt (.val (.int i)) (.val (.int j))) s h Q X = Q (decide (i < j)) s h := rfl
@[simp ↓] theorem W_le {i j} {Q : Bool → Slots → Hp → Prop} : W (cmpV .LtE (.val (.int i)) (.val (.int j))) s h Q X = Q (decide (i ≤ j)) s h := rfl
@[simp ↓] theorem W_gt {i j} {Q : Bool → Slots → Hp → Prop} : W (cmpV .Gt (.val (.int i)) (.val (.int j))) s h Q X = Q (decide (j < i)) s h := rfl
@[simp ↓] theorem W_ge {i j} {Q : Bool → Slots → Hp → Prop} : W (cmpV .GtE (.val (.int i)) (.val (.int j))) s h Q X = Q (decide (j ≤ i)) s h := rfl
@[simp ↓] theorem W_isn {a} {Q : Bool → Slots → Hp → Prop} : W (cmpV .Is (.val a) (.val .non)) s h Q X = Q (decide (a = .non)) s h := by cases a <;> rfl
@[simp ↓] theorem W_isb {a b} {Q : Bool → Slots → Hp → Prop} : W (cmpV .Is (.val (.bl a)) (.val (.bl b))) s h Q X = Q (decide (a = b)) s h := rfl
@[simp ↓] theorem W_inL {x l} {Q : Bool → Slots → Hp → Prop} : W (cmpV .In x (.lst l)) s h Q X = (match toDW h x, mapO (toD h 59) l with
      | some d, some ds => Q (ds.any fun z => PyData.eqv z d) s h
      | _, _ => False) := by unfold W cmpV cmpV.isIn; dsimp only; cases toDW h x <;> cases mapO (toD h 59) l <;> rfl
@[simp ↓] theorem W_inT {x l} {Q : Bool → Slots → Hp → Prop} : W (cmpV .In x (.val (.tup l))) s h Q X = (match toDW h x, mapO (toD h 59) l with
      | some d, some ds => Q (ds.any fun z => PyData.eqv z d) s h
      | _, _ => False) := by unfold W cmpV cmpV.isIn; dsimp only; cases toDW h x <;> cases mapO (toD h 59) l <;> rfl
@[simp ↓] theorem W_inS {a b} {Q : Bool → Slots → Hp → Prop} : W (cmpV .In (.val (.str a)) (.val (.str b))) s h Q X = Q (isSub a b) s h := rfl
@[simp ↓] theorem W_inD {v k} {Q : Bool → Slots → Hp → Prop} : W (cmpV .In (.val v) (.dic k)) s h Q X = (match keyOf v with
        | some j => Q (lookK j k).isSome s h
        | none => False) := by unfold W cmpV cmpV.isIn; dsimp only; cases keyOf v <;> rfl
@[simp ↓] theorem W_notin {x y} {Q : Bool → Slots → Hp → Prop} : W (cmpV .NotIn x y) s h Q X = W (cmpV .In x y) s h (fun b s h => Q (!b) s h) X := by
  show W (bind (cmpV.isIn x y) (fun b => ret (!b))) s h Q X = _
  rw [W_bind]; rfl
@[simp] theorem toDW_val {x} : toDW h (.val x) = toD h 60 x := rfl
@[simp] theorem toDW_lst {l} : toDW h (.lst l) = (mapO (toD h 59) l).map .list := rfl
@[simp] theorem toD_int {n i} : toD h (n + 1) (.int i) = some (.int i) := rfl
@[simp] theorem toD_str {n i} : toD h (n + 1) (.str i) = some (.str i) := rfl
@[simp] theorem toD_non {n} : toD h (n + 1) .non = some .none := rfl
@[simp] theorem toD_bl {n i} : toD h (n + 1) (.bl i) = some (.bool i) := rfl
@[simp] theorem toD_tup {n l} : toD h (n + 1) (.tup l) = (mapO (toD h n) l).map .tuple := rfl
@[simp] theorem mapO_nil {f : α → Option β} : mapO f [] = some [] := rfl
@[simp] theorem mapO_cons {f : α → Option β} {a r} : mapO f (a :: r) = (match f a with
    | some b => (match mapO f r with
      | some bs => some (b :: bs)
      | none => none)
    | none => none) := rfl
@[simp ↓] theorem W_addI {i j} {Q : B → Slots → Hp → Prop} : W (binV .Add (.val (.int i)) (.val (.int j))) s h Q X = Q (.v (.int (i + j))) s h := rfl
@[simp ↓] theorem W_addS {a b} {Q : B → Slots → Hp → Prop} : W (binV .Add (.val (.str a)) (.val (.str b))) s h Q X = (a.length + b.length ≤ limit ∧ Q (.v (.str (a ++ b))) s h) := by
  unfold binV; dsimp only; rw [W_ite]; simp only [W_ret, W_bad]; by_cases e : a.length + b.length ≤ limit <;> simp [e]
@[simp ↓] theorem W_addT {a b} {Q : B → Slots → Hp → Prop} : W (binV .Add (.val (.tup a)) (.val (.tup b))) s h Q X = (a.length + b.length ≤ limit ∧ Q (.v (.tup (a ++ b))) s h) := by
  unfold binV; dsimp only; rw [W_ite]; simp only [W_ret, W_bad]; by_cases e : a.length + b.length ≤ limit <;> simp [e]
@[simp ↓] theorem W_addL {a b} {Q : B → Slots → Hp → Prop} : W (binV .Add (.lst a) (.lst b)) s h Q X = (a.length + b.length ≤ limit ∧ Q (.l (a ++ b)) s h) := by
  unfold binV; dsimp only; rw [W_ite]; simp only [W_ret, W_bad]; by_cases e : a.length + b.length ≤ limit <;> simp [e]
@[simp ↓] theorem W_sub {i j} {Q : B → Slots → Hp → Prop} : W (binV .Sub (.val (.int i)) (.val (.int j))) s h Q X = Q (.v (.int (i - j))) s h := rfl
@[simp ↓] theorem W_mulI {i j} {Q : B → Slots → Hp → Prop} : W (binV .Mult (.val (.int i)) (.val (.int j))) s h Q X = (mulOk i j = true ∧ Q (.v (.int (i * j))) s h) := by
  unfold binV; dsimp only; rw [W_ite]; simp only [W_ret, W_bad]; by_cases e : mulOk i j = true <;> simp [e]
@[simp ↓] theorem W_mulL {a j} {Q : B → Slots → Hp → Prop} : W (binV .Mult (.lst a) (.val (.int j))) s h Q X = ((a.length * j.toNat ≤ limit ∧ -1000 ≤ j ∧ j ≤ 1000) ∧ Q (.l (repL j.toNat a)) s h) := by
  unfold binV; dsimp only; rw [W_ite]; simp only [W_ret, W_bad]; by_cases e : a.length * j.toNat ≤ limit ∧ -1000 ≤ j ∧ j ≤ 1000 <;> simp [e]
@[simp ↓] theorem W_mulT {a j} {Q : B → Slots → Hp → Prop} : W (binV .Mult (.val (.tup a)) (.val (.int j))) s h Q X = ((a ≠ [] ∧ 1 ≤ j ∧ j ≤ 1000 ∧ a.length ≤ 1000) ∧ Q (.v (.tup (repL j.toNat a))) s h) := by
  unfold binV; dsimp only; rw [W_ite]; simp only [W_ret, W_bad]; by_cases e : a ≠ [] ∧ 1 ≤ j ∧ j ≤ 1000 ∧ a.length ≤ 1000 <;> simp [e]
@[simp ↓] theorem W_div {i j} {Q : B → Slots → Hp → Prop} : W (binV .FloorDiv (.val (.int i)) (.val (.int j))) s h Q X = ((0 < j ∧ j < 1073741824) ∧ Q (.v (.int (i / j))) s h) := by
  unfold binV; dsimp only; rw [W_ite]; simp only [W_ret, W_bad]; by_cases e : 0 < j ∧ j < 1073741824 <;> simp [e]
@[simp ↓] theorem W_mod {i j} {Q : B → Slots → Hp → Prop} : W (binV .Mod (.val (.int i)) (.val (.int j))) s h Q X = (0 < j ∧ Q (.v (.int (i % j))) s h) := by
  unfold binV; dsimp only; rw [W_ite]; simp only [W_ret, W_bad]; by_cases e : 0 < j <;> simp [e]
@[simp ↓] theorem W_pow {i j} {Q : B → Slots → Hp → Prop} : W (binV .Pow (.val (.int i)) (.val (.int j))) s h Q X = ((0 ≤ j ∧ j ≤ 1000000 ∧ i.natAbs < 2 ^ 64) ∧ Q (.v (.int (i ^ j.toNat))) s h) := by
  unfold binV; dsimp only; rw [W_ite]; simp only [W_ret, W_bad]; by_cases e : 0 ≤ j ∧ j ≤ 1000000 ∧ i.natAbs < 2 ^ 64 <;> simp [e]
@[simp ↓] theorem W_idxL {l i} {Q : B → Slots → Hp → Prop} : W (idxV (.lst l) (.val (.int i))) s h Q X = (match (ixN l.length i).bind fun j => l[j]? with
    | some v => Q (.v v) s h
    | none => False) := by unfold idxV; dsimp only; cases (ixN l.length i).bind fun j => l[j]? <;> rfl
@[simp ↓] theorem W_idxT {l i} {Q : B → Slots → Hp → Prop} : W (idxV (.val (.tup l)) (.val (.int i))) s h Q X = (match (ixN l.length i).bind fun j => l[j]? with
    | some v => Q (.v v) s h
    | none => False) := by unfold idxV; dsimp only; cases (ixN l.length i).bind fun j => l[j]? <;> rfl
@[simp ↓] theorem W_idxD {k v} {Q : B → Slots → Hp → Prop} : W (idxV (.dic k) (.val v)) s h Q X = (match (keyOf v).bind fun j => lookK j k with
    | some w => Q (.v w) s h
    | none => False) := by unfold idxV; dsimp only; cases (keyOf v).bind fun j => lookK j k <;> rfl
@[simp ↓] theorem W_sliL {l lo hi} {Q : B → Slots → Hp → Prop} : W (sliV (.lst l) lo hi) s h Q X = Q (.l (cutL l lo hi)) s h := rfl
@[simp ↓] theorem W_sliT {l lo hi} {Q : B → Slots → Hp → Prop} : W (sliV (.val (.tup l)) lo hi) s h Q X = Q (.v (.tup (cutL l lo hi))) s h := rfl
@[simp ↓] theorem W_isoI {i} {Q : Int → Slots → Hp → Prop} : W (isoI (.val (.int i))) s h Q X = Q i s h := rfl
def C (r : RC) (Q : B → Hp → Prop) (X : Str → Hp → Prop) : Prop := match r with
  | .ok b h => Q b h
  | .err c h => X c h
  | .bad => False
@[simp ↓] theorem C_ok {b h} {Q : B → Hp → Prop} {X} : C (.ok b h) Q X = Q b h := rfl
@[simp ↓] theorem C_err {b h} {Q : B → Hp → Prop} {X} : C (.err b h) Q X = X b h := rfl
@[simp ↓] theorem W_doCall {f args} {Q : B → Slots → Hp → Prop} : W (doCall G f args) s h Q X = C (G.call f args h) (fun b h => Q b s h) (fun c h => X c s h) := by
  unfold W doCall C; cases G.call f args h <;> rfl
theorem C.mono {r : RC} {Q Q' : B → Hp → Prop} {X X' : Str → Hp → Prop} (w : C r Q X) (q : ∀ b h, Q b h → Q' b h) (x : ∀ c h, X c h → X' c h) : C r Q' X' := by
  cases r
  · exact w
  · exact q _ _ w
  · exact x _ _ w
theorem C.to_eq {r : RC} {Q : B → Hp → Prop} (w : C r Q fun _ _ => False) : ∃ b h, r = .ok b h ∧ Q b h := by
  cases r
  · exact w.elim
  · exact ⟨_, _, rfl, w⟩
  · exact w.elim
@[simp ↓] theorem C_endOf {m : M Fl} {Q : B → Hp → Prop} {X : Str → Hp → Prop} : C (endOf (m s h)) Q X = W m s h (fun f _ h => match f with
  | .nx => Q (.v .non) h
  | .rt b => Q b h
  | .brk => False) (fun c _ h => X c h) := by
  unfold C W endOf; cases m s h with
  | bad => rfl
  | ok f s h => cases f <;> rfl
  | err c s h => rfl
@[simp ↓] theorem W_densL_nil {Q : List Val → Slots → Hp → Prop} : W (densL []) s h Q X = Q [] s h := rfl
@[simp ↓] theorem W_densL {e r} {Q : List Val → Slots → Hp → Prop} : W (densL (e :: r)) s h Q X = W e.v s h (fun b s h => W (toVal b) s h (fun x s h => W (densL r) s h (fun xs s h => Q (x :: xs) s h) X) X) X := by
  show W (bind e.v fun b => bind (toVal b) fun x => bind (densL r) fun xs => ret (x :: xs)) s h Q X = _
  simp only [W_bind, W_ret]
@[simp ↓] theorem W_densA_nil {Q : List B → Slots → Hp → Prop} : W (densA []) s h Q X = Q [] s h := rfl
@[simp ↓] theorem W_densA {e r} {Q : List B → Slots → Hp → Prop} : W (densA (e :: r)) s h Q X = W e.v s h (fun b s h => W (toArg b) s h (fun x s h => W (densA r) s h (fun xs s h => Q (x :: xs) s h) X) X) X := by
  show W (bind e.v fun b => bind (toArg b) fun x => bind (densA r) fun xs => ret (x :: xs)) s h Q X = _
  simp only [W_bind, W_ret]
@[simp ↓] theorem W_densP_nil {Q : List (Val × Val) → Slots → Hp → Prop} : W (densP []) s h Q X = Q [] s h := rfl
@[simp ↓] theorem W_densP {k e r} {Q : List (Val × Val) → Slots → Hp → Prop} : W (densP ((k, e) :: r)) s h Q X = W e.v s h (fun b s h => W (toVal b) s h (fun x s h => W (densP r) s h (fun xs s h => Q ((k, x) :: xs) s h) X) X) X := by
  show W (bind e.v fun b => bind (toVal b) fun x => bind (densP r) fun xs => ret ((k, x) :: xs)) s h Q X = _
  simp only [W_bind, W_ret]
@[simp] theorem dnL_nil : dnL G [] = [] := rfl
@[simp] theorem dnL_cons {e r} : dnL G (e :: r) = dn G e :: dnL G r := rfl
@[simp] theorem dnP_nil : dnP G [] = [] := rfl
@[simp] theorem dnP_cons {k e r} : dnP G ((k, e) :: r) = (k, dn G e) :: dnP G r := rfl
@[simp] theorem dnO_none : dnO G none = none := rfl
@[simp] theorem dnO_some {e} : dnO G (some e) = some (dn G e) := rfl
@[simp ↓] theorem W_tstD_none {Q : Bool → Slots → Hp → Prop} : W (tstD none) s h Q X = Q true s h := rfl
@[simp ↓] theorem W_tstD {e} {Q : Bool → Slots → Hp → Prop} : W (tstD (some e)) s h Q X = W e.v s h (fun b s h => W (truth b) s h Q X) X := by
  show W (bind e.v truth) s h Q X = _
  rw [W_bind]
@[simp ↓] theorem W_optD_none {Q : Option Int → Slots → Hp → Prop} : W (optD none) s h Q X = Q none s h := rfl
@[simp ↓] theorem W_optD {m} {Q : Option Int → Slots → Hp → Prop} : W (optD (some m)) s h Q X = W m.v s h (fun x s h => W (viewM x) s h (fun w s h => W (isoI w) s h (fun i s h => Q (some i) s h) X) X) X := by
  show W (bind m.v fun x => bind (viewM x) fun w => bind (isoI w) fun i => ret (some i)) s h Q X = _
  simp only [W_bind, W_ret]
end
end Mn
end
section
namespace Mn
open PySem
section
variable {α β : Type} {s : Slots} {h : Hp} {X : Str → Slots → Hp → Prop} {G : Env} {Q : B → Slots → Hp → Prop} {QF : Fl → Slots → Hp → Prop}
@[simp ↓] theorem D_slot {i} : W (dn G (.slot i)).v s h Q X = W (ldSlot i) s h Q X := rfl
@[simp ↓] theorem D_cst {i} : W (dn G (.cst i)).v s h Q X = Q (.v i) s h := rfl
@[simp ↓] theorem D_glo {x} : W (dn G (.glo x)).v s h Q X = (match G.gv x with
  | some v => Q (.v v) s h
  | none => False) := by show W (ofO ((G.gv x).map .v)) s h Q X = _; cases G.gv x <;> rfl
@[simp ↓] theorem D_bin {op a b} : W (dn G (.bin op a b)).v s h Q X = W (dn G a).v s h (fun x s h => W (dn G b).v s h (fun y s h => W (op2 x y (binV op)) s h Q X) X) X := by
  show W (binM op (dn G a).v (dn G b).v) s h Q X = _; simp only [binM, W_bind]
@[simp ↓] theorem D_neg {a} : W (dn G (.neg a)).v s h Q X = W (dn G a).v s h (fun x s h => W (viewM x) s h (fun w s h => W (isoI w) s h (fun i s h => Q (.v (.int (-i))) s h) X) X) X := by
  show W (negM (dn G a).v) s h Q X = _; simp only [negM, W_bind, W_ret]
@[simp ↓] theorem D_not {a} : W (dn G (.not a)).v s h Q X = W (dn G a).v s h (fun x s h => W (truth x) s h (fun b s h => Q (.v (.bl (!b))) s h) X) X := by
  show W (notM (dn G a).v) s h Q X = _; simp only [notM, W_bind, W_ret]
@[simp ↓] theorem D_and {a b} : W (dn G (.and a b)).v s h Q X = W (dn G a).v s h (fun x s h => W (truth x) s h (fun t s h => (t = true → W (dn G b).v s h Q X) ∧ (¬ t = true → Q (.v (.bl false)) s h)) X) X := by
  show W (andM (dn G a).v (dn G b).v) s h Q X = _; simp only [andM, W_bind, W_ite, W_ret]
@[simp ↓] theorem D_or {a b} : W (dn G (.or a b)).v s h Q X = W (dn G a).v s h (fun x s h => W (truth x) s h (fun t s h => (t = true → Q (.v (.bl true)) s h) ∧ (¬ t = true → W (dn G b).v s h Q X)) X) X := by
  show W (orM (dn G a).v (dn G b).v) s h Q X = _; simp only [orM, W_bind, W_ite, W_ret]
@[simp ↓] theorem D_ife {c a b} : W (dn G (.ife c a b)).v s h Q X = W (dn G c).v s h (fun x s h => W (truth x) s h (fun t s h => (t = true → W (dn G a).v s h Q X) ∧ (¬ t = true → W (dn G b).v s h Q X)) X) X := by
  show W (ifeM (dn G c).v (dn G a).v (dn G b).v) s h Q X = _; simp only [ifeM, W_bind, W_ite, W_ret]
@[simp ↓] theorem D_cmp {op a b} : W (dn G (.cmp op a b)).v s h Q X = W (dn G a).v s h (fun x s h => W (dn G b).v s h (fun y s h => W (op2 x y (cmpV op)) s h (fun t s h => Q (.v (.bl t)) s h) X) X) X := by
  show W (cmpM op (dn G a).v (dn G b).v) s h Q X = _; simp only [cmpM, W_bind, W_ret]
@[simp ↓] theorem D_cmp2 {o1 o2 a b c} : W (dn G (.cmp2 o1 o2 a b c)).v s h Q X = W (dn G a).v s h (fun x s h => W (dn G b).v s h (fun y s h => W (op2 x y (cmpV o1)) s h (fun t s h => (t = true → W (dn G c).v s h (fun z s h => W (op2 y z (cmpV o2)) s h (fun u s h => Q (.v (.bl u)) s h) X) X) ∧ (¬ t = true → Q (.v (.bl false)) s h)) X) X) X := by
  show W (cmp2M o1 o2 (dn G a).v (dn G b).v (dn G c).v) s h Q X = _; simp only [cmp2M, W_bind, W_ret, W_ite]
@[simp ↓] theorem D_tup {l} : W (dn G (.tup l)).v s h Q X = W (densL (dnL G l)) s h (fun xs s h => xs.length ≤ limit ∧ Q (.v (.tup xs)) s h) X := by
  show W (tupM (dnL G l)) s h Q X = _
  simp only [tupM, W_bind, W_ite, W_ret, W_bad]
  congr 1; funext xs s h; by_cases e : xs.length ≤ limit <;> simp [e]
@[simp ↓] theorem D_lst {l} : W (dn G (.lst l)).v s h Q X = W (densL (dnL G l)) s h (fun xs s h => xs.length ≤ limit ∧ Q (.l xs) s h) X := by
  show W (lstM (dnL G l)) s h Q X = _
  simp only [lstM, W_bind, W_ite, W_ret, W_bad]
  congr 1; funext xs s h; by_cases e : xs.length ≤ limit <;> simp [e]
@[simp ↓] theorem D_dct {l} : W (dn G (.dct l)).v s h Q X = W (densP (dnP G l)) s h (fun xs s h => match mergeD [] xs with
  | some k => Q (.d k) s h
  | none => False) X := by
  show W (dctM (dnP G l)) s h Q X = _
  simp only [dctM, W_bind]
  congr 1; funext xs s h; unfold mkD; cases mergeD [] xs <;> rfl
@[simp ↓] theorem D_idx {a b} : W (dn G (.idx a b)).v s h Q X = W (dn G a).v s h (fun x s h => W (dn G b).v s h (fun y s h => W (op2 x y idxV) s h Q X) X) X := by
  show W (idxM (dn G a).v (dn G b).v) s h Q X = _; simp only [idxM, W_bind]
@[simp ↓] theorem D_sli {a lo hi} : W (dn G (.sli a lo hi)).v s h Q X = W (dn G a).v s h (fun x s h => W (optD (dnO G lo)) s h (fun p s h => W (optD (dnO G hi)) s h (fun q s h => W (viewM x) s h (fun w s h => W (sliV w p q) s h Q X) X) X) X) X := by
  show W (sliM (dn G a).v (dnO G lo) (dnO G hi)) s h Q X = _; simp only [sliM, W_bind]
@[simp ↓] theorem D_gix {d i} : W (dn G (.gix d i)).v s h Q X = W (dn G i).v s h (fun x s h => W (viewM x) s h (fun w s h => W (gixV G d w) s h Q X) X) X := by
  show W (gixM G d (dn G i).v) s h Q X = _; simp only [gixM, W_bind]
@[simp ↓] theorem D_gin {d i yes} : W (dn G (.gin d i yes)).v s h Q X = W (dn G i).v s h (fun x s h => W (viewM x) s h (fun w s h => W (ginV G d w) s h (fun b s h => Q (.v (.bl (b == yes))) s h) X) X) X := by
  show W (ginM G d (dn G i).v yes) s h Q X = _; simp only [ginM, W_bind, W_ret]
@[simp ↓] theorem W_gixV {d z} : W (gixV G d (.val (.str z))) s h Q X = (match (G.gd d).bind (lookF z) with
  | some v => Q (.v v) s h
  | none => False) := by
  unfold gixV; cases G.gd d with
  | none => rfl
  | some k => dsimp only [Option.bind]; cases lookF z k <;> rfl
@[simp ↓] theorem W_ginV {d z} {Q : Bool → Slots → Hp → Prop} : W (ginV G d (.val (.str z))) s h Q X = (match G.gd d with
  | some k => Q (lookF z k).isSome s h
  | none => False) := by unfold ginV; cases G.gd d <;> rfl
@[simp ↓] theorem D_call {f l} : W (dn G (.call f l)).v s h Q X = W (densA (dnL G l)) s h (fun xs s h => C (G.call f xs h) (fun b h => Q b s h) (fun c h => X c s h)) X := by
  show W (callM G f (dnL G l)) s h Q X = _; simp only [callM, W_bind, W_doCall]
@[simp ↓] theorem D_new {c l} : W (dn G (.new c l)).v s h Q X = W (densA (dnL G l)) s h (fun xs s h => match G.init c with
  | some f => C (G.call f (.v (.ref h.length) :: xs) (h ++ [.ins c []])) (fun b h' => match b with
    | .v .non => Q (.v (.ref h.length)) s h'
    | _ => False) (fun c h => X c s h)
  | none => False) X := by
  show W (newM G c (dnL G l)) s h Q X = _; simp only [newM, W_bind]
  congr 1; funext xs s h
  unfold newV W
  dsimp only
  cases G.init c with
  | none => rfl
  | some f =>
    dsimp only
    cases G.call f (.v (.ref h.length) :: xs) (h ++ [.ins c []]) with
    | bad => rfl
    | err c h => rfl
    | ok b h' => cases b with
      | v x => cases x <;> rfl
      | _ => rfl
@[simp ↓] theorem D_meth {o m l} : W (dn G (.meth o m l)).v s h Q X = W (dn G o).v s h (fun x s h => W (asVal x) s h (fun v s h => W (methV G m v) s h (fun f s h => W (densA (dnL G l)) s h (fun xs s h => C (G.call f (.v v :: xs) h) (fun b h => Q b s h) (fun c h => X c s h)) X) X) X) X := by
  show W (methM G (dn G o).v m (dnL G l)) s h Q X = _; simp only [methM, W_bind, W_doCall]
@[simp ↓] theorem D_isi {a t} : W (dn G (.isi a t)).v s h Q X = W (dn G a).v s h (fun x s h => W (viewM x) s h (fun w s h => W (isInst G t w) s h (fun b s h => Q (.v (.bl b)) s h) X) X) X := by
  show W (isiM G (dn G a).v t) s h Q X = _; simp only [isiM, W_bind, W_ret]
theorem D_f1 {f a} : W (dn G (.f1 f a)).v s h Q X = W (dn G a).w s h (fun p s h => W (match f, p with
  | .len, .val (.ref a) => bind (methV G "__len__" (.ref a)) fun g => doCall G g [.v (.ref a)]
  | f, p => f1V f p) s h Q X) X := by
  show W (f1M G f (dn G a).w) s h Q X = _; simp only [f1M, W_bind]
  all_goals rfl
@[simp ↓] theorem D_len {a} : W (dn G (.f1 .len a)).v s h Q X = W (dn G a).w s h (fun p s h => match p with
  | .lst l => Q (.v (.int l.length)) s h
  | .dic l => Q (.v (.int l.length)) s h
  | .val (.tup l) => Q (.v (.int l.length)) s h
  | .val (.str z) => z.length ≤ limit ∧ Q (.v (.int z.length)) s h
  | .val (.ref a) => W (bind (methV G "__len__" (.ref a)) fun g => doCall G g [.v (.ref a)]) s h Q X
  | _ => False) X := by
  rw [D_f1]; congr 1; funext p s h
  cases p with
  | lst l => rfl
  | dic l => rfl
  | val x => cases x with
    | str z =>
      show W (if z.length ≤ limit then ret (.v (.int z.length)) else bad) s h Q X = _
      rw [W_ite]; simp only [W_ret, W_bad]; by_cases e : z.length ≤ limit <;> simp [e]
    | _ => rfl
@[simp ↓] theorem D_all {a} : W (dn G (.f1 .all a)).v s h Q X = W (dn G a).w s h (fun p s h => match p with
  | .lst l => (match allBools l with
      | some bs => Q (.v (.bl (bs.all id))) s h
      | none => False)
  | _ => False) X := by
  rw [D_f1]; congr 1; funext p s h
  cases p with
  | lst l => show W (match allBools l with
      | some bs => ret (.v (.bl (bs.all id)))
      | none => bad) s h Q X = _
             dsimp only; cases allBools l <;> rfl
  | dic l => rfl
  | val x => cases x <;> rfl
@[simp ↓] theorem D_tuple {a} : W (dn G (.f1 .tuple a)).v s h Q X = W (dn G a).w s h (fun p s h => match seqOf p with
  | some l => Q (.v (.tup l)) s h
  | none => False) X := by
  rw [D_f1]; congr 1; funext p s h
  show W (match seqOf p with
    | some l => ret (.v (.tup l))
    | none => bad) s h Q X = _
  cases seqOf p <;> rfl
@[simp ↓] theorem D_list {a} : W (dn G (.f1 .list a)).v s h Q X = W (dn G a).w s h (fun p s h => match seqOf p with
  | some l => Q (.l l) s h
  | none => False) X := by
  rw [D_f1]; congr 1; funext p s h
  show W (match seqOf p with
    | some l => ret (.l l)
    | none => bad) s h Q X = _
  cases seqOf p <;> rfl
@[simp ↓] theorem D_sset {a} : W (dn G (.f1 .sset a)).v s h Q X = W (dn G a).w s h (fun p s h => match (seqOf p).bind allInts with
  | some ns => ns.length < 64 ∧ Q (.l ((sortO leI (dedup ns)).map .int)) s h
  | none => False) X := by
  rw [D_f1]; congr 1; funext p s h
  show W (match seqOf p with
      | some l => (match allInts l with
        | some ns => if ns.length < 64 then ret (.l ((sortO leI (dedup ns)).map .int)) else bad
        | none => bad)
      | none => bad) s h Q X = _
  cases seqOf p with
  | none => rfl
  | some l =>
    dsimp only [Option.bind]
    cases allInts l with
    | none => rfl
    | some ns =>
      dsimp only
      rw [W_ite]; simp only [W_ret, W_bad]; by_cases e : ns.length < 64 <;> simp [e]
@[simp ↓] theorem D_str {a} : W (dn G (.f1 .str a)).v s h Q X = W (dn G a).w s h (fun p s h => match p with
    | .val (.int i) => i.natAbs.log2 < 1920 ∧ Q (.v (.str (toString i : String))) s h
    | .val (.str z) => Q (.v (.str z)) s h
    | _ => False) X := by
  rw [D_f1]; congr 1; funext p s h
  cases p with
  | lst l => rfl
  | dic l => rfl
  | val x => cases x with
    | int i =>
      show W (if i.natAbs.log2 < 1920 then ret (.v (.str (toString i : String))) else bad) s h Q X = _
      rw [W_ite]; simp only [W_ret, W_bad]; by_cases e : i.natAbs.log2 < 1920 <;> simp [e]
    | _ => rfl
@[simp ↓] theorem D_join {o a} : W (dn G (.join o a)).v s h Q X = W (dn G o).v s h (fun x s h => W (strB x) s h (fun _ s h => W (dn G a).v s h (fun y s h => W (op2 x y joinV) s h Q X) X) X) X := by
  show W (two strB joinV (dn G o).v (dn G a).v) s h Q X = _; simp only [two, W_bind]
@[simp ↓] theorem D_index {o a} : W (dn G (.index o a)).v s h Q X = W (dn G o).v s h (fun x s h => W (lstB x) s h (fun _ s h => W (dn G a).v s h (fun y s h => W (op2 x y indexV) s h Q X) X) X) X := by
  show W (two lstB indexV (dn G o).v (dn G a).v) s h Q X = _; simp only [two, W_bind]
@[simp ↓] theorem D_count {o a} : W (dn G (.count o a)).v s h Q X = W (dn G o).v s h (fun x s h => W (lstB x) s h (fun _ s h => W (dn G a).v s h (fun y s h => W (op2 x y countV) s h Q X) X) X) X := by
  show W (two lstB countV (dn G o).v (dn G a).v) s h Q X = _; simp only [two, W_bind]
@[simp ↓] theorem W_strB {b} {Q : Unit → Slots → Hp → Prop} : W (strB b) s h Q X = (match view s h b with
  | some (.val (.str _)) => Q () s h
  | _ => False) := by
  show W (bind (viewM b) _) s h Q X = _
  rw [W_bind, W_viewM]
  cases view s h b with
  | none => rfl
  | some w => cases w with
    | val x => cases x <;> rfl
    | _ => rfl
@[simp ↓] theorem W_lstB {b} {Q : Unit → Slots → Hp → Prop} : W (lstB b) s h Q X = (match view s h b with
  | some (.lst _) => Q () s h
  | _ => False) := by
  show W (bind (viewM b) _) s h Q X = _
  rw [W_bind, W_viewM]
  cases view s h b with
  | none => rfl
  | some w => cases w <;> rfl
theorem W_blockB {own : List Nat} {src : Srcs} {m : M (List Val)} : W (inBlock own src (bind m fun xs => if xs.length ≤ limit then ret (.l xs) else bad)) s h Q X = W (inBlock own src m) s h (fun xs s h => xs.length ≤ limit ∧ Q (.l xs) s h) X := by
  unfold inBlock W bind
  dsimp only
  by_cases o : srcOff own src = true
  · rw [if_pos o, if_pos o]
    cases m s h with
    | bad => rfl
    | err c s h => rfl
    | ok xs s' h' =>
      dsimp only
      by_cases q : xs.length ≤ limit
      · rw [if_pos q]; simp [q, ret]
      · rw [if_neg q]; simp [q, bad]
  · rw [if_neg o, if_neg o]
@[simp ↓] theorem D_comp {e t it c own} : W (dn G (.comp e t it c own)).v s h Q X = W (dn G it).it s h (fun p s h => W (inBlock own p.2 (compL own p.2 t (tstD (dnO G c)) (bind (dn G e).v toVal) p.1)) s h (fun xs s h => xs.length ≤ limit ∧ Q (.l xs) s h) X) X := by
  show W (compM (dn G e).v t (dn G it).it (dnO G c) own) s h Q X = _
  simp only [compM, W_bind]
  congr 1; funext p s h
  exact W_blockB
@[simp ↓] theorem I_slot {i} : (dn G (.slot i)).it = seqI (ldSlot i) := rfl
@[simp ↓] theorem I_tup {l} : (dn G (.tup l)).it = seqI (dn G (.tup l)).v := rfl
@[simp ↓] theorem I_idx {a i} : (dn G (.idx a i)).it = seqI (dn G (.idx a i)).v := rfl
@[simp ↓] theorem I_sli {a i j} : (dn G (.sli a i j)).it = seqI (dn G (.sli a i j)).v := rfl
@[simp ↓] theorem I_call {f l} : (dn G (.call f l)).it = seqI (dn G (.call f l)).v := rfl
@[simp ↓] theorem W_seqI {m} {Q : List Val × Srcs → Slots → Hp → Prop} : W (seqI m) s h Q X = W m s h (fun x s h => match (view s h x).bind itemsOf with
  | some l => Q (l, srcOf x l) s h
  | none => False) X := by
  unfold seqI
  rw [W_bind]
  congr 1; funext x s h
  rw [W_bind, W_viewM]
  cases view s h x with
  | none => rfl
  | some w => dsimp only [Option.bind]; cases itemsOf w <;> rfl
@[simp ↓] theorem I_zip {a b} {Q : List Val × Srcs → Slots → Hp → Prop} : W (dn G (.zip a b)).it s h Q X = W (dn G a).v s h (fun x s h => W (dn G b).v s h (fun y s h => match (view s h x).bind itemsOf, (view s h y).bind itemsOf with
  | some l, some q => Q (zipL l q, srcOf x l ++ srcOf y q) s h
  | _, _ => False) X) X := by
  show W (zipI (dn G a).v (dn G b).v) s h Q X = _
  simp only [zipI, W_bind, W_op2]
  congr 1; funext x s h; congr 1; funext y s h
  cases view s h x <;> cases view s h y <;> try rfl
  · rename_i w; dsimp only [Option.bind]; cases itemsOf w <;> rfl
  · rename_i w v; dsimp only [Option.bind]; cases itemsOf w <;> cases itemsOf v <;> rfl
@[simp ↓] theorem I_enu {a} {Q : List Val × Srcs → Slots → Hp → Prop} : W (dn G (.enu a)).it s h Q X = W (dn G a).it s h (fun p s h => Q (enumL 0 p.1, p.2) s h) X := by
  show W (enuI (dn G a).it) s h Q X = _
  simp only [enuI, W_bind, W_ret]
@[simp ↓] theorem I_rng {a b c} {Q : List Val × Srcs → Slots → Hp → Prop} : W (dn G (.rng a b c)).it s h Q X = W (dn G a).v s h (fun x s h => W (viewM x) s h (fun w s h => W (isoI w) s h (fun i s h => W (dn G b).v s h (fun x s h => W (viewM x) s h (fun w s h => W (isoI w) s h (fun j s h => W (dn G c).v s h (fun x s h => W (viewM x) s h (fun w s h => W (isoI w) s h (fun k s h => match rangeN i j k with
  | some n => Q (rangeL i k n, []) s h
  | none => False) X) X) X) X) X) X) X) X) X := by
  show W (rngI (dn G a).v (dn G b).v (dn G c).v) s h Q X = _
  simp only [rngI, W_bind]
  congr 1; funext x s h; congr 1; funext x s h; congr 1; funext i s h; congr 1; funext x s h; congr 1; funext x s h; congr 1; funext j s h; congr 1; funext x s h; congr 1; funext x s h; congr 1; funext k s h
  cases rangeN i j k <;> rfl
theorem w_mk {m : M B} {Q : View → Slots → Hp → Prop} : W (mk m).w s h Q X = W m s h (fun b s h => match view s h b with
  | some w => Q w s h
  | none => False) X := by
  show W (bind m viewM) s h Q X = _
  rw [W_bind]; congr 1; funext b s h; rw [W_viewM] <;> cases view s h b <;> rfl
@[simp ↓] theorem V_slot {i} {Q : View → Slots → Hp → Prop} : W (dn G (.slot i)).w s h Q X = W (ldSlot i) s h (fun b s h => match view s h b with
  | some w => Q w s h
  | none => False) X := w_mk
@[simp ↓] theorem V_comp {e t it c own} {Q : View → Slots → Hp → Prop} : W (dn G (.comp e t it c own)).w s h Q X = W (dn G (.comp e t it c own)).v s h (fun b s h => match view s h b with
  | some w => Q w s h
  | none => False) X := w_mk
@[simp ↓] theorem V_call {f l} {Q : View → Slots → Hp → Prop} : W (dn G (.call f l)).w s h Q X = W (dn G (.call f l)).v s h (fun b s h => match view s h b with
  | some w => Q w s h
  | none => False) X := w_mk
@[simp ↓] theorem V_glo {f} {Q : View → Slots → Hp → Prop} : W (dn G (.glo f)).w s h Q X = W (dn G (.glo f)).v s h (fun b s h => match view s h b with
  | some w => Q w s h
  | none => False) X := w_mk
@[simp ↓] theorem V_idx {f l} {Q : View → Slots → Hp → Prop} : W (dn G (.idx f l)).w s h Q X = W (dn G (.idx f l)).v s h (fun b s h => match view s h b with
  | some w => Q w s h
  | none => False) X := w_mk
@[simp ↓] theorem S_nil : W (exs G []) s h QF X = QF .nx s h := rfl
@[simp ↓] theorem S_cons {x r} : W (exs G (x :: r)) s h QF X = W (ex G x) s h (fun f s h => match f with
  | .nx => W (exs G r) s h QF X
  | .brk => QF .brk s h
  | .rt b => QF (.rt b) s h) X := by
  show W (seqM (ex G x) (exs G r)) s h QF X = _
  unfold seqM
  rw [W_bind]; congr 1; funext f s h; cases f <;> rfl
@[simp ↓] theorem S_ex {e} : W (ex G (.ex e)) s h QF X = W (dn G e).v s h (fun _ s h => QF .nx s h) X := by
  show W (bind (den G e) fun _ => ret .nx) s h QF X = _
  rw [W_bind]; rfl
@[simp ↓] theorem S_rt {e} : W (ex G (.rt e)) s h QF X = W (dn G e).v s h (fun b s h => W (toRet b) s h (fun x s h => QF (.rt x) s h) X) X := by
  show W (bind (den G e) fun b => bind (toRet b) fun x => ret (.rt x)) s h QF X = _
  simp only [W_bind, W_ret]
@[simp ↓] theorem S_rtn : W (ex G .rtn) s h QF X = QF (.rt (.v .non)) s h := rfl
@[simp ↓] theorem S_pas : W (ex G .pas) s h QF X = QF .nx s h := rfl
@[simp ↓] theorem S_brk : W (ex G .brk) s h QF X = QF .brk s h := rfl
@[simp ↓] theorem S_rai {c} : W (ex G (.rai c)) s h QF X = X c s h := rfl
@[simp ↓] theorem S_ite {c a b} : W (ex G (.ite c a b)) s h QF X = W (dn G c).v s h (fun x s h => W (truth x) s h (fun t s h => (t = true → W (exs G a) s h QF X) ∧ (¬ t = true → W (exs G b) s h QF X)) X) X := by
  show W (bind (den G c) fun x => bind (truth x) fun t => if t = true then exs G a else exs G b) s h QF X = _
  simp only [W_bind, W_ite]
@[simp ↓] theorem S_asg {t e} : W (ex G (.asg t e)) s h QF X = W (asgM G t (dn G e).v) s h QF X := rfl
@[simp ↓] theorem W_setSlot {i b} {Q : Unit → Slots → Hp → Prop} : W (setSlot i b) s h Q X = (i < s.length ∧ Q () (s.set i (some b)) h) := by
  unfold W setSlot
  by_cases e : i < s.length
  · rw [if_pos e]; simp [e]
  · rw [if_neg e]; simp [e]
@[simp ↓] theorem S_nam {i m} : W (asgM G (.nam i) m) s h QF X = W m s h (fun b s h => W (toArg b) s h (fun x s h => i < s.length ∧ QF .nx (s.set i (some x)) h) X) X := by
  show W (bind m (asgNam i)) s h QF X = _
  rw [W_bind]; congr 1; funext b s h
  unfold asgNam nx
  simp only [W_bind, W_setSlot, W_ret]
@[simp ↓] theorem S_sub {o i m} : W (asgM G (.sub o i) m) s h QF X = W m s h (fun b s h => W (toVal b) s h (fun x s h => W (dn G o).v s h (fun y s h => W (dn G i).v s h (fun z s h => W (viewM z) s h (fun w s h => W (putIx x y w) s h QF X) X) X) X) X) X := by
  show W (bind m fun b => bind (toVal b) fun x => bind (den G o) fun y => bind (den G i) fun z => bind (viewM z) fun w => putIx x y w) s h QF X = _
  simp only [W_bind]
@[simp ↓] theorem S_tupT {l m} : W (asgM G (.tup l) m) s h QF X = W m s h (fun b s h => match (view s h b).bind seqOf with
  | some xs => W (setSlots l xs) s h (fun _ s h => QF .nx s h) X
  | none => False) X := by
  show W (bind m fun b => bind (viewM b) (unpack l)) s h QF X = _
  rw [W_bind]; congr 1; funext b s h
  rw [W_bind, W_viewM]
  cases view s h b with
  | none => rfl
  | some w =>
    dsimp only [Option.bind]
    unfold unpack nx
    cases seqOf w with
    | none => rfl
    | some xs => dsimp only; rw [W_bind]; rfl
@[simp ↓] theorem W_setSlots_nil {Q : Unit → Slots → Hp → Prop} : W (setSlots [] []) s h Q X = Q () s h := rfl
@[simp ↓] theorem W_setSlots {i r x xs} {Q : Unit → Slots → Hp → Prop} : W (setSlots (i :: r) (x :: xs)) s h Q X = (i < s.length ∧ W (setSlots r xs) (s.set i (some (.v x))) h Q X) := by
  show W (bind (setSlot i (.v x)) fun _ => setSlots r xs) s h Q X = _
  rw [W_bind, W_setSlot]
@[simp ↓] theorem S_for {t it b} : W (ex G (.for_ t it b)) s h QF X = W (dn G it).it s h (fun p s h => srcOff (tgN t ++ asgSs b) p.2 = true ∧ W (forL p.2 t (exs G b) p.1) s h QF X) X := by
  show W (bind (dn G it).it fun p => if srcOff (tgN t ++ asgSs b) p.2 = true then forL p.2 t (exs G b) p.1 else bad) s h QF X = _
  rw [W_bind]; congr 1; funext p s h
  rw [W_ite]
  by_cases e : srcOff (tgN t ++ asgSs b) p.2 = true <;> simp [e]
@[simp ↓] theorem S_app {o e} : W (ex G (.app o e)) s h QF X = W (dn G o).v s h (fun b s h => W (lstB b) s h (fun _ s h => W (dn G e).v s h (fun y s h => W (toVal y) s h (fun x s h => W (modL (appL x) b) s h QF X) X) X) X) X := by
  show W (appM (den G o) (den G e)) s h QF X = _
  unfold appM; simp only [W_bind]
theorem C_run {f : Fn} {args : List B} {Q : B → Hp → Prop} {X : Str → Hp → Prop} (e : args.length = f.np) (w : W (exs G f.body) (args.map some ++ List.replicate (f.ns - f.np) none) h (fun f _ h => match f with
  | .nx => Q (.v .non) h
  | .rt b => Q b h
  | .brk => False) (fun c _ h => X c h)) : C (runFn G f args h) Q X := by
  unfold runFn
  rw [if_pos e, C_endOf]
  exact w
end
end Mn
end
section
namespace Mn
open PySem
section
variable {α β : Type} {s : Slots} {h : Hp} {X : Str → Slots → Hp → Prop} {G : Env} {Q : B → Slots → Hp → Prop} {QF : Fl → Slots → Hp → Prop}
abbrev NoX : Str → Slots → Hp → Prop := fun _ _ _ => False
@[simp ↓] theorem W_setTg1 {i x} {Q : Unit → Slots → Hp → Prop} : W (setTg (.one i) x) s h Q X = (i < s.length ∧ Q () (s.set i (some (.v x))) h) := W_setSlot
@[simp ↓] theorem W_setTgN {l xs} {Q : Unit → Slots → Hp → Prop} : W (setTg (.many l) (.tup xs)) s h Q X = W (setSlots l xs) s h Q X := rfl
theorem W_inBlock {own : List Nat} {src : Srcs} {m : M α} {Q : α → Slots → Hp → Prop} (o : srcOff own src = true) (w : W m s h (fun a s' h' => Q a (back own s s') h') NoX) : W (inBlock own src m) s h Q X := by
  unfold inBlock W
  dsimp only
  rw [if_pos o]
  unfold W at w
  split at w
  · rename_i e; rw [e]; exact w
  · exact w.elim
  · exact w.elim
theorem W_compF {own : List Nat} {t : Tg} {tst : M Bool} {elt : M α} (I : Hp → Prop) (keep : Val → Bool) (val : Val → α) {Q : List α → Slots → Hp → Prop} : ∀ (l : List Val) {s h}, (∀ x ∈ l, ∀ h, I h → W (setTg t x) (wipe own s) h (fun _ sx h => wipe own sx = wipe own s ∧ W tst sx h (fun b s' h' => s' = sx ∧ I h' ∧ b = keep x ∧ (b = true → W elt sx h' (fun a s'' h'' => s'' = sx ∧ I h'' ∧ a = val x) NoX)) NoX) NoX) → I h → (∀ h', I h' → Q ((l.filter keep).map val) (wipe own s) h') → W (compL own [] t tst elt l) s h Q NoX
  | [], s, h, st, i, q => by
    show W (bind (wipeM own) fun _ => bind (chk []) fun _ => ret []) s h Q NoX
    rw [W_bind]
    exact q _ i
  | x :: r, s, h, st, i, q => by
    show W (bind (wipeM own) fun _ => bind (chk []) fun _ => bind (setTg t x) fun _ => bind tst fun b =>
      if b = true then bind elt fun y => bind (compL own [] t tst elt r) fun ys => ret (y :: ys) else compL own [] t tst elt r) s h Q NoX
    rw [W_bind]
    show W (bind (chk []) _) (wipe own s) h Q NoX
    rw [W_bind]
    show W (bind (setTg t x) _) (wipe own s) h Q NoX
    rw [W_bind]
    refine (st x List.mem_cons_self h i).mono (fun _ sx h1 w => ?_) fun _ _ _ z => z
    obtain ⟨ws, w⟩ := w
    rw [W_bind]
    refine w.mono (fun b s' h' w => ?_) fun _ _ _ z => z
    obtain ⟨rfl, i', rfl, w⟩ := w
    have st' : ∀ y ∈ r, ∀ h, I h → W (setTg t y) (wipe own s') h (fun _ sx h => wipe own sx = wipe own s' ∧ W tst sx h (fun b s' h' => s' = sx ∧ I h' ∧ b = keep y ∧ (b = true → W elt sx h' (fun a s'' h'' => s'' = sx ∧ I h'' ∧ a = val y) NoX)) NoX) NoX := by
      rw [ws]
      exact fun y m => st y (List.mem_cons_of_mem _ m)
    rw [W_ite]
    refine ⟨fun k => ?_, fun k => ?_⟩
    · rw [W_bind]
      refine (w k).mono (fun a s'' h'' w => ?_) fun _ _ _ z => z
      obtain ⟨rfl, i'', rfl⟩ := w
      rw [W_bind]
      refine W_compF I keep val r st' i'' fun h3 i3 => ?_
      have := q h3 i3
      rw [List.filter_cons_of_pos k] at this
      rw [ws]
      exact this
    · refine W_compF I keep val r st' i' fun h3 i3 => ?_
      have := q h3 i3
      rw [List.filter_cons_of_neg k] at this
      rw [ws]
      exact this
theorem W_compN {own : List Nat} {t : Tg} {elt : M α} (I : Nat → Hp → Prop) (P : α → Prop) {Q : List α → Slots → Hp → Prop} : ∀ (l : List Val) {s h} (n : Nat), (∀ x ∈ l, ∀ n h, I n h → W (setTg t x) (wipe own s) h (fun _ sx h => wipe own sx = wipe own s ∧ W elt sx h (fun a s'' h'' => s'' = sx ∧ I (n + 1) h'' ∧ P a) NoX) NoX) → I n h → (∀ r h', r.length = l.length → I (n + l.length) h' → (∀ a ∈ r, P a) → Q r (wipe own s) h') → W (compL own [] t (tstD none) elt l) s h Q NoX
  | [], s, h, n, st, i, q => by
    show W (bind (wipeM own) fun _ => bind (chk []) fun _ => ret []) s h Q NoX
    rw [W_bind]
    exact q [] _ rfl i (by simp)
  | x :: r, s, h, n, st, i, q => by
    show W (bind (wipeM own) fun _ => bind (chk []) fun _ => bind (setTg t x) fun _ => bind (ret true) fun b =>
      if b = true then bind elt fun y => bind (compL own [] t (tstD none) elt r) fun ys => ret (y :: ys) else compL own [] t (tstD none) elt r) s h Q NoX
    rw [W_bind]
    show W (bind (chk []) _) (wipe own s) h Q NoX
    rw [W_bind]
    show W (bind (setTg t x) _) (wipe own s) h Q NoX
    rw [W_bind]
    refine (st x List.mem_cons_self n h i).mono (fun _ sx h1 w => ?_) fun _ _ _ z => z
    obtain ⟨ws, w⟩ := w
    rw [W_bind, W_ret, if_pos rfl, W_bind]
    refine w.mono (fun a s'' h'' w => ?_) fun _ _ _ z => z
    obtain ⟨rfl, i'', p⟩ := w
    rw [W_bind]
    refine W_compN I P r (n + 1) (by rw [ws]; exact fun y m => st y (List.mem_cons_of_mem _ m)) i'' fun rs h3 e3 i3 p3 => ?_
    rw [ws]
    refine q (a :: rs) h3 (by simp [e3]) (by rw [show n + (x :: r).length = n + 1 + r.length by simp; omega]; exact i3) fun b m => ?_
    rcases List.mem_cons.mp m with rfl | m
    · exact p
    · exact p3 b m
theorem W_forL {t : Tg} {b : M Fl} (J : List Val → Slots → Hp → Prop) (step : ∀ x r s h, J (x :: r) s h → W (setTg t x) s h (fun _ s h => W b s h (fun f s' h' => match f with
    | .nx => J r s' h'
    | .brk => QF .nx s' h'
    | .rt v => QF (.rt v) s' h') X) X) (fin : ∀ s h, J [] s h → QF .nx s h) : ∀ (l : List Val) {s h}, J l s h → W (forL [] t b l) s h QF X
  | [], s, h, j => fin s h j
  | x :: r, s, h, j => by
    show W (bind (setTg t x) fun _ => bind b fun f => match f with
      | .nx => forL [] t b r
      | .brk => ret .nx
      | .rt r => ret (.rt r)) s h QF X
    rw [W_bind]
    refine (step x r s h j).mono (fun _ s h w => ?_) fun _ _ _ z => z
    rw [W_bind]
    refine w.mono (fun f s h w => ?_) fun _ _ _ z => z
    cases f with
    | nx => exact W_forL J step fin r w
    | brk => exact w
    | rt v => exact w
@[simp] theorem wipe_nil {s} : wipe [] s = s := rfl
@[simp] theorem wipe_cons {i r s} : wipe (i :: r) s = wipe r (s.set i none) := rfl
@[simp] theorem back_nil {s0 s} : back [] s0 s = s := rfl
@[simp] theorem back_cons {i r s0 s} : back (i :: r) s0 s = back r s0 (match s0[i]? with
  | some o => s.set i o
  | none => s) := rfl
@[simp] theorem srcOff_nil {l} : srcOff l [] = true := rfl
@[simp] theorem envOf_call {t c} : (envOf t c).call = c := rfl
@[simp] theorem envOf_gv {t c} : (envOf t c).gv = t.gv := rfl
@[simp] theorem envOf_gd {t c} : (envOf t c).gd = t.gd := rfl
@[simp] theorem envOf_init {t c} : (envOf t c).init = t.init := rfl
@[simp] theorem envOf_sub {t c} : (envOf t c).sub = t.sub := rfl
@[simp] theorem envOf_isx {t c} : (envOf t c).isx = t.isx := rfl
@[simp] theorem envOf_meth {t c} : (envOf t c).meth = t.meth := rfl
@[simp] theorem envOf_att {t c} : (envOf t c).att = t.att := rfl
theorem C_call {t : Txt0} {n : Nat} {f : Str} {fd : Fn} {args : List B} {Q : B → Hp → Prop} {X : Str → Hp → Prop} (e : t.fn f = some fd) (w : C (runFn (envOf t (call t n)) fd args h) Q X) : C (call t (n + 1) f args h) Q X := by
  show C (match t.fn f with
    | some fd => runFn (envOf t (call t n)) fd args h
    | none => .bad) Q X
  rw [e]
  exact w
theorem call_of {t : Txt0} {n : Nat} {f : Str} {args : List B} {b : B} {h' : Hp} (w : C (call t n f args h) (fun x y => x = b ∧ y = h') fun _ _ => False) : call t n f args h = .ok b h' := by
  obtain ⟨x, y, e, rfl, rfl⟩ := w.to_eq
  exact e
end
theorem S_step {G : Env} {s : Slots} {h : Hp} {x : S} {r : List S} {QF : Fl → Slots → Hp → Prop} {X : Str → Slots → Hp → Prop} (w : ∀ K, K = (fun f s h => match f with
    | .nx => W (exs G r) s h QF X
    | .brk => QF .brk s h
    | .rt b => QF (.rt b) s h) → W (ex G x) s h K X) : W (exs G (x :: r)) s h QF X := by
  rw [S_cons]
  exact w _ rfl
theorem W_gen {α : Type} {m : M α} {s : Slots} {h : Hp} {Q : α → Slots → Hp → Prop} {X : Str → Slots → Hp → Prop} (w : ∀ K, K = Q → W m s h K X) : W m s h Q X := w _ rfl
theorem W_det {α : Type} {m : M α} {s : Slots} {h : Hp} {a : α} {s' : Slots} {h' : Hp} (w : W m s h (fun b t g => b = a ∧ t = s' ∧ g = h') NoX) (Q : α → Slots → Hp → Prop) (X : Str → Slots → Hp → Prop) : W m s h Q X = Q a s' h' := by
  obtain ⟨b, t, g, e, rfl, rfl, rfl⟩ := w.to_eq
  unfold W
  rw [e]
def isB (t : Str) : Val → Option Bool
  | .exc _ => none
  | .ref _ => none
  | x => some ((isTy t (.val x)).getD false)
end Mn
end
section
namespace Mn
open PySem
def Tk : Txt0 := Lw.D.txt
theorem fn_T {f : Str} {fd : Fn} (e : (Ms.lookFi f Lw.D.L).map (·.fn) = some fd) : Tk.fn f = some fd := e
section
variable {α β : Type} {s : Slots} {h : Hp} {X : Str → Slots → Hp → Prop} {G : Env}
@[simp] theorem isTy_int {w} : isTy "int" w = some (match w with | .val (.int _) => true | .val (.bl _) => true | _ => false) := by unfold isTy; rw [if_pos rfl] <;> rfl
@[simp] theorem isTy_bool {w} : isTy "bool" w = some (match w with | .val (.bl _) => true | _ => false) := by
  unfold isTy; rw [if_neg (by decide +kernel), if_pos rfl] <;> rfl
@[simp] theorem isTy_str {w} : isTy "str" w = some (match w with | .val (.str _) => true | _ => false) := by
  unfold isTy; rw [if_neg (by decide +kernel), if_neg (by decide +kernel), if_pos rfl] <;> rfl
@[simp] theorem isTy_tuple {w} : isTy "tuple" w = some (match w with | .val (.tup _) => true | _ => false) := by
  unfold isTy; rw [if_neg (by decide +kernel), if_neg (by decide +kernel), if_neg (by decide +kernel), if_pos rfl] <;> rfl
@[simp ↓] theorem W_isInst {t w} {Q : Bool → Slots → Hp → Prop} : W (isInst G t w) s h Q X = (match w with
  | .val (.exc c) => Q (G.sub c t) s h
  | .val (.ref _) => False
  | .val .non => (match isTy t w with
    | some b => Q b s h
    | none => Q false s h)
  | w => (match isTy t w with
    | some b => Q b s h
    | none => False)) := by
  unfold isInst
  cases w with
  | val x => cases x <;> dsimp only <;> first | rfl | (cases isTy t _ <;> rfl)
  | lst l => dsimp only; cases isTy t _ <;> rfl
  | dic l => dsimp only; cases isTy t _ <;> rfl
def Pd (h : Hp) : Nat → Val → Prop
  | 0, _ => False
  | n + 1, x => match x with
    | .exc _ => False
    | .ref a => ∃ l, h[a]? = some (.lst l) ∧ ∀ y ∈ l, Pd h n y
    | .tup l => ∀ y ∈ l, Pd h n y
    | .str z => z.length ≤ limit
    | _ => True
def Pl (h : Hp) : Val → Prop
  | .exc _ => False
  | .ref a => ∃ l, h[a]? = some (.lst l)
  | .str z => z.length ≤ limit
  | _ => True
theorem Pd.pl {n x} (p : Pd h n x) : Pl h x := by
  cases n with
  | zero => exact p.elim
  | succ n => cases x with
    | exc c => exact p
    | ref a => obtain ⟨l, e, _⟩ := p; exact ⟨l, e⟩
    | str z => exact p
    | _ => trivial
theorem Pd.up : ∀ {n x}, Pd h n x → Pd h (n + 1) x
  | 0, x, p => p.elim
  | n + 1, x, p => by
    cases x with
    | exc c => exact p
    | ref a => obtain ⟨l, e, q⟩ := p; exact ⟨l, e, fun y m => (q y m).up⟩
    | tup l => exact fun y m => Pd.up (p y m)
    | str z => exact p
    | _ => trivial
theorem Pd.le {n m x} (p : Pd h n x) (l : n ≤ m) : Pd h m x := by
  induction l with
  | refl => exact p
  | step _ ih => exact ih.up
theorem Pd.ext : ∀ {n x} {t : Hp}, Pd h n x → Pd (h ++ t) n x
  | 0, x, t, p => p.elim
  | n + 1, x, t, p => by
    cases x with
    | exc c => exact p
    | ref a =>
      obtain ⟨l, e, q⟩ := p
      refine ⟨l, ?_, fun y m => (q y m).ext⟩
      rw [List.getElem?_append_left (List.getElem?_eq_some_iff.mp e).1]
      exact e
    | tup l => exact fun y m => Pd.ext (p y m)
    | str z => exact p
    | _ => trivial
theorem mapO_some {f : α → Option β} : ∀ {l : List α}, (∀ y ∈ l, ∃ d, f y = some d) → ∃ ds, mapO f l = some ds ∧ ds.length = l.length
  | [], _ => ⟨[], rfl, rfl⟩
  | a :: r, q => by
    obtain ⟨d, e⟩ := q a List.mem_cons_self
    obtain ⟨ds, e2, l2⟩ := mapO_some (l := r) fun y m => q y (List.mem_cons_of_mem _ m)
    exact ⟨d :: ds, by simp [e, e2], by simp [l2]⟩
theorem Pd.toD : ∀ {n x}, Pd h n x → ∃ d, toD h n x = some d
  | 0, x, p => p.elim
  | n + 1, x, p => by
    cases x with
    | exc c => exact p.elim
    | ref a =>
      obtain ⟨l, e, q⟩ := p
      obtain ⟨ds, e2, _⟩ := mapO_some (f := Mn.toD h n) (l := l) fun y m => (q y m).toD
      exact ⟨.list ds, by simp [Mn.toD, e, e2]⟩
    | tup l =>
      obtain ⟨ds, e2, _⟩ := mapO_some (f := Mn.toD h n) (l := l) fun y m => Pd.toD (p y m)
      exact ⟨.tuple ds, by simp [e2]⟩
    | str z => exact ⟨_, rfl⟩
    | non => exact ⟨_, rfl⟩
    | bl b => exact ⟨_, rfl⟩
    | int b => exact ⟨_, rfl⟩
theorem Pd.mapO {n m l} (p : ∀ y ∈ l, Pd h n y) (e : n ≤ m) : ∃ ds, Mn.mapO (Mn.toD h m) l = some ds ∧ ds.length = l.length := mapO_some fun y q => ((p y q).le e).toD
theorem view_ref {a l} (e : h[a]? = some (.lst l)) : viewV h (.ref a) = some (.lst l) := by simp [viewV, e]
@[simp] theorem eqv_str {a b} : PyData.eqv (.str a) (.str b) = decide (a = b) := by
  unfold PyData.eqv; by_cases e : a = b <;> simp [e]
@[simp] theorem eqv_int {a b} : PyData.eqv (.int a) (.int b) = decide (a = b) := by
  unfold PyData.eqv; by_cases e : a = b <;> simp [e]
@[simp] theorem eqv_bool {a b} : PyData.eqv (.bool a) (.bool b) = (a == b) := by
  unfold PyData.eqv; rfl
@[simp] theorem eqv_tup0 {a} : PyData.eqv (.tuple a) (.tuple []) = a.isEmpty := by
  unfold PyData.eqv; cases a <;> rfl
@[simp] theorem eqv_lst0 {a} : PyData.eqv (.list a) (.list []) = a.isEmpty := by
  unfold PyData.eqv; cases a <;> rfl
theorem mapO_str {n : Nat} : ∀ {l : List Str}, mapO (toD h (n + 1)) (l.map .str) = some (l.map .str)
  | [] => rfl
  | a :: r => by simp [mapO_str (l := r)]
theorem any_str {z : Str} : ∀ {l : List Str}, ((l.map PyData.str).any fun y => PyData.eqv y (.str z)) = decide (z ∈ l)
  | [] => rfl
  | a :: r => by
    rw [List.map_cons, List.any_cons, any_str, eqv_str]
    by_cases e : a = z
    · simp [e]
    · simp [e, Ne.symm e]
theorem allBools_map {l : List α} {f : α → Bool} : allBools (l.map fun x => .bl (f x)) = some (l.map f) := by
  induction l with
  | nil => rfl
  | cons a r ih => simp [allBools, ih]
theorem filt {l : List α} : l.filter (fun _ => true) = l := List.filter_eq_self.mpr fun _ _ => rfl
theorem all_id {l : List α} {f : α → Bool} : (l.map f).all id = l.all f := by simp
def numOk : Val → Int → Int → Bool
  | .int i, a, b => decide (a ≤ i) && decide (i ≤ b)
  | _, _, _ => false
theorem c_is_number {n x a b} (hp : Pl h x) : call Tk (n + 1) "is_number" [.v x, .v (.int a), .v (.int b)] h = .ok (.v (.bl (numOk x a b))) h := by
  refine call_of (C_call (fn_T (fd := f_is_number) (by kernel_rfl)) (C_run rfl ?_))
  cases x with
  | exc c => exact hp.elim
  | ref r => obtain ⟨l, e⟩ := hp; simp [f_is_number, view_ref e, numOk]
  | int i => simp [f_is_number, numOk]; by_cases e : a ≤ i <;> simp [e]; omega
  | _ => simp [f_is_number, numOk]
@[simp] theorem gv_GREAT : Tk.gv "GREAT" = some (.int 1000000) := by kernel_rfl
@[simp] theorem gv_MI : Tk.gv "MOST_ITEMS" = some (.int 9) := by kernel_rfl
@[simp] theorem gv_MN : Tk.gv "MOST_NODES" = some (.int 12) := by kernel_rfl
@[simp] theorem gv_L : Tk.gv "LETTERS" = some (.str "abcdefghijklmnopqrstuvwxyz") := by kernel_rfl
@[simp] theorem gv_S : Tk.gv "SOURCES" = some (.tup [.str "count", .str "list", .str "fed"]) := by kernel_rfl
def itemsOk : Val → Bool
  | .tup l => decide (l.length ≤ 9) && l.all fun x => numOk x (-1000000) 1000000
  | _ => false
theorem c_is_items {n k x} (hp : Pd h k x) : call Tk (n + 2) "is_items" [.v x] h = .ok (.v (.bl (itemsOk x))) h := by
  refine call_of (C_call (fn_T (fd := f_is_items) (by kernel_rfl)) (C_run rfl ?_))
  cases k with
  | zero => exact hp.elim
  | succ k =>
  cases x with
  | exc c => exact hp.elim
  | ref r => obtain ⟨l, e, _⟩ := hp; simp [f_is_items, view_ref e, itemsOk]
  | tup l =>
    simp [f_is_items, itemsOk, itemsOf, srcOf]
    refine ⟨fun q => by omega, fun q => ?_⟩
    refine W_inBlock rfl (W_compF (fun h' => h' = h) (fun _ => true) (fun x => .bl (numOk x (-1000000) 1000000)) l (fun x m h' e => ?_) rfl fun h' e => ?_)
    · subst e
      simp [c_is_number (hp x m).pl]
    · subst e
      simp [allBools_map, limit, filt]
      refine ⟨by omega, ?_⟩
      simp [show l.length ≤ 9 by omega]
  | _ => simp [f_is_items, itemsOk]
def letV : Val → Bool
  | .str z => isSub z "abcdefghijklmnopqrstuvwxyz"
  | _ => false
def isLet (c : Nat) : Bool := isSub ⟨#[c]⟩ "abcdefghijklmnopqrstuvwxyz"
def wordOk : Val → Bool
  | .str z => decide (1 ≤ z.length) && (decide (z.length ≤ 4) && z.cps.toList.all isLet)
  | _ => false
theorem c_is_word {n x} (hp : Pl h x) : call Tk (n + 1) "is_word" [.v x] h = .ok (.v (.bl (wordOk x))) h := by
  refine call_of (C_call (fn_T (fd := f_is_word) (by kernel_rfl)) (C_run rfl ?_))
  cases x with
  | exc c => exact hp.elim
  | ref r => obtain ⟨l, e⟩ := hp; simp [f_is_word, view_ref e, wordOk]
  | str z =>
    simp [f_is_word, wordOk, itemsOf, srcOf]
    refine ⟨hp, fun q => ⟨fun q2 => ?_, fun q2 _ _ => by omega⟩, fun q _ _ => by omega⟩
    refine W_inBlock rfl (W_compF (fun h' => h' = h) (fun _ => true) (fun x => .bl (letV x)) _ (fun x m h' e => ?_) rfl fun h' e => ?_)
    · subst e
      obtain ⟨c, _, rfl⟩ := List.mem_map.mp m
      simp [letV]
    · subst e
      have l1 : z.cps.size = z.length := rfl
      simp [-List.map_map, allBools_map, limit, filt, l1]
      refine ⟨by omega, ?_⟩
      have q3 : 1 ≤ z.length := by omega
      have q4 : z.length ≤ 4 := by omega
      simp [q3, q4]; rfl
  | _ => simp [f_is_word, wordOk]
def WS : List (Str × List Str) := [("e", ["add", "mul", "rest"]), ("b", ["add", "sub", "mul", "least", "most"]), ("r", ["even", "below", "same", "parts"]), ("f", ["sum", "least", "most"])]
def KS : List (Str × Str) := [("count", "cc"), ("list", "l"), ("fed", "w"), ("ahead", "lk"), ("each", "eck"), ("both", "bkk"), ("keep", "rck"), ("until", "rck"), ("from", "rck"), ("first", "nk"), ("skip", "nk"), ("sums", "k"), ("change", "k"), ("runs", "k"), ("then", "kk"), ("turns", "kk"), ("merge", "kk"), ("window", "fnnk"), ("cross", "bkk"), ("again", "k")]
def look {α : Type} (x : Str) : List (Str × α) → Option α
  | [] => none
  | (y, v) :: r => if x = y then some v else look x r
theorem lookF_map {x : Str} {f : α → Val} : ∀ {l : List (Str × α)}, lookF x (l.map fun p => (p.1, f p.2)) = (look x l).map f
  | [] => rfl
  | (y, v) :: r => by
    show (if x = y then some (f v) else lookF x (r.map fun p => (p.1, f p.2))) = (if x = y then some v else look x r).map f
    by_cases e : x = y
    · rw [if_pos e, if_pos e]; rfl
    · rw [if_neg e, if_neg e]; exact lookF_map
theorem look_mem {x : Str} {v : α} : ∀ {l : List (Str × α)}, look x l = some v → (x, v) ∈ l
  | [], e => by cases e
  | (y, u) :: r, e => by
    unfold look at e
    by_cases c : x = y
    · rw [if_pos c] at e; cases e; rw [c]; exact List.mem_cons_self
    · rw [if_neg c] at e; exact List.mem_cons_of_mem _ (look_mem e)
def tupS (l : List Str) : Val := .tup (l.map .str)
@[simp] theorem gd_W : Tk.gd "WORDS" = some (WS.map fun p => (p.1, tupS p.2)) := by kernel_rfl
@[simp] theorem gd_K : Tk.gd "KINDS" = some (KS.map fun p => (p.1, .str p.2)) := by kernel_rfl
def partOk (x : Val) (k : Str) (m : Int) : Bool := match look k WS with
  | some ws => (match x with
    | .str z => decide (z ∈ ws)
    | _ => false)
  | none => if k = "l" then itemsOk x else if k = "w" then wordOk x else if k = "k" then numOk x 0 (m - 1) else if k = "n" then numOk x 1 9 else numOk x (-1000000) 1000000
theorem wl : ¬ (("w" : Str) = "l") := by decide +kernel
theorem kl : ¬ (("k" : Str) = "l") := by decide +kernel
theorem kw : ¬ (("k" : Str) = "w") := by decide +kernel
theorem nl : ¬ (("n" : Str) = "l") := by decide +kernel
theorem nw : ¬ (("n" : Str) = "w") := by decide +kernel
theorem nk : ¬ (("n" : Str) = "k") := by decide +kernel
theorem c_is_part {n d x k m} (hp : Pd h d x) : call Tk (n + 3) "is_part" [.v x, .v (.str k), .v (.int m)] h = .ok (.v (.bl (partOk x k m))) h := by
  refine call_of (C_call (fn_T (fd := f_is_part) (by kernel_rfl)) (C_run rfl ?_))
  simp [f_is_part, lookF_map, c_is_items hp, c_is_word hp.pl, c_is_number hp.pl, partOk]
  cases e : look k WS with
  | none =>
    simp
    by_cases e1 : k = "l"
    · simp [e1]
    by_cases e2 : k = "w"
    · simp [e1, e2, wl]
    by_cases e3 : k = "k"
    · simp [e1, e2, e3, kl, kw]
    by_cases e4 : k = "n"
    · simp [e1, e2, e3, e4, nl, nw, nk]
    · simp [e1, e2, e3, e4]
  | some ws =>
    simp
    cases d with
    | zero => exact hp.elim
    | succ d => cases x with
      | exc c => exact hp.elim
      | ref r => obtain ⟨l, e, _⟩ := hp; simp [view_ref e]
      | str z => simp [tupS, mapO_str]; rw [← List.any_map, any_str]
      | _ => simp
end
end Mn
end
section
namespace Mn
open PySem
section
variable {α β : Type} {s : Slots} {h : Hp} {X : Str → Slots → Hp → Prop} {G : Env}
@[simp] theorem ix0 {n : Nat} : ixN (n + 1) 0 = some 0 := by
  unfold ixN; rw [if_pos (by omega), if_pos (by omega)]; rfl
@[simp] theorem ix1 {n : Nat} : ixN (n + 1 + 1) 1 = some 1 := by
  unfold ixN; rw [if_pos (by omega), if_pos (by omega)]; rfl
@[simp] theorem ix2 {n : Nat} : ixN (n + 1 + 1 + 1) 2 = some 2 := by
  unfold ixN; rw [if_pos (by omega), if_pos (by omega)]; rfl
@[simp] theorem cut1 {a : α} {r : List α} : cutL (a :: r) (some 1) none = r := by
  unfold cutL cutAt
  simp
def sigs (k : Str) : List Val := k.cps.toList.map fun c => .str ⟨#[c]⟩
theorem sigs_len {k : Str} : (sigs k).length = k.length := by simp [sigs]; rfl
theorem items_str {k} : itemsOf (.val (.str k)) = some (sigs k) := rfl
theorem zipL_mem {y : Val} : ∀ {a b : List Val}, y ∈ zipL a b → ∃ p q, y = .tup [p, q] ∧ p ∈ a ∧ q ∈ b
  | [], _, m => by cases m
  | _ :: _, [], m => by cases m
  | x :: r, z :: q, m => by
    rcases List.mem_cons.mp m with rfl | m
    · exact ⟨x, z, rfl, List.mem_cons_self, List.mem_cons_self⟩
    · obtain ⟨p, q, e, h1, h2⟩ := zipL_mem m
      exact ⟨p, q, e, List.mem_cons_of_mem _ h1, List.mem_cons_of_mem _ h2⟩
theorem zipL_len : ∀ {a b : List Val}, (zipL a b).length ≤ a.length
  | [], _ => by simp [zipL]
  | _ :: _, [] => by simp [zipL]
  | x :: r, z :: q => by have := zipL_len (a := r) (b := q); simp [zipL]; exact this
def partV (m : Int) : Val → Bool
  | .tup [p, .str c] => partOk p c m
  | _ => false
def strIn (x : Val) (ws : List Str) : Bool := match x with
  | .str z => decide (z ∈ ws)
  | _ => false
def RP : List Str := ["rest", "parts"]
def isRP (x : Val) : Bool := strIn x RP
theorem any_no {e : PyData} (n : ∀ z, e ≠ .str z) {ws : List Str} : ((ws.map PyData.str).any fun z => PyData.eqv z e) = false := by
  rw [List.any_eq_false]
  intro z m
  obtain ⟨q, _, rfl⟩ := List.mem_map.mp m
  cases e <;> simp [PyData.eqv] at n ⊢
theorem vw_d {d x} (hp : Pd h d x) (hd : d ≤ 60) : ∃ w e, viewV h x = some w ∧ toDW h w = some e ∧ toD h 60 x = some e := by
  obtain ⟨e, q⟩ := (hp.le hd).toD
  cases x with
  | ref a =>
    obtain ⟨l, el⟩ := hp.pl
    have : toD h 60 (.ref a) = (mapO (toD h 59) l).map .list := by simp [toD, el]
    exact ⟨_, e, view_ref el, by rw [← q, this]; rfl, q⟩
  | _ => exact ⟨_, e, rfl, q, q⟩
theorem str_in {d x} (hp : Pd h d x) (hd : d ≤ 60) (ws : List Str) : ∃ w e, viewV h x = some w ∧ toDW h w = some e ∧ ((ws.map PyData.str).any fun z => PyData.eqv z e) = strIn x ws := by
  obtain ⟨w, e, q0, q1, q⟩ := vw_d hp hd
  refine ⟨w, e, q0, q1, ?_⟩
  clear q0 q1
  cases x with
  | str z => cases q; exact any_str
  | exc c => cases q
  | non => cases q; exact any_no (by simp)
  | bl b => cases q; exact any_no (by simp)
  | int b => cases q; exact any_no (by simp)
  | tup l =>
    rw [toD_tup, Option.map_eq_some_iff] at q
    obtain ⟨ds, _, rfl⟩ := q
    exact any_no (by simp)
  | ref a =>
    obtain ⟨l, el⟩ := hp.pl
    have : toD h 60 (.ref a) = (mapO (toD h 59) l).map .list := by simp [toD, el]
    rw [this, Option.map_eq_some_iff] at q
    obtain ⟨ds, _, rfl⟩ := q
    exact any_no (by simp)
def partStr (q k : Str) : Bool := match look k WS with
  | some ws => decide (q ∈ ws)
  | none => if k = "w" then wordOk (.str q) else false
theorem part_str {q k : Str} {m : Int} (n : ¬ k = ("l" : Str)) : partOk (.str q) k m = partStr q k := by
  unfold partOk partStr
  cases look k WS with
  | some ws => rfl
  | none =>
    dsimp only
    rw [if_neg n]
    by_cases e2 : k = "w"
    · rw [if_pos e2, if_pos e2]
    · rw [if_neg e2, if_neg e2]
      split
      · rfl
      · split <;> rfl
def rpOk (q : Str) : List Nat → Bool
  | c0 :: c1 :: _ => decide (Str.mk #[c0] = "l") || !partStr q ⟨#[c0]⟩ || decide (Str.mk #[c1] = "c")
  | _ => true
theorem rp_all : ∀ p ∈ KS, ∀ q ∈ RP, rpOk q p.2.cps.toList = true := by decide +kernel
theorem part_l {q : Str} {m : Int} : partOk (.str q) "l" m = false := by
  have : look ("l" : Str) WS = none := by decide +kernel
  unfold partOk
  rw [this]
  dsimp only
  rw [if_pos rfl]; rfl
theorem part_c {w m} : partOk w "c" m = numOk w (-1000000) 1000000 := by
  have : look ("c" : Str) WS = none := by decide +kernel
  unfold partOk
  rw [this]
  dsimp only
  rw [if_neg (by decide +kernel), if_neg (by decide +kernel), if_neg (by decide +kernel), if_neg (by decide +kernel)]
theorem rp_int {z k : Str} {y w : Val} {r : List Val} {m : Int} (ek : look z KS = some k) (rk : (y :: w :: r).length = k.length) (ha : ∀ x ∈ zipL (y :: w :: r) (sigs k), partV m x = true) (hr : isRP y = true) : ∃ i, w = .int i := by
  cases y with
  | str q =>
    have hq : q ∈ RP := of_decide_eq_true hr
    have h1 := rp_all _ (look_mem ek) q hq
    dsimp only at h1
    have kl : k.cps.toList.length = k.length := by simp; rfl
    unfold sigs at ha
    cases ec : k.cps.toList with
    | nil => rw [ec] at kl; rw [← kl] at rk; cases rk
    | cons c0 cs =>
    cases cs with
    | nil => rw [ec] at kl; rw [← kl] at rk; cases rk
    | cons c1 cs =>
    rw [ec] at h1 ha
    have a0 : partOk (.str q) ⟨#[c0]⟩ m = true := ha (.tup [.str q, .str ⟨#[c0]⟩]) List.mem_cons_self
    have a1 : partOk w ⟨#[c1]⟩ m = true := ha (.tup [w, .str ⟨#[c1]⟩]) (List.mem_cons_of_mem _ List.mem_cons_self)
    unfold rpOk at h1
    rcases Bool.or_eq_true_iff.mp h1 with h1 | h1
    · rcases Bool.or_eq_true_iff.mp h1 with h1 | h1
      · rw [of_decide_eq_true h1, part_l] at a0
        cases a0
      · by_cases el : Str.mk #[c0] = "l"
        · rw [el, part_l] at a0
          cases a0
        · rw [part_str el] at a0
          rw [a0] at h1
          cases h1
    · rw [of_decide_eq_true h1, part_c] at a1
      cases w with
      | int i => exact ⟨i, rfl⟩
      | _ => cases a1
  | _ => cases hr
def geOne : Val → Bool
  | .int i => decide (1 ≤ i)
  | _ => false
def tailOk : List Val → Bool
  | y :: w :: _ => !isRP y || geOne w
  | _ => true
def nodeOk (x : Val) (m : Int) : Bool := match x with
  | .tup (.str z :: r) => (match look z KS with
    | some k => decide (r.length = k.length) && ((zipL r (sigs k)).all (partV m) && tailOk r)
    | none => false)
  | _ => false
theorem kinds_small {z k : Str} (e : look z KS = some k) : k.length ≤ 4 := by
  have m := look_mem e
  have : ∀ p ∈ KS, p.2.length ≤ 4 := by decide +kernel
  exact this _ m
theorem c_is_node {n d x m} (hp : Pd h d x) (hd : d ≤ 60) : call Tk (n + 4) "is_node" [.v x, .v (.int m)] h = .ok (.v (.bl (nodeOk x m))) h := by
  refine call_of (C_call (fn_T (fd := f_is_node) (by kernel_rfl)) (C_run rfl ?_))
  unfold f_is_node
  dsimp only
  refine S_step fun K hK => ?_
  cases d with
  | zero => exact hp.elim
  | succ d =>
  cases x with
  | exc c => exact hp.elim
  | ref r => obtain ⟨l, e, _⟩ := hp; simp [view_ref e]; subst hK; simp [nodeOk]
  | tup l =>
    have hp' : ∀ y ∈ l, Pd h d y := hp
    obtain ⟨ds, e1, e2⟩ := Pd.mapO (m := 59) hp' (by omega)
    simp [e1]
    cases l with
    | nil =>
      cases ds with
      | nil => simp; subst hK; simp [nodeOk]
      | cons _ _ => cases e2
    | cons a r =>
    cases ds with
    | nil => cases e2
    | cons d0 ds =>
    simp
    cases a with
    | str z =>
      simp [lookF_map]
      cases ek : look z KS with
      | none => simp; subst hK; simp [nodeOk, ek]
      | some k =>
        have k4 := kinds_small ek
        simp
        subst hK
        dsimp only
        refine S_step fun K hK => ?_
        simp [lookF_map, ek]
        subst hK
        dsimp only
        refine S_step fun K hK => ?_
        simp [items_str, srcOf]
        refine ⟨by simp [limit]; omega, fun q => ?_, fun q => ?_⟩
        · subst hK
          have : ¬ r.length = k.length := by omega
          simp [nodeOk, ek, this]
        have rk : r.length = k.length := by omega
        rw [show itemsOf (View.val (Val.tup r)) = some r from rfl]
        dsimp only
        refine W_inBlock rfl (W_compF (fun h' => h' = h) (fun _ => true) (fun x => .bl (partV m x)) _ (fun x mm h' e => ?_) rfl fun h' e => ?_)
        · subst e
          obtain ⟨p, c, rfl, hr, hc⟩ := zipL_mem mm
          obtain ⟨c, _, rfl⟩ := List.mem_map.mp hc
          simp [c_is_part (hp' p (List.mem_cons_of_mem _ hr)), partV]
        · subst e
          have zl := zipL_len (a := r) (b := sigs k)
          simp [-List.map_map, allBools_map, filt, limit, rk]
          refine ⟨by omega, fun x m1 m2 => ?_, fun ha => ?_⟩
          · subst hK
            simp [nodeOk, ek, rk]
            intro h3
            rw [h3 x m1] at m2
            cases m2
          · subst hK
            dsimp only
            refine S_step fun K hK => ?_
            have hN : nodeOk (.tup (.str z :: r)) m = tailOk r := by
              simp only [nodeOk, ek, rk, decide_true, Bool.true_and, List.all_eq_true.mpr ha]
            rw [hN] at hK
            cases r with
            | nil => simp; subst hK; simp [tailOk]
            | cons y r =>
            cases r with
            | nil => simp; subst hK; simp [tailOk]
            | cons w r =>
            obtain ⟨v, de, q0, q1, q2⟩ := str_in (hp' y (by simp)) (by omega) RP
            have q3 : (PyData.eqv (.str "rest") de || PyData.eqv (.str "parts") de) = isRP y := by rw [← Bool.or_false (PyData.eqv (.str "parts") de)]; exact q2
            simp [q0, q1]
            refine ⟨fun _ => ⟨by decide, fun c => ?_, fun c1 c2 => ?_⟩, by omega⟩
            · rw [← Bool.or_eq_true_iff, q3] at c
              obtain ⟨i, rfl⟩ := rp_int ek rk ha c
              simp
              subst hK
              simp [tailOk, c, geOne]
            · subst hK
              rw [c1, c2] at q3
              simp [tailOk, ← q3]
    | exc c => exact (hp' _ List.mem_cons_self).pl.elim
    | ref b =>
      obtain ⟨l, e⟩ := (hp' _ List.mem_cons_self).pl
      simp [view_ref e]; subst hK; simp [nodeOk]
    | _ => simp; subst hK; simp [nodeOk]
  | _ => simp; subst hK; simp [nodeOk]
end
end Mn
end
section
namespace Mn
open PySem
section
variable {α β : Type} {s : Slots} {h : Hp} {X : Str → Slots → Hp → Prop} {G : Env}
def planOk : Val → Bool
  | .tup l => decide (1 ≤ l.length) && (decide (l.length ≤ 12) && l.all fun x => nodeOk x l.length)
  | _ => false
theorem c_is_plan {n d x} (hp : Pd h d x) (hd : d ≤ 60) : call Tk (n + 5) "is_plan" [.v x] h = .ok (.v (.bl (planOk x))) h := by
  refine call_of (C_call (fn_T (fd := f_is_plan) (by kernel_rfl)) (C_run rfl ?_))
  unfold f_is_plan
  dsimp only
  refine S_step fun K hK => ?_
  cases d with
  | zero => exact hp.elim
  | succ d =>
  cases x with
  | exc c => exact hp.elim
  | ref r => obtain ⟨l, e, _⟩ := hp; simp [view_ref e]; subst hK; simp [planOk]
  | tup l =>
    have hp' : ∀ y ∈ l, Pd h d y := hp
    simp
    refine ⟨fun q1 => And.symm ⟨fun q2 => ?_, fun q2 => ?_⟩, fun q1 => ?_⟩
    · subst hK
      dsimp only
      refine S_step fun K hK => ?_
      simp [itemsOf, srcOf]
      refine W_inBlock rfl (W_compF (fun h' => h' = h) (fun _ => true) (fun x => .bl (nodeOk x l.length)) l (fun x m h' e => ?_) rfl fun h' e => ?_)
      · subst e
        simp [c_is_node (hp' x m) (by omega)]
      · subst e
        simp [allBools_map, limit, filt]
        refine ⟨by omega, ?_⟩
        subst hK
        simp [planOk, show 1 ≤ l.length by omega, show l.length ≤ 12 by omega]
    · subst hK
      simp [planOk]
      omega
    · subst hK
      simp [planOk]
      omega
  | _ => simp; subst hK; simp [planOk]
theorem c_look_plan {n d x} (hp : Pd h d x) (hd : d ≤ 60) : call Tk (n + 6) "look_plan" [.v x] h = if planOk x = true then .ok (.v .non) h else .err "BadPlan" h := by
  have w : C (call Tk (n + 6) "look_plan" [.v x] h) (fun b g => b = .v .non ∧ g = h ∧ planOk x = true) (fun c g => c = "BadPlan" ∧ g = h ∧ planOk x = false) := by
    refine C_call (fn_T (fd := f_look_plan) (by kernel_rfl)) (C_run rfl ?_)
    simp [f_look_plan, c_is_plan hp hd]
  revert w
  cases e : call Tk (n + 6) "look_plan" [.v x] h with
  | bad => exact fun w => w.elim
  | ok b g => rintro ⟨rfl, rfl, q⟩; rw [if_pos q]
  | err c g => rintro ⟨rfl, rfl, q⟩; rw [if_neg (by simp [q])]
theorem c_look_node {n l x} (hp : Pl h x) : call Tk (n + 2) "look_node" [.v (.tup l), .v x] h = if numOk x 0 (l.length - 1) = true then .ok (.v .non) h else .err "NoNode" h := by
  have w : C (call Tk (n + 2) "look_node" [.v (.tup l), .v x] h) (fun b g => b = .v .non ∧ g = h ∧ numOk x 0 (l.length - 1) = true) (fun c g => c = "NoNode" ∧ g = h ∧ numOk x 0 (l.length - 1) = false) := by
    refine C_call (fn_T (fd := f_look_node) (by kernel_rfl)) (C_run rfl ?_)
    simp [f_look_node, c_is_number hp]
  revert w
  cases e : call Tk (n + 2) "look_node" [.v (.tup l), .v x] h with
  | bad => exact fun w => w.elim
  | ok b g => rintro ⟨rfl, rfl, q⟩; rw [if_pos q]
  | err c g => rintro ⟨rfl, rfl, q⟩; rw [if_neg (by simp [q])]
theorem c_law_whole {n x} (hp : Pl h x) : call Tk (n + 1) "_law_whole" [.v x] h = .ok (.v (.bl (match x with | .int _ => true | _ => false))) h := by
  refine call_of (C_call (fn_T (fd := f__law_whole) (by kernel_rfl)) (C_run rfl ?_))
  cases x with
  | exc c => exact hp.elim
  | ref r => obtain ⟨l, e⟩ := hp; simp [f__law_whole, view_ref e]
  | _ => simp [f__law_whole]
theorem c_law_number {n x a b} (hp : Pl h x) : call Tk (n + 2) "_law_number" [.v x, .v (.int a), .v (.int b)] h = .ok (.v (.bl (numOk x a b))) h := by
  refine call_of (C_call (fn_T (fd := f__law_number) (by kernel_rfl)) (C_run rfl ?_))
  simp [f__law_number, c_law_whole hp]
  cases x with
  | int i => simp [numOk]; by_cases e : a ≤ i <;> simp [e]; omega
  | _ => simp [numOk]
theorem c_law_items {n d x} (hp : Pd h d x) (hd : d ≤ 60) : call Tk (n + 3) "_law_items" [.v x] h = .ok (.v (.bl (itemsOk x))) h := by
  refine call_of (C_call (fn_T (fd := f__law_items) (by kernel_rfl)) (C_run rfl ?_))
  unfold f__law_items
  dsimp only
  refine S_step fun K hK => ?_
  cases d with
  | zero => exact hp.elim
  | succ d =>
  cases x with
  | exc c => exact hp.elim
  | ref r => obtain ⟨l, e, _⟩ := hp; simp [view_ref e]; subst hK; simp [itemsOk]
  | tup l =>
    have hp' : ∀ y ∈ l, Pd h d y := hp
    simp
    refine ⟨fun q => ?_, fun q => ?_⟩
    · subst hK
      simp [itemsOk]
      omega
    · subst hK
      dsimp only
      refine S_step fun K hK => ?_
      simp [itemsOf, srcOf]
      refine W_inBlock rfl (W_compF (fun h' => h' = h) (fun x => !numOk x (-1000000) 1000000) id l (fun x m h' e => ?_) rfl fun h' e => ?_)
      · subst e
        simp [c_law_number (hp' x m).pl, mulOk]
      · subst e
        obtain ⟨ds, e1, e2⟩ := Pd.mapO (m := 59) (l := l.filter fun x => !numOk x (-1000000) 1000000) (fun y m => hp' y (List.mem_filter.mp m).1) (by omega)
        have fl : (l.filter fun x => !numOk x (-1000000) 1000000).length ≤ l.length := List.length_filter_le _ _
        simp [limit, e1]
        refine ⟨by omega, ?_⟩
        subst hK
        have : ds.isEmpty = l.all fun x => numOk x (-1000000) 1000000 := by
          rw [Bool.eq_iff_iff, List.isEmpty_iff_length_eq_zero, e2, List.length_eq_zero_iff, List.filter_eq_nil_iff]
          simp
        simp [itemsOk, this]
        omega
  | _ => simp; subst hK; simp [itemsOk]
end
end Mn
end
section
namespace Mn
open PySem
section
variable {α β : Type} {s : Slots} {h : Hp} {X : Str → Slots → Hp → Prop} {G : Env} {QF : Fl → Slots → Hp → Prop}
@[simp ↓] theorem W_putIx_sl {x p w} : W (putIx x (.sl p) w) s h QF X = (match s[p]?, w with
    | some (some (.l l)), .val (.int k) => (match ixN l.length k with
      | some j => QF .nx (s.set p (some (.l (l.set j x)))) h
      | none => False)
    | some (some (.d kvs)), .val v => (match keyOf v with
      | some j => kvs.length < limit ∧ QF .nx (s.set p (some (.d (putK j x kvs)))) h
      | none => False)
    | _, _ => False) := by
  unfold W putIx
  dsimp only
  cases s[p]? with
  | none => rfl
  | some o => cases o with
    | none => rfl
    | some b => cases b with
      | v x => rfl
      | sl i => rfl
      | l l => cases w with
        | val v => cases v with
          | int k => dsimp only; cases ixN l.length k <;> rfl
          | _ => rfl
        | _ => rfl
      | d k => cases w with
        | val v =>
          dsimp only
          cases keyOf v with
          | none => rfl
          | some j => dsimp only; by_cases e : k.length < limit <;> simp [e]
        | _ => rfl
@[simp] theorem keyOf_str {k} : keyOf (.str k) = some (.inr k) := rfl
def oS (l : List Str) : Obj := .lst (l.map .str)
def lpT : List Obj := [oS ["add", "mul", "rest"], oS ["add", "sub", "mul", "least", "most"], oS ["sum", "least", "most"], oS ["even", "below", "same", "parts"]]
def lpD (n : Nat) : List (Key × Val) := [(.inr "e", .ref n), (.inr "b", .ref (n + 1)), (.inr "f", .ref (n + 2)), (.inr "r", .ref (n + 3))]
theorem lp_merge {a b c : Val} : mergeD [] [(.str "e", a), (.str "b", b), (.str "f", c)] = some [(.inr "e", a), (.inr "b", b), (.inr "f", c)] := by kernel_rfl
theorem lp_put {a b c d : Val} : putK (.inr "r") d [(.inr "e", a), (.inr "b", b), (.inr "f", c)] = [(.inr "e", a), (.inr "b", b), (.inr "f", c), (.inr "r", d)] := by kernel_rfl
theorem lp_e {n} : lookK (.inr "e") (lpD n) = some (.ref n) := by kernel_rfl
theorem lp_b {n} : lookK (.inr "b") (lpD n) = some (.ref (n + 1)) := by kernel_rfl
theorem lp_f {n} : lookK (.inr "f") (lpD n) = some (.ref (n + 2)) := by kernel_rfl
theorem lp_r {n} : lookK (.inr "r") (lpD n) = some (.ref (n + 3)) := by kernel_rfl
theorem lp_no {n k} (h1 : ¬ k = ("e" : Str)) (h2 : ¬ k = ("b" : Str)) (h3 : ¬ k = ("f" : Str)) (h4 : ¬ k = ("r" : Str)) : lookK (.inr k) (lpD n) = none := by
  simp [lpD, lookK, h1, h2, h3, h4]
theorem ws_no {k} (h1 : ¬ k = ("e" : Str)) (h2 : ¬ k = ("b" : Str)) (h3 : ¬ k = ("f" : Str)) (h4 : ¬ k = ("r" : Str)) : look k WS = none := by
  simp [WS, look, h1, h2, h3, h4]
theorem lp_all {n k} : (∃ i ws, lookK (.inr k) (lpD n) = some (.ref (n + i)) ∧ look k WS = some ws ∧ lpT[i]? = some (oS ws)) ∨ (lookK (.inr k) (lpD n) = none ∧ look k WS = none) := by
  by_cases h1 : k = ("e" : Str)
  · subst h1; exact Or.inl ⟨0, _, lp_e, by kernel_rfl, rfl⟩
  by_cases h2 : k = ("b" : Str)
  · subst h2; exact Or.inl ⟨1, _, lp_b, by kernel_rfl, rfl⟩
  by_cases h3 : k = ("f" : Str)
  · subst h3; exact Or.inl ⟨2, _, lp_f, by kernel_rfl, rfl⟩
  by_cases h4 : k = ("r" : Str)
  · subst h4; exact Or.inl ⟨3, _, lp_r, by kernel_rfl, rfl⟩
  exact Or.inr ⟨lp_no h1 h2 h3 h4, ws_no h1 h2 h3 h4⟩
theorem view_at {i ws} (e : lpT[i]? = some (oS ws)) : viewV (h ++ lpT) (.ref (h.length + i)) = some (.lst (ws.map .str)) := by
  unfold viewV
  dsimp only
  rw [List.getElem?_append_right (by omega), show h.length + i - h.length = i by omega, e]
  rfl
theorem c_law_part {n d x k m} (hp : Pd h d x) (hd : d ≤ 60) : call Tk (n + 4) "_law_part" [.v x, .v (.str k), .v (.int m)] h = .ok (.v (.bl (partOk x k m))) (h ++ lpT) := by
  refine call_of (C_call (fn_T (fd := f__law_part) (by kernel_rfl)) (C_run rfl ?_))
  unfold f__law_part
  dsimp only
  refine S_step fun K hK => ?_
  simp
  subst hK; dsimp only
  refine S_step fun K hK => ?_
  simp [limit, lp_merge]
  subst hK; dsimp only
  refine S_step fun K hK => ?_
  simp [limit, lp_put]
  subst hK; dsimp only
  rw [show h ++ [Obj.lst [Val.str (Str.ofString "add"), Val.str (Str.ofString "mul"), Val.str (Str.ofString "rest")], Obj.lst [Val.str (Str.ofString "add"), Val.str (Str.ofString "sub"), Val.str (Str.ofString "mul"), Val.str (Str.ofString "least"), Val.str (Str.ofString "most")], Obj.lst [Val.str (Str.ofString "sum"), Val.str (Str.ofString "least"), Val.str (Str.ofString "most")], Obj.lst [Val.str (Str.ofString "even"), Val.str (Str.ofString "below"), Val.str (Str.ofString "same"), Val.str (Str.ofString "parts")]] = h ++ lpT from rfl]
  rw [show [((Sum.inr (Str.ofString "e") : Key), Val.ref (List.length h)), (Sum.inr (Str.ofString "b"), Val.ref (List.length h + 1)), (Sum.inr (Str.ofString "f"), Val.ref (List.length h + 1 + 1)), (Sum.inr (Str.ofString "r"), Val.ref (List.length h + 3))] = lpD h.length from rfl]
  refine S_step fun K hK => ?_
  have hpe : Pd (h ++ lpT) d x := hp.ext
  rcases lp_all (n := h.length) (k := k) with ⟨i, ws, e1, e2, e3⟩ | ⟨e1, e2⟩
  · have er : partOk x k m = strIn x ws := by
      unfold partOk strIn
      rw [e2] <;> cases x <;> rfl
    have ev : viewV (h ++ lpT) (.ref (h.length + i)) = some (.lst (ws.map .str)) := view_at e3
    simp [e1]
    subst hK
    cases d with
    | zero => exact hp.elim
    | succ d =>
    cases x with
    | exc c => exact hp.elim
    | ref r => obtain ⟨l, e, _⟩ := hpe; simp [view_ref e, er, strIn]
    | str z =>
      simp [e1, ev, mapO_str, er, strIn]
      rw [← List.any_map, any_str]
    | _ => simp [er, strIn]
  · simp [e1]
    subst hK; dsimp only
    refine S_step fun K hK => ?_
    have er : partOk x k m = if k = "l" then itemsOk x else if k = "w" then wordOk x else if k = "k" then numOk x 0 (m - 1) else if k = "n" then numOk x 1 9 else numOk x (-1000000) 1000000 := by
      unfold partOk
      rw [e2]
    simp
    refine ⟨fun c => ?_, fun c => ?_⟩
    · subst c
      rw [if_neg wl, if_pos rfl] at er
      rw [er] at hK
      cases d with
      | zero => exact hp.elim
      | succ d =>
      cases x with
      | exc c => exact hp.elim
      | ref r => obtain ⟨l, e, _⟩ := hpe; simp [view_ref e]; subst hK; simp [wordOk]
      | str z =>
        simp [itemsOf, srcOf]
        have hl : ([Obj.frz []] : List Obj).length = 1 := rfl
        clear hl
        have hz : z.length ≤ limit := hp
        have fin : ∀ (h' : Hp) (s' : Slots), h' = h ++ lpT → ¬ (1 ≤ z.length ∧ z.length ≤ 4) → K (.rt (.v (.bl false))) s' h' := by
          intro h' s' eh q
          subst hK
          refine ⟨?_, eh⟩
          have : wordOk (.str z) = false := by
            unfold wordOk
            by_cases q1 : 1 ≤ z.length
            · by_cases q2 : z.length ≤ 4
              · exact (q ⟨q1, q2⟩).elim
              · simp [q2]
            · simp [q1]
          rw [this]
        refine ⟨hz, fun q => ⟨fun q2 => ?_, fun q2 => fin _ _ rfl (by omega)⟩, fun q => fin _ _ rfl (by omega)⟩
        refine W_inBlock rfl (W_compF (fun h' => h' = h ++ lpT) (fun x => !letV x) id _ (fun x mm h' e => ?_) rfl fun h' e => ?_)
        · subst e
          obtain ⟨c, _, rfl⟩ := List.mem_map.mp mm
          simp [letV]
        · subst e
          have l1 : z.cps.toList.length = z.length := by simp; rfl
          have ms : ∀ y ∈ ((z.cps.toList.map fun c => Val.str ⟨#[c]⟩).filter fun x => !letV x), ∃ dd, toD (h ++ lpT) 59 y = some dd := by
            intro y my
            obtain ⟨c, _, rfl⟩ := List.mem_map.mp (List.mem_filter.mp my).1
            exact ⟨_, rfl⟩
          obtain ⟨ds, e3, e4⟩ := mapO_some ms
          have fl : ((z.cps.toList.map fun c => Val.str ⟨#[c]⟩).filter fun x => !letV x).length ≤ z.length := by
            refine Nat.le_trans (List.length_filter_le _ _) ?_
            simp; exact Nat.le_refl _
          rw [List.map_id]
          refine ⟨by simp only [limit] at *; omega, ?_⟩
          simp only [view_l, toDW_lst, e3]
          simp
          subst hK
          have : ds.isEmpty = wordOk (.str z) := by
            rw [Bool.eq_iff_iff, List.isEmpty_iff_length_eq_zero, e4, List.length_eq_zero_iff, List.filter_eq_nil_iff]
            unfold wordOk
            dsimp only
            rw [show decide (1 ≤ z.length) = true by simp; omega, show decide (z.length ≤ 4) = true by simp; omega, Bool.true_and, Bool.true_and, List.all_eq_true]
            constructor
            · intro q c mc
              have := q _ (List.mem_map.mpr ⟨c, mc, rfl⟩)
              simp at this
              exact this
            · intro q y my
              obtain ⟨c, mc, rfl⟩ := List.mem_map.mp my
              have := q c mc
              simp
              exact this
          simp [this]
      | _ => simp; subst hK; simp [wordOk]
    · subst hK; dsimp only
      refine S_step fun K hK => ?_
      simp [c_law_items hpe hd]
      refine ⟨fun c => ?_, fun c => ?_⟩
      · subst hK
        subst c
        simp [er]
      · subst hK; dsimp only
        refine S_step fun K hK => ?_
        simp [c_law_number hpe.pl]
        rename_i cw
        refine ⟨fun c => ?_, fun c => ?_⟩
        · subst hK
          subst c
          simp [er, kl, kw]
        · subst hK; dsimp only
          simp [c_law_number hpe.pl, mulOk]
          rename_i cl
          refine ⟨fun c => ?_, fun c => ?_⟩
          · subst c
            simp [er, nl, nw, nk]
          · simp [er, *]
end
end Mn
end
section
namespace Mn
open PySem
section
variable {α β : Type} {s : Slots} {h : Hp} {X : Str → Slots → Hp → Prop} {G : Env} {QF : Fl → Slots → Hp → Prop}
def KO : List (Str × Str) := [("count", "cc"), ("list", "l"), ("fed", "w"), ("ahead", "lk"), ("each", "eck"), ("both", "bkk"), ("keep", "rck"), ("until", "rck"), ("from", "rck"), ("first", "nk"), ("skip", "nk"), ("sums", "k"), ("change", "k"), ("runs", "k"), ("again", "k"), ("then", "kk"), ("turns", "kk"), ("merge", "kk"), ("window", "fnnk"), ("cross", "bkk")]
def LK : List (Key × Val) := KO.map fun p => (.inr p.1, .str p.2)
theorem c_law_kinds {n} : call Tk (n + 1) "_law_kinds" [] h = .ok (.d LK) h := by kernel_rfl
theorem lookK_map {x : Str} {f : α → Val} : ∀ {l : List (Str × α)}, lookK (.inr x) (l.map fun p => (.inr p.1, f p.2)) = (look x l).map f
  | [] => rfl
  | (y, v) :: r => by
    show (if (Sum.inr x : Key) = .inr y then some (f v) else lookK (.inr x) (r.map fun p => (.inr p.1, f p.2))) = (if x = y then some v else look x r).map f
    by_cases e : x = y
    · rw [if_pos (by rw [e]), if_pos e]; rfl
    · rw [if_neg (by simpa using e), if_neg e]; exact lookK_map
theorem look_none {x : Str} : ∀ {l : List (Str × α)}, (∀ p ∈ l, x ≠ p.1) → look x l = none
  | [], _ => rfl
  | (y, v) :: r, q => by
    unfold look
    rw [if_neg (q _ List.mem_cons_self)]
    exact look_none fun p m => q p (List.mem_cons_of_mem _ m)
theorem look_KO {z} : look z KO = look z KS := by
  by_cases q : ∃ p ∈ KS, z = p.1
  · obtain ⟨p, m, rfl⟩ := q
    have : ∀ p ∈ KS, look p.1 KO = look p.1 KS := by decide +kernel
    exact this p m
  · rw [look_none (l := KS) fun p m e => q ⟨p, m, e⟩, look_none (l := KO) fun p m e => q ⟨p, ?_, e⟩]
    have : ∀ p ∈ KO, p ∈ KS := by decide +kernel
    exact this p m
theorem lookLK {z} : lookK (.inr z) LK = (look z KS).map .str := by
  rw [← look_KO]; exact lookK_map
def FOUR : List Str := ["each", "keep", "until", "from"]
def four2 (p : Str × Str) (q : Str) : Bool := decide (p.1 ∈ FOUR) || (match p.2.cps.toList with
  | c0 :: _ :: _ => decide (Str.mk #[c0] = "l") || !partStr q ⟨#[c0]⟩
  | _ => true)
theorem four_all : ∀ p ∈ KS, ∀ q ∈ RP, four2 p q = true := by decide +kernel
theorem four_len : ∀ p ∈ KS, p.1 ∈ FOUR → p.2.length = 3 := by decide +kernel
theorem tail_other {z k : Str} {r : List Val} {m : Int} (ek : look z KS = some k) (rk : r.length = k.length) (ha : ∀ x ∈ zipL r (sigs k), partV m x = true) (nf : ¬ z ∈ FOUR) : tailOk r = true := by
  cases r with
  | nil => rfl
  | cons y r =>
  cases r with
  | nil => rfl
  | cons w r =>
  show (!isRP y || geOne w) = true
  cases hr : isRP y with
  | false => rfl
  | true =>
  exfalso
  cases y with
  | str q =>
    have hq : q ∈ RP := of_decide_eq_true hr
    have h1 := four_all _ (look_mem ek) q hq
    have kl : k.cps.toList.length = k.length := by simp; rfl
    unfold sigs at ha
    unfold four2 at h1
    dsimp only at h1
    cases ec : k.cps.toList with
    | nil => rw [ec] at kl; rw [← kl] at rk; cases rk
    | cons c0 cs =>
    cases cs with
    | nil => rw [ec] at kl; rw [← kl] at rk; cases rk
    | cons c1 cs =>
    rw [ec] at h1 ha
    dsimp only at h1
    have a0 : partOk (.str q) ⟨#[c0]⟩ m = true := ha (.tup [.str q, .str ⟨#[c0]⟩]) List.mem_cons_self
    rcases Bool.or_eq_true_iff.mp h1 with h1 | h1
    · exact nf (of_decide_eq_true h1)
    rcases Bool.or_eq_true_iff.mp h1 with h1 | h1
    · rw [of_decide_eq_true h1, part_l] at a0
      cases a0
    · by_cases el : Str.mk #[c0] = "l"
      · rw [el, part_l] at a0
        cases a0
      · rw [part_str el] at a0
        rw [a0] at h1
        cases h1
  | _ => cases hr
theorem mapO_ones {n : Nat} {l : List α} : mapO (toD h (n + 1)) (l.map fun _ => .int 1) = some (l.map fun _ => .int 1) := by
  induction l with
  | nil => rfl
  | cons a r ih => simp [ih]
theorem c_law_good0 {n d x m} (hp : Pd h d x) (hd : d ≤ 60) : C (call Tk (n + 5) "_law_good" [.v x, .v (.int m)] h) (fun b g => b = .v (.bl (nodeOk x m)) ∧ ∃ t, g = h ++ t) fun _ _ => False := by
  refine C_call (fn_T (fd := f__law_good) (by kernel_rfl)) (C_run rfl ?_)
  unfold f__law_good
  dsimp only
  refine S_step fun K hK => ?_
  cases d with
  | zero => exact hp.elim
  | succ d =>
  cases x with
  | exc c => exact hp.elim
  | ref r => obtain ⟨l, e, _⟩ := hp; simp [view_ref e]; subst hK; simp [nodeOk]
  | tup l =>
    have hp' : ∀ y ∈ l, Pd h d y := hp
    obtain ⟨ds, e1, e2⟩ := Pd.mapO (m := 59) hp' (by omega)
    simp [e1]
    cases l with
    | nil =>
      cases ds with
      | nil => simp; subst hK; simp [nodeOk]
      | cons _ _ => cases e2
    | cons a r =>
    cases ds with
    | nil => cases e2
    | cons d0 ds =>
    simp
    cases a with
    | str z =>
      simp [c_law_kinds, lookLK]
      cases ek : look z KS with
      | none => simp; subst hK; simp [nodeOk, ek]
      | some k =>
        have k4 := kinds_small ek
        simp
        subst hK
        dsimp only
        refine S_step fun K hK => ?_
        simp [c_law_kinds, lookLK, ek]
        subst hK
        dsimp only
        refine S_step fun K hK => ?_
        simp
        refine ⟨by simp [limit]; omega, fun q => ?_, fun q => ?_⟩
        · subst hK
          have : ¬ r.length = k.length := by omega
          simp [nodeOk, ek, this]
        have rk : r.length = k.length := by omega
        subst hK
        dsimp only
        refine S_step fun K hK => ?_
        simp [items_str, srcOf]
        rw [show itemsOf (View.val (Val.tup r)) = some r from rfl]
        dsimp only
        refine W_inBlock rfl (W_compF (fun h' => ∃ t, h' = h ++ t) (fun x => !partV m x) (fun x => .int 1) _ (fun x mm h' e => ?_) ⟨[], by simp⟩ fun h' e => ?_)
        · obtain ⟨t, rfl⟩ := e
          obtain ⟨p, c, rfl, hr, hc⟩ := zipL_mem mm
          obtain ⟨c, _, rfl⟩ := List.mem_map.mp hc
          simp [c_law_part (hp' p (List.mem_cons_of_mem _ hr)).ext (show d ≤ 60 by omega), partV]
        · obtain ⟨t, rfl⟩ := e
          have zl := zipL_len (a := r) (b := sigs k)
          have fl := List.length_filter_le (fun x => !partV m x) (zipL r (sigs k))
          simp [limit, mapO_ones]
          refine ⟨by omega, fun x mx px => ?_, fun ha => ?_⟩
          · subst hK
            simp [nodeOk, ek, rk]
            intro h3
            rw [h3 x mx] at px
            cases px
          · subst hK; dsimp only
            refine S_step fun K hK => ?_
            have hN : nodeOk (.tup (.str z :: r)) m = tailOk r := by
              simp only [nodeOk, ek, rk, decide_true, Bool.true_and, List.all_eq_true.mpr ha]
            rw [hN] at hK
            have q4 : ([PyData.str "each", .str "keep", .str "until", .str "from"].any fun y => PyData.eqv y (.str z)) = decide (z ∈ FOUR) := any_str (l := FOUR)
            by_cases zf : z ∈ FOUR
            · have r3 : r.length = 3 := by rw [rk]; exact four_len _ (look_mem ek) zf
              match r, r3 with
              | [y, w, v], _ =>
                have py : Pd (h ++ t) d y := (hp' y (by simp)).ext
                obtain ⟨vy, de, q0, q1, q2⟩ := str_in py (by omega) RP
                have q3 : ([PyData.str "rest", .str "parts"].any fun y => PyData.eqv y de) = isRP y := q2
                simp [-List.any_cons, q4, zf, q0, q1, q3]
                have fin0 : ∀ s', isRP y = false → K (.rt (.v (.bl true))) s' (h ++ t) := by
                  intro s' c
                  subst hK
                  simp [tailOk, c]
                have fin1 : ∀ i s', w = .int i → isRP y = true → K (.rt (.v (.bl (decide (0 < i))))) s' (h ++ t) := by
                  intro i s' ew c
                  subst hK
                  simp [tailOk, c, ew, geOne]
                  omega
                have fin2 : isRP y = true → ∃ i, w = .int i := rp_int ek rk ha
                have nz : ¬ (¬ Str.ofString "each" = z ∧ ¬ Str.ofString "keep" = z ∧ ¬ Str.ofString "until" = z ∧ ¬ Str.ofString "from" = z) := by
                  rintro ⟨a1, a2, a3, a4⟩
                  simp [FOUR] at zf
                  rcases zf with rfl | rfl | rfl | rfl
                  · exact a1 rfl
                  · exact a2 rfl
                  · exact a3 rfl
                  · exact a4 rfl
                clear hK
                refine ⟨by decide, fun a1 a2 a3 a4 => absurd ⟨a1, a2, a3, a4⟩ nz, ?_, ?_, ?_, ?_⟩ <;> intro _ <;> refine ⟨by decide, fin0 _, fun c => ?_⟩ <;> obtain ⟨i, e⟩ := fin2 c <;> have f1 := fin1 i <;> subst e <;> simp <;> exact f1 _ rfl c
            · have ht := tail_other ek rk ha zf
              simp [-List.any_cons, q4, zf]
              have fin0 : ∀ s', K (.rt (.v (.bl true))) s' (h ++ t) := by
                intro s'
                subst hK
                simp [ht]
              have nz : ¬ Str.ofString "each" = z ∧ ¬ Str.ofString "keep" = z ∧ ¬ Str.ofString "until" = z ∧ ¬ Str.ofString "from" = z := by
                simp [FOUR] at zf
                exact ⟨Ne.symm zf.1, Ne.symm zf.2.1, Ne.symm zf.2.2.1, Ne.symm zf.2.2.2⟩
              obtain ⟨n1, n2, n3, n4⟩ := nz
              refine ⟨by decide, fun _ _ _ _ => fin0 _, fun e => absurd e n1, fun e => absurd e n2, fun e => absurd e n3, fun e => absurd e n4⟩
    | exc c => exact (hp' _ List.mem_cons_self).pl.elim
    | ref b =>
      obtain ⟨l, e⟩ := (hp' _ List.mem_cons_self).pl
      simp [view_ref e]; subst hK; simp [nodeOk]
    | _ => simp; subst hK; simp [nodeOk]
  | _ => simp; subst hK; simp [nodeOk]
end
end Mn
end
section
namespace Mn
open PySem
section
variable {α β : Type} {s : Slots} {h : Hp} {X : Str → Slots → Hp → Prop} {G : Env} {QF : Fl → Slots → Hp → Prop}
theorem err_of {t : Txt0} {n : Nat} {f : Str} {args : List B} {c : Str} {h' : Hp} (w : C (call t n f args h) (fun _ _ => False) fun x y => x = c ∧ y = h') : call t n f args h = .err c h' := by
  unfold C at w
  split at w
  · exact w.elim
  · rename_i e; obtain ⟨rfl, rfl⟩ := w; exact e
  · exact w.elim
def erN (x : Val) : Str := if planOk x = true then "NoNode" else "BadPlan"
theorem plan_tup {x} (e : planOk x = true) : ∃ l, x = .tup l ∧ 1 ≤ l.length ∧ l.length ≤ 12 ∧ ∀ y ∈ l, nodeOk y l.length = true := by
  cases x with
  | tup l =>
    unfold planOk at e
    simp at e
    exact ⟨l, rfl, by omega, by omega, e.2.2⟩
  | _ => cases e
theorem num_non {a b} : numOk .non a b = false := rfl
theorem c_reads0 {n d x} (hp : Pd h d x) (hd : d ≤ 60) : call Tk (n + 7) "reads" [.v x, .v .non] h = .err (erN x) h := by
  refine err_of (C_call (fn_T (fd := f_reads) (by kernel_rfl)) (C_run rfl ?_))
  unfold f_reads; dsimp only
  refine S_step fun K hK => ?_
  unfold erN
  cases hb : planOk x with
  | false => simp [c_look_plan hp hd, hb]
  | true =>
    simp [c_look_plan hp hd, hb]
    subst hK; dsimp only
    refine S_step fun K hK => ?_
    obtain ⟨l, rfl, _⟩ := plan_tup hb
    simp [c_look_node (h := h) (l := l) (x := .non) trivial, num_non, erN, hb]
theorem c_begun0 {n d x v m} (hp : Pd h d x) (hd : d ≤ 60) : call Tk (n + 7) "begun" [.v x, .v .non, v, m] h = .err (erN x) h := by
  refine err_of (C_call (fn_T (fd := f_begun) (by kernel_rfl)) (C_run rfl ?_))
  unfold f_begun; dsimp only
  refine S_step fun K hK => ?_
  unfold erN
  cases hb : planOk x with
  | false => simp [c_look_plan hp hd, hb]
  | true =>
    simp [c_look_plan hp hd, hb]
    subst hK; dsimp only
    refine S_step fun K hK => ?_
    obtain ⟨l, rfl, _⟩ := plan_tup hb
    simp [c_look_node (h := h) (l := l) (x := .non) trivial, num_non, erN, hb]
theorem c_firsts0 {n d x} (hp : Pd h d x) (hd : d ≤ 60) : call Tk (n + 8) "firsts" [.v x, .v .non, .v .non, .v (.int 1000)] h = .err (erN x) h := by
  refine err_of (C_call (fn_T (fd := f_firsts) (by kernel_rfl)) (C_run rfl ?_))
  unfold f_firsts; dsimp only
  refine S_step fun K hK => ?_
  simp [c_begun0 hp hd]
theorem c_needed0 {n d x} (hp : Pd h d x) (hd : d ≤ 60) : call Tk (n + 8) "needed" [.v x, .v .non, .v .non, .v (.int 1000)] h = .err (erN x) h := by
  refine err_of (C_call (fn_T (fd := f_needed) (by kernel_rfl)) (C_run rfl ?_))
  unfold f_needed; dsimp only
  refine S_step fun K hK => ?_
  simp [c_begun0 hp hd]
theorem c_room0 {n d x} (hp : Pd h d x) (hd : d ≤ 60) : call Tk (n + 8) "room" [.v x, .v .non, .v .non, .v (.int 1000)] h = .err (erN x) h := by
  refine err_of (C_call (fn_T (fd := f_room) (by kernel_rfl)) (C_run rfl ?_))
  unfold f_room; dsimp only
  refine S_step fun K hK => ?_
  simp [c_begun0 hp hd]
theorem c_parted0 {n d x} (hp : Pd h d x) (hd : d ≤ 60) : call Tk (n + 8) "parted" [.v x, .v .non, .v .non, .v .non, .v .non, .v (.int 1000)] h = .err (erN x) h := by
  refine err_of (C_call (fn_T (fd := f_parted) (by kernel_rfl)) (C_run rfl ?_))
  unfold f_parted; dsimp only
  refine S_step fun K hK => ?_
  unfold erN
  cases hb : planOk x with
  | false => simp [c_look_plan hp hd, hb]
  | true =>
    simp [c_look_plan hp hd, hb]
    subst hK; dsimp only
    refine S_step fun K hK => ?_
    obtain ⟨l, rfl, _⟩ := plan_tup hb
    simp [c_look_node (h := h) (l := l) (x := .non) trivial, num_non, erN, hb]
theorem c_look_both0 {n d x a b} (hp : Pd h d x) (hd : d ≤ 60) : call Tk (n + 7) "look_both" [.v x, .v .non, a, b] h = .err (erN x) h := by
  refine err_of (C_call (fn_T (fd := f_look_both) (by kernel_rfl)) (C_run rfl ?_))
  unfold f_look_both; dsimp only
  refine S_step fun K hK => ?_
  unfold erN
  cases hb : planOk x with
  | false => simp [c_look_plan hp hd, hb]
  | true =>
    simp [c_look_plan hp hd, hb]
    subst hK; dsimp only
    refine S_step fun K hK => ?_
    obtain ⟨l, rfl, _⟩ := plan_tup hb
    simp [c_look_node (h := h) (l := l) (x := .non) trivial, num_non, erN, hb]
theorem c_paper0 {n d x} (hp : Pd h d x) (hd : d ≤ 60) : call Tk (n + 8) "paper" [.v x, .v .non, .v .non, .v .non] h = .err (erN x) h := by
  refine err_of (C_call (fn_T (fd := f_paper) (by kernel_rfl)) (C_run rfl ?_))
  unfold f_paper; dsimp only
  refine S_step fun K hK => ?_
  simp [c_look_both0 hp hd]
theorem c_shows0 {n d x} (hp : Pd h d x) (hd : d ≤ 60) : call Tk (n + 8) "shows" [.v x, .v .non, .v .non, .v .non, .v (.int 1)] h = .err (erN x) h := by
  refine err_of (C_call (fn_T (fd := f_shows) (by kernel_rfl)) (C_run rfl ?_))
  unfold f_shows; dsimp only
  refine S_step fun K hK => ?_
  simp [c_look_both0 hp hd]
theorem c_least0 {n d x} (hp : Pd h d x) (hd : d ≤ 60) : call Tk (n + 8) "least" [.v x, .v .non] h = .err (erN x) h := by
  refine err_of (C_call (fn_T (fd := f_least) (by kernel_rfl)) (C_run rfl ?_))
  unfold f_least; dsimp only
  refine S_step fun K hK => ?_
  unfold erN
  cases hb : planOk x with
  | false => simp [c_look_plan hp hd, hb]
  | true =>
    simp [c_look_plan hp hd, hb]
    subst hK; dsimp only
    refine S_step fun K hK => ?_
    simp [erN, hb]
theorem c_rules_at0 {n d x} (hp : Pd h d x) (hd : d ≤ 60) : call Tk (n + 8) "rules_at" [.v x, .v .non] h = .err (erN x) h := by
  refine err_of (C_call (fn_T (fd := f_rules_at) (by kernel_rfl)) (C_run rfl ?_))
  unfold f_rules_at; dsimp only
  refine S_step fun K hK => ?_
  unfold erN
  cases hb : planOk x with
  | false => simp [c_look_plan hp hd, hb]
  | true =>
    simp [c_look_plan hp hd, hb]
    subst hK; dsimp only
    refine S_step fun K hK => ?_
    obtain ⟨l, rfl, _⟩ := plan_tup hb
    simp [c_look_node (h := h) (l := l) (x := .non) trivial, num_non, erN, hb]
theorem c_rewritten0 {n d x} (hp : Pd h d x) (hd : d ≤ 60) : call Tk (n + 8) "rewritten" [.v x, .v .non, .v .non] h = .err (erN x) h := by
  refine err_of (C_call (fn_T (fd := f_rewritten) (by kernel_rfl)) (C_run rfl ?_))
  unfold f_rewritten; dsimp only
  refine S_step fun K hK => ?_
  unfold erN
  cases hb : planOk x with
  | false => simp [c_look_plan hp hd, hb]
  | true =>
    simp [c_look_plan hp hd, hb]
    subst hK; dsimp only
    refine S_step fun K hK => ?_
    obtain ⟨l, rfl, _⟩ := plan_tup hb
    simp [c_look_node (h := h) (l := l) (x := .non) trivial, num_non, erN, hb]
theorem c_length0 {n d x} (hp : Pd h d x) (hd : d ≤ 60) : call Tk (n + 8) "length" [.v x, .v .non] h = .err (erN x) h := by
  refine err_of (C_call (fn_T (fd := f_length) (by kernel_rfl)) (C_run rfl ?_))
  unfold f_length; dsimp only
  refine S_step fun K hK => ?_
  unfold erN
  cases hb : planOk x with
  | false => simp [c_look_plan hp hd, hb]
  | true =>
    simp [c_look_plan hp hd, hb]
    subst hK; dsimp only
    refine S_step fun K hK => ?_
    obtain ⟨l, rfl, _⟩ := plan_tup hb
    simp [c_look_node (h := h) (l := l) (x := .non) trivial, num_non, erN, hb]
def erW (x : Val) : Str := if planOk x = true then "BadReaders" else "BadPlan"
theorem c_look_readers0 {n x} : call Tk (n + 1) "look_readers" [.v x, .v .non] h = .err "BadReaders" h := by
  refine err_of (C_call (fn_T (fd := f_look_readers) (by kernel_rfl)) (C_run rfl ?_))
  unfold f_look_readers; dsimp only
  refine S_step fun K hK => ?_
  simp
theorem c_web0 {n d x a} (hp : Pd h d x) (hd : d ≤ 60) : call Tk (n + 7) "Web.__init__" [a, .v x, .v .non] h = .err (erW x) h := by
  refine err_of (C_call (fn_T (fd := f_Web___init__) (by kernel_rfl)) (C_run rfl ?_))
  unfold f_Web___init__; dsimp only
  refine S_step fun K hK => ?_
  unfold erW
  cases hb : planOk x with
  | false => simp [c_look_plan hp hd, hb]
  | true =>
    simp [c_look_plan hp hd, hb]
    subst hK; dsimp only
    refine S_step fun K hK => ?_
    simp [c_look_readers0, erW, hb]
@[simp] theorem init_Web : Tk.init "Web" = some "Web.__init__" := by kernel_rfl
theorem c_played0 {n d x} (hp : Pd h d x) (hd : d ≤ 60) : call Tk (n + 8) "played" [.v x, .v .non, .v .non] h = .err (erW x) (h ++ [.ins "Web" []]) := by
  refine err_of (C_call (fn_T (fd := f_played) (by kernel_rfl)) (C_run rfl ?_))
  unfold f_played; dsimp only
  refine S_step fun K hK => ?_
  simp [c_web0 (hp.ext (t := [.ins "Web" []])) hd]
end
end Mn
end
section
namespace Mn
open PySem
section
variable {α β : Type} {s : Slots} {h : Hp} {X : Str → Slots → Hp → Prop} {G : Env} {QF : Fl → Slots → Hp → Prop}
theorem node_tup {x m} (e : nodeOk x m = true) : ∃ z r k, x = .tup (.str z :: r) ∧ look z KS = some k ∧ r.length = k.length ∧ ∀ p ∈ zipL r (sigs k), partV m p = true := by
  unfold nodeOk at e
  split at e
  · rename_i z r
    split at e
    · rename_i k ek
      simp at e
      exact ⟨z, r, k, rfl, ek, e.1, e.2.1⟩
    · cases e
  · cases e
def SRC : List Str := ["count", "list", "fed"]
def isSrc : Val → Bool
  | .tup (y :: _) => strIn y SRC
  | _ => false
def kp (l : List Val) (n : Nat) : Val → Bool
  | .int k => (match l[(k - n).toNat]? with
    | some nd => isSrc nd
    | none => false)
  | _ => false
def kE : Val → Bool
  | .tup [_, nd] => isSrc nd
  | _ => false
def vE : Val → Val
  | .tup [i, _] => i
  | x => x
theorem range_mem {v : Val} : ∀ {m : Nat} {a : Int}, v ∈ rangeL a 1 m → ∃ k : Int, v = .int k ∧ a ≤ k ∧ k < a + m
  | 0, a, h => by cases h
  | m + 1, a, h => by
    rcases List.mem_cons.mp h with rfl | h
    · exact ⟨a, rfl, by omega, by omega⟩
    · obtain ⟨k, e, h1, h2⟩ := range_mem h
      exact ⟨k, e, by omega, by omega⟩
theorem range_len {c : Int} : ∀ {m : Nat} {a : Int}, (rangeL a c m).length = m
  | 0, _ => rfl
  | m + 1, a => by simp [rangeL, range_len]
theorem enum_src : ∀ (l : List Val) (n : Nat), ((enumL n l).filter kE).map vE = (rangeL n 1 l.length).filter (kp l n)
  | [], n => rfl
  | x :: r, n => by
    have ih := enum_src r (n + 1)
    have e0 : kp (x :: r) n (.int n) = isSrc x := by simp [kp]
    have ec : (rangeL ((n : Int) + 1) 1 r.length).filter (kp (x :: r) n) = (rangeL ((n : Int) + 1) 1 r.length).filter (kp r (n + 1)) := by
      refine List.filter_congr fun v hv => ?_
      obtain ⟨k, rfl, h1, h2⟩ := range_mem hv
      have : (k - n).toNat = (k - ((n + 1 : Nat) : Int)).toNat + 1 := by omega
      unfold kp
      dsimp only
      rw [this, List.getElem?_cons_succ]
    show ((Val.tup [.int n, x] :: enumL (n + 1) r).filter kE).map vE = (Val.int n :: rangeL ((n : Int) + 1) 1 r.length).filter (kp (x :: r) n)
    have e1 : kE (Val.tup [.int n, x]) = isSrc x := rfl
    have ih' : ((enumL (n + 1) r).filter kE).map vE = (rangeL ((n : Int) + 1) 1 r.length).filter (kp r (n + 1)) := ih
    cases hx : isSrc x with
    | true =>
      rw [List.filter_cons_of_pos (by rw [e1, hx]), List.filter_cons_of_pos (by rw [e0, hx]), List.map_cons, ih', ec]
      rfl
    | false =>
      rw [List.filter_cons_of_neg (by rw [e1, hx]; simp), List.filter_cons_of_neg (by rw [e0, hx]; simp), ih', ec]
theorem enum_mem {y : Val} : ∀ {l : List Val} {n : Nat}, y ∈ enumL n l → ∃ (i : Nat) (x : Val), y = .tup [.int i, x] ∧ x ∈ l
  | [], n, h => by cases h
  | x :: r, n, h => by
    rcases List.mem_cons.mp h with rfl | h
    · exact ⟨n, x, rfl, List.mem_cons_self⟩
    · obtain ⟨i, x, e, m⟩ := enum_mem h
      exact ⟨i, x, e, List.mem_cons_of_mem _ m⟩
theorem enum_len : ∀ {l : List Val} {n : Nat}, (enumL n l).length = l.length
  | [], n => rfl
  | x :: r, n => by simp [enumL, enum_len]
def srcL (l : List Val) : List Val := (rangeL 0 1 l.length).filter (kp l 0)
theorem any_SRC {z} : ([PyData.str "count", .str "list", .str "fed"].any fun y => PyData.eqv y (.str z)) = decide (z ∈ SRC) := any_str (l := SRC)
theorem c_sources_of {n l} (hl : l.length ≤ 12) (ho : ∀ y ∈ l, nodeOk y l.length = true) : call Tk (n + 1) "sources_of" [.v (.tup l)] h = .ok (.l (srcL l)) h := by
  refine call_of (C_call (fn_T (fd := f_sources_of) (by kernel_rfl)) (C_run rfl ?_))
  unfold f_sources_of; dsimp only
  refine S_step fun K hK => ?_
  simp [itemsOf, srcOf]
  refine W_inBlock rfl (W_compF (fun h' => h' = h) kE vE _ (fun x mm h' e => ?_) rfl fun h' e => ?_)
  · subst e
    obtain ⟨i, nd, rfl, m⟩ := enum_mem mm
    obtain ⟨z, r, k, rfl, ek, rk, ha⟩ := node_tup (ho nd m)
    simp [-List.any_cons, any_SRC, kE, vE, isSrc, strIn]
  · subst e
    have := enum_src l 0
    have fl := List.length_filter_le kE (enumL 0 l)
    rw [enum_len] at fl
    rw [this]
    have fl2 : (srcL l).length ≤ l.length := by
      unfold srcL
      exact Nat.le_trans (List.length_filter_le _ _) (by rw [range_len]; exact Nat.le_refl _)
    refine ⟨by show (srcL l).length ≤ limit; simp only [limit]; omega, ?_⟩
    subst hK
    exact ⟨rfl, rfl⟩
theorem c_sources {n d x} (hp : Pd h d x) (hd : d ≤ 60) : call Tk (n + 7) "sources" [.v x] h = match x with
    | .tup l => if planOk x = true then .ok (.l (srcL l)) h else .err "BadPlan" h
    | _ => .err "BadPlan" h := by
  cases hb : planOk x with
  | false =>
    have e : call Tk (n + 7) "sources" [.v x] h = .err "BadPlan" h := by
      refine err_of (C_call (fn_T (fd := f_sources) (by kernel_rfl)) (C_run rfl ?_))
      unfold f_sources; dsimp only
      refine S_step fun K hK => ?_
      simp [c_look_plan hp hd, hb]
    rw [e]
    split <;> simp
  | true =>
    obtain ⟨l, rfl, l1, l2, ho⟩ := plan_tup hb
    dsimp only
    rw [if_pos rfl]
    refine call_of (C_call (fn_T (fd := f_sources) (by kernel_rfl)) (C_run rfl ?_))
    unfold f_sources; dsimp only
    refine S_step fun K hK => ?_
    simp [c_look_plan hp hd, hb]
    subst hK; dsimp only
    simp [c_sources_of l2 ho]
theorem int_text {i : Int} (a : -1000000 ≤ i) (b : i ≤ 1000000) : (Str.ofString (toString i)).length ≤ 8 := by
  have e : (Str.ofString (toString i)).length = (toString i).length := by
    rw [Str.ofString_eq_toList]
    show ((toString i).toList.map Char.toNat).toArray.size = _
    rw [List.size_toArray, List.length_map]
    exact String.length_toList
  rw [e, Int.toString_eq_repr]
  cases i with
  | ofNat m =>
    show m.repr.length ≤ 8
    exact Nat.le_trans ((Nat.length_repr_le_iff (k := 7) (by omega)).mpr (by have : (Int.ofNat m : Int) = m := rfl; omega)) (by omega)
  | negSucc m =>
    show ("-" ++ (m + 1).repr).length ≤ 8
    rw [String.length_append]
    have := (Nat.length_repr_le_iff (n := m + 1) (k := 7) (by omega)).mpr (by omega)
    have h1 : "-".length = 1 := by decide
    omega
theorem int_log {i : Int} (a : -1000000 ≤ i) (b : i ≤ 1000000) : i.natAbs.log2 < 1920 := by
  have : i.natAbs.log2 ≤ i.natAbs := Nat.log2_le_self _
  by_cases e : i.natAbs = 0
  · rw [e]; decide
  · have := (Nat.log2_lt e).mpr (show i.natAbs < 2 ^ 20 by omega)
    omega
def TX (y : Val) : Prop := ∃ z, y = .str z ∧ z.length ≤ 200
def PT (p : Val) : Prop := (∃ z, p = .str z ∧ z.length ≤ 10) ∨ (∃ i : Int, p = .int i ∧ -1000000 ≤ i ∧ i ≤ 1000000) ∨ (∃ l, p = .tup l ∧ l.length ≤ 9 ∧ ∀ y ∈ l, ∃ i : Int, y = .int i ∧ -1000000 ≤ i ∧ i ≤ 1000000)
theorem num_int {x a b} (e : numOk x a b = true) : ∃ i : Int, x = .int i ∧ a ≤ i ∧ i ≤ b := by
  cases x with
  | int i => simp [numOk] at e; exact ⟨i, rfl, e⟩
  | _ => cases e
theorem ws_len : ∀ p ∈ WS, ∀ z ∈ p.2, z.length ≤ 10 := by decide +kernel
theorem ks_len : ∀ p ∈ KS, p.1.length ≤ 10 := by decide +kernel
theorem part_PT {p k m} (hm : m ≤ 13) (e : partOk p k m = true) : PT p := by
  unfold partOk at e
  split at e
  · rename_i ws ew
    split at e
    · rename_i z
      exact Or.inl ⟨z, rfl, ws_len _ (look_mem ew) _ (of_decide_eq_true e)⟩
    · cases e
  · have nm : ∀ {a b : Int}, -1000000 ≤ a → b ≤ 1000000 → numOk p a b = true → PT p := fun h1 h2 q => by
      obtain ⟨i, rfl, h3, h4⟩ := num_int q
      exact Or.inr (Or.inl ⟨i, rfl, by omega, by omega⟩)
    split at e
    · cases p with
      | tup l =>
        simp [itemsOk] at e
        exact Or.inr (Or.inr ⟨l, rfl, e.1, fun y my => num_int (e.2 y my)⟩)
      | _ => cases e
    · split at e
      · cases p with
        | str z =>
          simp [wordOk] at e
          exact Or.inl ⟨z, rfl, by omega⟩
        | _ => cases e
      · split at e
        · exact nm (by omega) (by omega) e
        · split at e
          · exact nm (by omega) (by omega) e
          · exact nm (by omega) (by omega) e
theorem strs_of {b : Nat} : ∀ {ys : List Val}, (∀ y ∈ ys, ∃ z, y = .str z ∧ z.length ≤ b) → ∃ zs, allStrs ys = some zs ∧ zs.length = ys.length ∧ (zs.map (·.length)).sum ≤ ys.length * b
  | [], _ => ⟨[], rfl, rfl, by simp⟩
  | y :: r, q => by
    obtain ⟨z, rfl, hz⟩ := q _ List.mem_cons_self
    obtain ⟨zs, e1, e2, e3⟩ := strs_of (ys := r) fun y m => q y (List.mem_cons_of_mem _ m)
    refine ⟨z :: zs, by simp [allStrs, e1], by simp [e2], ?_⟩
    simp [Nat.add_mul] at e3 ⊢
    omega
@[simp ↓] theorem W_join {a : Str} {ys} {Q : B → Slots → Hp → Prop} : W (joinV (.val (.str a)) (.lst ys)) s h Q X = (match allStrs ys with
    | some ys => (ys.map (·.length)).sum + ys.length * a.length ≤ limit ∧ Q (.v (.str (Txt.join a ys))) s h
    | none => False) := by
  show W (match allStrs ys with
    | some ys => if (ys.map (·.length)).sum + ys.length * a.length ≤ limit then ret (.v (.str (Txt.join a ys))) else bad
    | none => bad) s h Q X = _
  cases allStrs ys with
  | none => rfl
  | some zs =>
    dsimp only
    rw [W_ite]; simp only [W_ret, W_bad]; by_cases e : (zs.map (·.length)).sum + zs.length * a.length ≤ limit <;> simp [e]
theorem strLen_app (a b : Str) : (a ++ b).length = a.length + b.length := by
  show (a.cps ++ b.cps).size = _
  rw [Array.size_append]; rfl
theorem join_le {a : Str} : ∀ ys : List Str, (Str.join a ys).length ≤ (ys.map (·.length)).sum + ys.length * a.length
  | [] => by show (0 : Nat) ≤ _; omega
  | [x] => by show x.length ≤ _; simp
  | x :: y :: r => by
    have ih := join_le (a := a) (y :: r)
    show (x ++ a ++ Str.join a (y :: r)).length ≤ _
    rw [strLen_app, strLen_app]
    simp [Nat.add_mul] at ih ⊢
    omega
theorem tjoin_le {a : Str} (ys : List Str) : (Txt.join a ys).length ≤ (ys.map (·.length)).sum + ys.length * a.length := by
  show (Builtin.Str.glued a ys).length ≤ _
  rw [StrLaws.glued_eq_join]
  exact join_le ys
theorem len1 : (",": Str).length = 1 ∧ (" " : Str).length = 1 ∧ ("(" : Str).length = 1 ∧ (")" : Str).length = 1 ∧ ("" : Str).length = 0 ∧ ("\n" : Str).length = 1 := by decide +kernel
theorem c_part_text {n p} (hp : PT p) : ∃ z : Str, z.length ≤ 200 ∧ call Tk (n + 1) "part_text" [.v p] h = .ok (.v (.str z)) h := by
  obtain ⟨k1, k2, k3, k4, k5, k6⟩ := len1
  suffices w : C (call Tk (n + 1) "part_text" [.v p] h) (fun b g => ∃ z : Str, b = .v (.str z) ∧ z.length ≤ 200 ∧ g = h) fun _ _ => False by
    obtain ⟨b, g, e, z, rfl, hz, rfl⟩ := w.to_eq
    exact ⟨z, hz, e⟩
  refine C_call (fn_T (fd := f_part_text) (by kernel_rfl)) (C_run rfl ?_)
  unfold f_part_text; dsimp only
  refine S_step fun K hK => ?_
  rcases hp with ⟨z, rfl, hz⟩ | ⟨i, rfl, h1, h2⟩ | ⟨l, rfl, hl, hi⟩
  · simp
    subst hK; dsimp only
    simp
    omega
  · simp
    subst hK; dsimp only
    simp
    have := int_text h1 h2
    rw [Int.toString_eq_repr] at this
    exact ⟨int_log h1 h2, by omega⟩
  · simp [itemsOf, srcOf]
    refine W_inBlock rfl (W_compN (fun _ h' => h' = h) (fun y => ∃ z, y = .str z ∧ z.length ≤ 8) l 0 (fun x m n h' e => ?_) rfl fun r h' e1 e2 e3 => ?_)
    · subst e
      obtain ⟨i, rfl, h1, h2⟩ := hi x m
      simp
      have := int_text h1 h2
      rw [Int.toString_eq_repr] at this
      exact ⟨int_log h1 h2, this⟩
    · subst e2
      obtain ⟨zs, q1, q2, q3⟩ := strs_of e3
      have q4 := tjoin_le (a := ",") zs
      rw [k1] at q4
      simp [q1, strLen_app, limit, k1, k3, k4]
      refine ⟨by omega, by omega, by omega, by omega, ?_⟩
      subst hK
      simp [strLen_app, k3, k4]
      omega
theorem zipL_all {p : Val} : ∀ {r q : List Val}, r.length ≤ q.length → p ∈ r → ∃ c ∈ q, .tup [p, c] ∈ zipL r q
  | [], _, _, m => by cases m
  | _ :: _, [], h, _ => by simp at h
  | x :: r, y :: q, h, m => by
    rcases List.mem_cons.mp m with rfl | m
    · exact ⟨y, List.mem_cons_self, List.mem_cons_self⟩
    · obtain ⟨c, h1, h2⟩ := zipL_all (r := r) (q := q) (by simp at h; exact h) m
      exact ⟨c, List.mem_cons_of_mem _ h1, List.mem_cons_of_mem _ h2⟩
theorem node_PT {x : Val} {m : Int} (hm : m ≤ 13) (e : nodeOk x m = true) : ∃ l, x = .tup l ∧ l.length ≤ 5 ∧ ∀ p ∈ l, PT p := by
  obtain ⟨z, r, k, rfl, ek, rk, ha⟩ := node_tup e
  have k4 := kinds_small ek
  refine ⟨_, rfl, by simp; omega, fun p mp => ?_⟩
  rcases List.mem_cons.mp mp with rfl | mp
  · exact Or.inl ⟨z, rfl, ks_len _ (look_mem ek)⟩
  · obtain ⟨c, hc, hz⟩ := zipL_all (q := sigs k) (by rw [sigs_len, rk]; exact Nat.le_refl _) mp
    obtain ⟨c, _, rfl⟩ := List.mem_map.mp hc
    exact part_PT hm (ha _ hz)
theorem c_plan_text {n d x} (hp : Pd h d x) (hd : d ≤ 60) (hb : planOk x = true) : ∃ z : Str, call Tk (n + 7) "plan_text" [.v x] h = .ok (.v (.str z)) h := by
  obtain ⟨k1, k2, k3, k4, k5, k6⟩ := len1
  suffices w : C (call Tk (n + 7) "plan_text" [.v x] h) (fun b g => ∃ z : Str, b = .v (.str z) ∧ g = h) fun _ _ => False by
    obtain ⟨b, g, e, z, rfl, rfl⟩ := w.to_eq
    exact ⟨z, e⟩
  refine C_call (fn_T (fd := f_plan_text) (by kernel_rfl)) (C_run rfl ?_)
  unfold f_plan_text; dsimp only
  refine S_step fun K hK => ?_
  simp [c_look_plan hp hd, hb]
  subst hK; dsimp only
  refine S_step fun K hK => ?_
  obtain ⟨l, rfl, l1, l2, ho⟩ := plan_tup hb
  rw [S_rt, D_join, D_cst, W_strB]
  dsimp only [view_v, viewV_str]
  refine W_gen fun K2 hK2 => ?_
  rw [D_comp]
  simp only [I_slot, W_seqI, W_ldSlot]
  simp [itemsOf, srcOf]
  refine W_inBlock rfl (W_compN (fun _ h' => h' = h) (fun y => ∃ z, y = .str z ∧ z.length ≤ 1100) l 0 (fun x m n' h' e => ?_) rfl fun r h' e1 e2 e3 => ?_)
  · subst e
    obtain ⟨nd, rfl, n5, hn⟩ := node_PT (by omega) (ho x m)
    simp [itemsOf, srcOf]
    refine W_inBlock rfl (W_compN (fun _ h2 => h2 = h') (fun y => ∃ z, y = .str z ∧ z.length ≤ 200) nd 0 (fun x m n2 h2 e => ?_) rfl fun r h2 e1 e2 e3 => ?_)
    · subst e
      obtain ⟨z, hz, e⟩ := c_part_text (h := h2) (n := n + 5) (hn x m)
      simp [e, hz]
    · subst e2
      obtain ⟨zs, q1, q2, q3⟩ := strs_of e3
      have q4 := tjoin_le (a := " ") zs
      rw [k2] at q4
      simp [q1, strLen_app, limit, k2, k6]
      refine ⟨by omega, by omega, by omega, ?_⟩
      omega
  · subst e2
    obtain ⟨zs, q1, q2, q3⟩ := strs_of e3
    subst hK2
    simp [q1, limit, k5]
    refine ⟨by omega, by omega, ?_⟩
    subst hK
    exact ⟨_, rfl, rfl⟩
end
end Mn
end
section
namespace Mn
open PySem
section
variable {α β : Type} {s : Slots} {h : Hp} {X : Str → Slots → Hp → Prop} {G : Env} {QF : Fl → Slots → Hp → Prop}
@[simp ↓] theorem S_try {b hs} : W (ex G (.try_ b hs)) s h QF X = W (exs G b) s h QF (fun c s h => G.isx c = true ∧ W (handle G c hs) s h QF X) := by
  show W (tryM G (exs G b) hs) s h QF X = _
  unfold W tryM
  cases exs G b s h with
  | bad => rfl
  | ok a s h => rfl
  | err c s h =>
    dsimp only
    by_cases e : G.isx c = true <;> simp [e]
@[simp ↓] theorem W_handle {c d i j} : W (handle G c [(d, some i, [.exc j])]) s h QF X = ((G.sub c d = true → j < s.length ∧ QF .nx ((s.set j (some (.v (.exc c)))).set i none) h) ∧ (¬ G.sub c d = true → X c s h)) := by
  show W (if G.sub c d = true then bind (bind (bind (setSlot j (.v (.exc c))) fun _ => ret Fl.nx) fun _ => ret Fl.nx) (fun f => fun s h => R.ok f (s.set i none) h) else fun s h => R.err c s h) s h QF X = _
  rw [W_ite]
  simp only [W_bind, W_ret, W_setSlot]
  rfl
def rfs (i : Int) : Val := .tup [.str "refused", .int i]
theorem c_ref_plan {n} : call Tk (n + 1) "_law_refused" [.v (.str "plan")] h = .ok (.v (rfs 0)) h := by kernel_rfl
theorem c_ref_readers {n} : call Tk (n + 1) "_law_refused" [.v (.str "readers")] h = .ok (.v (rfs 2)) h := by kernel_rfl
theorem c_ref_node {n} : call Tk (n + 1) "_law_refused" [.v (.str "node")] h = .ok (.v (rfs 5)) h := by kernel_rfl
theorem c_word_plan {n} : call Tk (n + 1) "_law_word" [.v (.exc "BadPlan")] h = .ok (.v (.int 0)) h := by kernel_rfl
theorem c_word_readers {n} : call Tk (n + 1) "_law_word" [.v (.exc "BadReaders")] h = .ok (.v (.int 2)) h := by kernel_rfl
theorem c_word_node {n} : call Tk (n + 1) "_law_word" [.v (.exc "NoNode")] h = .ok (.v (.int 5)) h := by kernel_rfl
theorem isx3 : Tk.isx "BadPlan" = true ∧ Tk.isx "BadReaders" = true ∧ Tk.isx "NoNode" = true := ⟨by kernel_rfl, by kernel_rfl, by kernel_rfl⟩
theorem sub3 : Tk.sub "BadPlan" "RowError" = true ∧ Tk.sub "BadReaders" "RowError" = true ∧ Tk.sub "NoNode" "RowError" = true := ⟨by kernel_rfl, by kernel_rfl, by kernel_rfl⟩
theorem c_plan_text0 {n d x} (hp : Pd h d x) (hd : d ≤ 60) (hb : planOk x = false) : call Tk (n + 7) "plan_text" [.v x] h = .err "BadPlan" h := by
  refine err_of (C_call (fn_T (fd := f_plan_text) (by kernel_rfl)) (C_run rfl ?_))
  unfold f_plan_text; dsimp only
  refine S_step fun K hK => ?_
  simp [c_look_plan hp hd, hb]
def erA (x : Val) (w : Nat) : Str := if w = 3 ∨ w = 13 then erW x else erN x
def erH (h : Hp) (w : Nat) : Hp := if w = 3 ∨ w = 13 then h ++ [.ins "Web" []] else h
theorem c_one {n d x} (hp : Pd h d x) (hd : d ≤ 60) : ∀ w : Nat, 2 ≤ w → w < 15 → call Tk (n + 9) "_law_one" [.v (.int w), .v x] h = .err (erA x w) (erH h w) := by
  intro w h1 h2
  have hp2 : Pd (h ++ [.ins "Web" []]) d x := hp.ext
  refine err_of (C_call (fn_T (fd := f__law_one) (by kernel_rfl)) (C_run rfl ?_))
  match w, h1, h2 with
  | 2, _, _ => simp [f__law_one, c_reads0 hp hd, erA, erH]
  | 3, _, _ => simp [f__law_one, c_web0 hp2 hd, erA, erH]
  | 4, _, _ => simp [f__law_one, c_firsts0 hp hd, erA, erH]
  | 5, _, _ => simp [f__law_one, c_needed0 hp hd, erA, erH]
  | 6, _, _ => simp [f__law_one, c_room0 hp hd, erA, erH]
  | 7, _, _ => simp [f__law_one, c_parted0 hp hd, erA, erH]
  | 8, _, _ => simp [f__law_one, c_paper0 hp hd, erA, erH]
  | 9, _, _ => simp [f__law_one, c_shows0 hp hd, erA, erH]
  | 10, _, _ => simp [f__law_one, c_least0 hp hd, erA, erH]
  | 11, _, _ => simp [f__law_one, c_rules_at0 hp hd, erA, erH]
  | 12, _, _ => simp [f__law_one, c_rewritten0 hp hd, erA, erH]
  | 13, _, _ => simp [f__law_one, c_played0 hp hd, erA, erH]
  | 14, _, _ => simp [f__law_one, c_length0 hp hd, erA, erH]
  | n + 15, _, h2 => omega
theorem c_one_bad {n d x} (hp : Pd h d x) (hd : d ≤ 60) (hb : planOk x = false) : ∀ w : Nat, w < 2 → call Tk (n + 9) "_law_one" [.v (.int w), .v x] h = .err "BadPlan" h := by
  intro w h2
  refine err_of (C_call (fn_T (fd := f__law_one) (by kernel_rfl)) (C_run rfl ?_))
  match w, h2 with
  | 0, _ => simp [f__law_one, c_plan_text0 hp hd hb]
  | 1, _ =>
    have e : call Tk (n + 8) "sources" [.v x] h = .err "BadPlan" h := by
      rw [c_sources hp hd]
      split <;> simp [hb]
    simp [f__law_one, e]
  | n + 2, h2 => omega
def erI (x : Val) (w : Nat) : Int := if planOk x = true then (if w = 3 ∨ w = 13 then 2 else 5) else 0
theorem c_word {n x w} : call Tk (n + 1) "_law_word" [.v (.exc (erA x w))] h = .ok (.v (.int (erI x w))) h ∧ Tk.isx (erA x w) = true ∧ Tk.sub (erA x w) "RowError" = true := by
  unfold erA erI erW erN
  by_cases e : w = 3 ∨ w = 13
  · cases planOk x
    · simp only [e]; exact ⟨c_word_plan, isx3.1, sub3.1⟩
    · simp only [e]; exact ⟨c_word_readers, isx3.2.1, sub3.2.1⟩
  · cases planOk x
    · simp only [e]; exact ⟨c_word_plan, isx3.1, sub3.1⟩
    · simp only [e]; exact ⟨c_word_node, isx3.2.2, sub3.2.2⟩
theorem told_err {n x v c j g} (e : call Tk (n + 9) "_law_one" [v, .v x] h = .err c g) (ew : call Tk (n + 9) "_law_word" [.v (.exc c)] g = .ok (.v (.int j)) g) (ei : Tk.isx c = true) (es : Tk.sub c "RowError" = true) (hv : ∃ i, v = .v (.int i)) : call Tk (n + 10) "_law_told" [v, .v x] h = .ok (.v (rfs j)) g := by
  obtain ⟨i, rfl⟩ := hv
  refine call_of (C_call (fn_T (fd := f__law_told) (by kernel_rfl)) (C_run rfl ?_))
  simp [f__law_told, e, ei, es, ew, rfs, limit]
theorem c_told {n d x} (hp : Pd h d x) (hd : d ≤ 60) (w : Nat) (h1 : 2 ≤ w) (h2 : w < 15) : call Tk (n + 10) "_law_told" [.v (.int w), .v x] h = .ok (.v (rfs (erI x w))) (erH h w) := by
  obtain ⟨a, b, c⟩ := c_word (h := erH h w) (n := n + 8) (x := x) (w := w)
  exact told_err (c_one hp hd w h1 h2) a b c ⟨_, rfl⟩
theorem c_told_bad {n d x} (hp : Pd h d x) (hd : d ≤ 60) (hb : planOk x = false) (w : Nat) (h2 : w < 2) : call Tk (n + 10) "_law_told" [.v (.int w), .v x] h = .ok (.v (rfs 0)) h :=
  told_err (c_one_bad hp hd hb w h2) c_word_plan isx3.1 sub3.1 ⟨_, rfl⟩
theorem c_told0 {n d x} (hp : Pd h d x) (hd : d ≤ 60) (hb : planOk x = true) : ∃ v, call Tk (n + 10) "_law_told" [.v (.int 0), .v x] h = .ok (.v (.tup [.str "found", v])) h := by
  obtain ⟨z, ez⟩ := c_plan_text (n := n + 1) hp hd hb
  refine ⟨.str z, ?_⟩
  have e : call Tk (n + 9) "_law_one" [.v (.int 0), .v x] h = .ok (.v (.str z)) h := by
    refine call_of (C_call (fn_T (fd := f__law_one) (by kernel_rfl)) (C_run rfl ?_))
    simp [f__law_one, ez]
  refine call_of (C_call (fn_T (fd := f__law_told) (by kernel_rfl)) (C_run rfl ?_))
  simp [f__law_told, e, limit]
theorem c_told1 {n d x} (hp : Pd h d x) (hd : d ≤ 60) (hb : planOk x = true) : ∃ v t, call Tk (n + 10) "_law_told" [.v (.int 1), .v x] h = .ok (.v v) (h ++ t) := by
  obtain ⟨l, rfl, l1, l2, ho⟩ := plan_tup hb
  have ez : call Tk (n + 8) "sources" [.v (.tup l)] h = .ok (.l (srcL l)) h := by
    rw [c_sources hp hd]
    simp [hb]
  refine ⟨.tup [.str "found", .ref h.length], [.lst (srcL l)], ?_⟩
  have e : call Tk (n + 9) "_law_one" [.v (.int 1), .v (.tup l)] h = .ok (.l (srcL l)) h := by
    refine call_of (C_call (fn_T (fd := f__law_one) (by kernel_rfl)) (C_run rfl ?_))
    simp [f__law_one, ez]
  refine call_of (C_call (fn_T (fd := f__law_told) (by kernel_rfl)) (C_run rfl ?_))
  simp [f__law_told, e, limit]
end
end Mn
end
section
namespace Mn
open PySem
section
variable {α β : Type} {s : Slots} {h : Hp} {X : Str → Slots → Hp → Prop} {G : Env} {QF : Fl → Slots → Hp → Prop}
def Tw (ns : List Int) (a n : Nat) (h : Hp) : Prop := h[0]? = some (.frz (ns.map .int)) ∧ a ≠ 0 ∧ ∃ (c : Int) (ws : List Int), h[a]? = some (.lst (.int c :: ws.map .int)) ∧ ws.length = ns.length ∧ 0 ≤ c ∧ c ≤ n
def Ev (a : Nat) (h g : Hp) : Prop := h.length ≤ g.length ∧ ∀ i, i ≠ a → i < h.length → g[i]? = h[i]?
theorem Ev.rfl {a} : Ev a h h := ⟨Nat.le_refl _, fun _ _ _ => Eq.refl _⟩
theorem Ev.trans {a} {g k : Hp} (p : Ev a h g) (q : Ev a g k) : Ev a h k := ⟨Nat.le_trans p.1 q.1, fun i n l => (q.2 i n (Nat.lt_of_lt_of_le l p.1)).trans (p.2 i n l)⟩
theorem Ev.at_ {a i} {g : Hp} {o : Obj} (p : Ev a h g) (n : i ≠ a) (e : h[i]? = some o) : g[i]? = some o := by
  rw [p.2 i n (List.getElem?_eq_some_iff.mp e).1]; exact e
theorem Ev.app {a} {t : Hp} : Ev a h (h ++ t) := ⟨by simp, fun i _ l => List.getElem?_append_left l⟩
theorem Ev.set {a} {o : Obj} : Ev a h (h.set a o) := ⟨by simp, fun i n _ => by rw [List.getElem?_set_ne (Ne.symm n)]⟩
theorem Tw.app {ns a n} {t : Hp} (p : Tw ns a n h) : Tw ns a n (h ++ t) := by
  obtain ⟨h1, h2, c, ws, h3, h4⟩ := p
  exact ⟨by rw [List.getElem?_append_left (List.getElem?_eq_some_iff.mp h1).1]; exact h1, h2, c, ws, by rw [List.getElem?_append_left (List.getElem?_eq_some_iff.mp h3).1]; exact h3, h4⟩
theorem Tw.le {ns a n m} (p : Tw ns a n h) (l : n ≤ m) : Tw ns a m h := by
  obtain ⟨h1, h2, c, ws, h3, h4, h5, h6⟩ := p
  exact ⟨h1, h2, c, ws, h3, h4, h5, by omega⟩
theorem ixNat {n : Nat} {i : Int} (a : 0 ≤ i) (b : i < n) : ixN n i = some i.toNat := by
  unfold ixN; rw [if_pos a, if_pos b]
@[simp ↓] theorem W_putIx_ref {x a w} : W (putIx x (.v (.ref a)) w) s h QF X = (match h[a]?, w with
    | some (.lst l), .val (.int k) => (match ixN l.length k with
      | some j => QF .nx s (h.set a (.lst (l.set j x)))
      | none => False)
    | some (.dic kvs), .val v => (match keyOf v with
      | some j => kvs.length < limit ∧ QF .nx s (h.set a (.dic (putK j x kvs)))
      | none => False)
    | _, _ => False) := by
  unfold W putIx
  dsimp only
  cases h[a]? with
  | none => rfl
  | some o => cases o with
    | ins c fs => rfl
    | frz l => rfl
    | lst l => cases w with
        | val v => cases v with
          | int k => dsimp only; cases ixN l.length k <;> rfl
          | _ => rfl
        | _ => rfl
    | dic k => cases w with
        | val v =>
          dsimp only
          cases keyOf v with
          | none => rfl
          | some j => dsimp only; by_cases e : k.length < limit <;> simp [e]
        | _ => rfl
theorem mapO_int {n : Nat} : ∀ {l : List Int}, mapO (toD h (n + 1)) (l.map .int) = some (l.map .int)
  | [] => rfl
  | a :: r => by simp [mapO_int (l := r)]
theorem view_frz {a l} (e : h[a]? = some (.frz l)) : viewV h (.ref a) = some (.lst l) := by simp [viewV, e]
theorem mulOk_l {i j : Int} (a : 0 ≤ i) (b : i < 10000000) : mulOk i j = true := by
  unfold mulOk; simp; left; omega
theorem mulOk_r {i j : Int} (a : 0 ≤ j) (b : j < 10000000) : mulOk i j = true := by
  unfold mulOk; simp; right; omega
theorem C_draw {n ns a c m} {Q : B → Hp → Prop} {XX : Str → Hp → Prop} (t : Tw ns a c h) (hc : c < 1000000) (m0 : 0 < m) (m1 : m < 1000000) (q : ∀ d g, 0 ≤ d → d < m → Tw ns a (c + 1) g → Ev a h g → Q (.v (.int d)) g) : C (call Tk (n + 1) "_law_draw" [.v (.ref 0), .v (.ref a), .v (.int m)] h) Q XX := by
  obtain ⟨t1, a0, c0, ws, t2, wl, c1, c2⟩ := t
  have al : a < h.length := (List.getElem?_eq_some_iff.mp t2).1
  refine C_call (fn_T (fd := f__law_draw) (by kernel_rfl)) (C_run rfl ?_)
  unfold f__law_draw; dsimp only
  refine S_step fun K hK => ?_
  simp [view_ref t2, t2]
  subst hK; dsimp only
  generalize eh : h.set a (.lst (.int (c0 + 1) :: ws.map .int)) = h1
  have u1 : h1[0]? = some (.frz (ns.map .int)) := by rw [← eh, List.getElem?_set_ne a0]; exact t1
  have u2 : h1[a]? = some (.lst (.int (c0 + 1) :: ws.map .int)) := by rw [← eh, List.getElem?_set_self al]
  have ev : Ev a h h1 := by rw [← eh]; exact Ev.set
  have tw : Tw ns a (c + 1) h1 := ⟨u1, a0, c0 + 1, ws, u2, wl, by omega, by omega⟩
  have em : ∀ z : Int, 0 ≤ z % m ∧ z % m < m := fun z => ⟨Int.emod_nonneg _ (by omega), Int.emod_lt_of_pos _ m0⟩
  refine S_step fun K hK => ?_
  simp [view_frz u1, view_ref u2, mapO_int]
  refine ⟨fun e => ?_, fun e => ?_⟩
  · refine ⟨mulOk_l (by omega) (by omega), mulOk_r (by omega) (by omega), m0, ?_⟩
    subst hK
    exact q _ _ (em _).1 (em _).2 tw ev
  · subst hK; dsimp only
    have nl : 0 < ns.length := by cases ns with
      | nil => exact absurd rfl e
      | cons => simp
    refine S_step fun K hK => ?_
    simp [view_frz u1, view_ref u2]
    refine ⟨nl, ?_⟩
    subst hK; dsimp only
    generalize ei : (c0 + 1) % (ns.length : Int) = i
    have i0 : 0 ≤ i := by rw [← ei]; exact Int.emod_nonneg _ (by omega)
    have i1 : i < ns.length := by rw [← ei]; exact Int.emod_lt_of_pos _ (by omega)
    have x1 : ixN ns.length i = some i.toNat := ixNat i0 i1
    have x2 : ixN (ws.length + 1) (1 + i) = some (i.toNat + 1) := by rw [ixNat (by omega) (by omega)]; congr 1; omega
    obtain ⟨v1, e1⟩ : ∃ v, ns[i.toNat]? = some v := ⟨ns[i.toNat]'(by omega), List.getElem?_eq_getElem _⟩
    obtain ⟨w1, e2⟩ : ∃ v, ws[i.toNat]? = some v := ⟨ws[i.toNat]'(by omega), List.getElem?_eq_getElem _⟩
    refine S_step fun K hK => ?_
    simp [view_ref u2, x2, e2]
    subst hK; dsimp only
    refine S_step fun K hK => ?_
    simp [view_frz u1, view_ref u2, x1, x2, e1, u2]
    have fin : K .nx [some (B.v (Val.ref 0)), some (B.v (Val.ref a)), some (B.v (Val.int m)), some (B.v (Val.int i)), some (B.v (Val.int w1)), none] h1 := by
      subst hK; dsimp only
      refine S_step fun K hK => ?_
      simp [view_frz u1, view_ref u2, x1, e1]
      refine ⟨mulOk_l (by omega) (by omega), ?_⟩
      subst hK; dsimp only
      generalize ex : (v1 + 104729 * (c0 + 1)) % 4294967291 = x
      have xa : 0 ≤ x := by rw [← ex]; exact Int.emod_nonneg _ (by omega)
      have xb : x < 4294967291 := by rw [← ex]; exact Int.emod_lt_of_pos _ (by omega)
      refine S_step fun K hK => ?_
      simp
      refine ⟨by omega, ?_⟩
      subst hK; dsimp only
      refine S_step fun K hK => ?_
      simp
      refine ⟨mulOk_r (by omega) (by omega), m0, ?_⟩
      subst hK
      exact q _ _ (em _).1 (em _).2 tw ev
    refine ⟨fun _ => ⟨fun _ => ⟨⟨m0, by omega⟩, m0, ?_⟩, fun _ => fin⟩, fun _ => fin⟩
    subst hK
    refine q _ _ (em _).1 (em _).2 ?_ (ev.trans Ev.set)
    refine ⟨by rw [List.getElem?_set_ne a0]; exact u1, a0, c0 + 1, ws.set i.toNat (w1 / m), ?_, by rw [List.length_set]; exact wl, by omega, by omega⟩
    rw [List.getElem?_set_self (List.getElem?_eq_some_iff.mp u2).1, List.map_set]
theorem C_pick {n ns a c xs} {Q : B → Hp → Prop} {XX : Str → Hp → Prop} (P : Val → Prop) (hP : ∀ x ∈ xs, P x) (b : B) (hb : b = .l xs ∨ ∃ r, b = .v (.ref r) ∧ r ≠ a ∧ h[r]? = some (.lst xs)) (t : Tw ns a c h) (hc : c < 1000000) (m0 : 0 < xs.length) (m1 : xs.length < 1000000) (q : ∀ x g, P x → Tw ns a (c + 1) g → Ev a h g → Q (.v x) g) : C (call Tk (n + 2) "_law_pick" [.v (.ref 0), .v (.ref a), b] h) Q XX := by
  refine C_call (fn_T (fd := f__law_pick) (by kernel_rfl)) (C_run rfl ?_)
  unfold f__law_pick; dsimp only
  refine S_step fun K hK => ?_
  have fin : ∀ (d : Int), 0 ≤ d → d < xs.length → ∃ v, (ixN xs.length d).bind (fun j => xs[j]?) = some v ∧ P v := by
    intro d d0 d1
    have : d.toNat < xs.length := by omega
    refine ⟨xs[d.toNat], ?_, hP _ (List.getElem_mem _)⟩
    rw [ixNat d0 d1]
    exact List.getElem?_eq_getElem _
  rcases hb with rfl | ⟨r, rfl, ra, er⟩
  · simp
    refine C_draw t hc (by omega) (by omega) fun d g d0 d1 tg eg => ?_
    obtain ⟨v, e, pv⟩ := fin d d0 d1
    simp [e]
    subst hK
    exact q v g pv tg eg
  · simp [view_ref er]
    refine C_draw t hc (by omega) (by omega) fun d g d0 d1 tg eg => ?_
    obtain ⟨v, e, pv⟩ := fin d d0 d1
    simp [view_ref (eg.at_ ra er), e]
    subst hK
    exact q v g pv tg eg
end
end Mn
end
section
namespace Mn
open PySem
section
variable {α β : Type} {s : Slots} {h : Hp} {X : Str → Slots → Hp → Prop} {G : Env}
def Ld (r : Slots) (i j : Nat) (k : B → Prop) : Prop := match r[i]? with
  | some (some (.v x)) => k (.v x)
  | some (some (.l _)) => k (.sl j)
  | some (some (.d _)) => k (.sl j)
  | _ => False
@[simp ↓ 2000] theorem W_ldSlot2 {i} {Q : B → Slots → Hp → Prop} : W (ldSlot i) s h Q X = Ld s i i (fun b => Q b s h) := by rw [W_ldSlot]; rfl
@[simp ↓ 2000] theorem D_slot2 {i} {Q : B → Slots → Hp → Prop} : W (dn G (.slot i)).v s h Q X = Ld s i i (fun b => Q b s h) := by rw [D_slot, W_ldSlot2]
@[simp ↓ 2000] theorem Ld_v {x r j k} : Ld (some (.v x) :: r) 0 j k = k (.v x) := rfl
@[simp ↓ 2000] theorem Ld_l {x r j k} : Ld (some (.l x) :: r) 0 j k = k (.sl j) := rfl
@[simp ↓ 2000] theorem Ld_d {x r j k} : Ld (some (.d x) :: r) 0 j k = k (.sl j) := rfl
@[simp ↓ 2000] theorem Ld_s {o r i j k} : Ld (o :: r) (i + 1) j k = Ld r i j k := rfl
@[simp] theorem Ld_v' {x r j k} : Ld (some (.v x) :: r) 0 j k = k (.v x) := rfl
@[simp] theorem Ld_l' {x r j k} : Ld (some (.l x) :: r) 0 j k = k (.sl j) := rfl
@[simp] theorem Ld_d' {x r j k} : Ld (some (.d x) :: r) 0 j k = k (.sl j) := rfl
@[simp] theorem Ld_s' {o r i j k} : Ld (o :: r) (i + 1) j k = Ld r i j k := rfl
def VwS (r : Slots) (h : Hp) (i : Nat) (k : View → Prop) : Prop := match r[i]? with
  | some (some (.l xs)) => k (.lst xs)
  | some (some (.d q)) => k (.dic q)
  | some (some (.v x)) => (match viewV h x with
    | some w => k w
    | none => False)
  | _ => False
def Vw (b : B) (s : Slots) (h : Hp) (k : View → Prop) : Prop := match view s h b with
  | some w => k w
  | none => False
@[simp ↓ 2000] theorem VwS_l {x r k} : VwS (some (.l x) :: r) h 0 k = k (.lst x) := rfl
@[simp ↓ 2000] theorem VwS_d {x r k} : VwS (some (.d x) :: r) h 0 k = k (.dic x) := rfl
@[simp ↓ 2000] theorem VwS_s {o r i k} : VwS (o :: r) h (i + 1) k = VwS r h i k := rfl
@[simp ↓ 2000] theorem Vw_int {i k} : Vw (.v (.int i)) s h k = k (.val (.int i)) := rfl
@[simp ↓ 2000] theorem Vw_str {i k} : Vw (.v (.str i)) s h k = k (.val (.str i)) := rfl
@[simp ↓ 2000] theorem Vw_tup {i k} : Vw (.v (.tup i)) s h k = k (.val (.tup i)) := rfl
@[simp ↓ 2000] theorem Vw_bl {i k} : Vw (.v (.bl i)) s h k = k (.val (.bl i)) := rfl
@[simp ↓ 2000] theorem Vw_non {k} : Vw (.v .non) s h k = k (.val .non) := rfl
@[simp ↓ 2000] theorem Vw_exc {i k} : Vw (.v (.exc i)) s h k = k (.val (.exc i)) := rfl
@[simp ↓ 2000] theorem Vw_l {i k} : Vw (.l i) s h k = k (.lst i) := rfl
@[simp ↓ 2000] theorem Vw_d {i k} : Vw (.d i) s h k = k (.dic i) := rfl
@[simp ↓ 2000] theorem Vw_sl {i k} : Vw (.sl i) s h k = VwS s h i k := by
  show (match (match s[i]? with
  | some (some (.l xs)) => some (.lst xs)
  | some (some (.d k)) => some (.dic k)
  | some (some (.v x)) => viewV h x
  | _ => none) with
  | some w => k w
  | none => False) = _
  unfold VwS
  cases s[i]? with
  | none => rfl
  | some o => cases o with
    | none => rfl
    | some b => cases b <;> rfl
@[simp] theorem Vw_v {x k} : Vw (.v x) s h k = (match viewV h x with
  | some w => k w
  | none => False) := rfl
@[simp ↓ 2000] theorem W_viewM2 {b} {Q : View → Slots → Hp → Prop} : W (viewM b) s h Q X = Vw b s h (fun w => Q w s h) := by
  rw [W_viewM]; unfold Vw; cases view s h b <;> rfl
@[simp ↓ 2000] theorem W_op22 {x y} {f : View → View → M α} {Q : α → Slots → Hp → Prop} : W (op2 x y f) s h Q X = Vw x s h (fun a => Vw y s h (fun b => W (f a b) s h Q X)) := by
  rw [W_op2]; unfold Vw; cases view s h x <;> cases view s h y <;> rfl
end
end Mn
end
section
namespace Mn
open PySem
section
variable {α β : Type} {s : Slots} {h : Hp} {X : Str → Slots → Hp → Prop} {G : Env} {QF : Fl → Slots → Hp → Prop}
theorem W_compM {own : List Nat} {t : Tg} {elt : M α} (I : Nat → Hp → Prop) (P : α → Prop) {Q : List α → Slots → Hp → Prop} : ∀ (l : List Val) {s h} (n N : Nat), n + l.length ≤ N → (∀ x ∈ l, ∀ n h, n < N → I n h → W (setTg t x) (wipe own s) h (fun _ sx h => wipe own sx = wipe own s ∧ W elt sx h (fun a s'' h'' => s'' = sx ∧ I (n + 1) h'' ∧ P a) NoX) NoX) → I n h → (∀ r h', r.length = l.length → I (n + l.length) h' → (∀ a ∈ r, P a) → Q r (wipe own s) h') → W (compL own [] t (tstD none) elt l) s h Q NoX
  | [], s, h, n, N, hN, st, i, q => by
    show W (bind (wipeM own) fun _ => bind (chk []) fun _ => ret []) s h Q NoX
    rw [W_bind]
    exact q [] _ rfl i (by simp)
  | x :: r, s, h, n, N, hN, st, i, q => by
    show W (bind (wipeM own) fun _ => bind (chk []) fun _ => bind (setTg t x) fun _ => bind (ret true) fun b =>
      if b = true then bind elt fun y => bind (compL own [] t (tstD none) elt r) fun ys => ret (y :: ys) else compL own [] t (tstD none) elt r) s h Q NoX
    rw [W_bind]
    show W (bind (chk []) _) (wipe own s) h Q NoX
    rw [W_bind]
    show W (bind (setTg t x) _) (wipe own s) h Q NoX
    rw [W_bind]
    refine (st x List.mem_cons_self n h (by simp at hN; omega) i).mono (fun _ sx h1 w => ?_) fun _ _ _ z => z
    obtain ⟨ws, w⟩ := w
    rw [W_bind, W_ret, if_pos rfl, W_bind]
    refine w.mono (fun a s'' h'' w => ?_) fun _ _ _ z => z
    obtain ⟨rfl, i'', p⟩ := w
    rw [W_bind]
    refine W_compM I P r (n + 1) N (by simp at hN; omega) (by rw [ws]; exact fun y m => st y (List.mem_cons_of_mem _ m)) i'' fun rs h3 e3 i3 p3 => ?_
    rw [ws]
    refine q (a :: rs) h3 (by simp [e3]) (by rw [show n + (x :: r).length = n + 1 + r.length by simp; omega]; exact i3) fun b m => ?_
    rcases List.mem_cons.mp m with rfl | m
    · exact p
    · exact p3 b m
def PA (d : Nat) (x : Val) : Prop := ∀ g, Pd g d x
theorem PA.le {d e x} (p : PA d x) (l : d ≤ e) : PA e x := fun g => (p g).le l
theorem PA_int {d i} : PA (d + 1) (.int i) := fun _ => trivial
theorem PA_bl {d i} : PA (d + 1) (.bl i) := fun _ => trivial
theorem PA_non {d} : PA (d + 1) .non := fun _ => trivial
theorem PA_str {d} {z : Str} (l : z.length ≤ limit) : PA (d + 1) (.str z) := fun _ => l
theorem ofS_len {z : String} : (Str.ofString z).length = z.length := by
  rw [Str.ofString_eq_toList]
  show (z.toList.map Char.toNat).toArray.size = _
  rw [List.size_toArray, List.length_map]
  exact String.length_toList
theorem PA_lit {d} {z : String} (l : z.length ≤ 30) : PA (d + 1) (.str (Str.ofString z)) := PA_str (by rw [ofS_len]; simp only [limit]; omega)
def LIT0 : List Str := ["count", "list", "fed", "ab", "add", "sub", "mul", "least", "most", "even", "below", "same"]
def LIT1 : List Str := ["ahead", "each", "rest", "both", "keep", "parts", "until", "from", "first", "skip", "sums", "change"]
def LIT2 : List Str := ["runs", "then", "turns", "merge", "sum", "window", "cross", "again", "a", "abcde", "", "A", "none"]
def LIT : List Str := LIT0 ++ (LIT1 ++ LIT2)
theorem lit_all : ∀ z ∈ LIT, z.length ≤ 30 := by decide +kernel
theorem PA_l {d : Nat} {z : Str} (m : z ∈ LIT) : PA (d + 1) (.str z) := PA_str (Nat.le_trans (lit_all z m) (by decide))
theorem PA_tup {d l} (q : ∀ y ∈ l, PA d y) : PA (d + 1) (.tup l) := fun g y m => q y m g
theorem S_ite_of {c a b} (w : ∀ K2 : B → Slots → Hp → Prop, K2 = (fun x s h => W (truth x) s h (fun t s h => (t = true → W (exs G a) s h QF X) ∧ (¬ t = true → W (exs G b) s h QF X)) X) → W (dn G c).v s h K2 X) : W (ex G (.ite c a b)) s h QF X := by
  rw [S_ite]; exact w _ rfl
theorem PA_tup_iff {d l} : PA (d + 1) (.tup l) ↔ ∀ y ∈ l, PA d y := ⟨fun p y m g => p g y m, PA_tup⟩
theorem PA_tupI {d} {l : List Int} : PA (d + 2) (.tup (l.map .int)) := PA_tup fun y m => by
  obtain ⟨i, _, rfl⟩ := List.mem_map.mp m
  exact PA_int
theorem rngN {j : Int} (a : 0 ≤ j) (b : j < 1000000) : rangeN 0 j 1 = some j.toNat := by
  unfold rangeN
  rw [if_pos ⟨by omega, by omega, by omega, by omega⟩, if_pos rfl, Int.sub_zero]
theorem rngN2 {j : Int} (a : 0 ≤ j) (b : j < 1000000) : rangeN 2 j 1 = some (j - 2).toNat := by
  unfold rangeN
  rw [if_pos ⟨by omega, by omega, by omega, by omega⟩, if_pos rfl]
theorem c_town {n : Nat} {ns : List Int} (e : h[0]? = some (.frz (ns.map Val.int))) (l : ns.length < 1000) : call Tk (n + 1) "_law_town" [.v (.ref 0)] h = .ok (.l (.int 0 :: ns.map .int)) h := by
  refine call_of (C_call (fn_T (fd := f__law_town) (by kernel_rfl)) (C_run rfl ?_))
  simp [f__law_town, view_frz e, seqOf, limit]
  omega
theorem ints_of : ∀ {r : List Val} {P : Int → Prop}, (∀ a ∈ r, ∃ d, a = .int d ∧ P d) → ∃ ds : List Int, r = ds.map .int ∧ ∀ d ∈ ds, P d
  | [], _, _ => ⟨[], rfl, by simp⟩
  | a :: r, P, q => by
    obtain ⟨d, rfl, pd⟩ := q a List.mem_cons_self
    obtain ⟨ds, rfl, h2⟩ := ints_of fun b m => q b (List.mem_cons_of_mem _ m)
    exact ⟨d :: ds, rfl, fun x m => by
      rcases List.mem_cons.mp m with rfl | m
      · exact pd
      · exact h2 x m⟩
def PS (x : Val) : Prop := PA 1 x
theorem C_node {n ns a c m sc} {Q : B → Hp → Prop} {XX : Str → Hp → Prop} (t : Tw ns a c h) (hc : c + 30 ≤ 1000000) (m0 : 0 < m) (m1 : m < 1000000) (q : ∀ y g, PA 4 y → Tw ns a (c + 30) g → Ev a h g → Q (.v y) g) : C (call Tk (n + 3) "_law_node" [.v (.ref 0), .v (.ref a), .v (.int m), .v (.bl sc)] h) Q XX := by
  refine C_call (fn_T (fd := f__law_node) (by kernel_rfl)) (C_run rfl ?_)
  unfold f__law_node; dsimp only
  refine S_step fun K hK => ?_
  simp [rngN (show (0:Int) ≤ 2 by decide) (by decide)]
  refine W_inBlock rfl (W_compM (fun n' h' => Tw ns a (c + n') h' ∧ Ev a h h') (fun v => ∃ d, v = .int d ∧ 0 ≤ d ∧ d < m) _ 0 2 (by simp [range_len]) (fun x _ n' h' hn e => ?_) ⟨t, Ev.rfl⟩ fun r h1 e1 e2 e3 => ?_)
  · obtain ⟨t', e'⟩ := e
    simp
    refine C_draw t' (by omega) m0 m1 fun d g d0 d1 tg eg => ?_
    simp
    exact ⟨⟨tg, e'.trans eg⟩, d0, d1⟩
  · obtain ⟨t1, ev1⟩ := e2
    obtain ⟨ds, rfl, hds⟩ := ints_of e3
    rw [range_len] at t1
    rw [List.length_map, range_len] at e1
    match ds, e1 with
    | [k, j], _ =>
    simp [limit, seqOf]
    subst hK; dsimp only
    refine S_step fun K hK => ?_
    simp [rngN (show (0:Int) ≤ 2 by decide) (by decide)]
    refine W_inBlock rfl (W_compM (fun n' h' => Tw ns a (c + 2 + n') h' ∧ Ev a h h') (fun v => ∃ d : Int, v = .int d ∧ 1 ≤ d ∧ d < 5) _ 0 2 (by simp [range_len]) (fun x _ n' h' hn e => ?_) ⟨t1, ev1⟩ fun r h2 e1 e2 e3 => ?_)
    · obtain ⟨t', e'⟩ := e
      simp
      refine C_draw t' (by omega) (by omega) (by omega) fun d g d0 d1 tg eg => ?_
      simp
      exact ⟨⟨tg, e'.trans eg⟩, by omega, by omega⟩
    · obtain ⟨t2, ev2⟩ := e2
      obtain ⟨es, rfl, hes⟩ := ints_of e3
      rw [range_len] at t2
      rw [List.length_map, range_len] at e1
      match es, e1 with
      | [nn, mm], _ =>
      simp [limit, seqOf]
      subst hK; dsimp only
      refine S_step fun K hK => ?_
      simp [limit]
      refine C_pick (PA 1) (by simp [PA_int]) _ (Or.inl rfl) t2 (by omega) (by simp) (by simp) fun cc h3 pc t3 ev3 => ?_
      simp
      subst hK; dsimp only
      refine S_step fun K hK => ?_
      simp
      refine C_draw t3 (by omega) (by omega) (by omega) fun d5 h4 d0 d1 t4 ev4 => ?_
      simp [rngN d0 (show d5 < 1000000 by omega)]
      refine W_inBlock rfl (W_compM (fun n' h' => Tw ns a (c + 6 + n') h' ∧ Ev a h4 h') (fun v => ∃ d : Int, v = .int d ∧ 0 ≤ d ∧ d < 5) _ 0 5 (by simp [range_len]; omega) (fun x _ n' h' hn e => ?_) ⟨t4, Ev.rfl⟩ fun r h5 e1 e2 e3 => ?_)
      · obtain ⟨t', e'⟩ := e
        simp
        refine C_draw t' (by omega) (by omega) (by omega) fun d g d0 d1 tg eg => ?_
        simp
        exact ⟨⟨tg, e'.trans eg⟩, by omega, by omega⟩
      · obtain ⟨t5, ev5⟩ := e2
        obtain ⟨is, rfl, his⟩ := ints_of e3
        rw [List.length_map, range_len] at e1
        rw [range_len] at t5
        have t6 : Tw ns a (c + 10) h5 := t5.le (by omega)
        have ev6 : Ev a h h5 := ((ev2.trans ev3).trans ev4).trans ev5
        have pi : PA 3 (.tup (is.map .int)) := PA_tupI
        have pc3 : PA 3 cc := pc.le (by omega)
        clear t5 ev5 t4 t3 t2 t1 ev1 ev2 ev3 ev4
        simp [seqOf, limit]
        refine ⟨by omega, ?_⟩
        generalize Val.tup (is.map .int) = items at *
        subst hK; dsimp only
        refine S_step fun K hK => ?_
        simp [limit]
        refine ⟨fun es => ?_, fun es => ?_⟩
        · subst es
          refine C_pick (PA 4) (by simp [PA_tup_iff, PA_int, pi, pc3]; and_intros <;> exact PA_l (by simp [LIT, LIT0, LIT1, LIT2])) _ (Or.inl rfl) t6 (by omega) (by simp) (by simp) fun y g py tg eg => ?_
          simp
          subst hK
          exact q y g py (tg.le (by omega)) (ev6.trans eg)
        subst es
        subst hK; dsimp only
        refine S_step fun K hK => ?_
        simp [limit]
        refine C_pick (PA 1) (by simp; and_intros <;> exact PA_l (by simp [LIT, LIT0, LIT1, LIT2])) _ (Or.inl rfl) t6 (by omega) (by simp) (by simp) fun bo h6 pb t7 ev7 => ?_
        simp
        subst hK; dsimp only
        refine S_step fun K hK => ?_
        simp [limit]
        refine C_pick (PA 1) (by simp; and_intros <;> exact PA_l (by simp [LIT, LIT0, LIT1, LIT2])) _ (Or.inl rfl) t7 (by omega) (by simp) (by simp) fun ru h7 pr t8 ev8 => ?_
        simp
        subst hK; dsimp only
        refine S_step fun K hK => ?_
        simp
        refine C_draw t8 (by omega) (by omega) (by omega) fun way h8 w0 w1 t9 ev9 => ?_
        simp
        subst hK; dsimp only
        have pb3 : PA 3 bo := pb.le (by omega)
        have pr3 : PA 3 ru := pr.le (by omega)
        have ev10 : Ev a h h8 := ((ev6.trans ev7).trans ev8).trans ev9
        clear ev6 ev7 ev8 ev9 t6 t7 t8
        refine S_step fun K hK => ?_
        refine S_ite_of fun K2 hK2 => ?_
        simp
        subst hK2; dsimp only
        rw [W_truth]
        refine ⟨fun c3 => ?_, fun c3 => ?_⟩
        · refine S_step fun K3 hK3 => ?_
          simp [limit]
          subst hK3; dsimp only
          refine S_step fun K3 hK3 => ?_
          simp [limit]
          refine C_pick (PA 4) (by simp [PA_tup_iff, PA_int, pi, pc3, pb3]; and_intros <;> exact PA_l (by simp [LIT, LIT0, LIT1, LIT2])) _ (Or.inl rfl) t9 (by omega) (by simp) (by simp) fun y g py tg eg => ?_
          simp
          subst hK3; dsimp only
          subst hK
          exact q y g py (tg.le (by omega)) (ev10.trans eg)
        rw [S_nil]
        subst hK; dsimp only
        refine S_step fun K hK => ?_
        refine S_ite_of fun K2 hK2 => ?_
        simp
        subst hK2; dsimp only
        rw [W_truth]
        refine ⟨fun c3 => ?_, fun c3 => ?_⟩
        · refine S_step fun K3 hK3 => ?_
          simp [limit]
          subst hK3; dsimp only
          refine S_step fun K3 hK3 => ?_
          simp [limit]
          refine C_pick (PA 4) (by simp [PA_tup_iff, PA_int, pi, pc3, pb3, pr3]; and_intros <;> exact PA_l (by simp [LIT, LIT0, LIT1, LIT2])) _ (Or.inl rfl) t9 (by omega) (by simp) (by simp) fun y g py tg eg => ?_
          simp
          subst hK3; dsimp only
          subst hK
          exact q y g py (tg.le (by omega)) (ev10.trans eg)
        rw [S_nil]
        subst hK; dsimp only
        refine S_step fun K hK => ?_
        refine S_ite_of fun K2 hK2 => ?_
        simp
        subst hK2; dsimp only
        rw [W_truth]
        refine ⟨fun c3 => ?_, fun c3 => ?_⟩
        · refine S_step fun K3 hK3 => ?_
          simp [limit]
          refine C_pick (PA 4) (by simp [PA_tup_iff, PA_int, pi, pc3, pb3, pr3]; and_intros <;> exact PA_l (by simp [LIT, LIT0, LIT1, LIT2])) _ (Or.inl rfl) t9 (by omega) (by simp) (by simp) fun y g py tg eg => ?_
          simp
          subst hK3; dsimp only
          subst hK
          exact q y g py (tg.le (by omega)) (ev10.trans eg)
        rw [S_nil]
        subst hK; dsimp only
        refine S_step fun K hK => ?_
        simp [limit]
        refine C_pick (PA 1) (by simp; and_intros <;> exact PA_l (by simp [LIT, LIT0, LIT1, LIT2])) _ (Or.inl rfl) t9 (by omega) (by simp) (by simp) fun fo h9 pf t10 ev11 => ?_
        simp
        subst hK; dsimp only
        have pf3 : PA 3 fo := pf.le (by omega)
        refine S_step fun K hK => ?_
        simp [limit]
        subst hK; dsimp only
        refine S_step fun K hK => ?_
        simp [limit]
        have al : a < h9.length := by
          obtain ⟨_, _, _, _, e, _⟩ := t10
          exact (List.getElem?_eq_some_iff.mp e).1
        refine C_pick (xs := [Val.tup [Val.str (Str.ofString "window"), fo, Val.int nn, Val.int mm, Val.int k], Val.tup [Val.str (Str.ofString "cross"), bo, Val.int k, Val.int j], Val.tup [Val.str (Str.ofString "again"), Val.int k], Val.tup [Val.str (Str.ofString "first"), Val.int (nn + 3), Val.int k]]) (PA 4) (?_) _ (Or.inr ⟨h9.length, rfl, by omega, by simp⟩) t10.app (by omega) (by simp) (by simp) fun y g py tg eg => ?_
        · simp [PA_tup_iff, PA_int, pi, pc3, pb3, pr3, pf3]; and_intros <;> exact PA_l (by simp [LIT, LIT0, LIT1, LIT2])
        simp
        subst hK
        exact q y g py (tg.le (by omega)) (((ev10.trans ev11).trans Ev.app).trans eg)
end
end Mn
end
section
namespace Mn
open PySem
section
variable {α β : Type} {s : Slots} {h : Hp} {X : Str → Slots → Hp → Prop} {G : Env} {QF : Fl → Slots → Hp → Prop}
@[simp ↓ 2000] theorem W_app_sl {x i} : W (modL (appL x) (.sl i)) s h QF X = (match s[i]? with
    | some (some (.l xs)) => xs.length < limit ∧ QF .nx (s.set i (some (.l (xs ++ [x])))) h
    | some (some (.v (.ref a))) => (match h[a]? with
      | some (.lst l) => l.length < limit ∧ QF .nx s (h.set a (.lst (l ++ [x])))
      | _ => False)
    | _ => False) := by
  unfold W modL appL
  dsimp only
  cases s[i]? with
  | none => rfl
  | some o => cases o with
    | none => rfl
    | some b => cases b with
      | v x => cases x with
        | ref a =>
          dsimp only
          cases h[a]? with
          | none => rfl
          | some o => cases o with
            | lst l => dsimp only; by_cases e : l.length < limit <;> simp [e]
            | _ => rfl
        | _ => rfl
      | l xs => dsimp only; by_cases e : xs.length < limit <;> simp [e]
      | d k => rfl
      | sl j => rfl
@[simp ↓ 2000] theorem S_app2 {o e} : W (ex G (.app o e)) s h QF X = W (dn G o).v s h (fun b s h => W (lstB b) s h (fun _ s h => W (dn G e).v s h (fun y s h => W (toVal y) s h (fun x s h => W (modL (appL x) b) s h QF X) X) X) X) X := S_app
theorem C_plan {n ns a} {Q : B → Hp → Prop} {XX : Str → Hp → Prop} (t : Tw ns a 0 h) (q : ∀ l g, 2 ≤ l.length → l.length ≤ 7 → (∀ y ∈ l, PA 4 y) → Tw ns a 1000 g → Ev a h g → Q (.v (.tup l)) g) : C (call Tk (n + 4) "_law_plan" [.v (.ref 0), .v (.ref a)] h) Q XX := by
  refine C_call (fn_T (fd := f__law_plan) (by kernel_rfl)) (C_run rfl ?_)
  unfold f__law_plan; dsimp only
  refine S_step fun K hK => ?_
  simp
  refine C_draw t (by omega) (by omega) (by omega) fun d h1 d0 d1 t1 ev1 => ?_
  simp
  subst hK; dsimp only
  generalize em : 2 + d = m
  refine S_step fun K hK => ?_
  simp
  refine C_node t1 (by omega) (by omega) (by omega) fun y1 h2 p1 t2 ev2 => ?_
  simp
  refine C_node t2 (by omega) (by omega) (by omega) fun y2 h3 p2 t3 ev3 => ?_
  simp [limit]
  subst hK; dsimp only
  have ev4 : Ev a h h3 := (ev1.trans ev2).trans ev3
  clear ev1 ev2 ev3 t1 t2
  refine S_step fun K hK => ?_
  simp [rngN2 (show 0 ≤ m by omega) (show m < 1000000 by omega)]
  refine W_forL (fun rest s g => ∃ l b4 b5, s = [some (.v (.ref 0)), some (.v (.ref a)), some (.v (.int m)), some (.l l), b4, b5] ∧ l.length + rest.length = m.toNat ∧ 2 ≤ l.length ∧ (∀ y ∈ l, PA 4 y) ∧ Tw ns a (100 + 40 * l.length) g ∧ Ev a h g ∧ ∀ v ∈ rest, ∃ k : Int, v = .int k ∧ 2 ≤ k ∧ k < m) (fun x r s g J => ?_) (fun s g J => ?_) _ ⟨[y1, y2], none, none, rfl, ?_, by simp, ?_, t3.le (by simp), ev4, ?_⟩
  · obtain ⟨l, b4, b5, rfl, e1, e2, e3, tg, eg, e4⟩ := J
    obtain ⟨k, rfl, k1, k2⟩ := e4 x List.mem_cons_self
    have ll : l.length ≤ 7 := by simp at e1; omega
    rw [W_setTg1]
    refine ⟨by simp, ?_⟩
    simp only [List.set_cons_succ, List.set_cons_zero]
    refine S_step fun K2 hK2 => ?_
    simp
    refine C_draw tg (by omega) (by omega) (by omega) fun dd g1 d0 d1 t1 ev1 => ?_
    simp
    have nx : ∀ (mm : Int), 2 ≤ mm → mm < 1000000 → C (call Tk (n + 3) "_law_node" [.v (.ref 0), .v (.ref a), .v (.int mm), .v (.bl false)] g1) (fun b g => match b with
      | .v y => K2 .nx [some (.v (.ref 0)), some (.v (.ref a)), some (.v (.int m)), some (.l l), some (.v (.int k)), some (.v y)] g
      | _ => False) (fun _ _ => False) := by
      intro mm m1 m2
      refine C_node t1 (by omega) (by omega) (by omega) fun y g2 py t2 ev2 => ?_
      dsimp only
      subst hK2; dsimp only
      simp [limit]
      refine ⟨by omega, by simp at e1; omega, by omega, ?_, t2.le (by omega), (eg.trans ev1).trans ev2, fun v mv => e4 v (List.mem_cons_of_mem _ mv)⟩
      rintro z (mz | rfl)
      · exact e3 z mz
      · exact py
    have fin : ∀ mm : Int, 2 ≤ mm → mm < 1000000 → ∃ y g, call Tk (n + 3) "_law_node" [.v (.ref 0), .v (.ref a), .v (.int mm), .v (.bl false)] g1 = .ok (.v y) g ∧ K2 .nx [some (.v (.ref 0)), some (.v (.ref a)), some (.v (.int m)), some (.l l), some (.v (.int k)), some (.v y)] g := by
      intro mm m1 m2
      obtain ⟨b, g, e, w⟩ := (nx mm m1 m2).to_eq
      cases b with
      | v y => exact ⟨y, g, e, w⟩
      | _ => exact w.elim
    refine ⟨fun _ => ?_, fun _ => ?_⟩
    · obtain ⟨y, g, e, w⟩ := fin m (by omega) (by omega)
      rw [e]
      simp
      exact w
    · obtain ⟨y, g, e, w⟩ := fin k (by omega) (by omega)
      rw [e]
      simp
      exact w
  · obtain ⟨l, b4, b5, rfl, e1, e2, e3, tg, eg, e4⟩ := J
    subst hK; dsimp only
    simp [seqOf]
    simp at e1
    exact q l g e2 (by omega) e3 (tg.le (by omega)) eg
  · rw [range_len]; simp; omega
  · simp [p1, p2]
  · intro v mv
    obtain ⟨k, e, k1, k2⟩ := range_mem mv
    exact ⟨k, e, by omega, by omega⟩
end
end Mn
end
section
namespace Mn
open PySem
section
variable {α β : Type} {s : Slots} {h : Hp} {X : Str → Slots → Hp → Prop} {G : Env} {QF : Fl → Slots → Hp → Prop}
def isK : Val → Bool
  | .tup [_, .str c] => decide (c = "k")
  | _ => false
def inL (r : List Val) (k : Str) : List Val := ((zipL r (sigs k)).filter isK).map vE
theorem in_ints {r : List Val} {k : Str} {m : Int} (ha : ∀ x ∈ zipL r (sigs k), partV m x = true) : ∃ ds : List Int, inL r k = ds.map .int ∧ allInts (inL r k) = some ds := by
  have e : ∀ v ∈ inL r k, ∃ d : Int, v = .int d ∧ True := by
    intro v mv
    obtain ⟨y, my, rfl⟩ := List.mem_map.mp mv
    obtain ⟨m1, m2⟩ := List.mem_filter.mp my
    obtain ⟨p, c, rfl, _, hc⟩ := zipL_mem m1
    obtain ⟨c, _, rfl⟩ := List.mem_map.mp hc
    have ec : Str.mk #[c] = "k" := of_decide_eq_true m2
    have q : partOk p ⟨#[c]⟩ m = true := ha _ m1
    rw [ec] at q
    have : look ("k" : Str) WS = none := by decide +kernel
    unfold partOk at q
    rw [this] at q
    dsimp only at q
    rw [if_neg kl, if_neg kw, if_pos rfl] at q
    obtain ⟨i, rfl, _⟩ := num_int q
    exact ⟨i, rfl, trivial⟩
  obtain ⟨ds, e1, _⟩ := ints_of e
  refine ⟨ds, e1, ?_⟩
  rw [e1]
  clear e e1 ha
  induction ds with
  | nil => rfl
  | cons a r ih => simp [allInts, ih]
theorem in_len {r k} : (inL r k).length ≤ r.length := by
  unfold inL
  rw [List.length_map]
  exact Nat.le_trans (List.length_filter_le _ _) zipL_len
theorem c_inputs_of {n : Nat} {z k : Str} {r : List Val} (ek : look z KS = some k) (rk : r.length = k.length) : call Tk (n + 1) "inputs_of" [.v (.tup (.str z :: r))] h = .ok (.l (inL r k)) h := by
  refine call_of (C_call (fn_T (fd := f_inputs_of) (by kernel_rfl)) (C_run rfl ?_))
  unfold f_inputs_of; dsimp only
  refine S_step fun K hK => ?_
  have k4 := kinds_small ek
  simp [lookF_map, ek, items_str, srcOf]
  rw [show itemsOf (View.val (Val.tup r)) = some r from rfl]
  dsimp only
  refine W_inBlock rfl (W_compF (fun h' => h' = h) isK vE _ (fun x mm h' e => ?_) rfl fun h' e => ?_)
  · subst e
    obtain ⟨p, c, rfl, hr, hc⟩ := zipL_mem mm
    obtain ⟨c, _, rfl⟩ := List.mem_map.mp hc
    simp [isK, vE]
  · subst e
    have := in_len (r := r) (k := k)
    refine ⟨by show (inL r k).length ≤ limit; simp only [limit]; omega, ?_⟩
    subst hK
    exact ⟨rfl, rfl⟩
theorem c_reads {n d : Nat} {l : List Val} {j : Int} {z k : Str} {r : List Val} {ds : List Int} (hp : Pd h d (.tup l)) (hd : d ≤ 60) (hb : planOk (.tup l) = true) (j0 : 0 ≤ j) (j1 : j < l.length) (ej : l[j.toNat]? = some (.tup (.str z :: r))) (ek : look z KS = some k) (rk : r.length = k.length) (ed : allInts (inL r k) = some ds) (dl : ds.length < 64) : call Tk (n + 7) "reads" [.v (.tup l), .v (.int j)] h = .ok (.l ((sortO leI (dedup ds)).map .int)) h := by
  refine call_of (C_call (fn_T (fd := f_reads) (by kernel_rfl)) (C_run rfl ?_))
  unfold f_reads; dsimp only
  refine S_step fun K hK => ?_
  simp [c_look_plan hp hd, hb]
  subst hK; dsimp only
  refine S_step fun K hK => ?_
  have no : numOk (.int j) 0 (l.length - 1) = true := by simp [numOk]; omega
  simp [c_look_node (h := h) (l := l) (x := .int j) trivial, no]
  subst hK; dsimp only
  refine S_step fun K hK => ?_
  simp [ixNat j0 j1, ej, c_inputs_of ek rk, seqOf, ed, dl]
  subst hK
  exact ⟨rfl, rfl⟩
theorem eqvAll_ints : ∀ l : List Int, PyData.eqvAll (l.map .int) (l.map .int) = true
  | [] => rfl
  | a :: r => by
    show (PyData.eqv (.int a) (.int a) && PyData.eqvAll (r.map .int) (r.map .int)) = true
    rw [eqvAll_ints r]; simp
theorem eqv_ints (l : List Int) : PyData.eqv (.list (l.map .int)) (.list (l.map .int)) = true := eqvAll_ints l
end
end Mn
end
section
namespace Mn
open PySem
section
variable {α β : Type} {s : Slots} {h : Hp} {X : Str → Slots → Hp → Prop} {G : Env} {QF : Fl → Slots → Hp → Prop}
def All2 (R : α → β → Prop) : List α → List β → Prop
  | [], [] => True
  | a :: r, b :: q => R a b ∧ All2 R r q
  | _, _ => False
theorem W_compR {own : List Nat} {t : Tg} {elt : M α} (I : Nat → Hp → Prop) (R : Val → α → Prop) {Q : List α → Slots → Hp → Prop} : ∀ (l : List Val) {s h} (n : Nat), (∀ x ∈ l, ∀ n h, I n h → W (setTg t x) (wipe own s) h (fun _ sx h => wipe own sx = wipe own s ∧ W elt sx h (fun a s'' h'' => s'' = sx ∧ I (n + 1) h'' ∧ R x a) NoX) NoX) → I n h → (∀ r h', All2 R l r → I (n + l.length) h' → Q r (wipe own s) h') → W (compL own [] t (tstD none) elt l) s h Q NoX
  | [], s, h, n, st, i, q => by
    show W (bind (wipeM own) fun _ => bind (chk []) fun _ => ret []) s h Q NoX
    rw [W_bind]
    exact q [] _ trivial i
  | x :: r, s, h, n, st, i, q => by
    show W (bind (wipeM own) fun _ => bind (chk []) fun _ => bind (setTg t x) fun _ => bind (ret true) fun b =>
      if b = true then bind elt fun y => bind (compL own [] t (tstD none) elt r) fun ys => ret (y :: ys) else compL own [] t (tstD none) elt r) s h Q NoX
    rw [W_bind]
    show W (bind (chk []) _) (wipe own s) h Q NoX
    rw [W_bind]
    show W (bind (setTg t x) _) (wipe own s) h Q NoX
    rw [W_bind]
    refine (st x List.mem_cons_self n h i).mono (fun _ sx h1 w => ?_) fun _ _ _ z => z
    obtain ⟨ws, w⟩ := w
    rw [W_bind, W_ret, if_pos rfl, W_bind]
    refine w.mono (fun a s'' h'' w => ?_) fun _ _ _ z => z
    obtain ⟨rfl, i'', p⟩ := w
    rw [W_bind]
    refine W_compR I R r (n + 1) (by rw [ws]; exact fun y m => st y (List.mem_cons_of_mem _ m)) i'' fun rs h3 e3 i3 => ?_
    rw [ws]
    exact q (a :: rs) h3 ⟨p, e3⟩ (by rw [show n + (x :: r).length = n + 1 + r.length by simp; omega]; exact i3)
def toldR (x : Val) (v a : Val) : Prop := match v with
  | .int w => if planOk x = true then (w = 0 → ∃ u, a = .tup [.str "found", u]) ∧ (2 ≤ w → a = rfs (erI x w.toNat)) else a = rfs 0
  | _ => False
theorem told_list {x : Val} {ts : List Val} (a : All2 (toldR x) (rangeL 0 1 15) ts) : if planOk x = true then ∃ u v, ts = [.tup [.str "found", u], v, rfs 5, rfs 2, rfs 5, rfs 5, rfs 5, rfs 5, rfs 5, rfs 5, rfs 5, rfs 5, rfs 5, rfs 2, rfs 5] else ts = List.replicate 15 (rfs 0) := by
  match ts, a with
  | [a0, a1, a2, a3, a4, a5, a6, a7, a8, a9, a10, a11, a12, a13, a14], q =>
    obtain ⟨q0, q1, q2, q3, q4, q5, q6, q7, q8, q9, q10, q11, q12, q13, q14, _⟩ := q
    unfold toldR at *
    cases hb : planOk x with
    | true =>
      simp only [hb, if_true] at q0 q1 q2 q3 q4 q5 q6 q7 q8 q9 q10 q11 q12 q13 q14 ⊢
      obtain ⟨u, e0⟩ := q0.1 (by decide)
      refine ⟨u, a1, ?_⟩
      rw [e0, q2.2 (by decide), q3.2 (by decide), q4.2 (by decide), q5.2 (by decide), q6.2 (by decide), q7.2 (by decide), q8.2 (by decide), q9.2 (by decide), q10.2 (by decide), q11.2 (by decide), q12.2 (by decide), q13.2 (by decide), q14.2 (by decide)]
      simp only [erI, hb, if_true]
      rfl
    | false =>
      simp [hb] at q0 q1 q2 q3 q4 q5 q6 q7 q8 q9 q10 q11 q12 q13 q14 ⊢
      rw [q0, q1, q2, q3, q4, q5, q6, q7, q8, q9, q10, q11, q12, q13, q14]
      exact ⟨rfl, rfl, rfl, rfl, rfl, rfl, rfl, rfl, rfl, rfl, rfl, rfl, rfl, rfl, rfl⟩
theorem told_one {n d x g} (hp : Pd g d x) (hd : d ≤ 60) (w : Nat) (hw : w < 15) : ∃ a t, call Tk (n + 10) "_law_told" [.v (.int w), .v x] g = .ok (.v a) (g ++ t) ∧ toldR x (.int w) a := by
  unfold toldR
  cases hb : planOk x with
  | true =>
    match w, hw with
    | 0, _ =>
      obtain ⟨v, e⟩ := c_told0 (n := n) hp hd hb
      exact ⟨_, [], by rw [List.append_nil]; exact e, by simp⟩
    | 1, _ =>
      obtain ⟨v, t, e⟩ := c_told1 (n := n) hp hd hb
      exact ⟨v, t, e, by simp⟩
    | w + 2, hw =>
      refine ⟨rfs (erI x (w + 2)), if w + 2 = 3 ∨ w + 2 = 13 then [.ins "Web" []] else [], (c_told hp hd (w + 2) (by omega) hw).trans ?_, ?_⟩
      · unfold erH
        split <;> simp
      · dsimp only
        rw [if_pos rfl]
        refine ⟨fun e => by omega, fun _ => ?_⟩
        rfl
  | false =>
    by_cases h2 : w < 2
    · exact ⟨_, [], by rw [List.append_nil]; exact c_told_bad hp hd hb w h2, by simp⟩
    · refine ⟨rfs (erI x w), if w = 3 ∨ w = 13 then [.ins "Web" []] else [], (c_told hp hd w (by omega) hw).trans ?_, ?_⟩
      · unfold erH
        split <;> simp
      · simp [erI, hb]
def slB (b2 b3 b4 : Option B) (x : Val) (g : Bool) : Slots := [some (.v (.ref 0)), some (.v (.ref 1)), b2, b3, b4, some (.v x), some (.v (.bl g)), none, none, none, none, none, none, none, none]
theorem law_told {n d x b2 b3 b4} (hp : Pd h d x) (hd : d ≤ 60) (K : Fl → Slots → Hp → Prop) (q : ∀ ts t, All2 (toldR x) (rangeL 0 1 15) ts → K .nx ((slB b2 b3 b4 x (planOk x)).set 7 (some (.l ts))) (h ++ t)) : W (ex (envOf Tk (call Tk (n + 10))) (.asg (.nam 7) (.comp (.call "_law_told" [(.slot 12), (.slot 5)]) (.one 12) (.rng (.cst (.int 0)) (.cst (.int 15)) (.cst (.int 1))) none [12]))) (slB b2 b3 b4 x (planOk x)) h K NoX := by
  simp [rngN (show (0:Int) ≤ 15 by decide) (by decide)]
  refine W_inBlock rfl (W_compR (fun _ h' => ∃ t, h' = h ++ t) (toldR x) _ 0 (fun v mv n' h' e => ?_) ⟨[], by simp⟩ fun r h' a e => ?_)
  · obtain ⟨t, rfl⟩ := e
    obtain ⟨k, rfl, k0, k1⟩ := range_mem mv
    obtain ⟨a, t2, e, ra⟩ := told_one (n := n) (hp.ext (t := t)) hd k.toNat (by omega)
    have ek : ((k.toNat : Nat) : Int) = k := by omega
    rw [ek] at e ra
    simp [slB, e, ra]
  · obtain ⟨t, rfl⟩ := e
    have := q r t a
    have l15 : r.length = 15 := by
      match r, a with
      | [_, _, _, _, _, _, _, _, _, _, _, _, _, _, _], _ => rfl
    simp [slB, limit, l15] at this ⊢
    exact this
end
end Mn
end
section
namespace Mn
open PySem
section
variable {α β : Type} {s : Slots} {h : Hp} {X : Str → Slots → Hp → Prop} {G : Env} {QF : Fl → Slots → Hp → Prop}
def slC (b2 b3 b4 : Option B) (x : Val) (g : Bool) (ts : List Val) (b8 b9 b10 : Option B) : Slots := [some (.v (.ref 0)), some (.v (.ref 1)), b2, b3, b4, some (.v x), some (.v (.bl g)), some (.l ts), b8, b9, b10, none, none, none, none]
def Fine : Fl → Slots → Hp → Prop := fun f _ _ => f = .rt (.v (.bl true))
theorem S_for_of {t it b} (w : ∀ K2 : List Val × Srcs → Slots → Hp → Prop, (∀ p s h, srcOff (tgN t ++ asgSs b) p.2 = true ∧ W (forL p.2 t (exs G b) p.1) s h QF X → K2 p s h) → W (dn G it).it s h K2 X) : W (ex G (.for_ t it b)) s h QF X := by
  rw [S_for]
  exact w _ fun _ _ _ z => z
theorem src_ints {l : List Val} : ∃ ds : List Int, srcL l = ds.map .int := by
  obtain ⟨ds, e, _⟩ := ints_of (r := srcL l) (P := fun _ => True) (fun v mv => by
    obtain ⟨k, e, _⟩ := range_mem (List.mem_filter.mp mv).1
    exact ⟨k, e, trivial⟩)
  exact ⟨ds, e⟩
theorem law_loop {n d : Nat} {l : List Val} {b2 b3 b4 b8 : Option B} {ts : List Val} (hp : Pd h d (.tup l)) (hd : d ≤ 60) (hb : planOk (.tup l) = true) (l2 : l.length ≤ 12) (ho : ∀ y ∈ l, nodeOk y l.length = true) (K : Fl → Slots → Hp → Prop) (q : ∀ s g, K .nx s g) (lE : E) (N : Int) (hN : N = l.length) (hlE : ∀ Q : B → Slots → Hp → Prop, W (dn (envOf Tk (call Tk (n + 10))) lE).v [some (B.v (.ref 0)), some (B.v (.ref 1)), b2, b3, b4, some (B.v (.tup l)), some (B.v (.bl true)), some (B.l ts), b8, none, none, none, none, none, none] h Q NoX = Q (.v (.int N)) [some (B.v (.ref 0)), some (B.v (.ref 1)), b2, b3, b4, some (B.v (.tup l)), some (B.v (.bl true)), some (B.l ts), b8, none, none, none, none, none, none] h) : W (ex (envOf Tk (call Tk (n + 10))) (.for_ (.one 9) (.rng (.cst (.int 0)) lE (.cst (.int 1))) [.asg (.nam 10) (.idx (.call "_law_kinds" []) (.idx (.idx (.slot 5) (.slot 9)) (.cst (.int 0)))), .ite (.cmp .NotEq (.call "reads" [(.slot 5), (.slot 9)]) (.f1 .sset (.comp (.slot 13) (.many [13, 14]) (.zip (.sli (.idx (.slot 5) (.slot 9)) (some (.cst (.int 1))) none) (.slot 10)) (some (.cmp .Eq (.slot 14) (.cst (.str "k")))) [13, 14]))) [.rt (.cst (.bl false))] []])) [some (B.v (.ref 0)), some (B.v (.ref 1)), b2, b3, b4, some (B.v (.tup l)), some (B.v (.bl true)), some (B.l ts), b8, none, none, none, none, none, none] h K NoX := by
  simp
  rw [hlE]
  simp [rngN (show (0:Int) ≤ N by omega) (show N < 1000000 by omega)]
  refine W_forL (fun rest s g => ∃ b9 b10 t, s = [some (B.v (.ref 0)), some (B.v (.ref 1)), b2, b3, b4, some (B.v (.tup l)), some (B.v (.bl true)), some (B.l ts), b8, b9, b10, none, none, none, none] ∧ g = h ++ t ∧ ∀ v ∈ rest, ∃ k : Int, v = .int k ∧ 0 ≤ k ∧ k < N) (fun x r s g J => ?_) (fun s g _ => q s g) _ ⟨none, none, [], rfl, (List.append_nil h).symm, fun v mv => ?_⟩
  · obtain ⟨b9, b10, t, rfl, rfl, e4⟩ := J
    obtain ⟨k, rfl, k0, k1⟩ := e4 x List.mem_cons_self
    have k1 : k < l.length := by omega
    have lk : k.toNat < l.length := by omega
    obtain ⟨z, rr, kk, en, ek, rk, ha⟩ := node_tup (ho (l[k.toNat]) (List.getElem_mem lk))
    have ej : l[k.toNat]? = some (.tup (.str z :: rr)) := by rw [List.getElem?_eq_getElem lk, en]
    obtain ⟨ds, i1, i2⟩ := in_ints ha
    have k4 := kinds_small ek
    have dl : ds.length < 64 := by
      have := in_len (r := rr) (k := kk)
      rw [i1, List.length_map] at this
      omega
    have er := c_reads (n := n + 3) (h := h ++ t) hp.ext hd hb k0 k1 ej ek rk i2 dl
    rw [W_setTg1]
    refine ⟨by simp, ?_⟩
    simp only [List.set_cons_succ, List.set_cons_zero]
    refine S_step fun K3 hK3 => ?_
    simp [ixNat k0 k1, ej, c_law_kinds, lookLK, ek]
    subst hK3; dsimp only
    refine S_step fun K3 hK3 => ?_
    refine S_ite_of fun K4 hK4 => ?_
    simp [er, ixNat k0 k1, ej, items_str, srcOf, mapO_int]
    rw [show itemsOf (View.val (Val.tup rr)) = some rr from rfl]
    dsimp only
    refine W_inBlock rfl (W_compF (fun h' => h' = h ++ t) isK vE _ (fun x mm h' e => ?_) rfl fun h' e => ?_)
    · subst e
      obtain ⟨p, c, rfl, hr, hc⟩ := zipL_mem mm
      obtain ⟨c, _, rfl⟩ := List.mem_map.mp hc
      simp [isK, vE]
    · subst e
      have il := in_len (r := rr) (k := kk)
      rw [show ((zipL rr (sigs kk)).filter isK).map vE = inL rr kk from rfl]
      have : (inL rr kk).length ≤ limit := by simp only [limit]; omega
      simp [this, seqOf, i2, dl, mapO_int, eqv_ints]
      subst hK4; dsimp only
      rw [W_truth]
      refine ⟨(fun c => by simp at c), fun _ => ?_⟩
      rw [S_nil]
      subst hK3; dsimp only
      rw [S_nil]
      dsimp only
      exact ⟨_, _, t, rfl, rfl, fun v mv => e4 v (List.mem_cons_of_mem _ mv)⟩
  · obtain ⟨k, e, k0, k1⟩ := range_mem mv
    exact ⟨k, e, k0, by omega⟩
end
end Mn
end
section
namespace Mn
open PySem
section
variable {α β : Type} {s : Slots} {h : Hp} {X : Str → Slots → Hp → Prop} {G : Env} {QF : Fl → Slots → Hp → Prop}
theorem law_src {n d : Nat} {l : List Val} {b2 b3 b4 b8 : Option B} {ts : List Val} (hp : Pd h d (.tup l)) (hd : d ≤ 60) (hb : planOk (.tup l) = true) (l2 : l.length ≤ 12) (ho : ∀ y ∈ l, nodeOk y l.length = true) (K : Fl → Slots → Hp → Prop) (lE : E) (N : Int) (hN : N = l.length) (hlE : ∀ Q : B → Slots → Hp → Prop, W (dn (envOf Tk (call Tk (n + 10))) lE).v [some (B.v (.ref 0)), some (B.v (.ref 1)), b2, b3, b4, some (B.v (.tup l)), some (B.v (.bl true)), some (B.l ts), b8, none, none, none, none, none, none] h Q NoX = Q (.v (.int N)) [some (B.v (.ref 0)), some (B.v (.ref 1)), b2, b3, b4, some (B.v (.tup l)), some (B.v (.bl true)), some (B.l ts), b8, none, none, none, none, none, none] h) (q : K .nx [some (B.v (.ref 0)), some (B.v (.ref 1)), b2, b3, b4, some (B.v (.tup l)), some (B.v (.bl true)), some (B.l ts), b8, none, none, none, none, none, none] h) : W (ex (envOf Tk (call Tk (n + 10))) (.ite (.cmp .NotEq (.call "sources" [(.slot 5)]) (.comp (.slot 9) (.one 9) (.rng (.cst (.int 0)) lE (.cst (.int 1))) (some (.cmp .In (.idx (.idx (.slot 5) (.slot 9)) (.cst (.int 0))) (.tup [(.cst (.str "count")), (.cst (.str "list")), (.cst (.str "fed"))]))) [9])) [.rt (.cst (.bl false))] [])) [some (B.v (.ref 0)), some (B.v (.ref 1)), b2, b3, b4, some (B.v (.tup l)), some (B.v (.bl true)), some (B.l ts), b8, none, none, none, none, none, none] h K NoX := by
  have es : call Tk (n + 10) "sources" [.v (.tup l)] h = .ok (.l (srcL l)) h := by
    have := c_sources (n := n + 3) hp hd
    rw [hb] at this
    exact this
  refine S_ite_of fun K2 hK2 => ?_
  simp [es]
  rw [hlE]
  simp [rngN (show (0:Int) ≤ N by omega) (show N < 1000000 by omega)]
  refine W_inBlock rfl (W_compF (fun h' => h' = h) (kp l 0) id _ (fun x mm h' e => ?_) rfl fun h' e => ?_)
  · subst e
    obtain ⟨k, rfl, k0, k1⟩ := range_mem mm
    have lk : k.toNat < l.length := by omega
    obtain ⟨z, rr, kk, en, ek, rk, ha⟩ := node_tup (ho (l[k.toNat]) (List.getElem_mem lk))
    have ej : l[k.toNat]? = some (.tup (.str z :: rr)) := by rw [List.getElem?_eq_getElem lk, en]
    have ek2 : kp l 0 (.int k) = decide (z ∈ SRC) := by
      unfold kp
      dsimp only
      rw [show ((k - ((0 : Nat) : Int)).toNat) = k.toNat by congr 1; omega, ej]
      rfl
    simp [-List.any_cons, ixNat k0 (show k < l.length by omega), ej, any_SRC, ek2, limit]
  · subst e
    rw [List.map_id]
    have eN : N.toNat = l.length := by omega
    rw [eN, show (rangeL 0 1 l.length).filter (kp l 0) = srcL l from rfl]
    obtain ⟨ds, e1⟩ := src_ints (l := l)
    have fl : (srcL l).length ≤ limit := by
      unfold srcL
      refine Nat.le_trans (List.length_filter_le _ _) ?_
      rw [range_len]; simp only [limit]; omega
    rw [e1] at fl ⊢
    refine ⟨fl, ?_⟩
    simp [mapO_int, eqv_ints]
    subst hK2; dsimp only
    rw [W_truth]
    refine ⟨fun c => by simp at c, fun _ => ?_⟩
    rw [S_nil]
    exact q
theorem law_C {n d : Nat} {x : Val} {b2 b3 b4 : Option B} {ts : List Val} (hp : Pd h d x) (hd : d ≤ 60) (ht : All2 (toldR x) (rangeL 0 1 15) ts) : W (exs (envOf Tk (call Tk (n + 10))) (f_law.body.drop 17)) [some (B.v (.ref 0)), some (B.v (.ref 1)), b2, b3, b4, some (B.v x), some (B.v (.bl (planOk x))), some (B.l ts), none, none, none, none, none, none, none] h Fine NoX := by
  have tl := told_list ht
  cases hb : planOk x with
  | false =>
    rw [hb] at tl
    have tl' : ts = List.replicate 15 (rfs 0) := tl
    dsimp only [f_law, List.drop]
    refine S_step fun K hK => ?_
    refine S_ite_of fun K2 hK2 => ?_
    simp
    subst hK2; dsimp only
    rw [W_truth]
    refine ⟨fun _ => ?_, fun c => absurd rfl c⟩
    refine S_step fun K2 hK2 => ?_
    simp [c_ref_plan, limit]
    subst tl'
    have e1 : mapO (toD h 59) (List.replicate 15 (rfs 0)) = some (List.replicate 15 (.tuple [.str "refused", .int 0])) := by rfl
    have e2 : mapO (toD h 59) (repL 15 [rfs 0]) = some (List.replicate 15 (.tuple [.str "refused", .int 0])) := by rfl
    simp only [e1, e2]
    have e3 : PyData.eqv (.list (List.replicate 15 (.tuple [.str "refused", .int 0]))) (.list (List.replicate 15 (.tuple [.str "refused", .int 0]))) = true := by rfl
    simp only [Option.map_some, e3]
    subst hK2; dsimp only
    subst hK
    rfl
  | true =>
    rw [hb] at tl
    obtain ⟨u, v, tl'⟩ := tl
    obtain ⟨l, rfl, l1, l2, ho⟩ := plan_tup hb
    dsimp only [f_law, List.drop]
    generalize hl : E.f1 F1.len (E.slot 5) = lE
    refine S_step fun K hK => ?_
    refine S_ite_of fun K2 hK2 => ?_
    simp
    subst hK2; dsimp only
    rw [W_truth]
    refine ⟨fun c => by simp at c, fun _ => ?_⟩
    rw [S_nil]
    subst hK; dsimp only
    refine S_step fun K hK => ?_
    simp [c_ref_node, limit]
    subst hK; dsimp only
    refine S_step fun K hK => ?_
    refine S_ite_of fun K2 hK2 => ?_
    have i0 : (ixN ts.length 0).bind (fun j => ts[j]?) = some (.tup [.str "found", u]) := by rw [tl']; rfl
    have i3 : (ixN ts.length 3).bind (fun j => ts[j]?) = some (rfs 2) := by rw [tl']; rfl
    have c1 : cutL ts (some 4) (some 7) = [rfs 5, rfs 5, rfs 5] := by rw [tl']; rfl
    have c2 : cutL ts (some 7) (some 8) = [rfs 5] := by rw [tl']; rfl
    have c3 : cutL ts (some 10) (some 12) = [rfs 5, rfs 5] := by rw [tl']; rfl
    have v2 : viewV h (rfs 2) = some (.val (rfs 2)) := rfl
    have t2 : toD h 60 (rfs 2) = some (.tuple [.str "refused", .int 2]) := by rfl
    have q2 : PyData.eqv (.tuple [.str "refused", .int 2]) (.tuple [.str "refused", .int 2]) = true := by rfl
    have e1 : mapO (toD h 59) [rfs 5, rfs 5, rfs 5, rfs 5, rfs 5, rfs 5] = some (List.replicate 6 (.tuple [.str "refused", .int 5])) := by rfl
    have e2 : mapO (toD h 59) (repL 6 [rfs 5]) = some (List.replicate 6 (.tuple [.str "refused", .int 5])) := by rfl
    have e3 : PyData.eqv (.list (List.replicate 6 (.tuple [.str "refused", .int 5]))) (.list (List.replicate 6 (.tuple [.str "refused", .int 5]))) = true := by rfl
    simp [-mapO_cons, -List.reduceReplicate, i0, i3, c1, c2, c3, c_ref_readers, v2, t2, q2, limit, e1, e2, e3]
    subst hK2; dsimp only
    rw [W_truth]
    refine ⟨fun c => by simp at c, fun _ => ?_⟩
    rw [S_nil]
    subst hK; dsimp only
    refine S_step fun K hK => ?_
    refine law_src hp hd hb l2 ho K _ l.length rfl (fun Q => by rw [← hl]; simp) ?_
    subst hK; dsimp only
    refine S_step fun K hK => ?_
    refine law_loop hp hd hb l2 ho K (fun s g => ?_) _ l.length rfl (fun Q => by rw [← hl]; simp)
    subst hK; dsimp only
    simp [Fine]
end
end Mn
end
section
namespace Mn
open PySem
section
variable {α β : Type} {s : Slots} {h : Hp} {X : Str → Slots → Hp → Prop} {G : Env} {QF : Fl → Slots → Hp → Prop}
theorem law_B2 {n d : Nat} {x : Val} {b2 b3 b4 : Option B} (hp : Pd h d x) (hd : d ≤ 60) : W (exs (envOf Tk (call Tk (n + 10))) (f_law.body.drop 15)) [some (B.v (.ref 0)), some (B.v (.ref 1)), b2, b3, b4, some (B.v x), some (B.v (.bl (planOk x))), none, none, none, none, none, none, none, none] h Fine NoX := by
  dsimp only [f_law, List.drop]
  generalize hl : E.f1 F1.len (E.slot 5) = lE
  refine S_step fun K hK => ?_
  refine S_ite_of fun K2 hK2 => ?_
  have ei := fun k : Nat => c_is_plan (n := k) hp hd
  have f : K2 (.v (.bl false)) [some (B.v (.ref 0)), some (B.v (.ref 1)), b2, b3, b4, some (B.v x), some (B.v (.bl (planOk x))), none, none, none, none, none, none, none, none] h := by
    subst hK2; dsimp only
    rw [W_truth]
    refine ⟨fun c => by simp at c, fun _ => ?_⟩
    rw [S_nil]
    subst hK; dsimp only
    refine S_step fun K hK => ?_
    refine law_told (b2 := b2) (b3 := b3) (b4 := b4) hp hd K fun ts t ht => ?_
    subst hK; dsimp only
    subst hl
    exact law_C (hp.ext (t := t)) hd ht
  cases hb : planOk x with
  | true => rw [hb] at f ei; simp [ei]; exact f
  | false => rw [hb] at f ei; simp [ei]; exact f
theorem law_cut13 : f_law.body.drop 13 = (.asg (.nam 6) (.and (.isi (.slot 5) "tuple") (.cmp2 .Lt .Lt (.cst (.int 0)) (.f1 .len (.slot 5)) (.cst (.int 13))))) :: (.ite (.slot 6) [.asg (.nam 6) (.cmp .Eq (.comp (.slot 11) (.one 11) (.slot 5) (some (.not (.call "_law_good" [(.slot 11), (.f1 .len (.slot 5))]))) [11]) (.lst []))] []) :: f_law.body.drop 15 := rfl
theorem law_B {n d : Nat} {x : Val} {b2 b3 b4 : Option B} (hp : Pd h d x) (hd : d ≤ 60) : W (exs (envOf Tk (call Tk (n + 10))) (f_law.body.drop 13)) [some (B.v (.ref 0)), some (B.v (.ref 1)), b2, b3, b4, some (B.v x), none, none, none, none, none, none, none, none, none] h Fine NoX := by
  have fin : ∀ t, W (exs (envOf Tk (call Tk (n + 10))) (f_law.body.drop 15)) [some (B.v (.ref 0)), some (B.v (.ref 1)), b2, b3, b4, some (B.v x), some (B.v (.bl (planOk x))), none, none, none, none, none, none, none, none] (h ++ t) Fine NoX := fun t => law_B2 hp.ext hd
  have fin0 := fin []
  rw [List.append_nil] at fin0
  rw [law_cut13]
  generalize f_law.body.drop 15 = rest at *
  refine S_step fun K hK => ?_
  cases d with
  | zero => exact hp.elim
  | succ d =>
  have non : planOk x = false → K .nx [some (B.v (.ref 0)), some (B.v (.ref 1)), b2, b3, b4, some (B.v x), some (B.v (.bl false)), none, none, none, none, none, none, none, none] h := by
    intro hb
    rw [hb] at fin0
    subst hK; dsimp only
    refine S_step fun K hK => ?_
    simp
    subst hK
    exact fin0
  cases x with
  | exc c => exact hp.elim
  | ref r => obtain ⟨l, e, _⟩ := hp; simp [view_ref e]; exact non rfl
  | tup l =>
    have hp' : ∀ y ∈ l, Pd h d y := hp
    simp
    have yes : 0 < l.length → l.length < 13 → K .nx [some (B.v (.ref 0)), some (B.v (.ref 1)), b2, b3, b4, some (B.v (.tup l)), some (B.v (.bl true)), none, none, none, none, none, none, none, none] h := by
      intro l0 l13
      subst hK; dsimp only
      refine S_step fun K hK => ?_
      simp [itemsOf, srcOf]
      refine W_inBlock rfl (W_compF (fun h' => ∃ t, h' = h ++ t) (fun y => !nodeOk y l.length) id l (fun y my h' e => ?_) ⟨[], by simp⟩ fun h' e => ?_)
      · obtain ⟨t, rfl⟩ := e
        obtain ⟨b, g, e, rfl, t2, rfl⟩ := (c_law_good0 (n := n + 5) (m := l.length) (hp' y my).ext (show d ≤ 60 by omega) (h := h ++ t)).to_eq
        simp [e]
      · obtain ⟨t, rfl⟩ := e
        rw [List.map_id]
        obtain ⟨ds, e1, e2⟩ := Pd.mapO (h := h ++ t) (m := 59) (l := l.filter fun y => !nodeOk y l.length) (fun y m => (hp' y (List.mem_filter.mp m).1).ext) (by omega)
        have fl : (l.filter fun y => !nodeOk y l.length).length ≤ l.length := List.length_filter_le _ _
        refine ⟨by simp only [limit]; omega, ?_⟩
        have eq : ds.isEmpty = planOk (.tup l) := by
          rw [Bool.eq_iff_iff, List.isEmpty_iff_length_eq_zero, e2, List.length_eq_zero_iff, List.filter_eq_nil_iff]
          simp [planOk, show 1 ≤ l.length by omega, show l.length ≤ 12 by omega]
        simp [e1, eq]
        subst hK
        exact fin t
    by_cases l0 : 0 < l.length
    · by_cases l13 : l.length < 13
      · have := yes l0 l13
        refine ⟨fun _ => ?_, fun e => by subst e; simp at l0⟩
        rw [show decide ((l.length : Int) < 13) = true by simp; omega]
        exact this
      · have := non (by simp [planOk]; omega)
        refine ⟨fun _ => ?_, fun e => by subst e; simp at l0⟩
        rw [show decide ((l.length : Int) < 13) = false by simp; omega]
        exact this
    · have : l = [] := by cases l with
        | nil => rfl
        | cons => simp at l0
      subst this
      have := non rfl
      simp
      exact this
  | _ => simp; exact non rfl
end
end Mn
end
section
namespace Mn
open PySem
section
variable {α β : Type} {s : Slots} {h : Hp} {X : Str → Slots → Hp → Prop} {G : Env} {QF : Fl → Slots → Hp → Prop}
theorem law_cut0 : f_law.body = (.asg (.nam 1) (.call "_law_town" [(.slot 0)])) :: (.asg (.nam 2) (.call "_law_plan" [(.slot 0), (.slot 1)])) :: (.asg (.nam 3) (.lst [(.tup [(.cst (.str "count")), (.cst (.int 1))]), (.tup [(.cst (.str "count")), (.cst (.int 1)), (.cst (.bl true))]), (.tup [(.cst (.str "count")), (.bin .Add (.bin .Pow (.cst (.int 10)) (.cst (.int 6))) (.cst (.int 1))), (.cst (.int 0))]), (.tup [(.cst (.str "list")), (.lst [(.cst (.int 1))])]), (.tup [(.cst (.str "list")), (.bin .Mult (.tup [(.cst (.int 1))]) (.cst (.int 10)))])])) :: (.app (.slot 3) (.tup [(.cst (.str "list")), (.tup [(.cst (.str "a"))])])) :: (.asg (.nam 3) (.bin .Add (.slot 3) (.lst [(.tup [(.cst (.str "fed")), (.cst (.str "abcde"))]), (.tup [(.cst (.str "fed")), (.cst (.str ""))]), (.tup [(.cst (.str "fed")), (.cst (.str "A"))]), (.tup [(.cst (.str "each")), (.cst (.str "sub")), (.cst (.int 1)), (.cst (.int 0))]), (.tup [(.cst (.str "each")), (.cst (.str "rest")), (.cst (.int 0)), (.cst (.int 0))])]))) :: (.app (.slot 3) (.tup [(.cst (.str "keep")), (.cst (.str "parts")), (.cst (.int 0)), (.cst (.int 1))])) :: (.asg (.nam 3) (.bin .Add (.slot 3) (.lst [(.tup [(.cst (.str "first")), (.cst (.int 0)), (.cst (.int 0))]), (.tup [(.cst (.str "first")), (.cst (.int 10)), (.cst (.int 0))]), (.tup [(.cst (.str "skip")), (.cst (.int 1)), (.cst (.int 99))]), (.tup [(.cst (.str "sums")), (.neg (.cst (.int 1)))]), (.tup [(.cst (.str "sums")), (.cst (.bl true))]), (.tup [(.cst (.str "then")), (.cst (.int 0))])]))) :: (.app (.slot 3) (.tup [(.cst (.str "none")), (.cst (.int 0))])) :: (.asg (.nam 3) (.bin .Add (.slot 3) (.lst [(.tup [(.cst (.str "window")), (.cst (.str "add")), (.cst (.int 1)), (.cst (.int 1)), (.cst (.int 0))]), (.tup [(.cst (.str "window")), (.cst (.str "sum")), (.cst (.int 1)), (.cst (.int 0)), (.cst (.int 0))]), (.lst [(.cst (.str "sums")), (.cst (.int 0))]), (.cst .non), (.tup []), (.tup [(.cst (.str "again")), (.cst (.int 0))])]))) :: (.app (.slot 3) (.tup [(.cst (.str "both")), (.cst (.str "least")), (.cst (.int 0)), (.cst (.int 0))])) :: f_law.body.drop 10 := rfl
theorem law_cut10 : f_law.body.drop 10 = (.asg (.nam 4) (.call "_law_draw" [(.slot 0), (.slot 1), (.f1 .len (.slot 2))])) :: (.asg (.nam 5) (.bin .Add (.bin .Add (.sli (.slot 2) none (some (.slot 4))) (.tup [(.call "_law_pick" [(.slot 0), (.slot 1), (.slot 3)])])) (.sli (.slot 2) (some (.bin .Add (.slot 4) (.cst (.int 1)))) none))) :: (.ite (.cmp .Eq (.call "_law_draw" [(.slot 0), (.slot 1), (.cst (.int 4))]) (.cst (.int 0))) [.asg (.nam 5) (.call "_law_pick" [(.slot 0), (.slot 1), (.lst [(.cst .non), (.f1 .list (.slot 2)), (.tup []), (.sli (.bin .Mult (.slot 2) (.cst (.int 7))) none (some (.cst (.int 13)))), (.sli (.bin .Mult (.slot 2) (.cst (.int 6))) none (some (.cst (.int 12)))), (.idx (.slot 2) (.cst (.int 0))), (.cst (.int 7))])])] []) :: f_law.body.drop 13 := rfl
def PF (r1 r2 : Nat) (x : Val) : Prop := ∀ g : Hp, g[r1]? = some (.lst [.int 1]) → g[r2]? = some (.lst [.str "sums", .int 0]) → Pd g 6 x
theorem PF_PA {r1 r2 x} (p : PA 6 x) : PF r1 r2 x := fun g _ _ => p g
theorem PF_1 {r1 r2} : PF r1 r2 (.tup [.str "list", .ref r1]) := fun g e _ y m => by
  simp at m
  rcases m with rfl | rfl
  · exact PA_l (d := 4) (by simp [LIT, LIT0, LIT1, LIT2]) g
  · exact ⟨_, e, fun y m => by simp at m; subst m; trivial⟩
theorem PF_2 {r1 r2} : PF r1 r2 (.ref r2) := fun g _ e => ⟨_, e, fun y m => by
  simp at m
  rcases m with rfl | rfl
  · exact PA_l (d := 4) (by simp [LIT, LIT0, LIT1, LIT2]) g
  · trivial⟩
theorem cut_len {l : List α} {lo hi} : (cutL l lo hi).length ≤ l.length := by
  unfold cutL; simp; omega
theorem cut_mem {l : List α} {lo hi y} (m : y ∈ cutL l lo hi) : y ∈ l := List.mem_of_mem_drop (List.mem_of_mem_take m)
theorem rep_mem {k : Nat} {l : List α} {y} (m : y ∈ repL k l) : y ∈ l := by
  unfold repL at m
  obtain ⟨q, hq, my⟩ := List.mem_flatten.mp m
  rw [(List.mem_replicate.mp hq).2] at my
  exact my
def PG (r : Nat) (l : List Val) (x : Val) : Prop := ∀ g : Hp, g[r]? = some (.lst l) → Pd g 7 x
theorem law_A2 {n r1 r2 : Nat} {ns : List Int} {odd l : List Val} {g : Hp} (ho : ∀ x ∈ odd, PF r1 r2 x) (o0 : 0 < odd.length) (o1 : odd.length < 1000) (l2 : 2 ≤ l.length) (l7 : l.length ≤ 7) (pl : ∀ y ∈ l, PA 4 y) (tg : Tw ns 1 1000 g) (n1 : r1 ≠ 1) (n2 : r2 ≠ 1) (e1 : g[r1]? = some (.lst [.int 1])) (e2 : g[r2]? = some (.lst [.str "sums", .int 0])) : W (exs (envOf Tk (call Tk (n + 10))) (f_law.body.drop 10)) [some (B.v (.ref 0)), some (B.v (.ref 1)), some (B.v (.tup l)), some (B.l odd), none, none, none, none, none, none, none, none, none, none, none] g Fine NoX := by
  rw [law_cut10]
  have fin := fun (d : Nat) (x : Val) (b2 b3 b4 : Option B) (h : Hp) (hp : Pd h d x) (hd : d ≤ 60) => law_B (n := n) (b2 := b2) (b3 := b3) (b4 := b4) hp hd
  generalize f_law.body.drop 13 = rest at *
  have gl : 1 < g.length := by
    obtain ⟨_, _, _, _, e, _⟩ := tg
    exact (List.getElem?_eq_some_iff.mp e).1
  refine S_step fun K hK => ?_
  simp
  refine C_draw tg (by omega) (by omega) (by omega) fun at_ g1 a0 a1 t1 ev1 => ?_
  simp
  subst hK; dsimp only
  have gl1 : 1 < g1.length := Nat.lt_of_lt_of_le gl ev1.1
  refine S_step fun K hK => ?_
  simp
  refine C_pick (xs := odd) (PF r1 r2) ho _ (Or.inr ⟨g1.length, rfl, by omega, by simp⟩) t1.app (by omega) o0 (by omega) fun y g2 py t2 ev2 => ?_
  have q1 := cut_len (l := l) (lo := none) (hi := some at_)
  have q2 := cut_len (l := l) (lo := some (at_ + 1)) (hi := none)
  simp [limit]
  have e1' := (((ev1.trans Ev.app).trans ev2).at_ n1 e1)
  have e2' := (((ev1.trans Ev.app).trans ev2).at_ n2 e2)
  have gl2 : 1 < g2.length := Nat.lt_of_lt_of_le (by simp; omega) ev2.1
  refine ⟨by omega, by omega, ?_⟩
  have pt_at : ∀ g' : Hp, g'[r1]? = some (.lst [.int 1]) → g'[r2]? = some (.lst [.str "sums", .int 0]) → Pd g' 7 (.tup (cutL l none (some at_) ++ y :: cutL l (some (at_ + 1)) none)) := by
    intro g' f1 f2 z mz
    rcases List.mem_append.mp mz with mz | mz
    · exact Pd.le (n := 4) (m := 6) ((pl z (cut_mem mz)) g') (by decide)
    · rcases List.mem_cons.mp mz with rfl | mz
      · exact py g' f1 f2
      · exact Pd.le (n := 4) (m := 6) ((pl z (cut_mem mz)) g') (by decide)
  generalize cutL l none (some at_) ++ y :: cutL l (some (at_ + 1)) none = th at *
  subst hK; dsimp only
  refine S_step fun K hK => ?_
  refine S_ite_of fun K2 hK2 => ?_
  simp
  refine C_draw t2 (by omega) (by omega) (by omega) fun d2 g3 b0 b1 t3 ev3 => ?_
  simp
  have gl3 : 1 < g3.length := Nat.lt_of_lt_of_le gl2 ev3.1
  have pt_ev : Pd g3 7 (.tup th) := pt_at g3 (ev3.at_ n1 e1') (ev3.at_ n2 e2')
  subst hK2; dsimp only
  rw [W_truth]
  refine ⟨fun c => ?_, fun c => ?_⟩
  · refine S_step fun K2 hK2 => ?_
    obtain ⟨y0, ly, rfl⟩ : ∃ y0 ly, l = y0 :: ly := by
      cases l with
      | nil => simp at l2
      | cons a b => exact ⟨a, b, rfl⟩
    generalize hl : y0 :: ly = l at *
    have i0 : (ixN l.length 0).bind (fun j => l[j]?) = some y0 := by rw [← hl]; simp
    have ne : l ≠ [] := by rw [← hl]; simp
    simp [limit, seqOf, i0, ne]
    have y0m : y0 ∈ l := by rw [← hl]; exact List.mem_cons_self
    have four : ∀ (g : Hp) (w : Val), w ∈ l → Pd g 6 w := fun g w mw => Pd.le (n := 4) (m := 6) (pl w mw g) (by decide)
    refine ⟨by omega, C_pick (xs := [Val.non, Val.ref (List.length g3), Val.tup [], Val.tup (cutL (repL 7 l) none (some 13)), Val.tup (cutL (repL 6 l) none (some 12)), y0, Val.int 7]) (PG g3.length l) (fun z hz => ?_) _ (Or.inl rfl) t3.app (by omega) (by simp) (by simp) fun z g4 pz t4 ev4 => ?_⟩
    · simp at hz
      rcases hz with rfl | rfl | rfl | rfl | rfl | rfl | rfl
      · exact fun _ _ => trivial
      · exact fun g e => ⟨l, e, fun w mw => four g w mw⟩
      · exact fun _ _ w mw => by cases mw
      · exact fun g _ w mw => four g w (rep_mem (cut_mem mw))
      · exact fun g _ w mw => four g w (rep_mem (cut_mem mw))
      · exact fun g _ => (four g z y0m).up
      · exact fun _ _ => trivial
    · simp
      subst hK2; dsimp only
      rw [S_nil]
      subst hK; dsimp only
      exact fin 7 z _ _ _ g4 (pz g4 (ev4.at_ (by omega) (by simp))) (by decide)
  · rw [S_nil]
    subst hK; dsimp only
    exact fin 7 (.tup th) _ _ _ g3 (pt_ev) (by decide)
theorem law_A {n : Nat} {ns : List Int} (hn : ns.length ≤ 63) : W (exs (envOf Tk (call Tk (n + 10))) f_law.body) [some (B.v (.ref 0)), none, none, none, none, none, none, none, none, none, none, none, none, none, none] [.frz (ns.map .int)] Fine NoX := by
  rw [law_cut0]
  have fin := fun (odd : List Val) (l : List Val) (g : Hp) (r1 r2 : Nat) => law_A2 (n := n) (ns := ns) (odd := odd) (l := l) (g := g) (r1 := r1) (r2 := r2)
  generalize f_law.body.drop 10 = rest at *
  refine S_step fun K hK => ?_
  simp [c_town (h := [.frz (ns.map .int)]) (ns := ns) rfl (by omega)]
  subst hK; dsimp only
  refine S_step fun K hK => ?_
  simp
  refine C_plan (ns := ns) (a := 1) ⟨rfl, by decide, 0, ns, rfl, rfl, by omega, by omega⟩ fun l g l2 l7 pl tg eg => ?_
  simp
  subst hK; dsimp only
  refine S_step fun K hK => ?_
  simp [limit]
  subst hK; dsimp only
  refine S_step fun K hK => ?_
  simp [limit]
  subst hK; dsimp only
  refine S_step fun K hK => ?_
  simp [limit]
  subst hK; dsimp only
  refine S_step fun K hK => ?_
  simp [limit]
  subst hK; dsimp only
  refine S_step fun K hK => ?_
  simp [limit]
  subst hK; dsimp only
  refine S_step fun K hK => ?_
  simp [limit]
  subst hK; dsimp only
  refine S_step fun K hK => ?_
  simp [limit]
  subst hK; dsimp only
  refine S_step fun K hK => ?_
  simp [limit]
  subst hK; dsimp only
  have gl : 1 < g.length := Nat.lt_of_lt_of_le (by simp) eg.1
  refine fin _ l _ g.length (g.length + 1) ?_ (by simp) (by simp) l2 l7 pl tg.app (by omega) (by omega) (by simp) (by simp)
  simp
  and_intros
  all_goals first
    | exact PF_1
    | exact PF_2
    | (refine PF_PA ?_; simp [PA_tup_iff, PA_int, PA_bl, PA_non, repL]; done)
    | (refine PF_PA ?_; simp [PA_tup_iff, PA_int, PA_bl, PA_non, repL]; exact PA_l (by simp [LIT, LIT0, LIT1, LIT2]))
    | (refine PF_PA ?_; simp [PA_tup_iff, PA_int, PA_bl, PA_non, repL]; and_intros <;> exact PA_l (by simp [LIT, LIT0, LIT1, LIT2]))
theorem law_true {n : Nat} (ns : List Int) (hn : ns.length ≤ 63) : ∃ h', call Tk (n + 11) "law" [.v (.ref 0)] [.frz (ns.map .int)] = .ok (.v (.bl true)) h' := by
  have w : C (call Tk (n + 11) "law" [.v (.ref 0)] [.frz (ns.map .int)]) (fun b _ => b = .v (.bl true)) fun _ _ => False := by
    refine C_call (fn_T (fd := f_law) (by kernel_rfl)) (C_run rfl ?_)
    refine (law_A (n := n) hn).mono (fun f s h e => ?_) fun _ _ _ z => z
    have e' : f = .rt (.v (.bl true)) := e
    subst e'
    rfl
  obtain ⟨b, h', e, rfl⟩ := w.to_eq
  exact ⟨h', e⟩
end
end Mn
end
section
open PySem PySem.W PySem.Calls PyProof.Rows
theorem PySem.Challenge.cw_askedrows_k01_plans_holds : PySem.Challenge.rw_askedrows_k01_plans.Holds := by
  w_on; o_law
  refine HandSHeadRun.head_any (r := OpenLaw.row PySem.Challenge.rw_askedrows_k01_plans) (q := view (OpenLaw.row PySem.Challenge.rw_askedrows_k01_plans).prog [Lw.lawAt]) (H := Lw.hk) (ob := Lw.ob) (M := 30000) (loose := Lw.names) (d := HandSHeadRun.topDef (OpenLaw.row PySem.Challenge.rw_askedrows_k01_plans).prog Lw.lawAt) (kwd := []) Lw.ob_eq
    (by kernel_rfl) (fun s => by kernel_rfl) Lw.run (by kernel_rfl) (by kernel_rfl) (by kernel_rfl) (by rfl) (by first | assumption | decide +kernel) (by decide +kernel) ⟨rfl, rfl, rfl, rfl, rfl, by decide +kernel⟩ ?hw ?hc
  case hw => w_witness2
  case hc =>
    exact Ms.walk_x (l := PySem.Challenge.rw_askedrows_k01_plans) (n := 63) (N := 11) (D := Lw.D) (fl := Lw.i100) (x := "_law_script") rfl (by decide) (by kernel_rfl) ⟨rfl, by decide, by decide⟩ (by kernel_rfl) Lw.static (by kernel_rfl) (by kernel_rfl) (by kernel_rfl) (by kernel_rfl) (fun ns h => Mn.law_true (n := 0) ns h)
end
