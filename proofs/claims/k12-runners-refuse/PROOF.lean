import PyProof.Rows.All
import HandS.ForMost
import HandS.ForExc
import HandS.HeadHook2
import HandS.CallSlots
import HandS.ExcOwn
import HandS.TryMany
import HandS.TupAny
import HandS.TupMul
import HandS.Deep
import HandS.Style
import HandS.IsInst
import HandS.Flow
import HandS.SortRule
import HandS.SortInts
import HandS.TupLen
import HandS.RaiseMore
import HandS.Small
import HandS.Defaults
import HandS.Iter
import KE.GoesMore
import KE.GoesEnum
import PyProof.Draws
import HandS.HeadEnd
import HandS.Codes
import HandS.HeadHook4
import Wide.All
import OpenK.AllK
import Wide.FinOn
import KE.KStateDown
import HandS.Head0
import HandS.Head1
import HandS.Head2
import HandS.HeadHook1
import PySem.Challenge.RW_holdall_k12_runners_refuse
set_option Elab.async false
set_option linter.all false
set_option maxRecDepth 100000
namespace HI
open PySem
abbrev Key := Sum Int Str
inductive Val where
  | non | bool (b : Bool) | int (i : Int) | str (s : Str)
  | tup (vs : List Val) | lst (vs : List Val) | scr (ns : List Int) | loc (n : Nat)
inductive Obj where
  | list (vs : List Val)
  | dictK (kvs : List (Key × Val))
  | dictT (kvs : List (List Key × Val))
  | inst (cls : Str) (fs : List (Str × Val))
mutual
def veq : Val → Val → Bool
  | .non, .non => true
  | .bool a, .bool b => decide (a = b)
  | .int a, .int b => decide (a = b)
  | .str a, .str b => decide (a = b)
  | .tup a, .tup b => veqs a b
  | .lst a, .lst b => veqs a b
  | .scr a, .scr b => decide (a = b)
  | .loc a, .loc b => decide (a = b)
  | _, _ => false
def veqs : List Val → List Val → Bool
  | [], [] => true
  | a :: as, b :: bs => veq a b && veqs as bs
  | _, _ => false
end
mutual
theorem veq_ok : ∀ {a b : Val}, veq a b = true → a = b
  | .non, b, h => by cases b <;> first | rfl | (simp [veq] at h; done)
  | .bool a, b, h => by cases b <;> simp [veq] at h; subst h; rfl
  | .int a, b, h => by cases b <;> simp [veq] at h; subst h; rfl
  | .str a, b, h => by cases b <;> simp [veq] at h; subst h; rfl
  | .tup a, b, h => by cases b <;> simp [veq] at h; rw [veqs_ok h]
  | .lst a, b, h => by cases b <;> simp [veq] at h; rw [veqs_ok h]
  | .scr a, b, h => by cases b <;> simp [veq] at h; subst h; rfl
  | .loc a, b, h => by cases b <;> simp [veq] at h; subst h; rfl
theorem veqs_ok : ∀ {a b : List Val}, veqs a b = true → a = b
  | [], b, h => by cases b <;> first | rfl | (simp [veqs] at h; done)
  | a :: as, b, h => by
    cases b with
    | nil => simp [veqs] at h
    | cons b bs =>
      simp only [veqs, Bool.and_eq_true] at h
      rw [veq_ok h.1, veqs_ok h.2]
end
mutual
theorem veq_rfl : ∀ a : Val, veq a a = true
  | .non => rfl
  | .bool _ | .int _ | .str _ | .scr _ | .loc _ => by simp [veq]
  | .tup a => by simp only [veq]; exact veqs_rfl a
  | .lst a => by simp only [veq]; exact veqs_rfl a
theorem veqs_rfl : ∀ a : List Val, veqs a a = true
  | [] => rfl
  | a :: as => by simp only [veqs, veq_rfl a, veqs_rfl as]; rfl
end
instance : DecidableEq Val := fun a b => decidable_of_iff (veq a b = true) ⟨veq_ok, fun h => h ▸ veq_rfl a⟩
instance : DecidableEq Obj := fun a b => match a, b with
  | .list x, .list y => decidable_of_iff (x = y) ⟨fun h => h ▸ rfl, fun h => by cases h; rfl⟩
  | .dictK x, .dictK y => decidable_of_iff (x = y) ⟨fun h => h ▸ rfl, fun h => by cases h; rfl⟩
  | .dictT x, .dictT y => decidable_of_iff (x = y) ⟨fun h => h ▸ rfl, fun h => by cases h; rfl⟩
  | .inst c x, .inst d y => decidable_of_iff (c = d ∧ x = y) ⟨fun h => by rw [h.1, h.2], fun h => by cases h; exact ⟨rfl, rfl⟩⟩
  | .list _, .dictK _ | .list _, .dictT _ | .list _, .inst _ _ | .dictK _, .list _ | .dictK _, .dictT _ | .dictK _, .inst _ _
  | .dictT _, .list _ | .dictT _, .dictK _ | .dictT _, .inst _ _ | .inst _ _, .list _ | .inst _ _, .dictK _ | .inst _ _, .dictT _ => isFalse (by intro h; cases h)
abbrev Store := List Obj
inductive Res (α : Type) where
  | ok (a : α) (S : Store)
  | exc (c : Str) (S : Store)
  | stuck
def Res.bind {α β : Type} : Res α → (α → Store → Res β) → Res β
  | .ok a S, f => f a S
  | .exc c S, _ => .exc c S
  | .stuck, _ => .stuck
@[simp] theorem Res.bind_ok {α β : Type} (a : α) (S : Store) (f : α → Store → Res β) : (Res.ok a S).bind f = f a S := rfl
@[simp] theorem Res.bind_exc {α β : Type} (c : Str) (S : Store) (f : α → Store → Res β) : (Res.exc c S : Res α).bind f = .exc c S := rfl
@[simp] theorem Res.bind_stuck {α β : Type} (f : α → Store → Res β) : (Res.stuck : Res α).bind f = .stuck := rfl
def ofO {α : Type} (o : Option α) (S : Store) : Res α := match o with
  | some a => .ok a S
  | none => .stuck
@[simp] theorem ofO_some {α : Type} (a : α) (S : Store) : ofO (some a) S = .ok a S := rfl
@[simp] theorem ofO_none {α : Type} (S : Store) : ofO (none : Option α) S = .stuck := rfl
abbrev LIM : Nat := 16777216
inductive B2 where
  | add | sub | mul | fdiv | mod | pow | eq | ne | lt | le | gt | ge | isin | notin | item | min2
  deriving DecidableEq
inductive U1 where
  | len | tuple | list | sorted | sum | str | int | neg | isNone | notNone | isB (b : Bool) | notB (b : Bool)
  deriving DecidableEq
mutual
def fine : Nat → Val → Bool
  | 0, _ => false
  | _ + 1, .non | _ + 1, .bool _ | _ + 1, .int _ => true
  | _ + 1, .str s => s.cps.all (· < 0x110000)
  | n + 1, .tup vs | n + 1, .lst vs => fines n vs
  | _ + 1, .scr _ | _ + 1, .loc _ => false
def fines : Nat → List Val → Bool
  | _, [] => true
  | n, v :: vs => fine n v && fines n vs
end
mutual
def eqv : Val → Val → Bool
  | .non, .non => true
  | .bool a, .bool b => a == b
  | .bool a, .int j => (if a then 1 else 0) == j
  | .int i, .bool b => i == (if b then 1 else 0)
  | .int i, .int j => i == j
  | .str x, .str y => x == y
  | .lst xs, .lst ys => eqvs xs ys
  | .tup xs, .tup ys => eqvs xs ys
  | _, _ => false
def eqvs : List Val → List Val → Bool
  | [], [] => true
  | x :: xs, y :: ys => eqv x y && eqvs xs ys
  | _, _ => false
end
def unl (S : Store) : Val → Val
  | .loc n => match S[n]? with
    | some (.list vs) => .lst vs
    | _ => .loc n
  | v => v
def isScal : Val → Bool
  | .non | .bool _ | .int _ | .str _ => true
  | _ => false
def sameScal : Val → Val → Bool
  | .non, .non => true | .non, .int _ => true | .int _, .non => true | .non, .bool _ => true | .bool _, .non => true
  | .non, .str _ => true | .str _, .non => true | .int _, .int _ => true | .bool _, .bool _ => true | .str _, .str _ => true
  | _, _ => false
def eqS (S : Store) (a b : Val) : Option Bool :=
  if sameScal a b then some (eqv a b)
  else if fine 60 (unl S a) && fine 60 (unl S b) then some (eqv (unl S a) (unl S b)) else none
def keyOf : Val → Option Key
  | .int i => some (.inl i)
  | .str s => some (.inr s)
  | _ => none
def keysOf : List Val → Option (List Key)
  | [] => some []
  | v :: vs => match keyOf v, keysOf vs with
    | some k, some ks => some (k :: ks)
    | _, _ => none
def keyV : Key → Val
  | .inl i => .int i
  | .inr s => .str s
def getK {κ : Type} [DecidableEq κ] (kvs : List (κ × Val)) (k : κ) : Option Val := (kvs.find? fun kv => decide (kv.1 = k)).map (·.2)
def putK {κ : Type} [DecidableEq κ] (kvs : List (κ × Val)) (k : κ) (v : Val) : List (κ × Val) :=
  if (kvs.any fun kv => decide (kv.1 = k)) = true then kvs.map (fun kv => if kv.1 = k then (kv.1, v) else kv) else kvs ++ [(k, v)]
def dropK {κ : Type} [DecidableEq κ] (kvs : List (κ × Val)) (k : κ) : List (κ × Val) := kvs.filter fun kv => decide (kv.1 ≠ k)
abbrev atI {α : Type} (xs : List α) (i : Int) : Option α := L2.atI xs i
def atV (vs : List Val) : Val → Option Val
  | .int k => atI vs k
  | _ => none
def getItem (S : Store) (a i : Val) : Option Val := match a with
  | .tup vs => atV vs i
  | .lst vs => atV vs i
  | .scr ns => (match i with | .int k => (atI ns k).map .int | _ => none)
  | .str s => (match i with | .int k => if s.length ≤ LIM then (atI s.cps.toList k).map fun c => .str ⟨#[c]⟩ else none | _ => none)
  | .loc n => (match S[n]? with
    | some (.list vs) => atV vs i
    | some (.dictK kvs) => (match keyOf i with | some k => getK kvs k | none => none)
    | some (.dictT kvs) => (match i with | .tup ks => (match keysOf ks with | some k => getK kvs k | none => none) | _ => none)
    | _ => none)
  | _ => none
def memV (xs : List Val) (x : Val) : Bool := xs.any fun y => eqv y x
def flat : Val → Bool
  | .non | .bool _ | .int _ | .str _ => true
  | _ => false
def isIn (S : Store) (x y : Val) : Option Bool := match y with
  | .str s => (match x with | .str t => (match t.cps.toList with | [c] => some (decide (c ∈ s.cps.toList)) | _ => none) | _ => none)
  | .tup vs => if fine 60 x && fines 59 vs then some (memV vs x) else none
  | .lst vs => if fine 60 x && fines 59 vs then some (memV vs x) else none
  | .loc n => (match S[n]? with
    | some (.list vs) => if fine 60 x && fines 59 vs then some (memV vs x) else none
    | some (.dictK kvs) => (match keyOf x with | some k => some (getK kvs k).isSome | none => none)
    | some (.dictT kvs) => (match x with | .tup ks => (match keysOf ks with | some k => some (getK kvs k).isSome | none => none) | _ => none)
    | _ => none)
  | _ => none
def small64 (i : Int) : Bool := decide (-(2 ^ 64) < i) && decide (i < 2 ^ 64)
def repL (k : Int) (vs : List Val) : List Val := (List.replicate k.toNat vs).flatten
def op2 (S : Store) : B2 → Val → Val → Option Val
  | .add, .int a, .int b => some (.int (a + b))
  | .add, .str a, .str b => if a.length + b.length ≤ LIM then some (.str (a ++ b)) else none
  | .add, .tup a, .tup b => if a.length + b.length ≤ LIM then some (.tup (a ++ b)) else none
  | .add, a, b => (match unl S a, unl S b with
    | .lst xs, .lst ys => if xs.length + ys.length ≤ LIM then some (.lst (xs ++ ys)) else none
    | _, _ => none)
  | .sub, .int a, .int b => some (.int (a - b))
  | .mul, .int a, .int b => if small64 a || small64 b then some (.int (a * b)) else none
  | .mul, .tup a, .int k => if decide (2 ≤ k) && decide (k ≤ 1000) && decide (a.length ≤ 1000) && !a.isEmpty then some (.tup (repL k a)) else none
  | .mul, .lst a, .int k => if decide (-1000 ≤ k) && decide (k ≤ 1000) && decide (a.length ≤ 1000) then some (.lst (repL k a)) else none
  | .fdiv, .int a, .int b => if decide (0 < b) && decide (b < 1073741824) then some (.int (a / b)) else none
  | .mod, .int a, .int b => if decide (0 < b) then some (.int (a % b)) else none
  | .pow, .int a, .int b => if decide (0 ≤ b) && decide (b ≤ 1000000) && decide (a.natAbs < 2 ^ 64) then some (.int (a ^ b.toNat)) else none
  | .eq, a, b => (eqS S a b).map .bool
  | .ne, a, b => (eqS S a b).map fun c => .bool (!c)
  | .lt, .int a, .int b => some (.bool (decide (a < b)))
  | .le, .int a, .int b => some (.bool (decide (a ≤ b)))
  | .gt, .int a, .int b => some (.bool (decide (b < a)))
  | .ge, .int a, .int b => some (.bool (decide (b ≤ a)))
  | .lt, .str a, .str b => some (.bool (decide (a.cps.toList < b.cps.toList)))
  | .le, .str a, .str b => some (.bool (!decide (b.cps.toList < a.cps.toList)))
  | .gt, .str a, .str b => some (.bool (decide (b.cps.toList < a.cps.toList)))
  | .ge, .str a, .str b => some (.bool (!decide (a.cps.toList < b.cps.toList)))
  | .isin, a, b => (isIn S a b).map .bool
  | .notin, a, b => (isIn S a b).map fun c => .bool (!c)
  | .item, a, b => getItem S a b
  | .min2, .int a, .int b => some (.int (if b < a then b else a))
  | _, _, _ => none
def truthy (S : Store) : Val → Option Bool
  | .non => some false
  | .bool b => some b
  | .int i => some (i != 0)
  | .str s => if s.length ≤ LIM then some (s.length != 0) else none
  | .tup vs => some (!vs.isEmpty)
  | .lst vs => some (!vs.isEmpty)
  | .loc n => (match S[n]? with
    | some (.list vs) => some (!vs.isEmpty)
    | _ => none)
  | _ => none
def intsOf : List Val → Option (List Int)
  | [] => some []
  | .int i :: vs => (intsOf vs).map (i :: ·)
  | _ => none
def strsOf : List Val → Option (List Str)
  | [] => some []
  | .str i :: vs => (strsOf vs).map (i :: ·)
  | _ => none
def pairOf : Val → Option (Int × Int)
  | .tup [.int a, .int b] => some (a, b)
  | _ => none
def pairsOf : List Val → Option (List (Int × Int))
  | [] => some []
  | v :: vs => match pairOf v, pairsOf vs with
    | some p, some ps => some (p :: ps)
    | _, _ => none
def pairV (p : Int × Int) : Val := .tup [.int p.1, .int p.2]
def insertBy {α : Type} (lt : α → α → Bool) (x : α) : List α → List α
  | [] => [x]
  | y :: ys => if lt y x then y :: insertBy lt x ys else x :: y :: ys
def sortBy {α : Type} (lt : α → α → Bool) (xs : List α) : List α := xs.foldr (insertBy lt) []
def ltS (a b : Str) : Bool := decide (a.cps.toList < b.cps.toList)
def ltP (a b : Int × Int) : Bool := decide (a.1 < b.1) || (decide (a.1 = b.1) && decide (a.2 < b.2))
def sortVals (vs : List Val) : Option (List Val) := match intsOf vs with
  | some ns => some ((sortBy (fun a b => decide (a < b)) ns).map .int)
  | none => match strsOf vs with
    | some ss => if ss.length < 64 then some ((sortBy ltS ss).map .str) else none
    | none => match pairsOf vs with
      | some ps => some ((sortBy ltP ps).map pairV)
      | none => none
def strKeys : List (Key × Val) → Option (List Str)
  | [] => some []
  | (.inr s, _) :: r => (strKeys r).map (s :: ·)
  | _ => none
def pairKeys : List (List Key × Val) → Option (List (Int × Int))
  | [] => some []
  | ([.inl a, .inl b], _) :: r => (pairKeys r).map ((a, b) :: ·)
  | _ => none
def sortedV (S : Store) : Val → Option Val
  | .lst vs => (sortVals vs).map .lst
  | .loc n => (match S[n]? with
    | some (.list vs) => (sortVals vs).map .lst
    | some (.dictK kvs) => (match strKeys kvs with
      | some ks => if ks.length < 64 then some (.lst ((sortBy ltS ks).map .str)) else none
      | none => none)
    | some (.dictT kvs) => (match pairKeys kvs with
      | some ks => some (.lst ((sortBy ltP ks).map pairV))
      | none => none)
    | _ => none)
  | _ => none
def op1 (S : Store) : U1 → Val → Option Val
  | .len, .str s => if s.length ≤ LIM then some (.int s.length) else none
  | .len, .tup vs => some (.int vs.length)
  | .len, .lst vs => some (.int vs.length)
  | .len, .scr vs => some (.int vs.length)
  | .len, .loc n => (match S[n]? with
    | some (.list vs) => some (.int vs.length)
    | _ => none)
  | .tuple, .tup vs => some (.tup vs)
  | .tuple, .lst vs => some (.tup vs)
  | .tuple, .loc n => (match S[n]? with | some (.list vs) => some (.tup vs) | _ => none)
  | .list, .tup vs => some (.lst vs)
  | .list, .lst vs => some (.lst vs)
  | .list, .loc n => (match S[n]? with | some (.list vs) => some (.lst vs) | _ => none)
  | .sorted, v => sortedV S v
  | .sum, .lst vs => (intsOf vs).map fun ns => .int ns.sum
  | .str, .int i => if i.natAbs.log2 < 1920 then some (.str (toString i)) else none
  | .str, .str s => some (.str s)
  | .int, .int i => some (.int i)
  | .int, .bool b => some (.int (if b then 1 else 0))
  | .int, .str s => (match PySem.intText? s with
    | some n => if s.length ≤ 640 then some (.int n) else none
    | none => none)
  | .neg, .int i => some (.int (-i))
  | .isNone, v => (match v with | .non => some (.bool true) | _ => some (.bool false))
  | .notNone, v => (match v with | .non => some (.bool false) | _ => some (.bool true))
  | .isB b, .bool c => some (.bool (decide (c = b)))
  | .notB b, .bool c => some (.bool (!decide (c = b)))
  | _, _ => none
def bnd : Option Val → Option (Option Int)
  | none => some none
  | some (.int i) => some (some i)
  | _ => none
abbrev sIx := HT.sIx
def cut {α : Type} (xs : List α) (lo hi : Option Int) : List α := (xs.drop (sIx xs.length 0 lo)).take (sIx xs.length xs.length hi - sIx xs.length 0 lo)
def sliceV (S : Store) (a : Val) (lo hi : Option Int) : Option Val := match unl S a with
  | .tup vs => some (.tup (cut vs lo hi))
  | .lst vs => some (.lst (cut vs lo hi))
  | .str s => if s.length ≤ LIM then some (.str ⟨(cut s.cps.toList lo hi).toArray⟩) else none
  | _ => none
def isTy (t : Str) (l : List String) : Bool := l.any fun x => decide (t = Str.ofString x)
def isInst (S : Store) (t : Str) : Val → Option Bool
  | .non => some false
  | .bool _ => some (isTy t ["int", "bool"])
  | .int _ => some (isTy t ["int"])
  | .str _ => some (isTy t ["str"])
  | .tup _ => some (isTy t ["tuple"])
  | .lst _ => some (isTy t ["list"])
  | .scr _ => none
  | .loc n => (match S[n]? with
    | some (.list _) => some (isTy t ["list"])
    | some (.inst c _) => if c = t then some true else if isTy t ["int", "bool", "str", "tuple", "list"] then some false else none
    | _ => none)
def fldGet (fs : List (Str × Val)) (f : Str) : Option Val := fs.lookup f
def fldPut : List (Str × Val) → Str → Val → List (Str × Val)
  | [], f, v => [(f, v)]
  | (g, u) :: r, f, v => if g = f then (g, v) :: r else (g, u) :: fldPut r f v
end HI
namespace HI
open PySem
inductive Tg where
  | one (i : Nat)
  | tup (ts : List Tg)
mutual
inductive E where
  | var (i : Nat)
  | lit (v : Val)
  | un (op : U1) (a : E)
  | bin (op : B2) (a b : E)
  | chain (o1 o2 : B2) (a b c : E)
  | and (a b : E)
  | or (a b : E)
  | not (a : E)
  | ite (c a b : E)
  | tup (es : List E)
  | lst (es : List E)
  | slice (a : E) (lo hi : Option E)
  | comp (tg : Tg) (it : It) (cond : Option E) (elt : E)
  | call (f : Str) (es : List E)
  | meth (a : E) (c m : Str) (es : List E)
  | make (c : Str) (es : List E)
  | fld (a : E) (f : Str)
  | isI (a : E) (t : Str)
  | dlook (ks : List (Option Str)) (vs : List E) (k : E) (d : Option E)
  | inG (neg : Bool) (a : E) (g : Str) (vs : List Str)
  | box (es : List E)
  | newK
  | newT
  | newD (ks : List Str) (vs : List E)
  | dictOf (a : E)
  | pop (d k : E)
  | get2 (d k x : E)
  | join (s a : E)
  | split (a s : E)
  | itemsS (a : E)
  | boxc (tg : Tg) (it : It) (cond : Option E) (elt : E)
  | boxa (a b : E)
inductive It where
  | seq (a : E)
  | range1 (a : E)
  | range2 (a b : E)
  | enum (a : E)
  | zip (a b : E)
  | values (a : E)
  | keys (a : E)
end
inductive S where
  | pass
  | brk
  | expr (e : E)
  | set (tg : Tg) (e : E)
  | setF (a : E) (f : Str) (e : E)
  | setI (a k : E) (e : E)
  | augV (i : Nat) (op : B2) (e : E)
  | augF (a : E) (f : Str) (op : B2) (i : Int)
  | augI (a k : E) (op : B2) (e : E)
  | append (a e : E)
  | extend (a e : E)
  | ret (e : E)
  | retN
  | ifS (c : E) (a b : List S)
  | forS (tg : Tg) (it : It) (b : List S)
  | whileS (c : E) (b : List S)
  | raise (c : Str)
  | tryS (b : List S) (cs : List Str) (bs : List (List S))
structure Fn where
  np : Nat
  ns : Nat
  body : List S
  pure : Bool := false
abbrev Env := List (Option Val)
abbrev CallT := Str → List Val → Store → Res Val
mutual
def asgT : Tg → Val → Env → Option Env
  | .one i, v, ρ => some (ρ.set i (some v))
  | .tup ts, .tup vs, ρ => asgTs ts vs ρ
  | .tup _, _, _ => none
def asgTs : List Tg → List Val → Env → Option Env
  | [], [], ρ => some ρ
  | t :: ts, v :: vs, ρ => match asgT t v ρ with
    | some ρ' => asgTs ts vs ρ'
    | none => none
  | _, _, _ => none
end
def charsOf (s : Str) : List Val := s.cps.toList.map fun c => .str ⟨#[c]⟩
def itemsOf (S : Store) : Val → Option (List Val)
  | .tup vs => some vs
  | .lst vs => some vs
  | .str s => some (charsOf s)
  | .loc n => (match S[n]? with
    | some (.list vs) => some vs
    | _ => none)
  | _ => none
def lstOf (S : Store) : Val → Option (List Val)
  | .lst vs => some vs
  | .loc n => (match S[n]? with | some (.list vs) => some vs | _ => none)
  | _ => none
def seqOf (S : Store) : Val → Option (List Val)
  | .tup vs => some vs
  | v => lstOf S v
def keysOfD (S : Store) : Val → Option (List Val)
  | .loc n => (match S[n]? with
    | some (.dictK kvs) => some (kvs.map fun kv => keyV kv.1)
    | some (.dictT kvs) => some (kvs.map fun kv => .tup (kv.1.map keyV))
    | _ => none)
  | _ => none
def rangeV (lo : Int) (n : Nat) : List Val := (List.range n).map fun (k : Nat) => .int (lo + k)
def okR (i : Int) : Bool := decide (-(2 ^ 62) ≤ i) && decide (i < 2 ^ 62)
def enumV : List Val → Nat → List Val
  | [], _ => []
  | v :: vs, k => .tup [.int (k : Int), v] :: enumV vs (k + 1)
def zipV : List Val → List Val → List Val
  | a :: as, b :: bs => .tup [a, b] :: zipV as bs
  | _, _ => []
def valuesOf (S : Store) : Val → Option (List Val)
  | .loc n => (match S[n]? with
    | some (.dictK kvs) => some (kvs.map (·.2))
    | some (.dictT kvs) => some (kvs.map (·.2))
    | _ => none)
  | _ => none
abbrev Src := List (Nat × Obj)
def srcOf (S : Store) : Val → Src
  | .loc n => (match S[n]? with
    | some o => [(n, o)]
    | none => [])
  | _ => []
def still : Src → Store → Prop
  | [], _ => True
  | p :: r, S => S[p.1]? = some p.2 ∧ still r S
instance stillDec : ∀ (src : Src) (S : Store), Decidable (still src S)
  | [], _ => isTrue trivial
  | p :: r, S => @instDecidableAnd _ _ (inferInstance : Decidable (S[p.1]? = some p.2)) (stillDec r S)
def guardS {α : Type} (src : Src) (S : Store) (r : α) (bad : α) : α := if still src S then r else bad
@[simp] theorem guardS_nil {α : Type} (S : Store) (r bad : α) : guardS [] S r bad = r := by simp [guardS, still]
theorem guardS_pos {α : Type} {src : Src} {S : Store} (h : still src S) (r bad : α) : guardS src S r bad = r := by simp [guardS, h]
def compGo (src : Src) (f : Val → Store → Res (Option Val)) : List Val → List Val → Store → Res (List Val)
  | [], acc, S => guardS src S (.ok acc S) .stuck
  | x :: xs, acc, S => guardS src S ((f x S).bind fun o S1 => match o with
    | some v => if acc.length < LIM then compGo src f xs (acc ++ [v]) S1 else .stuck
    | none => compGo src f xs acc S1) .stuck
def noExc {α : Type} : Res α → Res α
  | .exc _ _ => .stuck
  | r => r
def pairsK : List Val → Option (List (Key × Val))
  | [] => some []
  | .tup [k, v] :: r => (match keyOf k, pairsK r with
    | some k, some r => some ((k, v) :: r)
    | _, _ => none)
  | _ => none
def mergeK (kvs more : List (Key × Val)) : List (Key × Val) := more.foldl (fun acc kv => putK acc kv.1 kv.2) kvs
def strInts : List (Key × Val) → Option (List (Str × Int))
  | [] => some []
  | (.inr s, .int i) :: r => (strInts r).map ((s, i) :: ·)
  | _ => none
def joinS (sep : Str) : List Str → Str
  | [] => Str.empty
  | [s] => s
  | s :: r => s ++ (sep ++ joinS sep r)
def lookD : List (Option Str) → List Val → Val → Option Val
  | none :: ks, v :: vs, x => (match x with | .non => some v | _ => lookD ks vs x)
  | some k :: ks, v :: vs, x => (match x with | .str s => if s = k then some v else lookD ks vs x | _ => lookD ks vs x)
  | _, _, _ => none
def okLook (ks : List (Option Str)) : Val → Bool
  | .str _ => true
  | .non => ks.any (·.isNone)
  | _ => false
def dot (c m : Str) : Str := c ++ (Str.ofString "." ++ m)
def isOf (S : Store) (c m : Str) : Val → Bool
  | .loc n => (match S[n]? with
    | some (.inst d fs) => decide (d = c) && (fldGet fs m).isNone
    | _ => false)
  | _ => false
section
variable (C : CallT)
mutual
def ev : E → Env → Store → Res Val
  | .var i, ρ, S => (match ρ[i]? with | some (some v) => .ok v S | _ => .stuck)
  | .lit v, _, S => .ok v S
  | .un op a, ρ, S => (ev a ρ S).bind fun x S1 => ofO (op1 S1 op x) S1
  | .bin op a b, ρ, S => (ev a ρ S).bind fun x S1 => (ev b ρ S1).bind fun y S2 => ofO (op2 S2 op x y) S2
  | .chain o1 o2 a b c, ρ, S => (ev a ρ S).bind fun x S1 => (ev b ρ S1).bind fun y S2 =>
      (match op2 S2 o1 x y with
      | some (.bool true) => (ev c ρ S2).bind fun z S3 => ofO (op2 S3 o2 y z) S3
      | some (.bool false) => .ok (.bool false) S2
      | _ => .stuck)
  | .and a b, ρ, S => (ev a ρ S).bind fun x S1 => (match x with
      | .bool true => ev b ρ S1
      | .bool false => .ok (.bool false) S1
      | _ => .stuck)
  | .or a b, ρ, S => (ev a ρ S).bind fun x S1 => (match truthy S1 x with
      | some true => .ok x S1
      | some false => ev b ρ S1
      | none => .stuck)
  | .not a, ρ, S => (ev a ρ S).bind fun x S1 => (match truthy S1 x with
      | some b => .ok (.bool (!b)) S1
      | none => .stuck)
  | .ite c a b, ρ, S => (evT c ρ S).bind fun t S1 => if t = true then ev a ρ S1 else ev b ρ S1
  | .tup es, ρ, S => (evs es ρ S).bind fun vs S1 => .ok (.tup vs) S1
  | .lst es, ρ, S => (evs es ρ S).bind fun vs S1 => .ok (.lst vs) S1
  | .slice a lo hi, ρ, S => (ev a ρ S).bind fun x S1 => (evO lo ρ S1).bind fun l S2 => (match bnd l with
      | some l => (evO hi ρ S2).bind fun h S3 => (match bnd h with
        | some h => ofO (sliceV S3 x l h) S3
        | none => .stuck)
      | none => .stuck)
  | .comp tg it cond elt, ρ, S => (evIt it ρ S).bind fun xs S1 =>
      (compGo xs.2 (fun x S2 => match asgT tg x ρ with
        | some ρ' => (evC cond ρ' S2).bind fun t S3 => if t = true then (noExc (ev elt ρ' S3)).bind fun v S4 => .ok (some v) S4 else .ok none S3
        | none => .stuck) xs.1 [] S1).bind fun vs S2 => .ok (.lst vs) S2
  | .boxc tg it cond elt, ρ, S => (evIt it ρ S).bind fun xs S1 =>
      (compGo xs.2 (fun x S2 => match asgT tg x ρ with
        | some ρ' => (evC cond ρ' S2).bind fun t S3 => if t = true then (noExc (ev elt ρ' S3)).bind fun v S4 => .ok (some v) S4 else .ok none S3
        | none => .stuck) xs.1 [] S1).bind fun vs S2 => .ok (.loc S2.length) (S2 ++ [.list vs])
  | .call f es, ρ, S => (evs es ρ S).bind fun vs S1 => C f vs S1
  | .meth a c m es, ρ, S => (ev a ρ S).bind fun x S1 => if isOf S1 c m x = true then (evs es ρ S1).bind fun vs S2 => C (dot c m) (x :: vs) S2 else .stuck
  | .make c es, ρ, S => (evs es ρ S).bind fun vs S1 =>
      (C (dot c (Str.ofString "__init__")) (.loc S1.length :: vs) (S1 ++ [.inst c []])).bind fun v S2 => (match v with
        | .non => .ok (.loc S1.length) S2
        | _ => .stuck)
  | .fld a f, ρ, S => (ev a ρ S).bind fun x S1 => (match x with
      | .loc n => (match S1[n]? with
        | some (.inst _ fs) => ofO (fldGet fs f) S1
        | _ => .stuck)
      | _ => .stuck)
  | .isI a t, ρ, S => (ev a ρ S).bind fun x S1 => (match isInst S1 t x with
      | some b => .ok (.bool b) S1
      | none => .stuck)
  | .dlook ks vs k d, ρ, S => (evs vs ρ S).bind fun us S1 => (ev k ρ S1).bind fun x S2 => (evO d ρ S2).bind fun y S3 =>
      if okLook ks x then (match lookD ks us x with
        | some v => .ok v S3
        | none => ofO y S3) else .stuck
  | .inG neg a _ vs, ρ, S => (ev a ρ S).bind fun x S1 => (match x with
      | .str s => .ok (.bool (neg != vs.contains s)) S1
      | _ => .stuck)
  | .box es, ρ, S => (evs es ρ S).bind fun vs S1 => .ok (.loc S1.length) (S1 ++ [.list vs])
  | .boxa a b, ρ, S => (ev a ρ S).bind fun x S1 => (ev b ρ S1).bind fun y S2 => (match lstOf S2 x, lstOf S2 y with
      | some xs, some ys => if xs.length + ys.length ≤ LIM then .ok (.loc S2.length) (S2 ++ [.list (xs ++ ys)]) else .stuck
      | _, _ => .stuck)
  | .newK, _, S => .ok (.loc S.length) (S ++ [.dictK []])
  | .newT, _, S => .ok (.loc S.length) (S ++ [.dictT []])
  | .newD ks vs, ρ, S => (evs vs ρ S).bind fun us S1 => .ok (.loc S1.length) (S1 ++ [.dictK ((ks.map Sum.inr).zip us)])
  | .dictOf a, ρ, S => (ev a ρ S).bind fun x S1 => (match lstOf S1 x with
      | some vs => (match pairsK vs with
        | some kvs => .ok (.loc S1.length) (S1 ++ [.dictK (mergeK [] kvs)])
        | none => .stuck)
      | none => .stuck)
  | .pop d k, ρ, S => (ev d ρ S).bind fun x S1 => (ev k ρ S1).bind fun y S2 => (match x with
      | .loc n => (match S2[n]? with
        | some (.dictT kvs) => (match y with
          | .tup ks => (match keysOf ks with
            | some k => (match getK kvs k with
              | some v => .ok v (S2.set n (.dictT (dropK kvs k)))
              | none => .stuck)
            | none => .stuck)
          | _ => .stuck)
        | _ => .stuck)
      | _ => .stuck)
  | .get2 d k x, ρ, S => (ev d ρ S).bind fun x0 S1 => (ev k ρ S1).bind fun y S2 => (ev x ρ S2).bind fun z S3 => (match x0 with
      | .loc n => (match S3[n]? with
        | some (.dictK kvs) => (match keyOf y with
          | some k => .ok ((getK kvs k).getD z) S3
          | none => .stuck)
        | _ => .stuck)
      | _ => .stuck)
  | .join s a, ρ, S => (ev s ρ S).bind fun x S1 => (ev a ρ S1).bind fun y S2 => (match x, y with
      | .str sep, .lst vs => (match strsOf vs with
        | some ss => if (joinS sep ss).length ≤ LIM then .ok (.str (joinS sep ss)) S2 else .stuck
        | none => .stuck)
      | _, _ => .stuck)
  | .split _ _, _, _ => .stuck
  | .itemsS a, ρ, S => (ev a ρ S).bind fun x S1 => (match x with
      | .loc n => (match S1[n]? with
        | some (.dictK kvs) => (match strInts kvs with
          | some ps => if ps.length < 64 then .ok (.lst ((sortBy (fun a b => ltS a.1 b.1) ps).map fun p => .tup [.str p.1, .int p.2])) S1 else .stuck
          | none => .stuck)
        | _ => .stuck)
      | _ => .stuck)
def evT : E → Env → Store → Res Bool
  | .and a b, ρ, S => (evT a ρ S).bind fun x S1 => if x = true then evT b ρ S1 else .ok false S1
  | .or a b, ρ, S => (evT a ρ S).bind fun x S1 => if x = true then .ok true S1 else evT b ρ S1
  | .not a, ρ, S => (evT a ρ S).bind fun x S1 => .ok (!x) S1
  | e, ρ, S => (ev e ρ S).bind fun x S1 => ofO (truthy S1 x) S1
def evs : List E → Env → Store → Res (List Val)
  | [], _, S => .ok [] S
  | e :: es, ρ, S => (ev e ρ S).bind fun v S1 => (evs es ρ S1).bind fun vs S2 => .ok (v :: vs) S2
def evO : Option E → Env → Store → Res (Option Val)
  | none, _, S => .ok none S
  | some e, ρ, S => (ev e ρ S).bind fun v S1 => .ok (some v) S1
def evC : Option E → Env → Store → Res Bool
  | none, _, S => .ok true S
  | some e, ρ, S => noExc (evT e ρ S)
def evIt : It → Env → Store → Res (List Val × Src)
  | .seq a, ρ, S => (ev a ρ S).bind fun x S1 => (match itemsOf S1 x with
      | some vs => .ok (vs, srcOf S1 x) S1
      | none => .stuck)
  | .range1 a, ρ, S => (ev a ρ S).bind fun x S1 => (match x with
      | .int j => if okR j then .ok (rangeV 0 j.toNat, []) S1 else .stuck
      | _ => .stuck)
  | .range2 a b, ρ, S => (ev a ρ S).bind fun x S1 => (ev b ρ S1).bind fun y S2 => (match x, y with
      | .int i, .int j => if okR i && okR j then .ok (rangeV i (j - i).toNat, []) S2 else .stuck
      | _, _ => .stuck)
  | .enum a, ρ, S => (ev a ρ S).bind fun x S1 => (match seqOf S1 x with
      | some vs => .ok (enumV vs 0, srcOf S1 x) S1
      | none => .stuck)
  | .zip a b, ρ, S => (ev a ρ S).bind fun x S1 => (ev b ρ S1).bind fun y S2 => (match seqOf S2 x, seqOf S2 y with
      | some vs, some us => .ok (zipV vs us, srcOf S2 x ++ srcOf S2 y) S2
      | _, _ => .stuck)
  | .keys a, ρ, S => (ev a ρ S).bind fun x S1 => (match keysOfD S1 x with
      | some vs => .ok (vs, srcOf S1 x) S1
      | none => .stuck)
  | .values a, ρ, S => (ev a ρ S).bind fun x S1 => (match valuesOf S1 x with
      | some vs => .ok (vs, srcOf S1 x) S1
      | none => .stuck)
end
end
end HI
namespace HI
open PySem
inductive SR where
  | next (ρ : Env) (S : Store)
  | ret (v : Val) (S : Store)
  | brk (ρ : Env) (S : Store)
  | exc (c : Str) (ρ : Env) (S : Store)
  | stuck
def Res.to {α : Type} (r : Res α) (ρ : Env) (f : α → Store → SR) : SR := match r with
  | .ok a S => f a S
  | .exc c S => .exc c ρ S
  | .stuck => .stuck
@[simp] theorem Res.to_ok {α : Type} (a : α) (S : Store) (ρ : Env) (f : α → Store → SR) : (Res.ok a S).to ρ f = f a S := rfl
@[simp] theorem Res.to_exc {α : Type} (c : Str) (S : Store) (ρ : Env) (f : α → Store → SR) : (Res.exc c S : Res α).to ρ f = .exc c ρ S := rfl
@[simp] theorem Res.to_stuck {α : Type} (ρ : Env) (f : α → Store → SR) : (Res.stuck : Res α).to ρ f = .stuck := rfl
def SR.andThen (r : SR) (f : Env → Store → SR) : SR := match r with
  | .next ρ S => f ρ S
  | r => r
@[simp] theorem SR.then_next (ρ : Env) (S : Store) (f : Env → Store → SR) : (SR.next ρ S).andThen f = f ρ S := rfl
@[simp] theorem SR.then_ret (v : Val) (S : Store) (f : Env → Store → SR) : (SR.ret v S).andThen f = .ret v S := rfl
@[simp] theorem SR.then_brk (ρ : Env) (S : Store) (f : Env → Store → SR) : (SR.brk ρ S).andThen f = .brk ρ S := rfl
@[simp] theorem SR.then_exc (c : Str) (ρ : Env) (S : Store) (f : Env → Store → SR) : (SR.exc c ρ S).andThen f = .exc c ρ S := rfl
@[simp] theorem SR.then_stuck (f : Env → Store → SR) : SR.stuck.andThen f = .stuck := rfl
def SR.loop (r : SR) (f : Env → Store → SR) : SR := match r with
  | .next ρ S => f ρ S
  | .brk ρ S => .next ρ S
  | r => r
@[simp] theorem SR.loop_next (ρ : Env) (S : Store) (f : Env → Store → SR) : (SR.next ρ S).loop f = f ρ S := rfl
@[simp] theorem SR.loop_ret (v : Val) (S : Store) (f : Env → Store → SR) : (SR.ret v S).loop f = .ret v S := rfl
@[simp] theorem SR.loop_brk (ρ : Env) (S : Store) (f : Env → Store → SR) : (SR.brk ρ S).loop f = .next ρ S := rfl
@[simp] theorem SR.loop_exc (c : Str) (ρ : Env) (S : Store) (f : Env → Store → SR) : (SR.exc c ρ S).loop f = .exc c ρ S := rfl
@[simp] theorem SR.loop_stuck (f : Env → Store → SR) : SR.stuck.loop f = .stuck := rfl
def noExcS : SR → SR
  | .exc _ _ _ => .stuck
  | r => r
def forGo (src : Src) (tg : Tg) (f : Env → Store → SR) : List Val → Env → Store → SR
  | [], ρ, S => guardS src S (.next ρ S) .stuck
  | x :: xs, ρ, S => guardS src S (match asgT tg x ρ with
    | some ρ' => (f ρ' S).loop (forGo src tg f xs)
    | none => .stuck) .stuck
def whileGo (c : Env → Store → Res Bool) (f : Env → Store → SR) : Nat → Env → Store → SR
  | 0, _, _ => .stuck
  | n + 1, ρ, S => (c ρ S).to ρ fun t S1 => if t = true then (f ρ S1).loop (whileGo c f n) else .next ρ S1
def putItem (S : Store) (x y v : Val) : Option Store := match x with
  | .loc n => (match S[n]? with
    | some (.list vs) => (match y with
      | .int k => (match L2.ixN vs.length k with
        | some j => some (S.set n (.list (vs.set j v)))
        | none => none)
      | _ => none)
    | some (.dictK kvs) => (match keyOf y with
      | some k => if kvs.length < LIM then some (S.set n (.dictK (putK kvs k v))) else none
      | none => none)
    | some (.dictT kvs) => (match y with
      | .tup ks => (match keysOf ks with
        | some k => if kvs.length < LIM then some (S.set n (.dictT (putK kvs k v))) else none
        | none => none)
      | _ => none)
    | _ => none)
  | _ => none
def putFld (S : Store) (x : Val) (f : Str) (v : Val) : Option Store := match x with
  | .loc n => (match S[n]? with
    | some (.inst c fs) => if fs.length < 1000 then some (S.set n (.inst c (fldPut fs f v))) else none
    | _ => none)
  | _ => none
def getFld (S : Store) (x : Val) (f : Str) : Option Val := match x with
  | .loc n => (match S[n]? with
    | some (.inst _ fs) => fldGet fs f
    | _ => none)
  | _ => none
def aug2 (S : Store) (op : B2) (x y : Val) : Option Val := match op, x, y with
  | .add, .int a, .int b => some (.int (a + b))
  | .sub, .int a, .int b => some (.int (a - b))
  | _, _, _ => none
def askD (S : Store) (x y : Val) : Option Val := match x with
  | .loc n => (match S[n]? with
    | some (.dictK kvs) => (match keyOf y with | some k => getK kvs k | none => none)
    | some (.dictT kvs) => (match y with | .tup ks => (match keysOf ks with | some k => getK kvs k | none => none) | _ => none)
    | _ => none)
  | _ => none
def isLB (S : Store) : Val → Bool
  | .loc n => (match S[n]? with
    | some (.list _) => true
    | _ => false)
  | _ => false
def addL (S : Store) (x : Val) (us : List Val) : Option Store := match x with
  | .loc n => (match S[n]? with
    | some (.list vs) => if vs.length + us.length ≤ LIM then some (S.set n (.list (vs ++ us))) else none
    | _ => none)
  | _ => none
def anyErr : Str := Str.ofString "HoldError"
def catches (c h : Str) : Bool := decide (c = h) || decide (h = anyErr)
section
variable (L : Nat) (C : CallT)
mutual
def exS : S → Env → Store → SR
  | .pass, ρ, S => .next ρ S
  | .brk, ρ, S => .brk ρ S
  | .expr e, ρ, S => (ev C e ρ S).to ρ fun _ S1 => .next ρ S1
  | .set tg e, ρ, S => (ev C e ρ S).to ρ fun v S1 => (match asgT tg v ρ with
      | some ρ' => .next ρ' S1
      | none => .stuck)
  | .setF a f e, ρ, S => (ev C e ρ S).to ρ fun v S1 => (ev C a ρ S1).to ρ fun x S2 => (match putFld S2 x f v with
      | some S3 => .next ρ S3
      | none => .stuck)
  | .setI a k e, ρ, S => (ev C e ρ S).to ρ fun v S1 => (ev C a ρ S1).to ρ fun x S2 => (ev C k ρ S2).to ρ fun y S3 => (match putItem S3 x y v with
      | some S4 => .next ρ S4
      | none => .stuck)
  | .augV i op e, ρ, S => (match ρ[i]? with
      | some (some x) => (ev C e ρ S).to ρ fun y S1 => (match aug2 S1 op x y with
        | some z => .next (ρ.set i (some z)) S1
        | none => .stuck)
      | _ => .stuck)
  | .augF a f op i, ρ, S => (ev C a ρ S).to ρ fun x S1 => (match getFld S1 x f with
      | some u => (match aug2 S1 op u (.int i) with
        | some z => (match putFld S1 x f z with
          | some S3 => .next ρ S3
          | none => .stuck)
        | none => .stuck)
      | none => .stuck)
  | .augI a k op e, ρ, S => (ev C a ρ S).to ρ fun x S1 => (ev C k ρ S1).to ρ fun y S2 => (match askD S2 x y with
      | some u => (ev C e ρ S2).to ρ fun w S3 => (match aug2 S3 op u w with
        | some z => (match putItem S3 x y z with
          | some S4 => .next ρ S4
          | none => .stuck)
        | none => .stuck)
      | none => .stuck)
  | .append a e, ρ, S => (ev C a ρ S).to ρ fun x S1 => if isLB S1 x = true then (ev C e ρ S1).to ρ fun v S2 => (match addL S2 x [v] with
      | some S3 => .next ρ S3
      | none => .stuck) else .stuck
  | .extend a e, ρ, S => (ev C a ρ S).to ρ fun x S1 => if isLB S1 x = true then (ev C e ρ S1).to ρ fun v S2 => (match unl S2 v with
      | .lst us => (match addL S2 x us with
        | some S3 => .next ρ S3
        | none => .stuck)
      | _ => .stuck) else .stuck
  | .ret e, ρ, S => (ev C e ρ S).to ρ fun v S1 => .ret v S1
  | .retN, _, S => .ret .non S
  | .ifS c a b, ρ, S => (evT C c ρ S).to ρ fun t S1 => if t = true then exs a ρ S1 else exs b ρ S1
  | .forS tg it b, ρ, S => (evIt C it ρ S).to ρ fun xs S1 => forGo xs.2 tg (fun ρ' S' => exs b ρ' S') xs.1 ρ S1
  | .whileS c b, ρ, S => whileGo (fun ρ' S' => evT C c ρ' S') (fun ρ' S' => exs b ρ' S') L ρ S
  | .raise c, ρ, S => .exc c ρ S
  | .tryS b cs bs, ρ, S => (match exs b ρ S with
      | .exc c ρ' S' => exH cs bs c ρ' S'
      | r => r)
def exs : List S → Env → Store → SR
  | [], ρ, S => .next ρ S
  | s :: ss, ρ, S => (exS s ρ S).andThen fun ρ' S' => exs ss ρ' S'
def exH : List Str → List (List S) → Str → Env → Store → SR
  | h :: hs, b :: bs, c, ρ, S => if catches c h = true then noExcS (exs b ρ S) else exH hs bs c ρ S
  | _, _, c, ρ, S => .exc c ρ S
end
mutual
def below (lo : Nat) : Val → Bool
  | .loc n => decide (n < lo)
  | .tup vs => belows lo vs
  | .lst vs => belows lo vs
  | _ => true
def belows (lo : Nat) : List Val → Bool
  | [] => true
  | v :: vs => below lo v && belows lo vs
end
def unbox (lo : Nat) (S : Store) (v : Val) : Option Val := match v with
  | .loc n => if n < lo then some (.loc n) else (match S[n]? with
    | some (.list vs) => if belows lo vs then some (.lst vs) else none
    | _ => none)
  | v => if below lo v then some v else none
def finish (fn : Fn) (S0 : Store) (v : Val) (S : Store) : Res Val :=
  if fn.pure then (if S.take S0.length = S0 then (match unbox S0.length S v with
    | some u => .ok u S0
    | none => .stuck) else .stuck) else .ok v S
def finishX (fn : Fn) (S0 : Store) (c : Str) (S : Store) : Res Val :=
  if fn.pure then (if S.take S0.length = S0 then .exc c S0 else .stuck) else .exc c S
def runFn (fn : Fn) (args : List Val) (S : Store) : Res Val :=
  if args.length = fn.np then (match exs L C fn.body (args.map some ++ List.replicate (fn.ns - fn.np) none) S with
    | .ret v S1 => finish fn S v S1
    | .next _ S1 => finish fn S .non S1
    | .exc c _ S1 => finishX fn S c S1
    | _ => .stuck) else .stuck
abbrev Tab := Str → Option Fn
def callF (T : Tab) : Nat → CallT
  | 0 => fun _ _ _ => .stuck
  | n + 1 => fun f args S => (match T f with
    | some fn => runFn L (callF T n) fn args S
    | none => .stuck)
end
end HI
set_option Elab.async false
set_option linter.all false
set_option maxRecDepth 100000
namespace HI
open PySem
section
variable (C : CallT)
mutual
def kE : Nat → E → Env → Store → Res Val
  | 0, _, _, _ => .stuck
  | n + 1, .var i, ρ, S => (match ρ[i]? with | some (some v) => .ok v S | _ => .stuck)
  | n + 1, .lit v, _, S => .ok v S
  | n + 1, .un op a, ρ, S => (kE n a ρ S).bind fun x S1 => ofO (op1 S1 op x) S1
  | n + 1, .bin op a b, ρ, S => (kE n a ρ S).bind fun x S1 => (kE n b ρ S1).bind fun y S2 => ofO (op2 S2 op x y) S2
  | n + 1, .chain o1 o2 a b c, ρ, S => (kE n a ρ S).bind fun x S1 => (kE n b ρ S1).bind fun y S2 =>
      (match op2 S2 o1 x y with
      | some (.bool true) => (kE n c ρ S2).bind fun z S3 => ofO (op2 S3 o2 y z) S3
      | some (.bool false) => .ok (.bool false) S2
      | _ => .stuck)
  | n + 1, .and a b, ρ, S => (kE n a ρ S).bind fun x S1 => (match x with
      | .bool true => kE n b ρ S1
      | .bool false => .ok (.bool false) S1
      | _ => .stuck)
  | n + 1, .or a b, ρ, S => (kE n a ρ S).bind fun x S1 => (match truthy S1 x with
      | some true => .ok x S1
      | some false => kE n b ρ S1
      | none => .stuck)
  | n + 1, .not a, ρ, S => (kE n a ρ S).bind fun x S1 => (match truthy S1 x with
      | some b => .ok (.bool (!b)) S1
      | none => .stuck)
  | n + 1, .ite c a b, ρ, S => (kT n c ρ S).bind fun t S1 => if t = true then kE n a ρ S1 else kE n b ρ S1
  | n + 1, .tup es, ρ, S => (kA n es ρ S).bind fun vs S1 => .ok (.tup vs) S1
  | n + 1, .lst es, ρ, S => (kA n es ρ S).bind fun vs S1 => .ok (.lst vs) S1
  | n + 1, .slice a lo hi, ρ, S => (kE n a ρ S).bind fun x S1 => (kO n lo ρ S1).bind fun l S2 => (match bnd l with
      | some l => (kO n hi ρ S2).bind fun h S3 => (match bnd h with
        | some h => ofO (sliceV S3 x l h) S3
        | none => .stuck)
      | none => .stuck)
  | n + 1, .comp tg it cond elt, ρ, S => (kI n it ρ S).bind fun xs S1 =>
      (compGo xs.2 (fun x S2 => match asgT tg x ρ with
        | some ρ' => (kC n cond ρ' S2).bind fun t S3 => if t = true then (noExc (kE n elt ρ' S3)).bind fun v S4 => .ok (some v) S4 else .ok none S3
        | none => .stuck) xs.1 [] S1).bind fun vs S2 => .ok (.lst vs) S2
  | n + 1, .boxc tg it cond elt, ρ, S => (kI n it ρ S).bind fun xs S1 =>
      (compGo xs.2 (fun x S2 => match asgT tg x ρ with
        | some ρ' => (kC n cond ρ' S2).bind fun t S3 => if t = true then (noExc (kE n elt ρ' S3)).bind fun v S4 => .ok (some v) S4 else .ok none S3
        | none => .stuck) xs.1 [] S1).bind fun vs S2 => .ok (.loc S2.length) (S2 ++ [.list vs])
  | n + 1, .call f es, ρ, S => (kA n es ρ S).bind fun vs S1 => C f vs S1
  | n + 1, .meth a c m es, ρ, S => (kE n a ρ S).bind fun x S1 => if isOf S1 c m x = true then (kA n es ρ S1).bind fun vs S2 => C (dot c m) (x :: vs) S2 else .stuck
  | n + 1, .make c es, ρ, S => (kA n es ρ S).bind fun vs S1 =>
      (C (dot c (Str.ofString "__init__")) (.loc S1.length :: vs) (S1 ++ [.inst c []])).bind fun v S2 => (match v with
        | .non => .ok (.loc S1.length) S2
        | _ => .stuck)
  | n + 1, .fld a f, ρ, S => (kE n a ρ S).bind fun x S1 => (match x with
      | .loc n => (match S1[n]? with
        | some (.inst _ fs) => ofO (fldGet fs f) S1
        | _ => .stuck)
      | _ => .stuck)
  | n + 1, .isI a t, ρ, S => (kE n a ρ S).bind fun x S1 => (match isInst S1 t x with
      | some b => .ok (.bool b) S1
      | none => .stuck)
  | n + 1, .dlook ks vs k d, ρ, S => (kA n vs ρ S).bind fun us S1 => (kE n k ρ S1).bind fun x S2 => (kO n d ρ S2).bind fun y S3 =>
      if okLook ks x then (match lookD ks us x with
        | some v => .ok v S3
        | none => ofO y S3) else .stuck
  | n + 1, .inG neg a _ vs, ρ, S => (kE n a ρ S).bind fun x S1 => (match x with
      | .str s => .ok (.bool (neg != vs.contains s)) S1
      | _ => .stuck)
  | n + 1, .box es, ρ, S => (kA n es ρ S).bind fun vs S1 => .ok (.loc S1.length) (S1 ++ [.list vs])
  | n + 1, .boxa a b, ρ, S => (kE n a ρ S).bind fun x S1 => (kE n b ρ S1).bind fun y S2 => (match lstOf S2 x, lstOf S2 y with
      | some xs, some ys => if xs.length + ys.length ≤ LIM then .ok (.loc S2.length) (S2 ++ [.list (xs ++ ys)]) else .stuck
      | _, _ => .stuck)
  | n + 1, .newK, _, S => .ok (.loc S.length) (S ++ [.dictK []])
  | n + 1, .newT, _, S => .ok (.loc S.length) (S ++ [.dictT []])
  | n + 1, .newD ks vs, ρ, S => (kA n vs ρ S).bind fun us S1 => .ok (.loc S1.length) (S1 ++ [.dictK ((ks.map Sum.inr).zip us)])
  | n + 1, .dictOf a, ρ, S => (kE n a ρ S).bind fun x S1 => (match lstOf S1 x with
      | some vs => (match pairsK vs with
        | some kvs => .ok (.loc S1.length) (S1 ++ [.dictK (mergeK [] kvs)])
        | none => .stuck)
      | none => .stuck)
  | n + 1, .pop d k, ρ, S => (kE n d ρ S).bind fun x S1 => (kE n k ρ S1).bind fun y S2 => (match x with
      | .loc n => (match S2[n]? with
        | some (.dictT kvs) => (match y with
          | .tup ks => (match keysOf ks with
            | some k => (match getK kvs k with
              | some v => .ok v (S2.set n (.dictT (dropK kvs k)))
              | none => .stuck)
            | none => .stuck)
          | _ => .stuck)
        | _ => .stuck)
      | _ => .stuck)
  | n + 1, .get2 d k x, ρ, S => (kE n d ρ S).bind fun x0 S1 => (kE n k ρ S1).bind fun y S2 => (kE n x ρ S2).bind fun z S3 => (match x0 with
      | .loc n => (match S3[n]? with
        | some (.dictK kvs) => (match keyOf y with
          | some k => .ok ((getK kvs k).getD z) S3
          | none => .stuck)
        | _ => .stuck)
      | _ => .stuck)
  | n + 1, .join s a, ρ, S => (kE n s ρ S).bind fun x S1 => (kE n a ρ S1).bind fun y S2 => (match x, y with
      | .str sep, .lst vs => (match strsOf vs with
        | some ss => if (joinS sep ss).length ≤ LIM then .ok (.str (joinS sep ss)) S2 else .stuck
        | none => .stuck)
      | _, _ => .stuck)
  | n + 1, .split _ _, _, _ => .stuck
  | n + 1, .itemsS a, ρ, S => (kE n a ρ S).bind fun x S1 => (match x with
      | .loc n => (match S1[n]? with
        | some (.dictK kvs) => (match strInts kvs with
          | some ps => if ps.length < 64 then .ok (.lst ((sortBy (fun a b => ltS a.1 b.1) ps).map fun p => .tup [.str p.1, .int p.2])) S1 else .stuck
          | none => .stuck)
        | _ => .stuck)
      | _ => .stuck)
def kT : Nat → E → Env → Store → Res Bool
  | 0, _, _, _ => .stuck
  | n + 1, .and a b, ρ, S => (kT n a ρ S).bind fun x S1 => if x = true then kT n b ρ S1 else .ok false S1
  | n + 1, .or a b, ρ, S => (kT n a ρ S).bind fun x S1 => if x = true then .ok true S1 else kT n b ρ S1
  | n + 1, .not a, ρ, S => (kT n a ρ S).bind fun x S1 => .ok (!x) S1
  | n + 1, e, ρ, S => (kE n e ρ S).bind fun x S1 => ofO (truthy S1 x) S1
def kA : Nat → List E → Env → Store → Res (List Val)
  | 0, _, _, _ => .stuck
  | n + 1, [], _, S => .ok [] S
  | n + 1, e :: es, ρ, S => (kE n e ρ S).bind fun v S1 => (kA n es ρ S1).bind fun vs S2 => .ok (v :: vs) S2
def kO : Nat → Option E → Env → Store → Res (Option Val)
  | 0, _, _, _ => .stuck
  | n + 1, none, _, S => .ok none S
  | n + 1, some e, ρ, S => (kE n e ρ S).bind fun v S1 => .ok (some v) S1
def kC : Nat → Option E → Env → Store → Res Bool
  | 0, _, _, _ => .stuck
  | n + 1, none, _, S => .ok true S
  | n + 1, some e, ρ, S => noExc (kT n e ρ S)
def kI : Nat → It → Env → Store → Res (List Val × Src)
  | 0, _, _, _ => .stuck
  | n + 1, .seq a, ρ, S => (kE n a ρ S).bind fun x S1 => (match itemsOf S1 x with
      | some vs => .ok (vs, srcOf S1 x) S1
      | none => .stuck)
  | n + 1, .range1 a, ρ, S => (kE n a ρ S).bind fun x S1 => (match x with
      | .int j => if okR j then .ok (rangeV 0 j.toNat, []) S1 else .stuck
      | _ => .stuck)
  | n + 1, .range2 a b, ρ, S => (kE n a ρ S).bind fun x S1 => (kE n b ρ S1).bind fun y S2 => (match x, y with
      | .int i, .int j => if okR i && okR j then .ok (rangeV i (j - i).toNat, []) S2 else .stuck
      | _, _ => .stuck)
  | n + 1, .enum a, ρ, S => (kE n a ρ S).bind fun x S1 => (match seqOf S1 x with
      | some vs => .ok (enumV vs 0, srcOf S1 x) S1
      | none => .stuck)
  | n + 1, .zip a b, ρ, S => (kE n a ρ S).bind fun x S1 => (kE n b ρ S1).bind fun y S2 => (match seqOf S2 x, seqOf S2 y with
      | some vs, some us => .ok (zipV vs us, srcOf S2 x ++ srcOf S2 y) S2
      | _, _ => .stuck)
  | n + 1, .keys a, ρ, S => (kE n a ρ S).bind fun x S1 => (match keysOfD S1 x with
      | some vs => .ok (vs, srcOf S1 x) S1
      | none => .stuck)
  | n + 1, .values a, ρ, S => (kE n a ρ S).bind fun x S1 => (match valuesOf S1 x with
      | some vs => .ok (vs, srcOf S1 x) S1
      | none => .stuck)
end
end
section
variable (L : Nat) (C : CallT)
mutual
def kS : Nat → S → Env → Store → SR
  | 0, _, _, _ => .stuck
  | n + 1, .pass, ρ, S => .next ρ S
  | n + 1, .brk, ρ, S => .brk ρ S
  | n + 1, .expr e, ρ, S => (kE C n e ρ S).to ρ fun _ S1 => .next ρ S1
  | n + 1, .set tg e, ρ, S => (kE C n e ρ S).to ρ fun v S1 => (match asgT tg v ρ with
      | some ρ' => .next ρ' S1
      | none => .stuck)
  | n + 1, .setF a f e, ρ, S => (kE C n e ρ S).to ρ fun v S1 => (kE C n a ρ S1).to ρ fun x S2 => (match putFld S2 x f v with
      | some S3 => .next ρ S3
      | none => .stuck)
  | n + 1, .setI a k e, ρ, S => (kE C n e ρ S).to ρ fun v S1 => (kE C n a ρ S1).to ρ fun x S2 => (kE C n k ρ S2).to ρ fun y S3 => (match putItem S3 x y v with
      | some S4 => .next ρ S4
      | none => .stuck)
  | n + 1, .augV i op e, ρ, S => (match ρ[i]? with
      | some (some x) => (kE C n e ρ S).to ρ fun y S1 => (match aug2 S1 op x y with
        | some z => .next (ρ.set i (some z)) S1
        | none => .stuck)
      | _ => .stuck)
  | n + 1, .augF a f op i, ρ, S => (kE C n a ρ S).to ρ fun x S1 => (match getFld S1 x f with
      | some u => (match aug2 S1 op u (.int i) with
        | some z => (match putFld S1 x f z with
          | some S3 => .next ρ S3
          | none => .stuck)
        | none => .stuck)
      | none => .stuck)
  | n + 1, .augI a k op e, ρ, S => (kE C n a ρ S).to ρ fun x S1 => (kE C n k ρ S1).to ρ fun y S2 => (match askD S2 x y with
      | some u => (kE C n e ρ S2).to ρ fun w S3 => (match aug2 S3 op u w with
        | some z => (match putItem S3 x y z with
          | some S4 => .next ρ S4
          | none => .stuck)
        | none => .stuck)
      | none => .stuck)
  | n + 1, .append a e, ρ, S => (kE C n a ρ S).to ρ fun x S1 => if isLB S1 x = true then (kE C n e ρ S1).to ρ fun v S2 => (match addL S2 x [v] with
      | some S3 => .next ρ S3
      | none => .stuck) else .stuck
  | n + 1, .extend a e, ρ, S => (kE C n a ρ S).to ρ fun x S1 => if isLB S1 x = true then (kE C n e ρ S1).to ρ fun v S2 => (match unl S2 v with
      | .lst us => (match addL S2 x us with
        | some S3 => .next ρ S3
        | none => .stuck)
      | _ => .stuck) else .stuck
  | n + 1, .ret e, ρ, S => (kE C n e ρ S).to ρ fun v S1 => .ret v S1
  | n + 1, .retN, _, S => .ret .non S
  | n + 1, .ifS c a b, ρ, S => (kT C n c ρ S).to ρ fun t S1 => if t = true then kB n a ρ S1 else kB n b ρ S1
  | n + 1, .forS tg it b, ρ, S => (kI C n it ρ S).to ρ fun xs S1 => forGo xs.2 tg (fun ρ' S' => kB n b ρ' S') xs.1 ρ S1
  | n + 1, .whileS c b, ρ, S => whileGo (fun ρ' S' => kT C n c ρ' S') (fun ρ' S' => kB n b ρ' S') L ρ S
  | n + 1, .raise c, ρ, S => .exc c ρ S
  | n + 1, .tryS b cs bs, ρ, S => (match kB n b ρ S with
      | .exc c ρ' S' => kH n cs bs c ρ' S'
      | r => r)
def kB : Nat → List S → Env → Store → SR
  | 0, _, _, _ => .stuck
  | n + 1, [], ρ, S => .next ρ S
  | n + 1, s :: ss, ρ, S => (kS n s ρ S).andThen fun ρ' S' => kB n ss ρ' S'
def kH : Nat → List Str → List (List S) → Str → Env → Store → SR
  | 0, _, _, _, _, _ => .stuck
  | n + 1, h :: hs, b :: bs, c, ρ, S => if catches c h = true then noExcS (kB n b ρ S) else kH n hs bs c ρ S
  | n + 1, _, _, c, ρ, S => .exc c ρ S
end
end
def runK (L : Nat) (C : CallT) (fuel : Nat) (fn : Fn) (args : List Val) (S : Store) : Res Val :=
  if args.length = fn.np then (match kB L C fuel fn.body (args.map some ++ List.replicate (fn.ns - fn.np) none) S with
    | .ret v S1 => finish fn S v S1
    | .next _ S1 => finish fn S .non S1
    | .exc c _ S1 => finishX fn S c S1
    | _ => .stuck) else .stuck
def callK (L fuel : Nat) (T : Tab) : Nat → CallT
  | 0 => fun _ _ _ => .stuck
  | n + 1 => fun f args S => (match T f with
    | some fn => runK L (callK L fuel T n) fuel fn args S
    | none => .stuck)
end HI
set_option Elab.async false
set_option linter.all false
set_option maxRecDepth 100000
namespace HI
open PySem
def Le {α : Type} (r r' : Res α) : Prop := r = .stuck ∨ r = r'
theorem Le.rfl {α : Type} {r : Res α} : Le r r := .inr (Eq.refl _)
theorem Le.st {α : Type} {r : Res α} : Le .stuck r := .inl (Eq.refl _)
theorem Le.bind {α β : Type} {r r' : Res α} {f f' : α → Store → Res β} (h : Le r r') (k : ∀ v S, Le (f v S) (f' v S)) : Le (r.bind f) (r'.bind f') := by
  rcases h with rfl | rfl
  · exact .st
  · cases r with
    | ok v S => exact k v S
    | exc c S => exact .rfl
    | stuck => exact .rfl
theorem Le.noExc {α : Type} {r r' : Res α} (h : Le r r') : Le (noExc r) (noExc r') := by
  rcases h with rfl | rfl
  · exact .st
  · exact .rfl
theorem Le.ok {α : Type} {r r' : Res α} (h : Le r r') {v : α} {S : Store} (e : r = .ok v S) : r' = .ok v S := by
  rcases h with rfl | rfl
  · cases e
  · exact e
theorem Le.exc {α : Type} {r r' : Res α} (h : Le r r') {c : Str} {S : Store} (e : r = .exc c S) : r' = .exc c S := by
  rcases h with rfl | rfl
  · cases e
  · exact e
theorem Le.compGo {src : Src} {f f' : Val → Store → Res (Option Val)} (h : ∀ x S, Le (f x S) (f' x S)) : ∀ (xs acc : List Val) (S : Store), Le (compGo src f xs acc S) (compGo src f' xs acc S)
  | [], acc, S => .rfl
  | x :: xs, acc, S => by
    unfold HI.compGo guardS
    split
    · refine Le.bind (h x S) fun o S1 => ?_
      cases o with
      | none => exact Le.compGo h xs acc S1
      | some v =>
        simp only
        split
        · exact Le.compGo h xs _ S1
        · exact .rfl
    · exact .rfl
def LeC (C C' : CallT) : Prop := ∀ f vs S, Le (C f vs S) (C' f vs S)
section
variable {C C' : CallT}
theorem kE_le (hC : LeC C C') : ∀ n, (∀ e ρ S, Le (kE C n e ρ S) (ev C' e ρ S)) ∧ (∀ e ρ S, Le (kT C n e ρ S) (evT C' e ρ S)) ∧ (∀ e ρ S, Le (kA C n e ρ S) (evs C' e ρ S)) ∧ (∀ e ρ S, Le (kO C n e ρ S) (evO C' e ρ S)) ∧ (∀ e ρ S, Le (kC C n e ρ S) (evC C' e ρ S)) ∧ (∀ e ρ S, Le (kI C n e ρ S) (evIt C' e ρ S))
  | 0 => ⟨fun _ _ _ => by simp only [kE]; exact .st, fun _ _ _ => by simp only [kT]; exact .st, fun _ _ _ => by simp only [kA]; exact .st, fun _ _ _ => by simp only [kO]; exact .st, fun _ _ _ => by simp only [kC]; exact .st, fun _ _ _ => by simp only [kI]; exact .st⟩
  | n + 1 => by
    obtain ⟨hE, hT, hA, hO, hCd, hI⟩ := kE_le hC n
    have hcomp : ∀ (tg : Tg) (cond : Option E) (elt : E) (ρ : Env) (x : Val) (S2 : Store), Le (match asgT tg x ρ with
        | some ρ' => (kC C n cond ρ' S2).bind fun t S3 => if t = true then (noExc (kE C n elt ρ' S3)).bind fun v S4 => .ok (some v) S4 else .ok none S3
        | none => .stuck) (match asgT tg x ρ with
        | some ρ' => (evC C' cond ρ' S2).bind fun t S3 => if t = true then (noExc (ev C' elt ρ' S3)).bind fun v S4 => .ok (some v) S4 else .ok none S3
        | none => .stuck) := by
      intro tg cond elt ρ x S2
      cases asgT tg x ρ with
      | none => exact .rfl
      | some ρ' =>
        refine Le.bind (hCd _ _ _) fun t S3 => ?_
        split
        · exact Le.bind (Le.noExc (hE _ _ _)) fun _ _ => .rfl
        · exact .rfl
    refine ⟨fun e ρ S => ?_, fun e ρ S => ?_, fun e ρ S => ?_, fun e ρ S => ?_, fun e ρ S => ?_, fun e ρ S => ?_⟩
    · cases e with
      | var i => simp only [kE, ev]; exact .rfl
      | lit v => simp only [kE, ev]; exact .rfl
      | un op a => simp only [kE, ev]; exact Le.bind (hE _ _ _) fun _ _ => .rfl
      | bin op a b => simp only [kE, ev]; exact Le.bind (hE _ _ _) fun _ _ => Le.bind (hE _ _ _) fun _ _ => .rfl
      | chain o1 o2 a b c =>
        simp only [kE, ev]
        refine Le.bind (hE _ _ _) fun x S1 => Le.bind (hE _ _ _) fun y S2 => ?_
        cases op2 S2 o1 x y with
        | none => exact .rfl
        | some z =>
          cases z <;> try exact .rfl
          rename_i b
          cases b
          · exact .rfl
          · exact Le.bind (hE _ _ _) fun _ _ => .rfl
      | and a b =>
        simp only [kE, ev]
        refine Le.bind (hE _ _ _) fun x S1 => ?_
        cases x <;> try exact .rfl
        rename_i b
        cases b
        · exact .rfl
        · exact hE _ _ _
      | or a b =>
        simp only [kE, ev]
        refine Le.bind (hE _ _ _) fun x S1 => ?_
        cases truthy S1 x with
        | none => exact .rfl
        | some b =>
          cases b
          · exact hE _ _ _
          · exact .rfl
      | not a => simp only [kE, ev]; exact Le.bind (hE _ _ _) fun _ _ => .rfl
      | ite c a b =>
        simp only [kE, ev]
        refine Le.bind (hT _ _ _) fun t S1 => ?_
        split
        · exact hE _ _ _
        · exact hE _ _ _
      | tup es => simp only [kE, ev]; exact Le.bind (hA _ _ _) fun _ _ => .rfl
      | lst es => simp only [kE, ev]; exact Le.bind (hA _ _ _) fun _ _ => .rfl
      | slice a lo hi =>
        simp only [kE, ev]
        refine Le.bind (hE _ _ _) fun x S1 => Le.bind (hO _ _ _) fun l S2 => ?_
        cases bnd l with
        | none => exact .rfl
        | some l => exact Le.bind (hO _ _ _) fun _ _ => .rfl
      | comp tg it cond elt =>
        simp only [kE, ev]
        exact Le.bind (hI _ _ _) fun xs S1 => Le.bind (Le.compGo (hcomp tg cond elt ρ) _ _ _) fun _ _ => .rfl
      | boxc tg it cond elt =>
        simp only [kE, ev]
        exact Le.bind (hI _ _ _) fun xs S1 => Le.bind (Le.compGo (hcomp tg cond elt ρ) _ _ _) fun _ _ => .rfl
      | boxa a b => simp only [kE, ev]; exact Le.bind (hE _ _ _) fun _ _ => Le.bind (hE _ _ _) fun _ _ => .rfl
      | call f es => simp only [kE, ev]; exact Le.bind (hA _ _ _) fun _ _ => hC _ _ _
      | meth a c m es =>
        simp only [kE, ev]
        refine Le.bind (hE _ _ _) fun x S1 => ?_
        split
        · exact Le.bind (hA _ _ _) fun _ _ => hC _ _ _
        · exact .rfl
      | make c es => simp only [kE, ev]; exact Le.bind (hA _ _ _) fun _ _ => Le.bind (hC _ _ _) fun _ _ => .rfl
      | fld a f => simp only [kE, ev]; exact Le.bind (hE _ _ _) fun _ _ => .rfl
      | isI a t => simp only [kE, ev]; exact Le.bind (hE _ _ _) fun _ _ => .rfl
      | dlook ks vs k d => simp only [kE, ev]; exact Le.bind (hA _ _ _) fun _ _ => Le.bind (hE _ _ _) fun _ _ => Le.bind (hO _ _ _) fun _ _ => .rfl
      | inG neg a g vs => simp only [kE, ev]; exact Le.bind (hE _ _ _) fun _ _ => .rfl
      | box es => simp only [kE, ev]; exact Le.bind (hA _ _ _) fun _ _ => .rfl
      | newK => simp only [kE, ev]; exact .rfl
      | newT => simp only [kE, ev]; exact .rfl
      | newD ks vs => simp only [kE, ev]; exact Le.bind (hA _ _ _) fun _ _ => .rfl
      | dictOf a => simp only [kE, ev]; exact Le.bind (hE _ _ _) fun _ _ => .rfl
      | pop d k => simp only [kE, ev]; exact Le.bind (hE _ _ _) fun _ _ => Le.bind (hE _ _ _) fun _ _ => .rfl
      | get2 d k x => simp only [kE, ev]; exact Le.bind (hE _ _ _) fun _ _ => Le.bind (hE _ _ _) fun _ _ => Le.bind (hE _ _ _) fun _ _ => .rfl
      | join s a => simp only [kE, ev]; exact Le.bind (hE _ _ _) fun _ _ => Le.bind (hE _ _ _) fun _ _ => .rfl
      | split a b => simp only [kE, ev]; exact .rfl
      | itemsS a => simp only [kE, ev]; exact Le.bind (hE _ _ _) fun _ _ => .rfl
    · cases e with
      | and a b =>
        simp only [kT, evT]
        refine Le.bind (hT _ _ _) fun x S1 => ?_
        split
        · exact hT _ _ _
        · exact .rfl
      | or a b =>
        simp only [kT, evT]
        refine Le.bind (hT _ _ _) fun x S1 => ?_
        split
        · exact .rfl
        · exact hT _ _ _
      | not a => simp only [kT, evT]; exact Le.bind (hT _ _ _) fun _ _ => .rfl
      | _ => simp only [kT, evT]; exact Le.bind (hE _ _ _) fun _ _ => .rfl
    · cases e with
      | nil => simp only [kA, evs]; exact .rfl
      | cons e es => simp only [kA, evs]; exact Le.bind (hE _ _ _) fun _ _ => Le.bind (hA _ _ _) fun _ _ => .rfl
    · cases e with
      | none => simp only [kO, evO]; exact .rfl
      | some e => simp only [kO, evO]; exact Le.bind (hE _ _ _) fun _ _ => .rfl
    · cases e with
      | none => simp only [kC, evC]; exact .rfl
      | some e => simp only [kC, evC]; exact Le.noExc (hT _ _ _)
    · cases e with
      | seq a => simp only [kI, evIt]; exact Le.bind (hE _ _ _) fun _ _ => .rfl
      | range1 a => simp only [kI, evIt]; exact Le.bind (hE _ _ _) fun _ _ => .rfl
      | range2 a b => simp only [kI, evIt]; exact Le.bind (hE _ _ _) fun _ _ => Le.bind (hE _ _ _) fun _ _ => .rfl
      | enum a => simp only [kI, evIt]; exact Le.bind (hE _ _ _) fun _ _ => .rfl
      | zip a b => simp only [kI, evIt]; exact Le.bind (hE _ _ _) fun _ _ => Le.bind (hE _ _ _) fun _ _ => .rfl
      | values a => simp only [kI, evIt]; exact Le.bind (hE _ _ _) fun _ _ => .rfl
      | keys a => simp only [kI, evIt]; exact Le.bind (hE _ _ _) fun _ _ => .rfl
def LeS (r r' : SR) : Prop := r = .stuck ∨ r = r'
theorem LeS.rfl {r : SR} : LeS r r := .inr (Eq.refl _)
theorem LeS.st {r : SR} : LeS .stuck r := .inl (Eq.refl _)
theorem LeS.to {α : Type} {r r' : Res α} {ρ : Env} {f f' : α → Store → SR} (h : Le r r') (k : ∀ v S, LeS (f v S) (f' v S)) : LeS (r.to ρ f) (r'.to ρ f') := by
  rcases h with rfl | rfl
  · exact .st
  · cases r with
    | ok v S => exact k v S
    | exc c S => exact .rfl
    | stuck => exact .rfl
theorem LeS.andThen {r r' : SR} {f f' : Env → Store → SR} (h : LeS r r') (k : ∀ v S, LeS (f v S) (f' v S)) : LeS (r.andThen f) (r'.andThen f') := by
  rcases h with rfl | rfl
  · exact .st
  · cases r <;> first | exact k _ _ | exact .rfl
theorem LeS.loop {r r' : SR} {f f' : Env → Store → SR} (h : LeS r r') (k : ∀ v S, LeS (f v S) (f' v S)) : LeS (r.loop f) (r'.loop f') := by
  rcases h with rfl | rfl
  · exact .st
  · cases r <;> first | exact k _ _ | exact .rfl
theorem LeS.noExcS {r r' : SR} (h : LeS r r') : LeS (noExcS r) (noExcS r') := by
  rcases h with rfl | rfl
  · exact .st
  · exact .rfl
theorem LeS.forGo {src : Src} {tg : Tg} {f f' : Env → Store → SR} (h : ∀ ρ S, LeS (f ρ S) (f' ρ S)) : ∀ (xs : List Val) (ρ : Env) (S : Store), LeS (forGo src tg f xs ρ S) (forGo src tg f' xs ρ S)
  | [], ρ, S => .rfl
  | x :: xs, ρ, S => by
    unfold HI.forGo guardS
    split
    · cases asgT tg x ρ with
      | none => exact .rfl
      | some ρ' => exact LeS.loop (h _ _) fun ρ S => LeS.forGo h xs ρ S
    · exact .rfl
theorem LeS.whileGo {c c' : Env → Store → Res Bool} {f f' : Env → Store → SR} (hc : ∀ ρ S, Le (c ρ S) (c' ρ S)) (h : ∀ ρ S, LeS (f ρ S) (f' ρ S)) : ∀ (n : Nat) (ρ : Env) (S : Store), LeS (whileGo c f n ρ S) (whileGo c' f' n ρ S)
  | 0, ρ, S => .rfl
  | n + 1, ρ, S => by
    unfold HI.whileGo
    refine LeS.to (hc _ _) fun t S1 => ?_
    split
    · exact LeS.loop (h _ _) fun ρ S => LeS.whileGo hc h n ρ S
    · exact .rfl
theorem kS_le (hC : LeC C C') (L : Nat) : ∀ n, (∀ e ρ S, LeS (kS L C n e ρ S) (exS L C' e ρ S)) ∧ (∀ e ρ S, LeS (kB L C n e ρ S) (exs L C' e ρ S)) ∧ (∀ hs bs c ρ S, LeS (kH L C n hs bs c ρ S) (exH L C' hs bs c ρ S))
  | 0 => ⟨fun _ _ _ => by simp only [kS]; exact .st, fun _ _ _ => by simp only [kB]; exact .st, fun _ _ _ _ _ => by simp only [kH]; exact .st⟩
  | n + 1 => by
    obtain ⟨hS, hB, hH⟩ := kS_le hC L n
    obtain ⟨hE, hT, hA, hO, hCd, hI⟩ := kE_le hC n
    refine ⟨fun e ρ S => ?_, fun e ρ S => ?_, fun hs bs c ρ S => ?_⟩
    · cases e with
      | pass => simp only [kS, exS]; exact .rfl
      | brk => simp only [kS, exS]; exact .rfl
      | expr e => simp only [kS, exS]; exact LeS.to (hE _ _ _) fun _ _ => .rfl
      | set tg e => simp only [kS, exS]; exact LeS.to (hE _ _ _) fun _ _ => .rfl
      | setF a f e => simp only [kS, exS]; exact LeS.to (hE _ _ _) fun _ _ => LeS.to (hE _ _ _) fun _ _ => .rfl
      | setI a k e => simp only [kS, exS]; exact LeS.to (hE _ _ _) fun _ _ => LeS.to (hE _ _ _) fun _ _ => LeS.to (hE _ _ _) fun _ _ => .rfl
      | augV i op e =>
        simp only [kS, exS]
        cases ρ[i]? with
        | none => exact .rfl
        | some o =>
          cases o with
          | none => exact .rfl
          | some x => exact LeS.to (hE _ _ _) fun _ _ => .rfl
      | augF a f op i => simp only [kS, exS]; exact LeS.to (hE _ _ _) fun _ _ => .rfl
      | augI a k op e =>
        simp only [kS, exS]
        refine LeS.to (hE _ _ _) fun x S1 => LeS.to (hE _ _ _) fun y S2 => ?_
        cases askD S2 x y with
        | none => exact .rfl
        | some u => exact LeS.to (hE _ _ _) fun _ _ => .rfl
      | append a e =>
        simp only [kS, exS]
        refine LeS.to (hE _ _ _) fun x S1 => ?_
        split
        · exact LeS.to (hE _ _ _) fun _ _ => .rfl
        · exact .rfl
      | extend a e =>
        simp only [kS, exS]
        refine LeS.to (hE _ _ _) fun x S1 => ?_
        split
        · exact LeS.to (hE _ _ _) fun _ _ => .rfl
        · exact .rfl
      | ret e => simp only [kS, exS]; exact LeS.to (hE _ _ _) fun _ _ => .rfl
      | retN => simp only [kS, exS]; exact .rfl
      | ifS c a b =>
        simp only [kS, exS]
        refine LeS.to (hT _ _ _) fun x S1 => ?_
        split
        · exact hB _ _ _
        · exact hB _ _ _
      | forS tg it b => simp only [kS, exS]; exact LeS.to (hI _ _ _) fun xs S1 => LeS.forGo (fun ρ S => hB b ρ S) _ _ _
      | whileS c b => simp only [kS, exS]; exact LeS.whileGo (fun ρ S => hT c ρ S) (fun ρ S => hB b ρ S) _ _ _
      | raise c => simp only [kS, exS]; exact .rfl
      | tryS b cs bs =>
        simp only [kS, exS]
        rcases hB b ρ S with q | q
        · rw [q]; exact .st
        · rw [q]
          cases exs L C' b ρ S <;> first | exact .rfl | exact hH _ _ _ _ _
    · cases e with
      | nil => simp only [kB, exs]; exact .rfl
      | cons e es => simp only [kB, exs]; exact LeS.andThen (hS _ _ _) fun ρ S => hB _ _ _
    · cases hs with
      | nil => simp only [kH, exH]; exact .rfl
      | cons h hs =>
        cases bs with
        | nil => simp only [kH, exH]; exact .rfl
        | cons b bs =>
          simp only [kH, exH]
          split
          · exact LeS.noExcS (hB _ _ _)
          · exact hH _ _ _ _ _
theorem runK_le (hC : LeC C C') (L fuel : Nat) (fn : Fn) (args : List Val) (S : Store) : Le (runK L C fuel fn args S) (runFn L C' fn args S) := by
  unfold runK runFn
  split
  · rcases (kS_le hC L fuel).2.1 fn.body (args.map some ++ List.replicate (fn.ns - fn.np) none) S with q | q
    · rw [q]; exact .st
    · rw [q]; exact .rfl
  · exact .rfl
theorem callK_le (L fuel : Nat) (T : Tab) : ∀ n, LeC (callK L fuel T n) (callF L T n)
  | 0 => fun f vs S => .rfl
  | n + 1 => fun f vs S => by
    simp only [callK, callF]
    cases T f with
    | none => exact .rfl
    | some fn => exact runK_le (callK_le L fuel T n) L fuel fn vs S
end
end HI
set_option Elab.async false
set_option linter.all false
set_option maxRecDepth 100000
namespace HI
open PySem PySem.Spec PyProof.Rows L2
structure MM where
  bx : List Addr
  ph : List Addr
instance : Membership Addr MM := ⟨fun m a => a ∈ m.bx ∨ a ∈ m.ph⟩
instance : GetElem? MM Nat Addr (fun m i => i < m.bx.length) where
  getElem m i h := m.bx[i]
  getElem? m i := m.bx[i]?
instance : HAppend MM (List Addr) MM := ⟨fun m l => ⟨m.bx ++ l, m.ph⟩⟩
theorem MM.get (m : MM) (n : Nat) : m[n]? = m.bx[n]? := rfl
theorem MM.mem {m : MM} {a : Addr} : a ∈ m ↔ a ∈ m.bx ∨ a ∈ m.ph := Iff.rfl
def MM.addP (m : MM) (d : Addr) : MM := ⟨m.bx, d :: m.ph⟩
section
variable (K : PySem.W.Frag)
mutual
inductive Rep : MM → Hp → Val → V → Prop
  | non {m H} : Rep m H .non .non
  | bool {m H} (b : Bool) : Rep m H (.bool b) (.bl b)
  | int {m H} (i : Int) : Rep m H (.int i) (.int i)
  | str {m H} (s : Str) : Rep m H (.str s) (.str s)
  | tup {m H} {a : Addr} {xs : List V} {vs : List Val} : H a = some (.tup xs) → a ∉ m → Reps m H vs xs → Rep m H (.tup vs) (.ref a)
  | lst {m H} {a : Addr} {xs : List V} {vs : List Val} : H a = some (.lst xs) → a ∉ m → Reps m H vs xs → Rep m H (.lst vs) (.ref a)
  | scr {m H} {a : Addr} {ns : List Int} : Rd H a (.lst (ns.map V.int)) → a ∉ m → Rep m H (.scr ns) (.ref a)
  | scrK {m H} {a : Addr} {ns : List Int} : (∀ H' : Hp, SqL K H' a (ns.map V.int)) → Rep m H (.scr ns) (.ref a)
  | loc {m H} {n : Nat} {a : Addr} : m[n]? = some a → Rep m H (.loc n) (.ref a)
inductive Reps : MM → Hp → List Val → List V → Prop
  | nil {m H} : Reps m H [] []
  | cons {m H} {v : Val} {u : V} {vs : List Val} {us : List V} : Rep m H v u → Reps m H vs us → Reps m H (v :: vs) (u :: us)
end
end
structure Ext (rw : Bool) (m : MM) (H : Hp) (m' : MM) (H' : Hp) : Prop where
  more : ∃ ms ps : List Addr, m' = ⟨m.bx ++ ms, ps ++ m.ph⟩ ∧ (∀ a ∈ ms, H a = none) ∧ ∀ a ∈ ps, H a = none
  keep : ∀ a o, H a = some o → (a ∉ m ∨ (rw = false ∧ a ∉ m.ph)) → H' a = some o
  there : ∀ a, (H a).isSome = true → (H' a).isSome = true
  kph : ∀ a ∈ m.ph, ∀ o, H a = some o → H' a = some o
section
variable {rw : Bool} {m m1 m2 m' : MM} {H H1 H2 H' : Hp}
theorem MM.app_nil (m : MM) : m ++ ([] : List Addr) = m := by
  show (⟨m.bx ++ [], m.ph⟩ : MM) = m
  rw [List.append_nil]
theorem MM.app_app (m : MM) (a b : List Addr) : (m ++ a) ++ b = m ++ (a ++ b) := by
  show (⟨(m.bx ++ a) ++ b, m.ph⟩ : MM) = ⟨m.bx ++ (a ++ b), m.ph⟩
  rw [List.append_assoc]
theorem MM.mem_app {m : MM} {l : List Addr} {a : Addr} : a ∈ m ++ l ↔ a ∈ m ∨ a ∈ l := by
  show (a ∈ m.bx ++ l ∨ a ∈ m.ph) ↔ (a ∈ m.bx ∨ a ∈ m.ph) ∨ a ∈ l
  rw [List.mem_append]
  constructor
  · rintro ((h | h) | h)
    · exact .inl (.inl h)
    · exact .inr h
    · exact .inl (.inr h)
  · rintro ((h | h) | h)
    · exact .inl (.inl h)
    · exact .inr h
    · exact .inl (.inr h)
theorem MM.get_app {m : MM} {l : List Addr} {n : Nat} {a : Addr} (h : m[n]? = some a) : (m ++ l)[n]? = some a := by
  have hl : n < m.bx.length := (List.getElem?_eq_some_iff.mp (show m.bx[n]? = some a from h)).1
  show (m.bx ++ l)[n]? = some a
  rw [List.getElem?_append_left hl]; exact h
theorem MM.same (m : MM) : m = ⟨m.bx ++ [], [] ++ m.ph⟩ := by
  cases m; simp
theorem Ext.refl : Ext rw m H m H := ⟨⟨[], [], m.same, by simp, by simp⟩, fun _ _ h _ => h, fun _ h => h, fun _ _ _ h => h⟩
theorem Ext.ph_sub (x : Ext rw m H m' H') : ∀ a ∈ m.ph, a ∈ m'.ph := by
  obtain ⟨ms, ps, rfl, hf, hp⟩ := x.more
  exact fun a h => List.mem_append_right _ h
theorem Ext.not_ph (x : Ext rw m H m' H') {a : Addr} (ha : (H a).isSome = true) (hm : a ∉ m.ph) : a ∉ m'.ph := by
  obtain ⟨ms, ps, rfl, hf, hp⟩ := x.more
  intro h
  rcases List.mem_append.mp h with h | h
  · rw [hp a h] at ha; cases ha
  · exact hm h
theorem Ext.not_mem (x : Ext rw m H m' H') {a : Addr} (ha : (H a).isSome = true) (hm : a ∉ m) : a ∉ m' := by
  intro h
  rcases h with h | h
  · obtain ⟨ms, ps, rfl, hf, hp⟩ := x.more
    rcases List.mem_append.mp h with h | h
    · exact hm (.inl h)
    · rw [hf a h] at ha; cases ha
  · exact x.not_ph ha (fun z => hm (.inr z)) h
theorem Ext.trans (x : Ext rw m H m1 H1) (y : Ext rw m1 H1 m2 H2) : Ext rw m H m2 H2 := by
  obtain ⟨ms, ps, e1, f1, g1⟩ := x.more
  obtain ⟨ms2, ps2, e2, f2, g2⟩ := y.more
  have old : ∀ a, H1 a = none → H a = none := fun a h => by
    cases q : H a with
    | none => rfl
    | some o =>
      have z := x.there a (by rw [q]; rfl)
      rw [h] at z; cases z
  refine ⟨⟨ms ++ ms2, ps2 ++ ps, by rw [e2, e1]; simp [List.append_assoc], fun a ha => ?_, fun a ha => ?_⟩, fun a o h hm => y.keep a o (x.keep a o h hm) (hm.imp (fun z => x.not_mem (by rw [h]; rfl) z) fun z => ⟨z.1, x.not_ph (by rw [h]; rfl) z.2⟩), fun a h => y.there a (x.there a h), fun a ha o h => y.kph a (x.ph_sub a ha) o (x.kph a ha o h)⟩
  · rcases List.mem_append.mp ha with h | h
    · exact f1 a h
    · exact old a (f2 a h)
  · rcases List.mem_append.mp ha with h | h
    · exact old a (g2 a h)
    · exact g1 a h
theorem Ext.get (x : Ext rw m H m' H') {n : Nat} {a : Addr} (h : m[n]? = some a) : m'[n]? = some a := by
  obtain ⟨ms, ps, rfl, _⟩ := x.more
  have hl : n < m.bx.length := (List.getElem?_eq_some_iff.mp (show m.bx[n]? = some a from h)).1
  show (m.bx ++ ms)[n]? = some a
  rw [List.getElem?_append_left hl]; exact h
theorem there_upd {p : Addr} {o : HO} (a : Addr) (h : (H a).isSome = true) : (upd H p o a).isSome = true := by
  by_cases e : a = p
  · subst e; rw [upd_same]; rfl
  · rw [upd_ne e]; exact h
theorem Ext.new {p : Addr} {o : HO} (hp : H p = none) : Ext rw m H m (upd H p o) :=
  ⟨⟨[], [], m.same, by simp, by simp⟩, fun a ob h _ => by rw [upd_ne (ne_of_none h hp)]; exact h, there_upd, fun a _ ob h => by rw [upd_ne (ne_of_none h hp)]; exact h⟩
theorem Ext.box {p : Addr} {o : HO} (hp : H p = none) : Ext rw m H (m ++ [p]) (upd H p o) :=
  ⟨⟨[p], [], rfl, by simpa using hp, by simp⟩, (Ext.new (rw := rw) (m := m) hp).keep, there_upd, (Ext.new (rw := rw) (m := m) hp).kph⟩
theorem Ext.newP {p : Addr} {o : HO} (hp : H p = none) : Ext rw m H (m.addP p) (upd H p o) :=
  ⟨⟨[], [p], by simp [MM.addP], by simp, by simpa using hp⟩, (Ext.new (rw := rw) (m := m) hp).keep, there_upd, (Ext.new (rw := rw) (m := m) hp).kph⟩
theorem Ext.dropP (x : Ext rw m H m' H') : Ext rw m H ⟨m'.bx, m.ph⟩ H' := by
  obtain ⟨ms, ps, rfl, hf, hp⟩ := x.more
  exact ⟨⟨ms, [], by simp, hf, by simp⟩, x.keep, x.there, x.kph⟩
theorem Ext.write {p : Addr} {o : HO} (hm : p ∈ m.bx) (np : p ∉ m.ph) : Ext true m H m (upd H p o) :=
  ⟨⟨[], [], m.same, by simp, by simp⟩, fun a ob h ha => by rw [upd_ne (fun e => by subst e; rcases ha with ha | ha; exact ha (.inl hm); cases ha.1)]; exact h, there_upd, fun a ha ob h => by
    rw [upd_ne (fun e => np (by rw [← e]; exact ha))]; exact h⟩
theorem Ext.phan (x : Ext rw m H m' H') {p : Addr} {o : HO} (hp : H p = none) : Ext rw m H m' (upd H' p o) :=
  ⟨x.more, fun a ob h ha => by rw [upd_ne (ne_of_none h hp)]; exact x.keep a ob h ha, fun a h => there_upd a (x.there a h), fun a ha ob h => by rw [upd_ne (ne_of_none h hp)]; exact x.kph a ha ob h⟩
end
section
variable {rw : Bool} {K : PySem.W.Frag} {m m' : MM} {H H' : Hp}
mutual
theorem Rep.ext (x : Ext rw m H m' H') : ∀ {v : Val} {u : V}, Rep K m H v u → Rep K m' H' v u
  | _, _, .non => .non
  | _, _, .bool b => .bool b
  | _, _, .int i => .int i
  | _, _, .str s => .str s
  | _, _, .tup h n r => .tup (x.keep _ _ h (.inl n)) (x.not_mem (by rw [h]; rfl) n) (Reps.ext x r)
  | _, _, .lst h n r => .lst (x.keep _ _ h (.inl n)) (x.not_mem (by rw [h]; rfl) n) (Reps.ext x r)
  | _, _, .scr (a := a) h n => by
    have hs : (H a).isSome = true := by
      rcases h with h | ⟨o, h⟩ <;> rw [h] <;> rfl
    refine .scr ?_ (x.not_mem hs n)
    rcases h with h | ⟨o, h⟩
    · exact .inl (x.keep _ _ h (.inl n))
    · exact .inr ⟨o, x.keep _ _ h (.inl n)⟩
  | _, _, .scrK h => .scrK h
  | _, _, .loc h => .loc (x.get h)
theorem Reps.ext (x : Ext rw m H m' H') : ∀ {vs : List Val} {us : List V}, Reps K m H vs us → Reps K m' H' vs us
  | _, _, .nil => .nil
  | _, _, .cons r t => .cons (r.ext x) (Reps.ext x t)
end
theorem Reps.length {vs : List Val} {us : List V} (r : Reps K m H vs us) : vs.length = us.length := by
  induction vs generalizing us with
  | nil => cases r; rfl
  | cons v vs ih => cases r with | cons _ t => simp [ih t]
theorem Reps.append {vs ws : List Val} {us xs : List V} (r : Reps K m H vs us) (q : Reps K m H ws xs) : Reps K m H (vs ++ ws) (us ++ xs) := by
  induction vs generalizing us with
  | nil => cases r; exact q
  | cons v vs ih => cases r with | cons a t => exact .cons a (ih t)
theorem Reps.get {vs : List Val} {us : List V} (r : Reps K m H vs us) {i : Nat} {v : Val} (h : vs[i]? = some v) : ∃ u, us[i]? = some u ∧ Rep K m H v u := by
  induction vs generalizing us i with
  | nil => simp at h
  | cons w vs ih => cases r with
    | cons a t => cases i with
      | zero => simp at h; subst h; exact ⟨_, rfl, a⟩
      | succ i => obtain ⟨u, h1, h2⟩ := ih t (i := i) (by simpa using h); exact ⟨u, by simpa using h1, h2⟩
theorem Reps.getN {vs : List Val} {us : List V} (r : Reps K m H vs us) {i : Nat} (h : vs[i]? = none) : us[i]? = none := by
  have := r.length
  rw [List.getElem?_eq_none_iff] at h ⊢; omega
theorem Reps.take {vs : List Val} {us : List V} (r : Reps K m H vs us) (n : Nat) : Reps K m H (vs.take n) (us.take n) := by
  induction vs generalizing us n with
  | nil => cases r; simpa using .nil
  | cons v vs ih => cases r with
    | cons a t => cases n with
      | zero => exact .nil
      | succ n => exact .cons a (ih t n)
theorem Reps.drop {vs : List Val} {us : List V} (r : Reps K m H vs us) (n : Nat) : Reps K m H (vs.drop n) (us.drop n) := by
  induction vs generalizing us n with
  | nil => cases r; simpa using .nil
  | cons v vs ih => cases r with
    | cons a t => cases n with
      | zero => exact .cons a t
      | succ n => exact ih t n
theorem Reps.set {vs : List Val} {us : List V} (r : Reps K m H vs us) (i : Nat) {v : Val} {u : V} (q : Rep K m H v u) : Reps K m H (vs.set i v) (us.set i u) := by
  induction vs generalizing us i with
  | nil => cases r; exact .nil
  | cons w vs ih => cases r with
    | cons a t => cases i with
      | zero => exact .cons q t
      | succ i => exact .cons a (ih t i)
theorem Reps.rep {vs : List Val} {us : List V} (r : Reps K m H vs us) (k : Nat) : Reps K m H (List.replicate k vs).flatten (List.replicate k us).flatten := by
  induction k with
  | zero => exact .nil
  | succ k ih => simp only [List.replicate_succ, List.flatten_cons]; exact r.append ih
theorem Reps.ints {us : List V} : ∀ {ns : List Int}, Reps K m H (ns.map Val.int) us → us = ns.map V.int
  | [], .nil => rfl
  | n :: ns, .cons (.int _) t => by rw [Reps.ints t]; rfl
theorem Reps.of_ints : ∀ (ns : List Int), Reps K m H (ns.map Val.int) (ns.map V.int)
  | [] => .nil
  | n :: ns => .cons (.int n) (Reps.of_ints ns)
theorem Reps.strs {us : List V} : ∀ {ns : List Str}, Reps K m H (ns.map Val.str) us → us = ns.map V.str
  | [], .nil => rfl
  | n :: ns, .cons (.str _) t => by rw [Reps.strs t]; rfl
theorem Reps.of_strs : ∀ (ns : List Str), Reps K m H (ns.map Val.str) (ns.map V.str)
  | [] => .nil
  | n :: ns => .cons (.str n) (Reps.of_strs ns)
end
section
variable (K : PySem.W.Frag)
abbrev RepP {κ : Type} (m : MM) (H : Hp) : List (κ × Val) → List (κ × V) → Prop := Paired fun (p : κ × Val) (q : κ × V) => p.1 = q.1 ∧ Rep K m H p.2 q.2
def CLS : List String := ["House", "Record", "Book", "Road", "Runner"]
structure KCls (c : Str) : Prop where
  mem : ∃ s ∈ CLS, c = Str.ofString s
  glo : (He.Fa.glo c).ok K = true
  cl : Cls K (He.ga K c)
  ha : PySem.W.findIn K (.ref (He.ga K c)) "__class__" = some (some (.builtin "object.__class__"))
  hn : PySem.W.specialIn K (.builtin "object.__class__") "__get__" = some (some (.builtin "getset_descriptor.__get__"))
  htk : PySem.W.takesIn K (.builtin "object.__class__") = some true
  hm : PySem.W.mroIn K (He.ga K c) (.type "object") = some true
  same : PySem.W.kitOne K (.ref (He.ga K c)) (.ref (He.ga K c)) = some true
  blt : ∀ T ∈ ["int", "bool", "str", "tuple", "list"], PySem.W.kitOne K (.ref (He.ga K c)) (.type T) = some false
def BoxOk (m : MM) (H : Hp) (a : Addr) : Obj → Prop
  | .list vs => ∃ xs, H a = some (.lst xs) ∧ Reps K m H vs xs
  | .dictK kvs => ∃ us, Rd H a (.dK us) ∧ RepP K m H kvs us
  | .dictT kvs => ∃ us, Rd H a (.dT us) ∧ RepP K m H kvs us
  | .inst c fs => KCls K c ∧ ∃ dx us, H a = some (.ins (He.ga K c) dx us) ∧ RepP K m H fs us
def NoFrz (m : MM) (H : Hp) : Prop := ∀ a ∈ m.bx, ∀ o u, H a ≠ some (.frz o u)
structure SRel (rw : Bool) (m : MM) (H : Hp) (S : Store) : Prop where
  len : m.bx.length = S.length
  nd : m.bx.Nodup
  box : ∀ (n : Nat) a o, m[n]? = some a → S[n]? = some o → BoxOk K m H a o
  nof : rw = true → NoFrz m H
  phs : ∀ a ∈ m.ph, (H a).isSome = true
  phb : ∀ a ∈ m.ph, a ∉ m.bx
structure ERel (m : MM) (H : Hp) (ρ : Env) (σ : L2.St) : Prop where
  len : ρ.length = σ.length
  val : ∀ (i : Nat) v, ρ[i]? = some (some v) → ∃ u, σ[i]? = some (some u) ∧ Rep K m H v u
end
section
variable {rw : Bool} {K : PySem.W.Frag} {m m' m1 : MM} {H H' H1 : Hp} {S S1 : Store} {ρ : Env} {σ : L2.St}
theorem RepP.ext {κ : Type} (x : Ext rw m H m' H') {l : List (κ × Val)} {r : List (κ × V)} (h : RepP K m H l r) : RepP K m' H' l r := Paired.mapP h fun _ _ z => ⟨z.1, z.2.ext x⟩
theorem Rd.eq {a : Addr} {u : HO} (e : H' a = H a) (h : Rd H a u) : Rd H' a u := by
  rcases h with h | ⟨o, h⟩
  · exact .inl (e.trans h)
  · exact .inr ⟨o, e.trans h⟩
theorem Rd.some {a : Addr} {u : HO} (h : Rd H a u) : (H a).isSome = true := by
  rcases h with h | ⟨o, h⟩ <;> rw [h] <;> rfl
theorem BoxOk.ext (x : Ext rw m H m' H') {a : Addr} {o : Obj} (e : H' a = H a) (h : BoxOk K m H a o) : BoxOk K m' H' a o := by
  cases o with
  | list vs => obtain ⟨xs, h1, h2⟩ := h; exact ⟨xs, e.trans h1, h2.ext x⟩
  | dictK vs => obtain ⟨xs, h1, h2⟩ := h; exact ⟨xs, Rd.eq e h1, RepP.ext x h2⟩
  | dictT vs => obtain ⟨xs, h1, h2⟩ := h; exact ⟨xs, Rd.eq e h1, RepP.ext x h2⟩
  | inst c vs => obtain ⟨kc, dx, xs, h1, h2⟩ := h; exact ⟨kc, dx, xs, e.trans h1, RepP.ext x h2⟩
theorem BoxOk.some {a : Addr} {o : Obj} (h : BoxOk K m H a o) : (H a).isSome = true := by
  cases o with
  | list vs => obtain ⟨xs, h1, h2⟩ := h; rw [h1]; rfl
  | dictK vs => obtain ⟨xs, h1, h2⟩ := h; exact Rd.some h1
  | dictT vs => obtain ⟨xs, h1, h2⟩ := h; exact Rd.some h1
  | inst c vs => obtain ⟨kc, dx, xs, h1, h2⟩ := h; rw [h1]; rfl
theorem ERel.ext (x : Ext rw m H m' H') (h : ERel K m H ρ σ) : ERel K m' H' ρ σ := ⟨h.len, fun i v e => by
  obtain ⟨u, h1, h2⟩ := h.val i v e
  exact ⟨u, h1, h2.ext x⟩⟩
theorem SRel.at (h : SRel K rw m H S) {n : Nat} {o : Obj} (e : S[n]? = some o) : ∃ a, m[n]? = some a ∧ BoxOk K m H a o := by
  have hl : n < m.bx.length := by rw [h.len]; exact (List.getElem?_eq_some_iff.mp e).1
  exact ⟨m.bx[n], List.getElem?_eq_getElem hl, h.box n _ o (List.getElem?_eq_getElem hl) e⟩
theorem SRel.atA (h : SRel K rw m H S) {n : Nat} {a : Addr} {o : Obj} (ha : m[n]? = some a) (e : S[n]? = some o) : BoxOk K m H a o := h.box n a o ha e
theorem mem_bx {n : Nat} {a : Addr} (h : m[n]? = some a) : a ∈ m.bx := List.mem_of_getElem? (show m.bx[n]? = some a from h)
theorem mem_of {n : Nat} {a : Addr} (h : m[n]? = some a) : a ∈ m := .inl (mem_bx h)
theorem SRel.mem_some (h : SRel K rw m H S) {a : Addr} (hm : a ∈ m.bx) : (H a).isSome = true := by
  obtain ⟨n, hn⟩ := List.getElem?_of_mem hm
  have hl : n < S.length := by rw [← h.len]; exact (List.getElem?_eq_some_iff.mp hn).1
  exact (h.box n a _ hn (List.getElem?_eq_getElem hl)).some
theorem SRel.free (h : SRel K rw m H S) {p : Addr} (hp : H p = none) : p ∉ m.bx := fun hm => by
  have := h.mem_some hm
  rw [hp] at this; cases this
theorem SRel.new (h : SRel K rw m H S) {p : Addr} {o : HO} (hp : H p = none) : SRel K rw m (upd H p o) S := by
  have np := h.free hp
  exact ⟨h.len, h.nd, fun n a ob e1 e2 => (h.box n a ob e1 e2).ext (Ext.new (rw := rw) hp) (upd_ne fun e => np (by rw [← e]; exact mem_bx e1)), fun hr a ha o' u' => by
    rw [upd_ne (fun e => np (by rw [← e]; exact ha))]; exact h.nof hr a ha o' u', fun a ha => there_upd a (h.phs a ha), h.phb⟩
theorem SRel.push (h : SRel K rw m H S) {p : Addr} {o : HO} {ob : Obj} (hp : H p = none) (b : BoxOk K (m ++ [p]) (upd H p o) p ob) (nf : ∀ o' u', o ≠ .frz o' u' := by intro o' u' z; cases z) : SRel K rw (m ++ [p]) (upd H p o) (S ++ [ob]) := by
  have np := h.free hp
  refine ⟨?_, ?_, fun n a o' e1 e2 => ?_, fun hr a ha o' u' => ?_, fun a ha => there_upd a (h.phs a ha), fun a ha hb => ?_⟩
  · show (m.bx ++ [p]).length = (S ++ [ob]).length
    simp [h.len]
  · show (m.bx ++ [p]).Nodup
    rw [List.nodup_append]
    exact ⟨h.nd, by simp, fun a ha b hb => by simp at hb; subst hb; exact fun e => np (e ▸ ha)⟩
  · have e1' : (m.bx ++ [p])[n]? = some a := e1
    by_cases hn : n < m.bx.length
    · rw [List.getElem?_append_left hn] at e1'
      rw [List.getElem?_append_left (by rw [← h.len]; exact hn)] at e2
      exact (h.box n a o' e1' e2).ext (Ext.box (rw := rw) hp) (upd_ne fun e => np (by rw [← e]; exact List.mem_of_getElem? e1'))
    · have hn' : n = m.bx.length := by
        have := (List.getElem?_eq_some_iff.mp e1').1
        simp at this; omega
      subst hn'
      simp at e1'; subst e1'
      rw [h.len] at e2; simp at e2; subst e2
      exact b
  · rcases List.mem_append.mp (show a ∈ m.bx ++ [p] from ha) with ha | ha
    · rw [upd_ne (fun e => np (by rw [← e]; exact ha))]; exact h.nof hr a ha o' u'
    · simp at ha; subst ha
      rw [upd_same]; intro z; cases z; exact nf _ _ rfl
  · rcases List.mem_append.mp (show a ∈ m.bx ++ [p] from hb) with hb | hb
    · exact h.phb a ha hb
    · simp at hb; subst hb
      have := h.phs a ha
      rw [hp] at this; cases this
theorem SRel.write (h : SRel K true m H S) {n : Nat} {p : Addr} {o : HO} {ob : Obj} (hp : m[n]? = some p) (b : BoxOk K m (upd H p o) p ob) (nf : ∀ o' u', o ≠ .frz o' u' := by intro o' u' z; cases z) : SRel K true m (upd H p o) (S.set n ob) := by
  refine ⟨by simp [h.len], h.nd, fun k a o' e1 e2 => ?_, fun hr a ha o' u' => ?_, fun a ha => there_upd a (h.phs a ha), h.phb⟩
  · by_cases hk : k = n
    · subst hk
      rw [hp] at e1; cases e1
      have hl : k < S.length := by rw [← h.len]; exact (List.getElem?_eq_some_iff.mp (show m.bx[k]? = some p from hp)).1
      rw [List.getElem?_set_self hl] at e2; cases e2
      exact b
    · rw [List.getElem?_set_ne (Ne.symm hk)] at e2
      refine (h.box k a o' e1 e2).ext (Ext.write (mem_bx hp) (fun z => h.phb p z (mem_bx hp))) (upd_ne fun e => hk ?_)
      subst e
      obtain ⟨h1, h2⟩ := List.getElem?_eq_some_iff.mp (show m.bx[k]? = some a from e1)
      obtain ⟨h3, h4⟩ := List.getElem?_eq_some_iff.mp (show m.bx[n]? = some a from hp)
      exact (List.getElem_inj h.nd).mp (h2.trans h4.symm)
  · by_cases e : a = p
    · subst e; rw [upd_same]; intro z; cases z; exact nf _ _ rfl
    · rw [upd_ne e]; exact h.nof rfl a ha o' u'
theorem SRel.plain (h : SRel K true m H S) {a : Addr} {u : HO} (ha : a ∈ m.bx) (r : Rd H a u) : H a = some u := by
  rcases r with r | ⟨o, r⟩
  · exact r
  · exact absurd r (h.nof rfl a ha o u)
theorem SRel.newP (h : SRel K rw m H S) {p : Addr} {o : HO} (hp : H p = none) : SRel K rw (m.addP p) (upd H p o) S := by
  have np := h.free hp
  refine ⟨h.len, h.nd, fun n a ob e1 e2 => (h.box n a ob e1 e2).ext (Ext.newP (rw := rw) hp) (upd_ne fun e => np (by rw [← e]; exact mem_bx e1)), fun hr a ha o' u' => ?_, fun a ha => ?_, fun a ha => ?_⟩
  · rw [upd_ne (fun e => np (by rw [← e]; exact ha))]; exact h.nof hr a ha o' u'
  · rcases List.mem_cons.mp ha with e | ha
    · rw [e, upd_same]; rfl
    · exact there_upd a (h.phs a ha)
  · rcases List.mem_cons.mp ha with e | ha
    · rw [e]; exact np
    · exact h.phb a ha
mutual
theorem Rep.phan {p : Addr} {o : HO} (hp : p ∈ m.ph) : ∀ {v : Val} {u : V}, Rep K m H v u → Rep K m (upd H p o) v u
  | _, _, .non => .non
  | _, _, .bool b => .bool b
  | _, _, .int i => .int i
  | _, _, .str s => .str s
  | _, _, .tup h n r => .tup (by rw [upd_ne (fun e => n (by rw [e]; exact .inr hp))]; exact h) n (Reps.phan hp r)
  | _, _, .lst h n r => .lst (by rw [upd_ne (fun e => n (by rw [e]; exact .inr hp))]; exact h) n (Reps.phan hp r)
  | _, _, .scr h n => .scr (Rd.eq (upd_ne (fun e => n (by rw [e]; exact .inr hp))) h) n
  | _, _, .scrK h => .scrK h
  | _, _, .loc h => .loc h
theorem Reps.phan {p : Addr} {o : HO} (hp : p ∈ m.ph) : ∀ {vs : List Val} {us : List V}, Reps K m H vs us → Reps K m (upd H p o) vs us
  | _, _, .nil => .nil
  | _, _, .cons r t => .cons (Rep.phan hp r) (Reps.phan hp t)
end
theorem SRel.phan (h : SRel K rw m H S) {p : Addr} {o : HO} (hp : p ∈ m.ph) : SRel K rw m (upd H p o) S := by
  have np := h.phb p hp
  refine ⟨h.len, h.nd, fun n a ob e1 e2 => ?_, fun hr a ha o' u' => by
    rw [upd_ne (fun e => np (by rw [← e]; exact ha))]; exact h.nof hr a ha o' u', fun a ha => there_upd a (h.phs a ha), h.phb⟩
  have b := h.box n a ob e1 e2
  have e : upd H p o a = H a := upd_ne fun e => np (by rw [← e]; exact mem_bx e1)
  cases ob with
  | list vs => obtain ⟨xs, h1, h2⟩ := b; exact ⟨xs, e.trans h1, h2.phan hp⟩
  | dictK vs => obtain ⟨xs, h1, h2⟩ := b; exact ⟨xs, Rd.eq e h1, Paired.mapP h2 fun _ _ z => ⟨z.1, z.2.phan hp⟩⟩
  | dictT vs => obtain ⟨xs, h1, h2⟩ := b; exact ⟨xs, Rd.eq e h1, Paired.mapP h2 fun _ _ z => ⟨z.1, z.2.phan hp⟩⟩
  | inst c vs => obtain ⟨kc, dx, xs, h1, h2⟩ := b; exact ⟨kc, dx, xs, e.trans h1, Paired.mapP h2 fun _ _ z => ⟨z.1, z.2.phan hp⟩⟩
mutual
theorem Rep.dropP {qs : List Addr} (hq : ∀ a ∈ qs, a ∈ m.ph) : ∀ {v : Val} {u : V}, Rep K m H v u → Rep K ⟨m.bx, qs⟩ H v u
  | _, _, .non => .non
  | _, _, .bool b => .bool b
  | _, _, .int i => .int i
  | _, _, .str s => .str s
  | _, _, .tup h n r => .tup h (fun z => n (z.imp id (hq _))) (Reps.dropP hq r)
  | _, _, .lst h n r => .lst h (fun z => n (z.imp id (hq _))) (Reps.dropP hq r)
  | _, _, .scr h n => .scr h (fun z => n (z.imp id (hq _)))
  | _, _, .scrK h => .scrK h
  | _, _, .loc h => .loc h
theorem Reps.dropP {qs : List Addr} (hq : ∀ a ∈ qs, a ∈ m.ph) : ∀ {vs : List Val} {us : List V}, Reps K m H vs us → Reps K ⟨m.bx, qs⟩ H vs us
  | _, _, .nil => .nil
  | _, _, .cons r t => .cons (Rep.dropP hq r) (Reps.dropP hq t)
end
theorem SRel.dropP {qs : List Addr} (hq : ∀ a ∈ qs, a ∈ m.ph) (h : SRel K rw m H S) : SRel K rw ⟨m.bx, qs⟩ H S := by
  refine ⟨h.len, h.nd, fun n a o e1 e2 => ?_, h.nof, fun a ha => h.phs a (hq a ha), fun a ha => h.phb a (hq a ha)⟩
  have b := h.box n a o e1 e2
  cases o with
  | list vs => obtain ⟨xs, h1, h2⟩ := b; exact ⟨xs, h1, h2.dropP hq⟩
  | dictK vs => obtain ⟨xs, h1, h2⟩ := b; exact ⟨xs, h1, Paired.mapP h2 fun _ _ z => ⟨z.1, z.2.dropP hq⟩⟩
  | dictT vs => obtain ⟨xs, h1, h2⟩ := b; exact ⟨xs, h1, Paired.mapP h2 fun _ _ z => ⟨z.1, z.2.dropP hq⟩⟩
  | inst c vs => obtain ⟨kc, dx, xs, h1, h2⟩ := b; exact ⟨kc, dx, xs, h1, Paired.mapP h2 fun _ _ z => ⟨z.1, z.2.dropP hq⟩⟩
def EXC : List String := ["HoldError", "BadRooms", "BadMark", "BadDeed", "NoHold", "NoKey", "BadErrand", "BadKnown", "BadRow", "BadRoad", "NoErrand", "Stopped", "BadText"]
structure KExc (K : PySem.W.Frag) (c : Str) : Prop where
  glo : (He.Fa.glo c).ok K = true
  exm : ∀ h ∈ EXC, (He.Fa.glo (Str.ofString h)).ok K = true → PySem.W.exmOne K (.ref (He.ga K c)) (.ref (He.ga K (Str.ofString h))) = some (catches c (Str.ofString h))
def Out {α β : Type} (K : PySem.W.Frag) (rw : Bool) (m : MM) (H : Hp) (σ : L2.St) (W : WX) (R : MM → Hp → α → β → Prop) (r : Res α) (Q : β → Hp → Prop) : Prop := match r with
  | .ok v S' => ∀ m' H' u, Ext rw m H m' H' → SRel K rw m' H' S' → R m' H' v u → Q u H'
  | .exc c S' => KExc K c → ∀ m' H', Ext rw m H m' H' → SRel K rw m' H' S' → W (.ref (He.ga K c)) none σ H'
  | .stuck => False
variable {α β α' β' : Type} {W : WX} {R : MM → Hp → α → β → Prop} {R' : MM → Hp → α' → β' → Prop} {Q : β → Hp → Prop} {Q' : β' → Hp → Prop}
theorem Out.ext {r : Res α} (h : Out K rw m H σ W R r Q) (x : Ext rw m H m1 H1) : Out K rw m1 H1 σ W R r Q := by
  cases r with
  | ok v S' => exact fun m' H' u y s q => h m' H' u (x.trans y) s q
  | exc c S' => exact fun kx m' H' y s => h kx m' H' (x.trans y) s
  | stuck => exact h
theorem Out.bind {r : Res α'} {f : α' → Store → Res α} (h : Out K rw m H σ W R (r.bind f) Q)
    (k : ∀ v S1 m1 H1 u, Ext rw m H m1 H1 → SRel K rw m1 H1 S1 → R' m1 H1 v u → Out K rw m1 H1 σ W R (f v S1) Q → Q' u H1) : Out K rw m H σ W R' r Q' := by
  cases r with
  | ok v S' => exact fun m1 H1 u x s q => k v S' m1 H1 u x s q (Out.ext (r := f v S') h x)
  | exc c S' => exact h
  | stuck => exact h
theorem Out.fin {v : α} {u : β} (h : Out K rw m H σ W R (.ok v S) Q) (s : SRel K rw m H S) (q : R m H v u) : Q u H := h m H u Ext.refl s q
theorem Out.fin' {v : α} {u : β} (h : Out K rw m H σ W R (.ok v S) Q) (x : Ext rw m H m' H') (s : SRel K rw m' H' S) (q : R m' H' v u) : Q u H' := h m' H' u x s q
end
end HI
set_option Elab.async false
set_option linter.all false
set_option maxRecDepth 100000
namespace HI
open PySem PySem.Spec PyProof.Rows L2
section
variable {X : Cx} {C : CallT} {W : WX} {rw : Bool}
def rdE (K : PySem.W.Frag) (rw : Bool) (C : CallT) (W : WX) (e : E) : TE := fun σ H Q => ∃ m S ρ, SRel K rw m H S ∧ ERel K m H ρ σ ∧ Out K rw m H σ W (Rep K) (ev C e ρ S) Q
def rdT (K : PySem.W.Frag) (rw : Bool) (C : CallT) (W : WX) (e : E) : TT := fun σ H Q => ∃ m S ρ, SRel K rw m H S ∧ ERel K m H ρ σ ∧ Out K rw m H σ W (fun _ _ (b c : Bool) => b = c) (evT C e ρ S) Q
def rdA (K : PySem.W.Frag) (rw : Bool) (C : CallT) (W : WX) (es : List E) : TA := fun σ H Q => ∃ m S ρ, SRel K rw m H S ∧ ERel K m H ρ σ ∧ Out K rw m H σ W (Reps K) (evs C es ρ S) Q
abbrev SE (X : Cx) (rw : Bool) (C : CallT) (W : WX) (e : Expr) (e' : E) : Prop := PE X e (rdE X.K rw C W e')
abbrev ST (X : Cx) (rw : Bool) (C : CallT) (W : WX) (e : Expr) (e' : E) : Prop := PT X e (rdT X.K rw C W e')
abbrev SA (X : Cx) (rw : Bool) (C : CallT) (W : WX) (es : List Expr) (es' : List E) : Prop := PA X es (rdA X.K rw C W es')
theorem PE.wk {e : Expr} {t t' : TE} (h : PE X e t) (k : ∀ σ H Q, t' σ H Q → t σ H Q) : PE X e t' := ⟨fun pins s σ H Q I hw => h.run pins s σ H Q I (k σ H Q hw)⟩
theorem PT.wk {e : Expr} {t t' : TT} (h : PT X e t) (k : ∀ σ H Q, t' σ H Q → t σ H Q) : PT X e t' := ⟨fun pins s σ H Q I hw => h.run pins s σ H Q I (k σ H Q hw)⟩
theorem PA.wk {e : List Expr} {t t' : TA} (h : PA X e t) (k : ∀ σ H Q, t' σ H Q → t σ H Q) : PA X e t' := ⟨fun pos pins s σ H Q I hw => h.run pos pins s σ H Q I (k σ H Q hw)⟩
theorem PS.wk {e : Stmt} {t t' : TS} (h : PS X e t) (k : ∀ D σ H, t' D σ H → t D σ H) : PS X e t' := ⟨fun pins s σ H D I hw => h.run pins s σ H D I (k D σ H hw)⟩
theorem PSs.wk {e : List Stmt} {t t' : TS} (h : PSs X e t) (k : ∀ D σ H, t' D σ H → t D σ H) : PSs X e t' := ⟨fun pins s σ H D I hw => h.run pins s σ H D I (k D σ H hw)⟩
theorem PE.or {e : Expr} {t t' : TE} (h : PE X e t) (h' : PE X e t') : PE X e (fun σ H Q => t σ H Q ∨ t' σ H Q) := ⟨fun pins s σ H Q I hw => hw.elim (h.run pins s σ H Q I) (h'.run pins s σ H Q I)⟩
theorem PE.ex {ι : Type} {p : ι → Prop} {e : Expr} {t : ι → TE} (h : ∀ i, p i → PE X e (t i)) : PE X e (fun σ H Q => ∃ i, p i ∧ t i σ H Q) := ⟨fun pins s σ H Q I ⟨i, hp, hw⟩ => (h i hp).run pins s σ H Q I hw⟩
theorem s_var {i : Nat} {x : Str} {pos : Pos} (hN : X.N[i]? = some x) (hv : Vis X.env.scope x) (hd : (x == ("__debug__" : Str)) = false) (hcd : (x == ("__classdict__" : Str)) = false) : SE X rw C W (.Name x pos) (.var i) := by
  refine PE.wk (pe_var hN hv hd hcd) fun σ H Q ⟨m, S, ρ, hS, hE, h⟩ => ?_
  cases e : ρ[i]? with
  | none => simp only [ev, e] at h; exact h.elim
  | some o => cases o with
    | none => simp only [ev, e] at h; exact h.elim
    | some v =>
      simp only [ev, e] at h
      obtain ⟨u, h1, h2⟩ := hE.val i v e
      exact ⟨u, h1, h.fin hS h2⟩
theorem s_lit {e : Expr} {v : Val} {u : V} (h : PE X e (tC u)) (r : ∀ m H, Rep X.K m H v u) : SE X rw C W e (.lit v) :=
  PE.wk h fun σ H Q ⟨m, S, ρ, hS, hE, h⟩ => Out.fin (by simpa only [ev] using h) hS (r m H)
theorem s_bin {e a b : Expr} {a' b' : E} {r : R2} {op : B2} (h : ∀ {ta tb : TE}, PE X a ta → PE X b tb → PE X e (tOp r ta tb)) (ha : SE X rw C W a a') (hb : SE X rw C W b b')
    (k : ∀ m H S x y u w Q σ, SRel X.K rw m H S → Rep X.K m H x u → Rep X.K m H y w → Out X.K rw m H σ W (Rep X.K) (ofO (op2 S op x y) S) Q → r u w H Q) : SE X rw C W e (.bin op a' b') := by
  refine PE.wk (h ha hb) fun σ H Q ⟨m, S, ρ, hS, hE, h⟩ => ?_
  simp only [ev] at h
  refine ⟨m, S, ρ, hS, hE, Out.bind h fun x S1 m1 H1 u x1 s1 r1 h1 => ⟨m1, S1, ρ, s1, hE.ext x1, Out.bind h1 fun y S2 m2 H2 w x2 s2 r2 h2 => ?_⟩⟩
  exact k m2 H2 S2 x y u w Q σ s2 (r1.ext x2) r2 h2
theorem Out.some {α β : Type} {K : PySem.W.Frag} {m : MM} {H : Hp} {σ : L2.St} {W : WX} {S : Store} {R : MM → Hp → α → β → Prop} {Q : β → Hp → Prop} {o : Option α} (h : Out K rw m H σ W R (ofO o S) Q) : ∃ z, o = Option.some z ∧ Out K rw m H σ W R (.ok z S) Q := by
  cases o with
  | none => exact h.elim
  | some z => exact ⟨z, rfl, h⟩
section
variable {K : PySem.W.Frag} {m : MM} {H : Hp} {S : Store} {x y z : Val} {u w : V}
theorem unl_lst (hS : SRel K rw m H S) (r : Rep K m H x u) {xs : List Val} (e : unl S x = .lst xs) : ∃ a us, u = .ref a ∧ H a = some (.lst us) ∧ Reps K m H xs us := by
  cases r with
  | lst h n q => simp only [unl, Val.lst.injEq] at e; subst e; exact ⟨_, _, rfl, h, q⟩
  | @loc n a h =>
    simp only [unl] at e
    cases q : S[n]? with
    | none => rw [q] at e; cases e
    | some o => rw [q] at e; cases o with
      | list vs =>
        simp only [Val.lst.injEq] at e; subst e
        obtain ⟨us, h1, h2⟩ := hS.atA h q
        exact ⟨_, us, rfl, h1, h2⟩
      | _ => cases e
  | _ => simp only [unl] at e; cases e
theorem op2_add_inv (h : op2 S .add x y = some z) : (∃ i j, x = .int i ∧ y = .int j ∧ z = .int (i + j)) ∨ (∃ a b, x = .str a ∧ y = .str b ∧ a.length + b.length ≤ LIM ∧ z = .str (a ++ b)) ∨
    (∃ a b, x = .tup a ∧ y = .tup b ∧ a.length + b.length ≤ LIM ∧ z = .tup (a ++ b)) ∨ ∃ xs ys, unl S x = .lst xs ∧ unl S y = .lst ys ∧ xs.length + ys.length ≤ LIM ∧ z = .lst (xs ++ ys) := by
  unfold op2 at h
  split at h <;> try (first | contradiction | (rename_i e _; cases e))
  all_goals first
    | (refine .inl ⟨_, _, rfl, rfl, ?_⟩; injection h with h; exact h.symm)
    | (split at h
       · injection h with h; first | exact .inr (.inl ⟨_, _, rfl, rfl, by assumption, h.symm⟩) | exact .inr (.inr (.inl ⟨_, _, rfl, rfl, by assumption, h.symm⟩))
       · cases h)
    | (split at h
       · split at h
         · injection h with h; exact .inr (.inr (.inr ⟨_, _, by assumption, by assumption, by assumption, h.symm⟩))
         · cases h
       · cases h)
    | (cases h)
end
theorem rep_int {K : PySem.W.Frag} {m : MM} {H : Hp} {i : Int} {u : V} (r : Rep K m H (.int i) u) : u = .int i := by cases r; rfl
theorem rep_str {K : PySem.W.Frag} {m : MM} {H : Hp} {i : Str} {u : V} (r : Rep K m H (.str i) u) : u = .str i := by cases r; rfl
theorem rep_bool {K : PySem.W.Frag} {m : MM} {H : Hp} {i : Bool} {u : V} (r : Rep K m H (.bool i) u) : u = .bl i := by cases r; rfl
theorem rep_tup {K : PySem.W.Frag} {m : MM} {H : Hp} {vs : List Val} {u : V} (r : Rep K m H (.tup vs) u) : ∃ a us, u = .ref a ∧ H a = some (.tup us) ∧ a ∉ m ∧ Reps K m H vs us := by cases r with | tup h n q => exact ⟨_, _, rfl, h, n, q⟩
theorem rep_lst {K : PySem.W.Frag} {m : MM} {H : Hp} {vs : List Val} {u : V} (r : Rep K m H (.lst vs) u) : ∃ a us, u = .ref a ∧ H a = some (.lst us) ∧ a ∉ m ∧ Reps K m H vs us := by cases r with | lst h n q => exact ⟨_, _, rfl, h, n, q⟩
theorem rep_loc {K : PySem.W.Frag} {m : MM} {H : Hp} {n : Nat} {u : V} (r : Rep K m H (.loc n) u) : ∃ a, u = .ref a ∧ m[n]? = some a := by cases r with | loc h => exact ⟨_, rfl, h⟩
theorem not_box {K : PySem.W.Frag} {m : MM} {H : Hp} {S : Store} (hS : SRel K rw m H S) {p : Addr} (hp : H p = none) : p ∉ m := fun hm => by
  rcases hm with hm | hm
  · exact hS.free hp hm
  · have := hS.phs p hm
    rw [hp] at this; cases this
theorem fin_tup {K : PySem.W.Frag} {m : MM} {H : Hp} {S : Store} {σ : L2.St} {W : WX} {Q : VK} {vs : List Val} {us : List V} (h : Out K rw m H σ W (Rep K) (.ok (.tup vs) S) Q) (hS : SRel K rw m H S) (q : Reps K m H vs us) {p : Addr} (hp : H p = none) : Q (.ref p) (upd H p (.tup us)) :=
  h.fin' (Ext.new hp) (hS.new hp) (.tup upd_same (not_box hS hp) (q.ext (Ext.new (rw := rw) hp)))
theorem fin_lst {K : PySem.W.Frag} {m : MM} {H : Hp} {S : Store} {σ : L2.St} {W : WX} {Q : VK} {vs : List Val} {us : List V} (h : Out K rw m H σ W (Rep K) (.ok (.lst vs) S) Q) (hS : SRel K rw m H S) (q : Reps K m H vs us) {p : Addr} (hp : H p = none) : Q (.ref p) (upd H p (.lst us)) :=
  h.fin' (Ext.new hp) (hS.new hp) (.lst upd_same (not_box hS hp) (q.ext (Ext.new (rw := rw) hp)))
theorem lim_eq : (LIM : Nat) = sizeLine := by rw [sizeLine_eq]
def opAll (X : Cx) (op : CmpOp) (r : R2) : Prop := OpR X (compareOp op) r
theorem s_add {a b : Expr} {a' b' : E} {pos : Pos} (ha : SE X rw C W a a') (hb : SE X rw C W b b') : SE X rw C W (.BinOp a .Add b pos) (.bin .add a' b') := by
  refine s_bin (fun h1 h2 => pe_op (OpR.or op_add (OpR.or op_add_str (OpR.or op_catA op_cat))) h1 h2) ha hb fun m H S x y u w Q σ hS rx ry h => ?_
  obtain ⟨z, e, h⟩ := h.some
  rcases op2_add_inv e with ⟨i, j, rfl, rfl, rfl⟩ | ⟨i, j, rfl, rfl, hl, rfl⟩ | ⟨i, j, rfl, rfl, hl, rfl⟩ | ⟨xs, ys, e1, e2, hl, rfl⟩
  · cases rep_int rx; cases rep_int ry; exact .inl ⟨i, j, rfl, rfl, h.fin hS (.int _)⟩
  · cases rep_str rx; cases rep_str ry; exact .inr (.inl ⟨i, j, rfl, rfl, by rw [← lim_eq]; exact hl, h.fin hS (.str _)⟩)
  · obtain ⟨a, us, rfl, h1, n1, q1⟩ := rep_tup rx
    obtain ⟨b, ws, rfl, h2, n2, q2⟩ := rep_tup ry
    refine .inr (.inr (.inl ⟨a, b, us, ws, rfl, rfl, SqT.of h1, SqT.of h2, by rw [← q1.length, ← q2.length, ← lim_eq]; exact hl, fun e => ?_, fun e1 e2 => ?_, fun e1 e2 p hp => ?_⟩))
    · subst e; cases q1; exact h.fin hS (.tup h2 n2 q2)
    · subst e2; cases q2; exact h.fin hS (.tup h1 n1 (by simpa using q1))
    · exact fin_tup h hS (q1.append q2) hp
  · obtain ⟨a, us, rfl, h1, q1⟩ := unl_lst hS rx e1
    obtain ⟨b, ws, rfl, h2, q2⟩ := unl_lst hS ry e2
    exact .inr (.inr (.inr ⟨a, b, us, ws, rfl, rfl, h1, h2, by rw [← q1.length, ← q2.length, ← lim_eq]; exact hl, fun p hp => fin_lst h hS (q1.append q2) hp⟩))
theorem s_sub {a b : Expr} {a' b' : E} {pos : Pos} (ha : SE X rw C W a a') (hb : SE X rw C W b b') : SE X rw C W (.BinOp a .Sub b pos) (.bin .sub a' b') := by
  refine s_bin (fun h1 h2 => pe_op op_sub h1 h2) ha hb fun m H S x y u w Q σ hS rx ry h => ?_
  obtain ⟨z, e, h⟩ := h.some
  cases x <;> cases y <;> simp only [op2] at e <;> try cases e
  cases rep_int rx; cases rep_int ry
  exact ⟨_, _, rfl, rfl, h.fin hS (.int _)⟩
theorem small64_ok {i : Int} (h : small64 i = true) : -(2 ^ 64) < i ∧ i < 2 ^ 64 := by
  unfold small64 at h
  rw [Bool.and_eq_true, decide_eq_true_eq, decide_eq_true_eq] at h
  exact h
theorem s_mul {a b : Expr} {a' b' : E} {pos : Pos} (ha : SE X rw C W a a') (hb : SE X rw C W b b') : SE X rw C W (.BinOp a .Mult b pos) (.bin .mul a' b') := by
  refine s_bin (fun h1 h2 => pe_op (OpR.or op_mul (OpR.or op_repT op_rep)) h1 h2) ha hb fun m H S x y u w Q σ hS rx ry h => ?_
  obtain ⟨z, e, h⟩ := h.some
  cases x <;> cases y <;> simp only [op2] at e <;> try cases e
  · split at e
    · rename_i hc
      cases e
      cases rep_int rx; cases rep_int ry
      refine .inl ⟨_, _, rfl, rfl, ?_, h.fin hS (.int _)⟩
      rw [Bool.or_eq_true] at hc
      rcases hc with hc | hc
      · exact .inl (small64_ok hc)
      · exact .inr (small64_ok hc)
    · cases e
  · split at e
    · rename_i hc
      cases e
      cases rep_int ry
      obtain ⟨a, us, rfl, h1, n1, q1⟩ := rep_tup rx
      simp only [Bool.and_eq_true, decide_eq_true_eq, Bool.not_eq_true'] at hc
      obtain ⟨⟨⟨c1, c2⟩, c3⟩, c4⟩ := hc
      have hl := q1.length
      refine .inr (.inl ⟨a, _, us, rfl, rfl, SqT.of h1, ?_, c1, c2, by omega, fun p hp => fin_tup h hS (q1.rep _) hp⟩)
      intro z; subst z
      cases q1; simp at c4
    · cases e
  · split at e
    · rename_i hc
      cases e
      cases rep_int ry
      obtain ⟨a, us, rfl, h1, n1, q1⟩ := rep_lst rx
      simp only [Bool.and_eq_true, decide_eq_true_eq] at hc
      obtain ⟨⟨c1, c2⟩, c3⟩ := hc
      have hl := q1.length
      have hm : ∀ k : Nat, k ≤ 1000 → us.length * k ≤ sizeLine := fun k hk => by
        have : us.length * k ≤ 1000 * 1000 := Nat.mul_le_mul (by omega) hk
        rw [sizeLine_eq]; omega
      exact .inr (.inr ⟨a, _, us, rfl, rfl, h1, by omega, by omega, hm _ (by omega), fun p hp => fin_lst h hS (q1.rep _) hp⟩)
    · cases e
theorem s_fdiv {a b : Expr} {a' b' : E} {pos : Pos} (ha : SE X rw C W a a') (hb : SE X rw C W b b') : SE X rw C W (.BinOp a .FloorDiv b pos) (.bin .fdiv a' b') := by
  refine s_bin (fun h1 h2 => pe_op op_fdiv h1 h2) ha hb fun m H S x y u w Q σ hS rx ry h => ?_
  obtain ⟨z, e, h⟩ := h.some
  cases x <;> cases y <;> simp only [op2] at e <;> try cases e
  split at e
  · rename_i hc
    cases e
    cases rep_int rx; cases rep_int ry
    simp only [Bool.and_eq_true, decide_eq_true_eq] at hc
    exact ⟨_, _, rfl, rfl, hc, h.fin hS (.int _)⟩
  · cases e
theorem s_mod {a b : Expr} {a' b' : E} {pos : Pos} (ha : SE X rw C W a a') (hb : SE X rw C W b b') : SE X rw C W (.BinOp a .Mod b pos) (.bin .mod a' b') := by
  refine s_bin (fun h1 h2 => pe_op op_mod h1 h2) ha hb fun m H S x y u w Q σ hS rx ry h => ?_
  obtain ⟨z, e, h⟩ := h.some
  cases x <;> cases y <;> simp only [op2] at e <;> try cases e
  split at e
  · rename_i hc
    cases e
    cases rep_int rx; cases rep_int ry
    simp only [decide_eq_true_eq] at hc
    exact ⟨_, _, rfl, rfl, hc, h.fin hS (.int _)⟩
  · cases e
theorem s_pow {a b : Expr} {a' b' : E} {pos : Pos} (ha : SE X rw C W a a') (hb : SE X rw C W b b') : SE X rw C W (.BinOp a .Pow b pos) (.bin .pow a' b') := by
  refine s_bin (fun h1 h2 => pe_op op_pow h1 h2) ha hb fun m H S x y u w Q σ hS rx ry h => ?_
  obtain ⟨z, e, h⟩ := h.some
  cases x <;> cases y <;> simp only [op2] at e <;> try cases e
  split at e
  · rename_i hc
    cases e
    cases rep_int rx; cases rep_int ry
    simp only [Bool.and_eq_true, decide_eq_true_eq] at hc
    exact ⟨_, _, rfl, rfl, ⟨hc.1.1, hc.1.2, hc.2⟩, h.fin hS (.int _)⟩
  · cases e
theorem s_neg {a : Expr} {a' : E} {pos : Pos} (ha : SE X rw C W a a') : SE X rw C W (.UnaryOp .USub a pos) (.un .neg a') := by
  refine PE.wk (pe_un un_neg ha) fun σ H Q ⟨m, S, ρ, hS, hE, h⟩ => ?_
  simp only [ev] at h
  refine ⟨m, S, ρ, hS, hE, Out.bind h fun x S1 m1 H1 u x1 s1 r1 h1 => ?_⟩
  obtain ⟨z, e, h⟩ := h1.some
  cases x <;> simp only [op1] at e <;> try cases e
  cases rep_int r1
  exact ⟨_, rfl, h.fin s1 (.int _)⟩
mutual
def toD : Val → PyData
  | .non => .none
  | .bool b => .bool b
  | .int i => .int i
  | .str s => .str s
  | .tup vs => .tuple (toDs vs)
  | .lst vs => .list (toDs vs)
  | .scr _ => .none
  | .loc _ => .none
def toDs : List Val → List PyData
  | [] => []
  | v :: vs => toD v :: toDs vs
end
mutual
theorem fine_lay : ∀ (n : Nat) (v : Val), fine n v = true → (toD v).canLay0 = true ∧ (toD v).depth ≤ n
  | 0, v, h => by simp [fine] at h
  | n + 1, .non, _ => ⟨rfl, by simp [toD, PyData.depth]⟩
  | n + 1, .bool _, _ => ⟨rfl, by simp [toD, PyData.depth]⟩
  | n + 1, .int _, _ => ⟨rfl, by simp [toD, PyData.depth]⟩
  | n + 1, .str s, h => ⟨by simp only [toD, PyData.canLay0]; simp only [fine] at h; exact h, by simp [toD, PyData.depth]⟩
  | n + 1, .tup vs, h => by
    have q := fines_lay n vs (by simpa only [fine] using h)
    exact ⟨by simp only [toD, PyData.canLay0]; exact q.1, by simp only [toD, PyData.depth]; have := q.2; omega⟩
  | n + 1, .lst vs, h => by
    have q := fines_lay n vs (by simpa only [fine] using h)
    exact ⟨by simp only [toD, PyData.canLay0]; exact q.1, by simp only [toD, PyData.depth]; have := q.2; omega⟩
  | n + 1, .scr _, h => by simp [fine] at h
  | n + 1, .loc _, h => by simp [fine] at h
theorem fines_lay : ∀ (n : Nat) (vs : List Val), fines n vs = true → PyData.canLayAll0 (toDs vs) = true ∧ PyData.depthAll (toDs vs) ≤ n
  | n, [], _ => ⟨rfl, by simp [toDs, PyData.depthAll]⟩
  | n, v :: vs, h => by
    simp only [fines, Bool.and_eq_true] at h
    have q1 := fine_lay n v h.1
    have q2 := fines_lay n vs h.2
    refine ⟨by simp only [toDs, PyData.canLayAll0, q1.1, q2.1]; rfl, ?_⟩
    simp only [toDs, PyData.depthAll]
    have := q1.2; have := q2.2; omega
end
theorem cmp_order {op : CmpOp} {o : B2} {f : Int → Int → Bool} {g : Str → Str → Bool} (hi : OpR X (compareOp op) (rI0 fun i j => .bl (f i j)))
    (hs : OpR X (compareOp op) (fun x y H Q => ∃ i j, x = .str i ∧ y = .str j ∧ Q (.bl (g i j)) H))
    (e : ∀ S x y z, op2 S o x y = some z → (∃ i j, x = .int i ∧ y = .int j ∧ z = .bool (f i j)) ∨ ∃ i j, x = .str i ∧ y = .str j ∧ z = .bool (g i j)) :
    ∃ r, OpR X (compareOp op) r ∧ ∀ m H S x y u w Q σ, SRel X.K rw m H S → Rep X.K m H x u → Rep X.K m H y w → Out X.K rw m H σ W (Rep X.K) (ofO (op2 S o x y) S) Q → r u w H Q := by
  refine ⟨_, OpR.or hi hs, fun m H S x y u w Q σ hS rx ry h => ?_⟩
  obtain ⟨z, q, h⟩ := h.some
  rcases e S x y z q with ⟨i, j, rfl, rfl, rfl⟩ | ⟨i, j, rfl, rfl, rfl⟩
  · cases rep_int rx; cases rep_int ry; exact .inl ⟨i, j, rfl, rfl, h.fin hS (.bool _)⟩
  · cases rep_str rx; cases rep_str ry; exact .inr ⟨i, j, rfl, rfl, h.fin hS (.bool _)⟩
def CmpOk (X : Cx) (rw : Bool) (W : WX) (op : CmpOp) (o : B2) : Prop := ∃ r, OpR X (compareOp op) r ∧ ∀ m H S x y u w Q σ, SRel X.K rw m H S → Rep X.K m H x u → Rep X.K m H y w → Out X.K rw m H σ W (Rep X.K) (ofO (op2 S o x y) S) Q → r u w H Q
theorem c_lt : CmpOk X rw W .Lt .lt := cmp_order op_lt op_lt_str fun S x y z h => by
  cases x <;> cases y <;> simp only [op2] at h <;> cases h <;> first | exact .inl ⟨_, _, rfl, rfl, rfl⟩ | exact .inr ⟨_, _, rfl, rfl, rfl⟩
theorem c_le : CmpOk X rw W .LtE .le := cmp_order op_le op_le_str fun S x y z h => by
  cases x <;> cases y <;> simp only [op2] at h <;> cases h <;> first | exact .inl ⟨_, _, rfl, rfl, rfl⟩ | exact .inr ⟨_, _, rfl, rfl, rfl⟩
theorem c_gt : CmpOk X rw W .Gt .gt := cmp_order op_gt op_gt_str fun S x y z h => by
  cases x <;> cases y <;> simp only [op2] at h <;> cases h <;> first | exact .inl ⟨_, _, rfl, rfl, rfl⟩ | exact .inr ⟨_, _, rfl, rfl, rfl⟩
theorem c_ge : CmpOk X rw W .GtE .ge := cmp_order op_ge op_ge_str fun S x y z h => by
  cases x <;> cases y <;> simp only [op2] at h <;> cases h <;> first | exact .inl ⟨_, _, rfl, rfl, rfl⟩ | exact .inr ⟨_, _, rfl, rfl, rfl⟩
mutual
theorem rep_dp {K : PySem.W.Frag} {m : MM} {H : Hp} : ∀ {v : Val} {u : V} {n : Nat}, Rep K m H v u → fine n v = true → Dp K H u (toD v)
  | _, _, _, .non, _ => .non
  | _, _, _, .bool b, _ => .bl b
  | _, _, _, .int b, _ => .int b
  | _, _, _, .str b, _ => .str b
  | _, _, 0, .tup _ _ _, h => by simp [fine] at h
  | _, _, n + 1, .tup h _ q, hf => .tup (SqT.of h) (reps_dp (n := n) q (by simpa only [fine] using hf))
  | _, _, 0, .lst _ _ _, h => by simp [fine] at h
  | _, _, n + 1, .lst h _ q, hf => .lst (SqL.of h) (reps_dp (n := n) q (by simpa only [fine] using hf))
  | _, _, n, .scr _ _, hf => by cases n <;> simp [fine] at hf
  | _, _, n, .scrK _, hf => by cases n <;> simp [fine] at hf
  | _, _, n, .loc _, hf => by cases n <;> simp [fine] at hf
theorem reps_dp {K : PySem.W.Frag} {m : MM} {H : Hp} : ∀ {vs : List Val} {us : List V} {n : Nat}, Reps K m H vs us → fines n vs = true → DpAll K H us (toDs vs)
  | _, _, _, .nil, _ => .nil
  | _, _, n, .cons r q, hf => by
    simp only [fines, Bool.and_eq_true] at hf
    exact .cons (rep_dp r hf.1) (reps_dp q hf.2)
end
mutual
theorem eqv_d : ∀ (n k : Nat) (v w : Val), fine n v = true → fine k w = true → PyData.eqv (toD v) (toD w) = eqv v w
  | 0, _, v, _, h, _ => by simp [fine] at h
  | _, 0, _, w, _, h => by simp [fine] at h
  | n + 1, k + 1, v, w, h, h' => by
    cases v <;> cases w <;> first
      | (simp only [fine, Bool.false_eq_true] at h; done)
      | (simp only [fine, Bool.false_eq_true] at h'; done)
      | (simp only [toD, PyData.eqv, eqv]; done)
      | (simp only [toD, PyData.eqv, eqv]; exact eqvs_d n k _ _ (by simpa only [fine] using h) (by simpa only [fine] using h'))
theorem eqvs_d : ∀ (n k : Nat) (v w : List Val), fines n v = true → fines k w = true → PyData.eqvAll (toDs v) (toDs w) = eqvs v w
  | _, _, [], [], _, _ => rfl
  | _, _, [], _ :: _, _, _ => rfl
  | _, _, _ :: _, [], _, _ => rfl
  | n, k, a :: v, b :: w, h, h' => by
    simp only [fines, Bool.and_eq_true] at h h'
    simp only [toDs, PyData.eqvAll, eqvs, eqv_d n k a b h.1 h'.1, eqvs_d n k v w h.2 h'.2]
end
theorem fine_shaped {v : Val} (h : fine 60 v = true) : SeqAt.shaped (toD v) = true := by
  have q := fine_lay 60 v h
  unfold SeqAt.shaped
  rw [q.1, Bool.true_and, decide_eq_true_eq]
  exact Nat.le_trans q.2 (by decide)
theorem unl_rep {K : PySem.W.Frag} {m : MM} {H : Hp} {S : Store} {x : Val} {u : V} (hS : SRel K rw m H S) (r : Rep K m H x u) (h : fine 60 (unl S x) = true) : Dp K H u (toD (unl S x)) := by
  cases x with
  | loc n =>
    have h' := h
    simp only [unl] at h' ⊢
    cases q : S[n]? with
    | none => rw [q] at h'; simp [fine] at h'
    | some o => rw [q] at h'; cases o with
      | list vs =>
        have e : unl S (.loc n) = .lst vs := by simp only [unl, q]
        obtain ⟨a, us, rfl, h1, q1⟩ := unl_lst hS r e
        exact .lst (SqL.of h1) (reps_dp (n := 59) q1 (by simpa only [fine] using h'))
      | _ => simp [fine] at h'
  | _ => exact rep_dp r h
theorem scal_rep {K : PySem.W.Frag} {m : MM} {H : Hp} {x y : Val} {u w : V} (rx : Rep K m H x u) (ry : Rep K m H y w) (h : sameScal x y = true) : scal u w = true ∧ decide (u = w) = eqv x y := by
  cases rx <;> cases ry <;> first
    | (simp only [sameScal, Bool.false_eq_true] at h; done)
    | (refine ⟨rfl, ?_⟩; first | rfl | (simp only [eqv]; first | exact dec_int | exact dec_bl | exact dec_str | rfl))
theorem c_eq (hu : X.A.units + 64 < cLine) : CmpOk X rw W .Eq .eq := by
  refine ⟨_, OpR.or op_eq (op_eqD hu), fun m H S x y u w Q σ hS rx ry h => ?_⟩
  obtain ⟨z, e, h⟩ := h.some
  simp only [op2, eqS] at e
  split at e
  · rename_i hs
    cases e
    obtain ⟨h1, h2⟩ := scal_rep rx ry hs
    refine .inl ⟨h1, ?_⟩
    rw [h2]; exact h.fin hS (.bool _)
  · split at e
    · rename_i hf
      cases e
      rw [Bool.and_eq_true] at hf
      refine .inr ⟨_, _, unl_rep hS rx hf.1, unl_rep hS ry hf.2, fine_shaped hf.1, fine_shaped hf.2, ?_⟩
      rw [eqv_d 60 60 _ _ hf.1 hf.2]
      exact h.fin hS (.bool _)
    · cases e
theorem c_ne (hu : X.A.units + 64 < cLine) : CmpOk X rw W .NotEq .ne := by
  refine ⟨_, OpR.or op_ne (op_neD hu), fun m H S x y u w Q σ hS rx ry h => ?_⟩
  obtain ⟨z, e, h⟩ := h.some
  simp only [op2, eqS] at e
  split at e
  · rename_i hs
    cases e
    obtain ⟨h1, h2⟩ := scal_rep rx ry hs
    refine .inl ⟨h1, ?_⟩
    rw [h2]; exact h.fin hS (.bool _)
  · split at e
    · rename_i hf
      cases e
      rw [Bool.and_eq_true] at hf
      refine .inr ⟨_, _, unl_rep hS rx hf.1, unl_rep hS ry hf.2, fine_shaped hf.1, fine_shaped hf.2, ?_⟩
      rw [eqv_d 60 60 _ _ hf.1 hf.2]
      exact h.fin hS (.bool _)
    · cases e
theorem s_cmp {op : CmpOp} {o : B2} (c : CmpOk X rw W op o) {a b : Expr} {a' b' : E} {pos : Pos} (hm : behindInMarks op b = false) (ha : SE X rw C W a a') (hb : SE X rw C W b b') : SE X rw C W (.Compare a [op] [b] pos) (.bin o a' b') := by
  obtain ⟨r, ho, k⟩ := c
  exact s_bin (fun h1 h2 => pe_cmpR ho h1 h2 hm) ha hb k
theorem op_din (hu : X.A.units + 1 < cLine) : OpR X (compareOp .In) (fun y x H Q => ∃ a o, x = .ref a ∧ DGet H a y o ∧ Q (.bl o.isSome) H) := by
  intro pins s σ H y x v u Q I ry rx ⟨a, o, ex, g, q⟩
  subst ex; cases rx
  exact d_in hu I g ry fun s3 I3 => ⟨.bl _, H, I3, rfl, q⟩
theorem op_dnotin (hu : X.A.units + 1 < cLine) : OpR X (compareOp .NotIn) (fun y x H Q => ∃ a o, x = .ref a ∧ DGet H a y o ∧ Q (.bl (!o.isSome)) H) := by
  intro pins s σ H y x v u Q I ry rx ⟨a, o, ex, g, q⟩
  subst ex; cases rx
  exact d_notIn hu I g ry fun s3 I3 => ⟨.bl _, H, I3, rfl, q⟩
theorem op_inDT (hu : X.A.units + 65 < cLine) : OpR X (compareOp .In) (fun x y H Q => ∃ d ds, Dp X.K H x d ∧ Dp X.K H y (.tuple ds) ∧ SeqAt.shaped d = true ∧ SeqAt.shaped (.tuple ds) = true ∧ Q (.bl (ds.any fun z => PyData.eqv z d)) H) := by
  intro pins s σ H x y v u Q I rx ry h
  obtain ⟨d, ds, hd, he, sd, se, q⟩ := h
  obtain ⟨as, r1⟩ := Dp.reads I d x v hd rx
  obtain ⟨bs, r2⟩ := Dp.reads I (.tuple ds) y u he ry
  exact SeqAt.in_tuple_reads r2 r1 (SeqAt.canLay_of_shaped se) (SeqAt.canLay_of_shaped sd) (room_in_shaped sd hu) ⟨.bl _, H, I, rfl, q⟩
theorem op_notInDT (hu : X.A.units + 65 < cLine) : OpR X (compareOp .NotIn) (fun x y H Q => ∃ d ds, Dp X.K H x d ∧ Dp X.K H y (.tuple ds) ∧ SeqAt.shaped d = true ∧ SeqAt.shaped (.tuple ds) = true ∧ Q (.bl (!ds.any fun z => PyData.eqv z d)) H) := by
  intro pins s σ H x y v u Q I rx ry h
  obtain ⟨d, ds, hd, he, sd, se, q⟩ := h
  obtain ⟨as, r1⟩ := Dp.reads I d x v hd rx
  obtain ⟨bs, r2⟩ := Dp.reads I (.tuple ds) y u he ry
  exact SeqAt.notIn_tuple_reads r2 r1 (SeqAt.canLay_of_shaped se) (SeqAt.canLay_of_shaped sd) (room_in_shaped sd hu) ⟨.bl _, H, I, rfl, q⟩
section
variable {K : PySem.W.Frag} {m : MM} {H : Hp} {S : Store}
theorem RepP.get {κ : Type} [DecidableEq κ] {kvs : List (κ × Val)} {us : List (κ × V)} (r : RepP K m H kvs us) (k : κ) :
    (getK kvs k = none ∧ valV us k = none) ∨ ∃ v u, getK kvs k = some v ∧ valV us k = some u ∧ Rep K m H v u := by
  induction r with
  | nil => exact .inl ⟨rfl, rfl⟩
  | @cons p q ps qs h t ih =>
    by_cases e : p.1 = k
    · refine .inr ⟨p.2, q.2, by simp [getK, List.find?_cons, e], by simp [valV, List.find?_cons, ← h.1, e], h.2⟩
    · have e2 : ¬ q.1 = k := by rw [← h.1]; exact e
      have h1 : getK (p :: ps) k = getK ps k := by simp [getK, List.find?_cons, e]
      have h2 : valV (q :: qs) k = valV qs k := by simp [valV, List.find?_cons, e2]
      rw [h1, h2]; exact ih
theorem RepP.put {κ : Type} [DecidableEq κ] {kvs : List (κ × Val)} {us : List (κ × V)} (r : RepP K m H kvs us) (k : κ) {v : Val} {u : V} (q : Rep K m H v u) : RepP K m H (putK kvs k v) (L2.putK us k u) := by
  have ha : (kvs.any fun kv => decide (kv.1 = k)) = us.any fun kv => decide (kv.1 = k) := by
    induction r with
    | nil => rfl
    | cons h t ih => simp only [List.any_cons, h.1, ih]
  unfold putK L2.putK
  rw [ha]
  split
  · rename_i hc
    clear ha hc
    induction r with
    | nil => exact .nil
    | @cons p w ps qs h t ih =>
      refine .cons ?_ ih
      by_cases e : p.1 = k
      · have e2 : w.1 = k := by rw [← h.1]; exact e
        simp only [e, e2, if_true]; exact ⟨trivial, q⟩
      · have e2 : ¬ w.1 = k := by rw [← h.1]; exact e
        simp only [e, e2, if_false]; exact h
  · rename_i hc
    clear ha hc
    induction r with
    | nil => exact .cons ⟨rfl, q⟩ .nil
    | cons h t ih => exact .cons h ih
theorem RepP.drop {κ : Type} [DecidableEq κ] {kvs : List (κ × Val)} {us : List (κ × V)} (r : RepP K m H kvs us) (k : κ) : RepP K m H (dropK kvs k) (L2.dropK us k) := by
  unfold dropK L2.dropK
  induction r with
  | nil => exact .nil
  | @cons p w ps qs h t ih =>
    by_cases e : p.1 = k
    · have e2 : w.1 = k := by rw [← h.1]; exact e
      simp only [List.filter_cons, e, e2, ne_eq, not_true_eq_false, decide_false, Bool.false_eq_true, if_false]; exact ih
    · have e2 : ¬ w.1 = k := by rw [← h.1]; exact e
      simp only [List.filter_cons, e, e2, ne_eq, not_false_eq_true, decide_true, if_true]; exact .cons h ih
theorem RepP.length {κ : Type} {kvs : List (κ × Val)} {us : List (κ × V)} (r : RepP K m H kvs us) : kvs.length = us.length := Paired.length r
theorem key_rep {y : Val} {w : V} {k : Key} (r : Rep K m H y w) (e : keyOf y = some k) : w = kV k := by
  cases r <;> simp only [keyOf] at e <;> cases e <;> rfl
theorem keys_rep : ∀ {ks : List Val} {us : List V} {k : List Key}, Reps K m H ks us → keysOf ks = some k → us = k.map kV
  | [], _, k, .nil, e => by simp only [keysOf] at e; cases e; rfl
  | v :: vs, _, k, .cons r q, e => by
    simp only [keysOf] at e
    cases e1 : keyOf v with
    | none => rw [e1] at e; simp at e
    | some a => cases e2 : keysOf vs with
      | none => rw [e1, e2] at e; simp at e
      | some b =>
        rw [e1, e2] at e
        cases e
        rw [key_rep r e1, keys_rep q e2]; rfl
def dAsk (S : Store) (n : Nat) (y : Val) : Option (Option Val) := match S[n]? with
  | some (.dictK kvs) => (match keyOf y with | some k => some (getK kvs k) | none => none)
  | some (.dictT kvs) => (match y with | .tup ks => (match keysOf ks with | some k => some (getK kvs k) | none => none) | _ => none)
  | _ => none
theorem dget_rep (hS : SRel K rw m H S) {n : Nat} {y : Val} {a : Addr} {w : V} (ha : m[n]? = some a) (ry : Rep K m H y w) {r : Option Val}
    (e : dAsk S n y = some r) : ∃ o, DGet H a w o ∧ ((r = none ∧ o = none) ∨ ∃ v u, r = some v ∧ o = some u ∧ Rep K m H v u) := by
  unfold dAsk at e
  cases q : S[n]? with
  | none => rw [q] at e; cases e
  | some ob =>
    rw [q] at e
    have b := hS.atA ha q
    cases ob with
    | dictK kvs =>
      obtain ⟨us, h1, h2⟩ := b
      simp only at e
      cases e1 : keyOf y with
      | none => rw [e1] at e; cases e
      | some k =>
        rw [e1] at e; cases e
        rw [key_rep ry e1]
        exact ⟨valV us k, .inl ⟨us, k, h1, rfl, rfl⟩, RepP.get h2 k⟩
    | dictT kvs =>
      obtain ⟨us, h1, h2⟩ := b
      simp only at e
      cases ry <;> simp only at e <;> try cases e
      rename_i b xs vs hb hn hr
      cases e1 : keysOf vs with
      | none => rw [e1] at e; cases e
      | some k =>
        rw [e1] at e; cases e
        rw [keys_rep hr e1] at hb
        exact ⟨valV us k, .inr ⟨us, k, _, h1, rfl, hb, rfl⟩, RepP.get h2 k⟩
    | _ => cases e
end
theorem memV_d : ∀ (n k : Nat) (vs : List Val) (x : Val), fines n vs = true → fine k x = true → ((toDs vs).any fun z => PyData.eqv z (toD x)) = memV vs x
  | _, _, [], _, _, _ => rfl
  | n, k, v :: vs, x, h, h' => by
    simp only [fines, Bool.and_eq_true] at h
    have ih := memV_d n k vs x h.2 h'
    unfold memV at ih ⊢
    simp only [toDs, List.any_cons, eqv_d n k v x h.1 h', ih]
theorem fines_shaped {vs : List Val} (h : fines 59 vs = true) : SeqAt.shaped (.list (toDs vs)) = true ∧ SeqAt.shaped (.tuple (toDs vs)) = true :=
  ⟨fine_shaped (v := .lst vs) (by simpa only [fine] using h), fine_shaped (v := .tup vs) (by simpa only [fine] using h)⟩
theorem isIn_inv {K : PySem.W.Frag} {m : MM} {H : Hp} {S : Store} {x y : Val} {u w : V} {b : Bool} (hS : SRel K rw m H S) (rx : Rep K m H x u) (ry : Rep K m H y w) (e : isIn S x y = some b) :
    (∃ (c : Nat) (z : Str), u = .str ⟨#[c]⟩ ∧ w = .str z ∧ b = decide (c ∈ z.cps.toList)) ∨
    (∃ d ds, Dp K H u d ∧ Dp K H w (.list ds) ∧ SeqAt.shaped d = true ∧ SeqAt.shaped (.list ds) = true ∧ b = ds.any fun z => PyData.eqv z d) ∨
    (∃ d ds, Dp K H u d ∧ Dp K H w (.tuple ds) ∧ SeqAt.shaped d = true ∧ SeqAt.shaped (.tuple ds) = true ∧ b = ds.any fun z => PyData.eqv z d) ∨
    ∃ a o, w = .ref a ∧ DGet H a u o ∧ b = o.isSome := by
  cases y with
  | str z =>
    simp only [isIn] at e
    cases x with
    | str t =>
      simp only at e
      split at e
      · rename_i c hc
        cases e
        cases rep_str rx; cases rep_str ry
        refine .inl ⟨c, z, ?_, rfl, rfl⟩
        obtain ⟨⟨l⟩⟩ := t
        simp only at hc; subst hc; rfl
      · cases e
    | _ => cases e
  | tup vs =>
    simp only [isIn] at e
    split at e
    · rename_i hc
      cases e
      rw [Bool.and_eq_true] at hc
      obtain ⟨a, us, rfl, h1, n1, q1⟩ := rep_tup ry
      exact .inr (.inr (.inl ⟨_, _, rep_dp rx hc.1, .tup (SqT.of h1) (reps_dp q1 hc.2), fine_shaped hc.1, (fines_shaped hc.2).2, (memV_d _ _ _ _ hc.2 hc.1).symm⟩))
    · cases e
  | lst vs =>
    simp only [isIn] at e
    split at e
    · rename_i hc
      cases e
      rw [Bool.and_eq_true] at hc
      obtain ⟨a, us, rfl, h1, n1, q1⟩ := rep_lst ry
      exact .inr (.inl ⟨_, _, rep_dp rx hc.1, .lst (SqL.of h1) (reps_dp q1 hc.2), fine_shaped hc.1, (fines_shaped hc.2).1, (memV_d _ _ _ _ hc.2 hc.1).symm⟩)
    · cases e
  | loc n =>
    obtain ⟨a, rfl, ha⟩ := rep_loc ry
    simp only [isIn] at e
    cases q : S[n]? with
    | none => rw [q] at e; cases e
    | some ob =>
      rw [q] at e
      cases ob with
      | list vs =>
        simp only at e
        split at e
        · rename_i hc
          cases e
          rw [Bool.and_eq_true] at hc
          obtain ⟨us, h1, q1⟩ := hS.atA ha q
          exact .inr (.inl ⟨_, _, rep_dp rx hc.1, .lst (SqL.of h1) (reps_dp q1 hc.2), fine_shaped hc.1, (fines_shaped hc.2).1, (memV_d _ _ _ _ hc.2 hc.1).symm⟩)
        · cases e
      | dictK kvs =>
        simp only at e
        cases e1 : keyOf x with
        | none => rw [e1] at e; cases e
        | some k =>
          rw [e1] at e; cases e
          obtain ⟨o, g, ho⟩ := dget_rep hS ha rx (r := getK kvs k) (by unfold dAsk; rw [q]; simp only [e1])
          refine .inr (.inr (.inr ⟨a, o, rfl, g, ?_⟩))
          rcases ho with ⟨h1, h2⟩ | ⟨v, u', h1, h2, _⟩ <;> rw [h1, h2] <;> rfl
      | dictT kvs =>
        simp only at e
        cases x with
        | tup ks =>
          simp only at e
          cases e1 : keysOf ks with
          | none => rw [e1] at e; cases e
          | some k =>
            rw [e1] at e; cases e
            obtain ⟨o, g, ho⟩ := dget_rep hS ha rx (r := getK kvs k) (by unfold dAsk; rw [q]; simp only [e1])
            refine .inr (.inr (.inr ⟨a, o, rfl, g, ?_⟩))
            rcases ho with ⟨h1, h2⟩ | ⟨v, u', h1, h2, _⟩ <;> rw [h1, h2] <;> rfl
        | _ => cases e
      | _ => cases e
  | _ => simp only [isIn] at e; cases e
theorem c_in (hu : X.A.units + 65 < cLine) : CmpOk X rw W .In .isin := by
  refine ⟨_, OpR.or op_in_sign (OpR.or (op_inD hu) (OpR.or (op_inDT hu) (op_din (by omega)))), fun m H S x y u w Q σ hS rx ry h => ?_⟩
  obtain ⟨z, e, h⟩ := h.some
  simp only [op2] at e
  cases e1 : isIn S x y with
  | none => rw [e1] at e; cases e
  | some b =>
    rw [e1] at e; cases e
    have q := h.fin hS (.bool b)
    rcases isIn_inv hS rx ry e1 with ⟨c, z, h1, h2, rfl⟩ | ⟨d, ds, h1, h2, h3, h4, rfl⟩ | ⟨d, ds, h1, h2, h3, h4, rfl⟩ | ⟨a, o, h1, h2, rfl⟩
    · exact .inl ⟨c, z, h1, h2, q⟩
    · exact .inr (.inl ⟨d, ds, h1, h2, h3, h4, q⟩)
    · exact .inr (.inr (.inl ⟨d, ds, h1, h2, h3, h4, q⟩))
    · exact .inr (.inr (.inr ⟨a, o, h1, h2, q⟩))
theorem c_notin (hu : X.A.units + 65 < cLine) : CmpOk X rw W .NotIn .notin := by
  refine ⟨_, OpR.or op_notIn_sign (OpR.or (op_notInD hu) (OpR.or (op_notInDT hu) (op_dnotin (by omega)))), fun m H S x y u w Q σ hS rx ry h => ?_⟩
  obtain ⟨z, e, h⟩ := h.some
  simp only [op2] at e
  cases e1 : isIn S x y with
  | none => rw [e1] at e; cases e
  | some b =>
    rw [e1] at e; cases e
    have q := h.fin hS (.bool (!b))
    rcases isIn_inv hS rx ry e1 with ⟨c, z, h1, h2, rfl⟩ | ⟨d, ds, h1, h2, h3, h4, rfl⟩ | ⟨d, ds, h1, h2, h3, h4, rfl⟩ | ⟨a, o, h1, h2, rfl⟩
    · exact .inl ⟨c, z, h1, h2, q⟩
    · exact .inr (.inl ⟨d, ds, h1, h2, h3, h4, q⟩)
    · exact .inr (.inr (.inl ⟨d, ds, h1, h2, h3, h4, q⟩))
    · exact .inr (.inr (.inr ⟨a, o, h1, h2, q⟩))
end
end HI
set_option Elab.async false
set_option linter.all false
set_option maxRecDepth 100000
namespace HI
open PySem PySem.Spec PyProof.Rows L2
section
variable {X : Cx} {C : CallT} {W : WX} {rw : Bool}
theorem Out.bindE {α β α' β' : Type} {K : PySem.W.Frag} {m : MM} {H : Hp} {σ : L2.St} {R : MM → Hp → α → β → Prop} {R' : MM → Hp → α' → β' → Prop} {Q : β → Hp → Prop} {Q' : β' → Hp → Prop}
    {r : Res α'} {f : α' → Store → Res α} (h : Out K rw m H σ W R (r.bind f) Q)
    (k : ∀ v S1 m1 H1 u, r = .ok v S1 → Ext rw m H m1 H1 → SRel K rw m1 H1 S1 → R' m1 H1 v u → Out K rw m1 H1 σ W R (f v S1) Q → Q' u H1) : Out K rw m H σ W R' r Q' := by
  cases r with
  | ok v S' => exact fun m1 H1 u x s q => k v S' m1 H1 u rfl x s q (Out.ext (r := f v S') h x)
  | exc c S' => exact h
  | stuck => exact h
theorem s_bin2 {e : Expr} {a' b' : E} {r1 r2 : R2} {op : B2} (h1 : PE X e (tOp r1 (rdE X.K rw C W a') (rdE X.K rw C W b'))) (h2 : PE X e (tOp r2 (rdE X.K rw C W a') (rdE X.K rw C W b'))) (P : Store → Val → Val → Prop)
    (k1 : ∀ m H S x y u w Q σ, P S x y → SRel X.K rw m H S → Rep X.K m H x u → Rep X.K m H y w → Out X.K rw m H σ W (Rep X.K) (ofO (op2 S op x y) S) Q → r1 u w H Q)
    (k2 : ∀ m H S x y u w Q σ, ¬ P S x y → SRel X.K rw m H S → Rep X.K m H x u → Rep X.K m H y w → Out X.K rw m H σ W (Rep X.K) (ofO (op2 S op x y) S) Q → r2 u w H Q) : SE X rw C W e (.bin op a' b') := by
  refine PE.wk (PE.or h1 h2) fun σ H Q ⟨m, S, ρ, hS, hE, h⟩ => ?_
  simp only [ev] at h
  by_cases hp : ∀ x S1 y S2, ev C a' ρ S = .ok x S1 → ev C b' ρ S1 = .ok y S2 → P S2 x y
  · refine .inl ⟨m, S, ρ, hS, hE, Out.bindE h fun x S1 m1 H1 u e1 x1 s1 r1 h1 => ⟨m1, S1, ρ, s1, hE.ext x1, Out.bindE h1 fun y S2 m2 H2 w e2 x2 s2 r2 h2 => ?_⟩⟩
    exact k1 m2 H2 S2 x y u w Q σ (hp x S1 y S2 e1 e2) s2 (r1.ext x2) r2 h2
  · refine .inr ⟨m, S, ρ, hS, hE, Out.bindE h fun x S1 m1 H1 u e1 x1 s1 r1 h1 => ⟨m1, S1, ρ, s1, hE.ext x1, Out.bindE h1 fun y S2 m2 H2 w e2 x2 s2 r2 h2 => ?_⟩⟩
    refine k2 m2 H2 S2 x y u w Q σ (fun z => hp fun x' S1' y' S2' e1' e2' => ?_) s2 (r1.ext x2) r2 h2
    rw [e1] at e1'; cases e1'
    rw [e2] at e2'; cases e2'
    exact z
def isDict (S : Store) : Val → Prop
  | .loc n => match S[n]? with
    | some (.dictK _) => True
    | some (.dictT _) => True
    | _ => False
  | _ => False
theorem Reps.atI {K : PySem.W.Frag} {m : MM} {H : Hp} {vs : List Val} {us : List V} (r : Reps K m H vs us) {i : Int} {v : Val} (h : L2.atI vs i = some v) : ∃ u, L2.atI us i = some u ∧ Rep K m H v u := by
  unfold L2.atI at h ⊢
  rw [← r.length]
  cases e : L2.ixN vs.length i with
  | none => rw [e] at h; cases h
  | some j => rw [e] at h; exact r.get h
theorem atI_map {α β : Type} (f : α → β) (xs : List α) (i : Int) : L2.atI (xs.map f) i = (L2.atI xs i).map f := by
  unfold L2.atI
  rw [List.length_map]
  cases L2.ixN xs.length i with
  | none => rfl
  | some j => simp
theorem s_item (hu : X.A.units + 1 < cLine) {a b : Expr} {a' b' : E} {pos : Pos} (hs : PlainIx b) (hn : NoSl b) (ha : SE X rw C W a a') (hb : SE X rw C W b b') : SE X rw C W (.Subscript a b pos) (.bin .item a' b') := by
  refine s_bin2 (pe_dget hu ha hb hn) (pe_ix ix_seq ha hb hs) (fun S x _ => isDict S x) (fun m H S x y u w Q σ hd hS rx ry h => ?_) (fun m H S x y u w Q σ hd hS rx ry h => ?_)
  · obtain ⟨z, e, hf⟩ := h.some
    clear h
    simp only [op2] at e
    cases x <;> try exact hd.elim
    rename_i n
    obtain ⟨a, rfl, ha⟩ := rep_loc rx
    simp only [isDict] at hd
    simp only [getItem] at e
    have e2 : dAsk S n y = some (some z) := by
      unfold dAsk
      cases q : S[n]? with
      | none => rw [q] at hd; exact hd.elim
      | some ob =>
        rw [q] at hd e
        cases ob with
        | dictK kvs =>
          simp only at e ⊢
          cases e1 : keyOf y with
          | none => rw [e1] at e; cases e
          | some k => rw [e1] at e; simp only at e ⊢; rw [e]
        | dictT kvs =>
          simp only at e ⊢
          cases y <;> simp only at e <;> try cases e
          rename_i ks
          simp only
          cases e1 : keysOf ks with
          | none => rw [e1] at e; cases e
          | some k => rw [e1] at e; simp only at e ⊢; rw [e]
        | _ => exact hd.elim
    obtain ⟨o, g, ho⟩ := dget_rep hS ha ry e2
    rcases ho with ⟨h1, h2⟩ | ⟨v, u', h1, h2, h3⟩
    · cases h1
    · cases h1; subst h2
      exact ⟨a, u', rfl, g, hf.fin hS h3⟩
  · obtain ⟨z, e, hf⟩ := h.some
    clear h
    simp only [op2] at e
    have lists : ∀ {vs : List Val} {us : List V} {a : Addr}, u = .ref a → H a = some (.lst us) → Reps X.K m H vs us → atV vs y = some z → rIx X.K u w H Q := by
      intro vs us a e1 e2 q e3
      cases y <;> simp only [atV] at e3 <;> try cases e3
      cases rep_int ry
      obtain ⟨u', h1, h2⟩ := q.atI e3
      exact .inl ⟨a, us, _, u', e1, rfl, SqL.of e2, h1, hf.fin hS h2⟩
    cases x with
    | tup vs =>
      obtain ⟨a, us, rfl, h1, n1, q1⟩ := rep_tup rx
      simp only [getItem] at e
      cases y <;> simp only [atV] at e <;> try cases e
      cases rep_int ry
      obtain ⟨u', h3, h4⟩ := q1.atI e
      exact .inr (.inl ⟨a, us, _, u', rfl, rfl, SqT.of h1, h3, hf.fin hS h4⟩)
    | lst vs =>
      obtain ⟨a, us, rfl, h1, n1, q1⟩ := rep_lst rx
      exact lists rfl h1 q1 e
    | scr ns =>
      simp only [getItem] at e
      cases y <;> simp only at e <;> try cases e
      cases rep_int ry
      rename_i k
      cases e1 : L2.atI ns k with
      | none => rw [show atI ns k = none from e1] at e; cases e
      | some i =>
        rw [show atI ns k = some i from e1] at e; cases e
        cases rx with
        | scr h1 n1 => exact .inl ⟨_, _, k, .int i, rfl, rfl, .inl h1, by rw [atI_map, e1]; rfl, hf.fin hS (.int i)⟩
        | scrK h1 => exact .inl ⟨_, _, k, .int i, rfl, rfl, h1 H, by rw [atI_map, e1]; rfl, hf.fin hS (.int i)⟩
    | str s =>
      cases rep_str rx
      simp only [getItem] at e
      cases y <;> simp only at e <;> try cases e
      cases rep_int ry
      rename_i k
      split at e
      · rename_i hl
        cases e1 : L2.atI s.cps.toList k with
        | none => rw [show atI s.cps.toList k = none from e1] at e; cases e
        | some i =>
          rw [show atI s.cps.toList k = some i from e1] at e; cases e
          exact .inr (.inr ⟨s, k, i, rfl, rfl, by rw [← lim_eq]; exact hl, e1, hf.fin hS (.str _)⟩)
      · cases e
    | loc n =>
      obtain ⟨a, rfl, ha⟩ := rep_loc rx
      simp only [getItem] at e
      simp only [isDict] at hd
      cases q : S[n]? with
      | none => rw [q] at e; cases e
      | some ob =>
        rw [q] at e hd
        cases ob with
        | list vs =>
          obtain ⟨us, h1, q1⟩ := hS.atA ha q
          exact lists rfl h1 q1 e
        | dictK kvs => exact (hd trivial).elim
        | dictT kvs => exact (hd trivial).elim
        | _ => cases e
    | _ => simp only [getItem] at e; cases e
theorem s_un {e a : Expr} {a' : E} {r : List V → Hp → VK → Prop} {op : U1} (h : PE X e (tCB r (tCons (rdE X.K rw C W a') tNil)))
    (k : ∀ m H S x u Q σ, SRel X.K rw m H S → Rep X.K m H x u → Out X.K rw m H σ W (Rep X.K) (ofO (op1 S op x) S) Q → r [u] H Q) : SE X rw C W e (.un op a') := by
  refine PE.wk h fun σ H Q ⟨m, S, ρ, hS, hE, h⟩ => ?_
  simp only [ev] at h
  exact ⟨m, S, ρ, hS, hE, Out.bind h fun x S1 m1 H1 u x1 s1 r1 h1 => k m1 H1 S1 x u Q σ s1 r1 h1⟩
theorem k_len {m : MM} {H : Hp} {S : Store} {x : Val} {u : V} {Q : VK} {σ : L2.St} (hS : SRel X.K rw m H S) (rx : Rep X.K m H x u) (h : Out X.K rw m H σ W (Rep X.K) (ofO (op1 S .len x) S) Q) :
    ∃ x n, [u] = [x] ∧ LenV X.K x H n ∧ Q (.int n) H := by
  obtain ⟨z, e, h⟩ := h.some
  cases x with
  | str s =>
    cases rep_str rx
    simp only [op1] at e
    split at e
    · rename_i hl
      cases e
      exact ⟨_, s.length, rfl, ⟨by rw [← lim_eq]; exact hl, rfl⟩, h.fin hS (.int _)⟩
    · cases e
  | tup vs =>
    obtain ⟨a, us, rfl, h1, n1, q1⟩ := rep_tup rx
    simp only [op1] at e; cases e
    exact ⟨_, us.length, rfl, .inr ⟨us, SqT.of h1, rfl⟩, by rw [← q1.length]; exact h.fin hS (.int _)⟩
  | lst vs =>
    obtain ⟨a, us, rfl, h1, n1, q1⟩ := rep_lst rx
    simp only [op1] at e; cases e
    exact ⟨_, us.length, rfl, .inl ⟨us, SqL.of h1, rfl⟩, by rw [← q1.length]; exact h.fin hS (.int _)⟩
  | scr ns =>
    simp only [op1] at e; cases e
    have q := h.fin hS (.int (ns.length : Int))
    cases rx with
    | scr h1 n1 => exact ⟨_, ns.length, rfl, .inl ⟨_, .inl h1, by rw [List.length_map]⟩, q⟩
    | scrK h1 => exact ⟨_, ns.length, rfl, .inl ⟨_, h1 H, by rw [List.length_map]⟩, q⟩
  | loc n =>
    obtain ⟨a, rfl, ha⟩ := rep_loc rx
    simp only [op1] at e
    cases q : S[n]? with
    | none => rw [q] at e; cases e
    | some ob =>
      rw [q] at e
      cases ob with
      | list vs =>
        cases e
        obtain ⟨us, h1, q1⟩ := hS.atA ha q
        exact ⟨_, us.length, rfl, .inl ⟨us, SqL.of h1, rfl⟩, by rw [← q1.length]; exact h.fin hS (.int _)⟩
      | _ => cases e
  | _ => simp only [op1] at e; cases e
end
end HI
set_option Elab.async false
set_option linter.all false
set_option maxRecDepth 100000
namespace HI
open PySem PySem.Spec PyProof.Rows L2
section
variable {X : Cx} {C : CallT} {W : WX} {rw : Bool}
def NoStar (e : Expr) : Prop := ∀ (es : List Expr) (env : PySem.Env), starEach (e :: es) env = (false, eval e env) :: starEach es env
def notStarred : Expr → Bool
  | .Starred _ _ => false
  | _ => true
theorem noStar_of {e : Expr} (h : notStarred e = true) : NoStar e := by
  intro es env
  cases e <;> first | rfl | (simp [notStarred] at h)
theorem backTo_nil (pos : Pos) (env : PySem.Env) : (backTo pos (starEach [] env)).any (·.1) = false := rfl
theorem backTo_of {es : List Expr} (h : es.all notStarred = true) (pos : Pos) (env : PySem.Env) : (backTo pos (starEach es env)).any (·.1) = false := by
  induction es with
  | nil => rfl
  | cons e es ih =>
    simp only [List.all_cons, Bool.and_eq_true] at h
    rw [noStar_of h.1 es env]
    show ((false, _) :: backTo pos (starEach es env)).any (·.1) = false
    rw [List.any_cons, ih h.2]; rfl
theorem s_un1 {op : U1} {id : String} {x : Str} {r : List V → Hp → VK → Prop} {a : Expr} {a' : E} {p pos : Pos} (hc : CallR X (.builtin id) r) (hg : Gl X x) (hm : X.mg x = none) (hv : bootBuiltins x = some (.builtin id)) (ns : notStarred a = true) (ha : SE X rw C W a a')
    (k : ∀ m H S x u Q σ, SRel X.K rw m H S → Rep X.K m H x u → Out X.K rw m H σ W (Rep X.K) (ofO (op1 S op x) S) Q → r [u] H Q) (hn : x ≠ "__name__") (hdb : (x == ("__debug__" : Str)) = false) : SE X rw C W (.Call (.Name x p) [a] [] pos) (.un op a') :=
  s_un (a := a) (pe_callB hc hg hm hv (pa_cons ha pa_nil (noStar_of ns _ _)) hn hdb (noStar_of ns _ _) (backTo_nil _ _)) k
theorem s_unT {op : U1} {T : String} {x : Str} {r : List V → Hp → VK → Prop} {a : Expr} {a' : E} {p pos : Pos} (hc : CallR X (.type T) r) (hg : Gl X x) (hm : X.mg x = none) (hv : bootBuiltins x = some (.type T)) (ns : notStarred a = true) (ha : SE X rw C W a a')
    (k : ∀ m H S x u Q σ, SRel X.K rw m H S → Rep X.K m H x u → Out X.K rw m H σ W (Rep X.K) (ofO (op1 S op x) S) Q → r [u] H Q) (hn : x ≠ "__name__") (hdb : (x == ("__debug__" : Str)) = false) : SE X rw C W (.Call (.Name x p) [a] [] pos) (.un op a') :=
  s_un (a := a) (pe_callTy hc hg hm hv (pa_cons ha pa_nil (noStar_of ns _ _)) hn hdb (noStar_of ns _ _) (backTo_nil _ _)) k
section
variable {m : MM} {H : Hp} {S : Store} {x : Val} {u : V} {Q : VK} {σ : L2.St} {K : PySem.W.Frag}
theorem lstOf_rep (hS : SRel K rw m H S) (rx : Rep K m H x u) {vs : List Val} (e : lstOf S x = some vs) : ∃ a us, u = .ref a ∧ H a = some (.lst us) ∧ Reps K m H vs us := by
  cases x with
  | lst ws =>
    simp only [lstOf] at e; cases e
    obtain ⟨a, us, h1, h2, _, h3⟩ := rep_lst rx
    exact ⟨a, us, h1, h2, h3⟩
  | loc n =>
    simp only [lstOf] at e
    obtain ⟨a, rfl, ha⟩ := rep_loc rx
    cases q : S[n]? with
    | none => rw [q] at e; cases e
    | some ob =>
      rw [q] at e
      cases ob with
      | list ws =>
        cases e
        obtain ⟨us, h1, q1⟩ := hS.atA ha q
        exact ⟨a, us, rfl, h1, q1⟩
      | _ => cases e
  | _ => simp only [lstOf] at e; cases e
theorem k_tuple (hS : SRel X.K rw m H S) (rx : Rep X.K m H x u) (h : Out X.K rw m H σ W (Rep X.K) (ofO (op1 S .tuple x) S) Q) :
    ∃ p ys, [u] = [V.ref p] ∧ ((SqL X.K H p ys ∧ ∀ l, H l = none → Q (.ref l) (upd H l (.tup ys))) ∨ (SqT X.K H p ys ∧ Q (.ref p) H)) := by
  obtain ⟨z, e, hf⟩ := h.some
  have lists : ∀ {vs}, lstOf S x = some vs → z = .tup vs → ∃ p ys, [u] = [V.ref p] ∧ ((SqL X.K H p ys ∧ ∀ l, H l = none → Q (.ref l) (upd H l (.tup ys))) ∨ (SqT X.K H p ys ∧ Q (.ref p) H)) := by
    intro vs e1 e2
    subst e2
    obtain ⟨a, us, rfl, h1, q1⟩ := lstOf_rep hS rx e1
    exact ⟨a, us, rfl, .inl ⟨SqL.of h1, fun l hl => fin_tup hf hS q1 hl⟩⟩
  cases x with
  | tup vs =>
    simp only [op1] at e; cases e
    obtain ⟨a, us, rfl, h1, n1, q1⟩ := rep_tup rx
    exact ⟨a, us, rfl, .inr ⟨SqT.of h1, hf.fin hS rx⟩⟩
  | lst vs => simp only [op1] at e; cases e; exact lists rfl rfl
  | loc n =>
    simp only [op1] at e
    cases q : S[n]? with
    | none => rw [q] at e; cases e
    | some ob =>
      rw [q] at e
      cases ob with
      | list ws => cases e; exact lists (by simp only [lstOf, q]) rfl
      | _ => cases e
  | _ => simp only [op1] at e; cases e
theorem k_list (hS : SRel X.K rw m H S) (rx : Rep X.K m H x u) (h : Out X.K rw m H σ W (Rep X.K) (ofO (op1 S .list x) S) Q) :
    ∃ p ys, [u] = [V.ref p] ∧ (SqL X.K H p ys ∨ SqT X.K H p ys) ∧ ∀ l, H l = none → Q (.ref l) (upd H l (.lst ys)) := by
  obtain ⟨z, e, hf⟩ := h.some
  have lists : ∀ {vs}, lstOf S x = some vs → z = .lst vs → ∃ p ys, [u] = [V.ref p] ∧ (SqL X.K H p ys ∨ SqT X.K H p ys) ∧ ∀ l, H l = none → Q (.ref l) (upd H l (.lst ys)) := by
    intro vs e1 e2
    subst e2
    obtain ⟨a, us, rfl, h1, q1⟩ := lstOf_rep hS rx e1
    exact ⟨a, us, rfl, .inl (SqL.of h1), fun l hl => fin_lst hf hS q1 hl⟩
  cases x with
  | tup vs =>
    simp only [op1] at e; cases e
    obtain ⟨a, us, rfl, h1, n1, q1⟩ := rep_tup rx
    exact ⟨a, us, rfl, .inr (SqT.of h1), fun l hl => fin_lst hf hS q1 hl⟩
  | lst vs => simp only [op1] at e; cases e; exact lists rfl rfl
  | loc n =>
    simp only [op1] at e
    cases q : S[n]? with
    | none => rw [q] at e; cases e
    | some ob =>
      rw [q] at e
      cases ob with
      | list ws => cases e; exact lists (by simp only [lstOf, q]) rfl
      | _ => cases e
  | _ => simp only [op1] at e; cases e
theorem intsOf_eq : ∀ {vs : List Val} {ns : List Int}, intsOf vs = some ns → vs = ns.map .int
  | [], ns, h => by simp only [intsOf] at h; cases h; rfl
  | v :: vs, ns, h => by
    cases v <;> simp only [intsOf] at h <;> try cases h
    cases e : intsOf vs with
    | none => rw [e] at h; cases h
    | some ms => rw [e] at h; cases h; rw [intsOf_eq e]; rfl
theorem strsOf_eq : ∀ {vs : List Val} {ns : List Str}, strsOf vs = some ns → vs = ns.map .str
  | [], ns, h => by simp only [strsOf] at h; cases h; rfl
  | v :: vs, ns, h => by
    cases v <;> simp only [strsOf] at h <;> try cases h
    cases e : strsOf vs with
    | none => rw [e] at h; cases h
    | some ms => rw [e] at h; cases h; rw [strsOf_eq e]; rfl
theorem k_sum (hS : SRel X.K rw m H S) (rx : Rep X.K m H x u) (h : Out X.K rw m H σ W (Rep X.K) (ofO (op1 S .sum x) S) Q) : rSum X.K [u] H Q := by
  obtain ⟨z, e, hf⟩ := h.some
  cases x <;> simp only [op1] at e <;> try cases e
  rename_i vs
  cases e1 : intsOf vs with
  | none => rw [e1] at e; cases e
  | some ns =>
    rw [e1] at e; cases e
    obtain ⟨a, us, rfl, h1, n1, q1⟩ := rep_lst rx
    rw [intsOf_eq e1] at q1
    rw [q1.ints] at h1
    exact ⟨a, ns, rfl, SqL.of h1, hf.fin hS (.int _)⟩
theorem k_str (hS : SRel X.K rw m H S) (rx : Rep X.K m H x u) (h : Out X.K rw m H σ W (Rep X.K) (ofO (op1 S .str x) S) Q) :
    (∃ i, [u] = [V.int i] ∧ i.natAbs.log2 < 1920 ∧ Q (.str (toString i)) H) ∨ ∃ a, [u] = [V.str a] ∧ Q (.str a) H := by
  obtain ⟨z, e, hf⟩ := h.some
  cases x <;> simp only [op1] at e <;> try cases e
  · split at e
    · cases e
      cases rep_int rx
      exact .inl ⟨_, rfl, by assumption, hf.fin hS (.str _)⟩
    · cases e
  · cases rep_str rx
    exact .inr ⟨_, rfl, hf.fin hS (.str _)⟩
theorem k_int (hS : SRel X.K rw m H S) (rx : Rep X.K m H x u) (h : Out X.K rw m H σ W (Rep X.K) (ofO (op1 S .int x) S) Q) :
    ((∃ i, [u] = [V.int i] ∧ Q (.int i) H) ∨ ∃ k, [u] = [V.bl k] ∧ Q (.int (if k then 1 else 0)) H) ∨ ∃ a n, [u] = [V.str a] ∧ PySem.intText? a = some n ∧ a.length ≤ 640 ∧ Q (.int n) H := by
  obtain ⟨z, e, hf⟩ := h.some
  cases x <;> simp only [op1] at e <;> try cases e
  · cases rep_bool rx
    exact .inl (.inr ⟨_, rfl, hf.fin hS (.int _)⟩)
  · cases rep_int rx
    exact .inl (.inl ⟨_, rfl, hf.fin hS (.int _)⟩)
  · rename_i s
    cases e1 : PySem.intText? s with
    | none => rw [e1] at e; cases e
    | some n =>
      rw [e1] at e
      simp only at e
      split at e
      · cases e
        cases rep_str rx
        exact .inr ⟨s, n, rfl, e1, by assumption, hf.fin hS (.int _)⟩
      · cases e
end
theorem s_is {op : CmpOp} {o : U1} {r : R2} {a b : Expr} {a' : E} {w : V} {pos : Pos} (ho : OpR X (compareOp op) r) (ha : SE X rw C W a a') (hb : PE X b (tC w)) (hm : behindInMarks op b = false)
    (k : ∀ m H S x u Q σ, SRel X.K rw m H S → Rep X.K m H x u → Out X.K rw m H σ W (Rep X.K) (ofO (op1 S o x) S) Q → r u w H Q) : SE X rw C W (.Compare a [op] [b] pos) (.un o a') := by
  refine PE.wk (pe_cmpR ho ha hb hm) fun σ H Q ⟨m, S, ρ, hS, hE, h⟩ => ?_
  simp only [ev] at h
  exact ⟨m, S, ρ, hS, hE, Out.bind h fun x S1 m1 H1 u x1 s1 r1 h1 => k m1 H1 S1 x u Q σ s1 r1 h1⟩
theorem s_isNone {a : Expr} {a' : E} {j : Nat} {pos p2 : Pos} (ha : SE X rw C W a a') : SE X rw C W (.Compare a [.Is] [.Constant .none j p2] pos) (.un .isNone a') :=
  s_is op_isN ha pe_non rfl fun m H S x u Q σ hS rx h => by
    obtain ⟨z, e, hf⟩ := h.some
    refine ⟨rfl, ?_⟩
    cases rx <;> simp only [op1] at e <;> cases e <;> exact hf.fin hS (.bool _)
theorem s_notNone {a : Expr} {a' : E} {j : Nat} {pos p2 : Pos} (ha : SE X rw C W a a') : SE X rw C W (.Compare a [.IsNot] [.Constant .none j p2] pos) (.un .notNone a') :=
  s_is op_notN ha pe_non rfl fun m H S x u Q σ hS rx h => by
    obtain ⟨z, e, hf⟩ := h.some
    refine ⟨rfl, ?_⟩
    cases rx <;> simp only [op1] at e <;> cases e <;> exact hf.fin hS (.bool _)
theorem s_isB {a : Expr} {a' : E} {b : Bool} {j : Nat} {pos p2 : Pos} (ha : SE X rw C W a a') : SE X rw C W (.Compare a [.Is] [.Constant (.bool b) j p2] pos) (.un (.isB b) a') :=
  s_is op_isBl ha pe_bl rfl fun m H S x u Q σ hS rx h => by
    obtain ⟨z, e, hf⟩ := h.some
    cases x <;> simp only [op1] at e <;> try cases e
    cases rep_bool rx
    exact ⟨_, _, rfl, rfl, hf.fin hS (.bool _)⟩
theorem s_notB {a : Expr} {a' : E} {b : Bool} {j : Nat} {pos p2 : Pos} (ha : SE X rw C W a a') : SE X rw C W (.Compare a [.IsNot] [.Constant (.bool b) j p2] pos) (.un (.notB b) a') :=
  s_is op_notBl ha pe_bl rfl fun m H S x u Q σ hS rx h => by
    obtain ⟨z, e, hf⟩ := h.some
    cases x <;> simp only [op1] at e <;> try cases e
    cases rep_bool rx
    exact ⟨_, _, rfl, rfl, hf.fin hS (.bool _)⟩
theorem tru_rep {K : PySem.W.Frag} {m : MM} {H : Hp} {S : Store} {x : Val} {u : V} {b : Bool} (hS : SRel K rw m H S) (rx : Rep K m H x u) (e : truthy S x = some b) : TruV K u H b := by
  cases x with
  | non => cases rx; simp only [truthy] at e; cases e; exact (rfl : false = false)
  | bool c => cases rx; simp only [truthy] at e; cases e; exact Eq.refl b
  | int i => cases rx; simp only [truthy] at e; cases e; exact (rfl : (i != 0) = (i != 0))
  | str s =>
    cases rx
    simp only [truthy] at e
    split at e
    · rename_i hl
      cases e
      refine ⟨by rw [← lim_eq]; exact hl, ?_⟩
      cases q : s.length with
      | zero => rfl
      | succ n => simp; omega
    · cases e
  | tup vs =>
    obtain ⟨a, us, rfl, h1, n1, q1⟩ := rep_tup rx
    simp only [truthy] at e; cases e
    refine .inr (.inl ⟨us, SqT.of h1, ?_⟩)
    cases q1 <;> rfl
  | lst vs =>
    obtain ⟨a, us, rfl, h1, n1, q1⟩ := rep_lst rx
    simp only [truthy] at e; cases e
    refine .inl ⟨us, SqL.of h1, ?_⟩
    cases q1 <;> rfl
  | scr ns => simp only [truthy] at e; cases e
  | loc n =>
    obtain ⟨a, rfl, ha⟩ := rep_loc rx
    simp only [truthy] at e
    cases q : S[n]? with
    | none => rw [q] at e; cases e
    | some ob =>
      rw [q] at e
      cases ob with
      | list ws =>
        cases e
        obtain ⟨us, h1, q1⟩ := hS.atA ha q
        refine .inl ⟨us, SqL.of h1, ?_⟩
        cases q1 <;> rfl
      | _ => cases e
def plainTest : E → Bool
  | .and _ _ => false
  | .or _ _ => false
  | .not _ => false
  | _ => true
theorem evT_plain {e : E} (h : plainTest e = true) (ρ : Env) (S : Store) : evT C e ρ S = (ev C e ρ S).bind fun x S1 => ofO (truthy S1 x) S1 := by
  cases e <;> first | (simp [plainTest] at h; done) | (simp only [evT]; done)
theorem t_val {a : Expr} {a' : E} (hp : plainTest a' = true) (he : ∀ whole, isTrue a X.env whole = (do let v ← whole; standAt a.pos; holding [v] (PySem.truthy v))) (ha : SE X rw C W a a') : ST X rw C W a a' := by
  refine PT.wk (pt_truth ha he) fun σ H Q ⟨m, S, ρ, hS, hE, h⟩ => ?_
  rw [evT_plain hp] at h
  refine ⟨m, S, ρ, hS, hE, Out.bind h fun x S1 m1 H1 u x1 s1 r1 h1 => ?_⟩
  obtain ⟨b, e, hf⟩ := h1.some
  exact ⟨b, tru_rep s1 r1 e, hf.fin s1 rfl⟩
theorem t_not {a : Expr} {a' : E} {pos : Pos} (ha : ST X rw C W a a') : ST X rw C W (.UnaryOp .Not a pos) (.not a') := by
  refine PT.wk (pt_not ha) fun σ H Q ⟨m, S, ρ, hS, hE, h⟩ => ?_
  simp only [evT] at h
  refine ⟨m, S, ρ, hS, hE, Out.bind h fun x S1 m1 H1 u x1 s1 r1 h1 => ?_⟩
  subst r1
  exact h1.fin s1 rfl
theorem Res.bind_assoc {α β γ : Type} (r : Res α) (f : α → Store → Res β) (g : β → Store → Res γ) : (r.bind f).bind g = r.bind fun v S => (f v S).bind g := by cases r <;> rfl
def cmpB : B2 → Bool
  | .eq | .ne | .lt | .le | .gt | .ge | .isin | .notin => true
  | _ => false
theorem op2_bool {S : Store} {o : B2} {x y z : Val} (h : cmpB o = true) (e : op2 S o x y = some z) : ∃ b, z = .bool b := by
  cases o <;> simp only [cmpB, Bool.false_eq_true] at h
  case eq => simp only [op2, Option.map_eq_some_iff] at e; obtain ⟨b, _, rfl⟩ := e; exact ⟨_, rfl⟩
  case ne => simp only [op2, Option.map_eq_some_iff] at e; obtain ⟨b, _, rfl⟩ := e; exact ⟨_, rfl⟩
  case isin => simp only [op2, Option.map_eq_some_iff] at e; obtain ⟨b, _, rfl⟩ := e; exact ⟨_, rfl⟩
  case notin => simp only [op2, Option.map_eq_some_iff] at e; obtain ⟨b, _, rfl⟩ := e; exact ⟨_, rfl⟩
  all_goals (cases x <;> cases y <;> simp only [op2] at e <;> cases e <;> exact ⟨_, rfl⟩)
theorem ofO_ok {α : Type} {o : Option α} {S S' : Store} {z : α} (h : ofO o S = .ok z S') : o = some z ∧ S' = S := by
  cases o with
  | none => cases h
  | some a => cases h; exact ⟨rfl, rfl⟩
theorem t_cmp {op : CmpOp} {o : B2} (c : CmpOk X rw W op o) (hc : cmpB o = true) {a b : Expr} {a' b' : E} {pos : Pos} (hm : behindInMarks op b = false) (ha : SE X rw C W a a') (hb : SE X rw C W b b') : ST X rw C W (.Compare a [op] [b] pos) (.bin o a' b') := by
  obtain ⟨r, ho, k⟩ := c
  refine PT.wk (pt_cmpR ho ha hb hm) fun σ H Q ⟨m, S, ρ, hS, hE, h⟩ => ?_
  simp only [evT, ev, Res.bind_assoc] at h
  refine ⟨m, S, ρ, hS, hE, Out.bind h fun x S1 m1 H1 u x1 s1 r1 h1 => ⟨m1, S1, ρ, s1, hE.ext x1, Out.bind h1 fun y S2 m2 H2 w x2 s2 r2 h2 => ?_⟩⟩
  refine k m2 H2 S2 x y u w _ σ s2 (r1.ext x2) r2 (Out.bindE h2 fun z S3 m3 H3 u3 e3 x3 s3 r3 h3 => ?_)
  obtain ⟨e4, _⟩ := ofO_ok e3
  obtain ⟨b, rfl⟩ := op2_bool hc e4
  cases rep_bool r3
  obtain ⟨b', e5, hf⟩ := h3.some
  simp only [truthy] at e5; cases e5
  exact ⟨b, rfl, hf.fin s3 rfl⟩
theorem t_is {op : CmpOp} {o : U1} {r : R2} {a b : Expr} {a' : E} {w : V} {pos : Pos} (ho : OpR X (compareOp op) r) (ha : SE X rw C W a a') (hb : PE X b (tC w)) (hm : behindInMarks op b = false)
    (k : ∀ m H S x u Q σ, SRel X.K rw m H S → Rep X.K m H x u → Out X.K rw m H σ W (Rep X.K) (ofO (op1 S o x) S) Q → r u w H Q) (hz : ∀ S x z, op1 S o x = some z → ∃ b, z = .bool b) : ST X rw C W (.Compare a [op] [b] pos) (.un o a') := by
  refine PT.wk (pt_cmpR ho ha hb hm) fun σ H Q ⟨m, S, ρ, hS, hE, h⟩ => ?_
  simp only [evT, ev, Res.bind_assoc] at h
  refine ⟨m, S, ρ, hS, hE, Out.bind h fun x S1 m1 H1 u x1 s1 r1 h1 => ?_⟩
  refine k m1 H1 S1 x u _ σ s1 r1 (Out.bindE h1 fun z S3 m3 H3 u3 e3 x3 s3 r3 h3 => ?_)
  obtain ⟨e4, _⟩ := ofO_ok e3
  obtain ⟨b, rfl⟩ := hz _ _ _ e4
  cases rep_bool r3
  obtain ⟨b', e5, hf⟩ := h3.some
  simp only [truthy] at e5; cases e5
  exact ⟨b, rfl, hf.fin s3 rfl⟩
theorem t_isNone {a : Expr} {a' : E} {j : Nat} {pos p2 : Pos} (ha : SE X rw C W a a') : ST X rw C W (.Compare a [.Is] [.Constant .none j p2] pos) (.un .isNone a') :=
  t_is op_isN ha pe_non rfl (fun m H S x u Q σ hS rx h => by
    obtain ⟨z, e, hf⟩ := h.some
    refine ⟨rfl, ?_⟩
    cases rx <;> simp only [op1] at e <;> cases e <;> exact hf.fin hS (.bool _)) fun S x z h => by
    cases x <;> simp only [op1] at h <;> cases h <;> exact ⟨_, rfl⟩
theorem t_notNone {a : Expr} {a' : E} {j : Nat} {pos p2 : Pos} (ha : SE X rw C W a a') : ST X rw C W (.Compare a [.IsNot] [.Constant .none j p2] pos) (.un .notNone a') :=
  t_is op_notN ha pe_non rfl (fun m H S x u Q σ hS rx h => by
    obtain ⟨z, e, hf⟩ := h.some
    refine ⟨rfl, ?_⟩
    cases rx <;> simp only [op1] at e <;> cases e <;> exact hf.fin hS (.bool _)) fun S x z h => by
    cases x <;> simp only [op1] at h <;> cases h <;> exact ⟨_, rfl⟩
theorem t_isB {a : Expr} {a' : E} {b : Bool} {j : Nat} {pos p2 : Pos} (ha : SE X rw C W a a') : ST X rw C W (.Compare a [.Is] [.Constant (.bool b) j p2] pos) (.un (.isB b) a') :=
  t_is op_isBl ha pe_bl rfl (fun m H S x u Q σ hS rx h => by
    obtain ⟨z, e, hf⟩ := h.some
    cases x <;> simp only [op1] at e <;> try cases e
    cases rep_bool rx
    exact ⟨_, _, rfl, rfl, hf.fin hS (.bool _)⟩) fun S x z h => by
    cases x <;> simp only [op1] at h <;> cases h <;> exact ⟨_, rfl⟩
theorem t_notB {a : Expr} {a' : E} {b : Bool} {j : Nat} {pos p2 : Pos} (ha : SE X rw C W a a') : ST X rw C W (.Compare a [.IsNot] [.Constant (.bool b) j p2] pos) (.un (.notB b) a') :=
  t_is op_notBl ha pe_bl rfl (fun m H S x u Q σ hS rx h => by
    obtain ⟨z, e, hf⟩ := h.some
    cases x <;> simp only [op1] at e <;> try cases e
    cases rep_bool rx
    exact ⟨_, _, rfl, rfl, hf.fin hS (.bool _)⟩) fun S x z h => by
    cases x <;> simp only [op1] at h <;> cases h <;> exact ⟨_, rfl⟩
theorem s_chain {op op' : CmpOp} {o o' : B2} (c : CmpOk X rw W op o) (c' : CmpOk X rw W op' o') (hc : cmpB o = true) {a b d : Expr} {a' b' d' : E} {pos : Pos} (hm : lastMarks [op, op'] [b, d] = false)
    (ha : SE X rw C W a a') (hb : SE X rw C W b b') (hd : SE X rw C W d d') (pc : ∀ {r r' : R2} {ta tb tc : TE}, OpR X (compareOp op) r → OpR X (compareOp op') r' → PE X a ta → PE X b tb → PE X d tc → PE X (.Compare a [op, op'] [b, d] pos) (tChain r r' ta tb tc)) : SE X rw C W (.Compare a [op, op'] [b, d] pos) (.chain o o' a' b' d') := by
  obtain ⟨r, ho, k⟩ := c
  obtain ⟨r', ho', k'⟩ := c'
  refine PE.wk (pc ho ho' ha hb hd) fun σ H Q ⟨m, S, ρ, hS, hE, h⟩ => ?_
  simp only [ev] at h
  refine ⟨m, S, ρ, hS, hE, Out.bind h fun x S1 m1 H1 u x1 s1 r1 h1 => ⟨m1, S1, ρ, s1, hE.ext x1, Out.bind h1 fun y S2 m2 H2 w x2 s2 r2 h2 => ?_⟩⟩
  cases e : op2 S2 o x y with
  | none => rw [e] at h2; exact h2.elim
  | some z =>
    obtain ⟨b, rfl⟩ := op2_bool hc e
    refine k m2 H2 S2 x y u w _ σ s2 (r1.ext x2) r2 ?_
    rw [e]
    rw [e] at h2
    intro m3 H3 u3 x3 s3 r3
    cases rep_bool r3
    refine ⟨b, rfl, ?_⟩
    cases b with
    | true =>
      refine ⟨m3, S2, ρ, s3, (hE.ext (x1.trans x2)).ext x3, Out.bind (h2.ext x3) fun z S4 m4 H4 u4 x4 s4 r4 h4 => ?_⟩
      exact k' m4 H4 S4 y z w u4 Q σ s4 ((r2.ext x3).ext x4) r4 h4
    | false => exact h2.fin' x3 s3 (.bool false)
end
end HI
set_option Elab.async false
set_option linter.all false
set_option maxRecDepth 100000
namespace HI
open PySem PySem.Spec PyProof.Rows L2
section
variable {X : Cx} {C : CallT} {W : WX} {rw : Bool}
theorem s_chain' {op op' : CmpOp} {o o' : B2} (c : CmpOk X rw W op o) (c' : CmpOk X rw W op' o') (hc : cmpB o = true) {a b d : Expr} {a' b' d' : E} {pos : Pos} (hm : lastMarks [op, op'] [b, d] = false)
    (ha : SE X rw C W a a') (hb : SE X rw C W b b') (hd : SE X rw C W d d') : SE X rw C W (.Compare a [op, op'] [b, d] pos) (.chain o o' a' b' d') :=
  s_chain c c' hc hm ha hb hd fun h1 h2 h3 h4 h5 => pe_chain h1 h2 h3 h4 h5 hm
theorem t_chain {op op' : CmpOp} {o o' : B2} (c : CmpOk X rw W op o) (c' : CmpOk X rw W op' o') (hc : cmpB o = true) (hc' : cmpB o' = true) {a b d : Expr} {a' b' d' : E} {pos : Pos} (hm : lastMarks [op, op'] [b, d] = false)
    (ha : SE X rw C W a a') (hb : SE X rw C W b b') (hd : SE X rw C W d d') : ST X rw C W (.Compare a [op, op'] [b, d] pos) (.chain o o' a' b' d') := by
  obtain ⟨r, ho, k⟩ := c
  obtain ⟨r', ho', k'⟩ := c'
  refine PT.wk (pt_chain ho ho' ha hb hd hm) fun σ H Q ⟨m, S, ρ, hS, hE, h⟩ => ?_
  simp only [evT, ev, Res.bind_assoc] at h
  refine ⟨m, S, ρ, hS, hE, Out.bind h fun x S1 m1 H1 u x1 s1 r1 h1 => ⟨m1, S1, ρ, s1, hE.ext x1, Out.bind h1 fun y S2 m2 H2 w x2 s2 r2 h2 => ?_⟩⟩
  cases e : op2 S2 o x y with
  | none => rw [e] at h2; exact h2.elim
  | some z =>
    obtain ⟨b, rfl⟩ := op2_bool hc e
    refine k m2 H2 S2 x y u w _ σ s2 (r1.ext x2) r2 ?_
    rw [e]
    rw [e] at h2
    intro m3 H3 u3 x3 s3 r3
    cases rep_bool r3
    refine ⟨b, rfl, ?_⟩
    cases b with
    | true =>
      simp only [Res.bind_assoc] at h2
      refine ⟨m3, S2, ρ, s3, (hE.ext (x1.trans x2)).ext x3, Out.bind (h2.ext x3) fun z S4 m4 H4 u4 x4 s4 r4 h4 => ?_⟩
      refine k' m4 H4 S4 y z w u4 _ σ s4 ((r2.ext x3).ext x4) r4 (Out.bindE h4 fun q S5 m5 H5 u5 e5 x5 s5 r5 h5 => ?_)
      obtain ⟨e6, _⟩ := ofO_ok e5
      obtain ⟨b, rfl⟩ := op2_bool hc' e6
      cases rep_bool r5
      obtain ⟨b', e7, hf⟩ := h5.some
      simp only [truthy] at e7; cases e7
      exact ⟨b, rfl, hf.fin s5 rfl⟩
    | false =>
      simp only [Res.bind_ok] at h2
      obtain ⟨b', e7, hf⟩ := h2.some
      simp only [truthy] at e7; cases e7
      exact ⟨false, rfl, hf.fin' x3 s3 rfl⟩
theorem s_one {op : BoolOp} {a : Expr} {a' : E} {pos : Pos} (ha : SE X rw C W a a') : SE X rw C W (.BoolOp op [a] pos) a' := pe_one ha
theorem s_and {a b : Expr} {rest : List Expr} {a' b' : E} {pos : Pos} (ha : SE X rw C W a a') (hb : SE X rw C W (.BoolOp .And (b :: rest) pos) b') : SE X rw C W (.BoolOp .And (a :: b :: rest) pos) (.and a' b') := by
  refine PE.wk (pe_and ha hb) fun σ H Q ⟨m, S, ρ, hS, hE, h⟩ => ?_
  simp only [ev] at h
  refine ⟨m, S, ρ, hS, hE, Out.bind h fun x S1 m1 H1 u x1 s1 r1 h1 => ?_⟩
  cases x <;> try exact h1.elim
  rename_i b
  cases rep_bool r1
  refine ⟨b, rfl, ?_⟩
  cases b with
  | true => exact ⟨m1, S1, ρ, s1, hE.ext x1, h1⟩
  | false => exact h1.fin s1 (.bool false)
theorem s_or {a b : Expr} {rest : List Expr} {a' b' : E} {pos : Pos} (ha : SE X rw C W a a') (hb : SE X rw C W (.BoolOp .Or (b :: rest) pos) b') : SE X rw C W (.BoolOp .Or (a :: b :: rest) pos) (.or a' b') := by
  refine PE.wk (pe_orT ha hb) fun σ H Q ⟨m, S, ρ, hS, hE, h⟩ => ?_
  simp only [ev] at h
  refine ⟨m, S, ρ, hS, hE, Out.bind h fun x S1 m1 H1 u x1 s1 r1 h1 => ?_⟩
  cases e : truthy S1 x with
  | none => rw [e] at h1; exact h1.elim
  | some b =>
    rw [e] at h1
    refine ⟨b, tru_rep s1 r1 e, ?_⟩
    cases b with
    | true => exact h1.fin s1 r1
    | false => exact ⟨m1, S1, ρ, s1, hE.ext x1, h1⟩
theorem s_not {a : Expr} {a' : E} {pos : Pos} (ha : SE X rw C W a a') : SE X rw C W (.UnaryOp .Not a pos) (.not a') := by
  refine PE.wk (pe_notT ha) fun σ H Q ⟨m, S, ρ, hS, hE, h⟩ => ?_
  simp only [ev] at h
  refine ⟨m, S, ρ, hS, hE, Out.bind h fun x S1 m1 H1 u x1 s1 r1 h1 => ?_⟩
  cases e : truthy S1 x with
  | none => rw [e] at h1; exact h1.elim
  | some b =>
    rw [e] at h1
    exact ⟨b, tru_rep s1 r1 e, h1.fin s1 (.bool _)⟩
theorem s_ite {c a b : Expr} {c' a' b' : E} {pos : Pos} (hc : ST X rw C W c c') (ha : SE X rw C W a a') (hb : SE X rw C W b b') : SE X rw C W (.IfExp c a b pos) (.ite c' a' b') := by
  refine PE.wk (pe_ifExp hc ha hb) fun σ H Q ⟨m, S, ρ, hS, hE, h⟩ => ?_
  simp only [ev] at h
  refine ⟨m, S, ρ, hS, hE, Out.bind h fun x S1 m1 H1 u x1 s1 r1 h1 => ?_⟩
  subst r1
  cases x with
  | true => exact ⟨m1, S1, ρ, s1, hE.ext x1, h1⟩
  | false => exact ⟨m1, S1, ρ, s1, hE.ext x1, h1⟩
abbrev SW (X : Cx) (rw : Bool) (C : CallT) (W : WX) (e : Expr) (e' : E) : Prop := PW X e (rdT X.K rw C W e')
theorem PW.wk {e : Expr} {t t' : TT} (h : PW X e t) (k : ∀ σ H Q, t' σ H Q → t σ H Q) : PW X e t' := ⟨fun whole pins s σ H Q I hw => h.run whole pins s σ H Q I (k σ H Q hw)⟩
theorem w_and1 {a : Expr} {a' : E} {pos : Pos} (ha : ST X rw C W a a') : SW X rw C W (.BoolOp .And [a] pos) a' := pw_and1 ha
theorem w_or1 {a : Expr} {a' : E} {pos : Pos} (ha : ST X rw C W a a') : SW X rw C W (.BoolOp .Or [a] pos) a' := pw_or1 ha
theorem w_and {a b : Expr} {rest : List Expr} {a' b' : E} {pos : Pos} (ha : ST X rw C W a a') (hb : SW X rw C W (.BoolOp .And (b :: rest) pos) b') : SW X rw C W (.BoolOp .And (a :: b :: rest) pos) (.and a' b') := by
  refine PW.wk (pw_and ha hb) fun σ H Q ⟨m, S, ρ, hS, hE, h⟩ => ?_
  simp only [evT] at h
  refine ⟨m, S, ρ, hS, hE, Out.bind h fun x S1 m1 H1 u x1 s1 r1 h1 => ?_⟩
  subst r1
  cases x with
  | true => exact ⟨m1, S1, ρ, s1, hE.ext x1, h1⟩
  | false => exact h1.fin s1 rfl
theorem w_or {a b : Expr} {rest : List Expr} {a' b' : E} {pos : Pos} (ha : ST X rw C W a a') (hb : SW X rw C W (.BoolOp .Or (b :: rest) pos) b') : SW X rw C W (.BoolOp .Or (a :: b :: rest) pos) (.or a' b') := by
  refine PW.wk (pw_or ha hb) fun σ H Q ⟨m, S, ρ, hS, hE, h⟩ => ?_
  simp only [evT] at h
  refine ⟨m, S, ρ, hS, hE, Out.bind h fun x S1 m1 H1 u x1 s1 r1 h1 => ?_⟩
  subst r1
  cases x with
  | true => exact h1.fin s1 rfl
  | false => exact ⟨m1, S1, ρ, s1, hE.ext x1, h1⟩
theorem a_nil : SA X rw C W [] [] := by
  refine PA.wk pa_nil fun σ H Q ⟨m, S, ρ, hS, hE, h⟩ => ?_
  simp only [evs] at h
  exact h.fin hS .nil
theorem a_cons {e : Expr} {es : List Expr} {e' : E} {es' : List E} (ns : notStarred e = true) (he : SE X rw C W e e') (hr : SA X rw C W es es') : SA X rw C W (e :: es) (e' :: es') := by
  refine PA.wk (pa_cons he hr (noStar_of ns _ _)) fun σ H Q ⟨m, S, ρ, hS, hE, h⟩ => ?_
  simp only [evs] at h
  refine ⟨m, S, ρ, hS, hE, Out.bind h fun x S1 m1 H1 u x1 s1 r1 h1 => ⟨m1, S1, ρ, s1, hE.ext x1, Out.bind h1 fun xs S2 m2 H2 us x2 s2 r2 h2 => ?_⟩⟩
  exact h2.fin s2 (.cons (r1.ext x2) r2)
theorem s_tup {es : List Expr} {es' : List E} {k : Nat} {pos : Pos} (hl : es'.length ≤ 1000) (h : SA X rw C W es es') : SE X rw C W (.Tuple es k pos) (.tup es') := by
  refine PE.wk (pe_tup h) fun σ H Q ⟨m, S, ρ, hS, hE, h⟩ => ?_
  simp only [ev] at h
  refine ⟨m, S, ρ, hS, hE, Out.bindE h fun xs S1 m1 H1 us e1 x1 s1 r1 h1 => ⟨?_, fun p hp => fin_tup h1 s1 r1 hp⟩⟩
  rw [← r1.length]
  have : ∀ (es : List E) (S : Store) (xs : List Val) (S1 : Store), evs C es ρ S = .ok xs S1 → xs.length = es.length := by
    intro es
    induction es with
    | nil => intro S xs S1 h; simp only [evs] at h; cases h; rfl
    | cons e es ih =>
      intro S xs S1 h
      simp only [evs] at h
      cases q : ev C e ρ S with
      | ok v S2 =>
        rw [q] at h
        simp only [Res.bind_ok] at h
        cases q2 : evs C es ρ S2 with
        | ok vs S3 => rw [q2] at h; simp only [Res.bind_ok] at h; cases h; simp [ih S2 vs _ q2]
        | exc c S3 => rw [q2] at h; cases h
        | stuck => rw [q2] at h; cases h
      | exc c S2 => rw [q] at h; cases h
      | stuck => rw [q] at h; cases h
  rw [this es' S xs S1 e1, sizeLine_eq]; omega
theorem evs_len {es : List E} {ρ : Env} : ∀ {S : Store} {xs : List Val} {S1 : Store}, evs C es ρ S = .ok xs S1 → xs.length = es.length := by
  induction es with
  | nil => intro S xs S1 h; simp only [evs] at h; cases h; rfl
  | cons e es ih =>
    intro S xs S1 h
    simp only [evs] at h
    cases q : ev C e ρ S with
    | ok v S2 =>
      rw [q] at h
      simp only [Res.bind_ok] at h
      cases q2 : evs C es ρ S2 with
      | ok vs S3 => rw [q2] at h; simp only [Res.bind_ok] at h; cases h; simp [ih q2]
      | exc c S3 => rw [q2] at h; cases h
      | stuck => rw [q2] at h; cases h
    | exc c S2 => rw [q] at h; cases h
    | stuck => rw [q] at h; cases h
theorem s_lst {es : List Expr} {es' : List E} {pos : Pos} (hl : es'.length ≤ 1000) (h : SA X rw C W es es') : SE X rw C W (.List es pos) (.lst es') := by
  refine PE.wk (pe_lst h) fun σ H Q ⟨m, S, ρ, hS, hE, h⟩ => ?_
  simp only [ev] at h
  refine ⟨m, S, ρ, hS, hE, Out.bindE h fun xs S1 m1 H1 us e1 x1 s1 r1 h1 => ⟨?_, fun p hp => fin_lst h1 s1 r1 hp⟩⟩
  rw [← r1.length, evs_len e1, sizeLine_eq]; omega
theorem m_len {K : PySem.W.Frag} {m : MM} {H : Hp} {S : Store} (hS : SRel K rw m H S) (p : Addr) : (m ++ [p])[S.length]? = some p := by
  show (m.bx ++ [p])[S.length]? = some p
  rw [← hS.len]; simp
theorem s_box {es : List Expr} {es' : List E} {pos : Pos} (hl : es'.length ≤ 1000) (h : SA X rw C W es es') : SE X rw C W (.List es pos) (.box es') := by
  refine PE.wk (pe_lst h) fun σ H Q ⟨m, S, ρ, hS, hE, h⟩ => ?_
  simp only [ev] at h
  refine ⟨m, S, ρ, hS, hE, Out.bindE h fun xs S1 m1 H1 us e1 x1 s1 r1 h1 => ⟨?_, fun p hp => ?_⟩⟩
  · rw [← r1.length, evs_len e1, sizeLine_eq]; omega
  · exact h1.fin' (Ext.box hp) (s1.push hp ⟨us, upd_same, r1.ext (Ext.box (rw := rw) hp)⟩) (.loc (m_len s1 p))
theorem s_newK {pos : Pos} : SE X rw C W (.Dict [] [] pos) .newK := by
  refine PE.wk pe_dnewK fun σ H Q ⟨m, S, ρ, hS, hE, h⟩ p hp => ?_
  simp only [ev] at h
  exact h.fin' (Ext.box hp) (hS.push hp ⟨[], .inl upd_same, .nil⟩) (.loc (m_len hS p))
theorem s_newT {pos : Pos} : SE X rw C W (.Dict [] [] pos) .newT := by
  refine PE.wk pe_dnewT fun σ H Q ⟨m, S, ρ, hS, hE, h⟩ p hp => ?_
  simp only [ev] at h
  exact h.fin' (Ext.box hp) (hS.push hp ⟨[], .inl upd_same, .nil⟩) (.loc (m_len hS p))
def rdO (K : PySem.W.Frag) (rw : Bool) (C : CallT) (W : WX) (e : Option E) : TO := fun σ H Q => ∃ m S ρ, SRel K rw m H S ∧ ERel K m H ρ σ ∧ Out K rw m H σ W (fun _ _ (o : Option Val) (i : Option Int) => bnd o = some i) (evO C e ρ S) Q
abbrev SO (X : Cx) (rw : Bool) (C : CallT) (W : WX) (e : Option Expr) (e' : Option E) : Prop := PO X e (rdO X.K rw C W e')
theorem PO.wk {e : Option Expr} {t t' : TO} (h : PO X e t) (k : ∀ σ H Q, t' σ H Q → t σ H Q) : PO X e t' := ⟨fun pins s σ H Q I hw => h.run pins s σ H Q I (k σ H Q hw)⟩
def rdP (K : PySem.W.Frag) (rw : Bool) (C : CallT) (W : WX) (e : Option E) : TO := fun σ H Q => ∃ m S ρ, SRel K rw m H S ∧ ERel K m H ρ σ ∧ Out K rw m H σ W (fun _ _ (o : Option Val) (i : Option Int) => bnd o = some i) (evO C e ρ S) Q ∧ ∀ v S1, evO C e ρ S = .ok v S1 → (bnd v).isSome = true
theorem o_none : PO X none (rdP X.K rw C W none) := by
  refine PO.wk po_none fun σ H Q ⟨m, S, ρ, hS, hE, h, _⟩ => ?_
  simp only [evO] at h
  exact h.fin hS rfl
theorem o_some {e : Expr} {e' : E} (he : SE X rw C W e e') : PO X (some e) (rdP X.K rw C W (some e')) := by
  refine PO.wk (po_some he) fun σ H Q ⟨m, S, ρ, hS, hE, h, hb⟩ => ?_
  simp only [evO] at h hb
  refine ⟨m, S, ρ, hS, hE, Out.bindE h fun x S1 m1 H1 u e1 x1 s1 r1 h1 => ?_⟩
  have q := hb (some x) S1 (by rw [e1]; rfl)
  cases x <;> simp only [bnd, Option.isSome_none, Bool.false_eq_true] at q
  cases rep_int r1
  exact ⟨_, rfl, h1.fin s1 rfl⟩
theorem s_slice {a : Expr} {a' : E} {lo hi : Option Expr} {lo' hi' : Option E} {p2 pos : Pos} (ha : SE X rw C W a a') (hl : PO X lo (rdP X.K rw C W lo')) (hh : PO X hi (rdP X.K rw C W hi')) : SE X rw C W (.Subscript a (.Slice lo hi none p2) pos) (.slice a' lo' hi') := by
  refine PE.wk (pe_slice (SlR.or sl_list (SlR.or sl_tupA sl_str)) ha hl hh) fun σ H Q ⟨m, S, ρ, hS, hE, h⟩ => ?_
  simp only [ev] at h
  refine ⟨m, S, ρ, hS, hE, Out.bind h fun x S1 m1 H1 u x1 s1 r1 h1 => ⟨m1, S1, ρ, s1, hE.ext x1, Out.bind h1 fun l S2 m2 H2 i x2 s2 r2 h2 => ⟨m2, S2, ρ, s2, (hE.ext x1).ext x2, Out.bind (by rw [r2] at h2; exact h2) fun g S3 m3 H3 j x3 s3 r3 h3 => ?_, fun v S3 e3 => ?_⟩, fun v S2 e2 => ?_⟩⟩
  · rw [r3] at h3
    obtain ⟨z, e, hf⟩ := Out.some h3
    have r1' := (r1.ext x2).ext x3
    unfold sliceV at e
    cases q : unl S3 x with
    | lst vs =>
      rw [q] at e; cases e
      obtain ⟨a, us, rfl, k1, q1⟩ := unl_lst s3 r1' q
      refine .inl ⟨a, us, rfl, SqL.of k1, fun p hp => ?_⟩
      unfold cutV
      rw [← q1.length]
      exact fin_lst hf s3 ((q1.drop _).take _) hp
    | tup vs =>
      rw [q] at e; cases e
      have ex : x = .tup vs := by
        cases x <;> simp only [unl] at q <;> try cases q
        · rfl
        · split at q <;> cases q
      subst ex
      obtain ⟨a, us, rfl, k1, n1, q1⟩ := rep_tup r1'
      refine .inr (.inl ⟨a, us, rfl, SqT.of k1, fun e => ?_, fun _ p hp => ?_⟩)
      · have ec : cut vs i j = vs := by
          unfold cut
          rw [← q1.length] at e
          show (vs.drop (HT.sIx vs.length 0 i)).take (HT.sIx vs.length vs.length j - HT.sIx vs.length 0 i) = vs
          rw [e.1, e.2]; simp
        rw [ec] at hf
        exact hf.fin s3 (.tup k1 n1 q1)
      · unfold cutV
        rw [← q1.length]
        exact fin_tup hf s3 ((q1.drop _).take _) hp
    | str s =>
      rw [q] at e
      simp only at e
      split at e
      · rename_i hl
        cases e
        have ex : x = .str s := by
          cases x <;> simp only [unl] at q <;> try cases q
          · rfl
          · split at q <;> cases q
        subst ex
        cases rep_str r1'
        refine .inr (.inr ⟨s, rfl, by rw [← lim_eq]; exact hl, ?_⟩)
        have := hf.fin s3 (.str _)
        unfold cut at this
        rw [show s.cps.toList.length = s.length by simp [Str.length]] at this
        exact this
      · cases e
    | _ => rw [q] at e; cases e
  · rw [r2] at h2
    simp only [e3, Res.bind_ok] at h2
    cases q : bnd v with
    | none => rw [q] at h2; exact h2.elim
    | some _ => rfl
  · rw [e2] at h1
    simp only [Res.bind_ok] at h1
    cases q : bnd v with
    | some _ => rfl
    | none => rw [q] at h1; exact h1.elim
end
end HI
set_option Elab.async false
set_option linter.all false
set_option maxRecDepth 100000
namespace HI
open PySem PySem.Spec PyProof.Rows L2
section
variable {X : Cx} {C : CallT} {W : WX} {rw : Bool}
structure IsiK (K : PySem.W.Frag) (t : Str) (u : Value) : Prop where
  non : PySem.W.kitOne K (.type "NoneType") u = some false
  bool : PySem.W.kitOne K (.type "bool") u = some (isTy t ["int", "bool"])
  int : PySem.W.kitOne K (.type "int") u = some (isTy t ["int"])
  str : PySem.W.kitOne K (.type "str") u = some (isTy t ["str"])
  tup : PySem.W.kitOne K (.type "tuple") u = some (isTy t ["tuple"])
  lst : PySem.W.kitOne K (.type "list") u = some (isTy t ["list"])
  ins : (u = .ref (He.ga K t) ∧ isTy t ["int", "bool", "str", "tuple", "list"] = false) ∨ ∃ T ∈ ["int", "bool", "str", "tuple", "list"], t = Str.ofString T ∧ u = .type T
theorem isInst_rep {K : PySem.W.Frag} {m : MM} {H : Hp} {S : Store} {x : Val} {w : V} {b : Bool} {t : Str} {u : Value} (k : IsiK K t u) (hc : ∀ c, KCls K c → c = t → u = .ref (He.ga K t)) (hS : SRel K rw m H S) (rx : Rep K m H x w) (e : isInst S t x = some b) :
    ∃ ty, TyX K H w ty ∧ PySem.W.kitOne K ty u = some b := by
  cases x with
  | non => cases rx; simp only [isInst] at e; cases e; exact ⟨_, .base .non, k.non⟩
  | bool c => cases rx; simp only [isInst] at e; cases e; exact ⟨_, .base (.bl _), k.bool⟩
  | int c => cases rx; simp only [isInst] at e; cases e; exact ⟨_, .base (.int _), k.int⟩
  | str c => cases rx; simp only [isInst] at e; cases e; exact ⟨_, .base (.str _), k.str⟩
  | tup vs =>
    obtain ⟨a, us, rfl, h1, n1, q1⟩ := rep_tup rx
    simp only [isInst] at e; cases e; exact ⟨_, .base (.tup h1), k.tup⟩
  | lst vs =>
    obtain ⟨a, us, rfl, h1, n1, q1⟩ := rep_lst rx
    simp only [isInst] at e; cases e; exact ⟨_, .base (.lst h1), k.lst⟩
  | scr ns => simp only [isInst] at e; cases e
  | loc n =>
    obtain ⟨a, rfl, ha⟩ := rep_loc rx
    simp only [isInst] at e
    cases q : S[n]? with
    | none => rw [q] at e; cases e
    | some ob =>
      rw [q] at e
      cases ob with
      | list ws =>
        cases e
        obtain ⟨us, h1, q1⟩ := hS.atA ha q
        exact ⟨_, .base (.lst h1), k.lst⟩
      | inst c fs =>
        obtain ⟨kc, dx, us, h1, q1⟩ := hS.atA ha q
        have ty : TyX K H (.ref a) (.ref (He.ga K c)) := .base (.ins h1 kc.cl kc.ha kc.hn kc.htk kc.hm)
        simp only at e
        split at e
        · rename_i hct
          cases e
          have eu := hc c kc hct
          subst hct
          rw [eu]
          exact ⟨_, ty, kc.same⟩
        · split at e
          · rename_i hty
            cases e
            rcases k.ins with ⟨_, h2⟩ | ⟨T, hT, e1, e2⟩
            · rw [h2] at hty; cases hty
            · rw [e2]; exact ⟨_, ty, kc.blt T hT⟩
          · cases e
      | _ => cases e
theorem s_isI {a b : Expr} {a' : E} {t : Str} {u : Value} {w : V} {p pos : Pos} (hg : Gl X "isinstance") (hm : X.mg "isinstance" = none) (ns : notStarred a = true) (nb : notStarred b = true) (ha : SE X rw C W a a') (hb : PE X b (tC w)) (cw : ClsV w u)
    (k : IsiK X.K t u) (hc : ∀ c, KCls X.K c → c = t → u = .ref (He.ga X.K t)) (hv : bootBuiltins "isinstance" = some (.builtin "isinstance")) : SE X rw C W (.Call (.Name "isinstance" p) [a, b] [] pos) (.isI a' t) := by
  refine PE.wk (pe_callB call_isi hg hm hv (pa_cons ha (pa_cons hb pa_nil (noStar_of nb _ _)) (noStar_of ns _ _)) (by decide) (by decide) (noStar_of ns _ _) (backTo_of (es := [b]) (by simp [nb]) _ _)) fun σ H Q ⟨m, S, ρ, hS, hE, h⟩ => ?_
  simp only [ev] at h
  refine ⟨m, S, ρ, hS, hE, Out.bind h fun x S1 m1 H1 u1 x1 s1 r1 h1 => ?_⟩
  cases e : isInst S1 t x with
  | none => rw [e] at h1; exact h1.elim
  | some b =>
    rw [e] at h1
    obtain ⟨ty, q1, q2⟩ := isInst_rep k hc s1 r1 e
    exact ⟨u1, w, ty, u, b, rfl, cw, q1, q2, h1.fin s1 (.bool b)⟩
theorem RepP.look {K : PySem.W.Frag} {m : MM} {H : Hp} {fs : List (Str × Val)} {us : List (Str × V)} (r : RepP K m H fs us) (f : Str) :
    (fs.lookup f = none ∧ us.lookup f = none) ∨ ∃ v u, fs.lookup f = some v ∧ us.lookup f = some u ∧ Rep K m H v u := by
  induction r with
  | nil => exact .inl ⟨rfl, rfl⟩
  | @cons p q ps qs h t ih =>
    obtain ⟨g, v⟩ := p
    obtain ⟨g', u⟩ := q
    obtain ⟨h1, h2⟩ := h
    simp only at h1 h2
    subst h1
    cases e : f == g with
    | true => exact .inr ⟨v, u, by simp [List.lookup_cons, e], by simp [List.lookup_cons, e], h2⟩
    | false => simp only [List.lookup_cons, e]; exact ih
theorem RepP.putF {K : PySem.W.Frag} {m : MM} {H : Hp} {fs : List (Str × Val)} {us : List (Str × V)} (r : RepP K m H fs us) (f : Str) {v : Val} {u : V} (q : Rep K m H v u) : RepP K m H (fldPut fs f v) (L2.putF f u us) := by
  induction r with
  | nil => exact .cons ⟨rfl, q⟩ .nil
  | @cons p w ps qs h t ih =>
    obtain ⟨g, v0⟩ := p
    obtain ⟨g', u0⟩ := w
    obtain ⟨h1, h2⟩ := h
    simp only at h1 h2
    subst h1
    simp only [fldPut, L2.putF]
    split
    · exact .cons ⟨rfl, q⟩ t
    · exact .cons ⟨rfl, h2⟩ ih
def NoF (K : PySem.W.Frag) (f : Str) : Prop := ∀ c, KCls K c → NoAttr K (He.ga K c) f
theorem s_fld {a : Expr} {a' : E} {f : Str} {pos : Pos} (hb : attributeBase a f X.env (eval a X.env) = eval a X.env) (hf : NoF X.K f) (ha : SE X rw C W a a') : SE X rw C W (.Attribute a f pos) (.fld a' f) := by
  refine PE.wk (pe_fld ha hb) fun σ H Q ⟨m, S, ρ, hS, hE, h⟩ => ?_
  simp only [ev] at h
  refine ⟨m, S, ρ, hS, hE, Out.bind h fun x S1 m1 H1 u x1 s1 r1 h1 => ?_⟩
  cases x <;> try exact h1.elim
  rename_i n
  obtain ⟨a, rfl, ha⟩ := rep_loc r1
  simp only at h1
  cases q : S1[n]? with
  | none => rw [q] at h1; exact h1.elim
  | some ob =>
    rw [q] at h1
    cases ob <;> try exact h1.elim
    rename_i c fs
    obtain ⟨kc, dx, us, k1, q1⟩ := s1.atA ha q
    obtain ⟨z, e, hq⟩ := Out.some h1
    rcases RepP.look q1 f with ⟨e1, _⟩ | ⟨v, w, e1, e2, e3⟩
    · rw [show fldGet fs f = none from e1] at e; cases e
    · rw [show fldGet fs f = some v from e1] at e; cases e
      exact ⟨a, _, dx, us, w, rfl, k1, kc.cl, hf c kc, e2, hq.fin s1 e3⟩
def spC (K : PySem.W.Frag) (rw : Bool) (C : CallT) (f : Str) : Sp := fun vs H Q E => ∃ m S avs, SRel K rw m H S ∧ Reps K m H avs vs ∧ Out K rw m H [] (fun c d _ H' => E c d H') (Rep K) (C f avs S) Q
theorem Out.sig {α β : Type} {K : PySem.W.Frag} {m : MM} {H : Hp} {σ τ : L2.St} {W W' : WX} {R : MM → Hp → α → β → Prop} {r : Res α} {Q : β → Hp → Prop} (h : Out K rw m H σ W R r Q) (k : ∀ c d H', W c d σ H' → W' c d τ H') : Out K rw m H τ W' R r Q := by
  cases r with
  | ok v S => exact h
  | exc c S => exact fun kx m' H' x s => k _ _ _ (h kx m' H' x s)
  | stuck => exact h
theorem s_call {k : Nat} {f : Addr} {fd : FuncData} {ps : List Str} {x : Str} {e : Expr} {es : List Expr} {es' : List E} {p pos : Pos} (F : FnOk X.prog X.w X.K X.mg X.base (L2.CX X.prog X.w) k f fd ps (spC X.K rw C x)) (hr : Room k X.A) (hg : Gl X x) (hm : X.mg x = some (.ref f))
    (hk : PySem.W.keepIn X.K (.ref f) = true) (hb : Binds X.K fd ps []) (tk : Takes X W) (ns : (e :: es).all notStarred = true) (ha : SA X rw C W (e :: es) es') (hdb : (x == ("__debug__" : Str)) = false) : SE X rw C W (.Call (.Name x p) (e :: es) [] pos) (.call x es') := by
  have ns' := ns
  simp only [List.all_cons, Bool.and_eq_true] at ns'
  refine PE.wk (pe_callS (E := WE W) F hr hg hm hk hb (fun σ => passAt tk σ) ha hdb (noStar_of ns'.1 _ _) (backTo_of ns'.2 _ _)) fun σ H Q ⟨m, S, ρ, hS, hE, h⟩ => ?_
  simp only [ev] at h
  refine ⟨m, S, ρ, hS, hE, Out.bind h fun xs S1 m1 H1 us x1 s1 r1 h1 => ?_⟩
  exact ⟨m1, S1, xs, s1, r1, h1.sig fun _ _ _ z => z⟩
theorem pe_methS2 {k : Nat} {f C0 : Addr} {fd : FuncData} {ps : List Str} {sp : Sp} {m : Str} {o e : Expr} {es : List Expr} {ta : TE} {t : TA} {apos pos : Pos} {CX : CXT} {E : L2.St → XK} {pl : Sem Bool} (he : PE X o ta) (c : Cls X.K C0) (hm : Meth X.K C0 m f) (F : FnOk X.prog X.w X.K X.mg X.base CX k f fd ps sp)
    (hr : Room k X.A) (hb : Binds X.K fd ps []) (hx : ∀ σ, PassesAt CX X σ (E σ)) (ha : PA X (e :: es) t)
    (hst : starEach (e :: es) X.env = (false, eval e X.env) :: starEach es X.env) (hpl : (backTo pos (starEach es X.env)).any (·.1) = false)
    (ht : eval (.Call (.Attribute o m apos) (e :: es) [] pos) X.env = (do
      let ov ← eval o X.env
      standAt apos.atName
      let (f, first) ← holding [ov] (getMethod ov m pl)
      callWith pos f first (backTo pos (starEach (e :: es) X.env)) (backToKw pos (keywordEach [] X.env)))) :
    PE X (.Call (.Attribute o m apos) (e :: es) [] pos) (fun σ H Q => ta σ H fun x H1 => ∃ a dx fs, x = .ref a ∧ H1 a = some (.ins C0 dx fs) ∧ fs.lookup m = none ∧ t σ H1 fun vs H2 => sp (x :: vs) H2 Q (E σ)) := by
  refine ⟨fun pins s σ H Q I h => ?_⟩
  refine PySem.W.methodCall_KW (pl := pl) (thn (he.run pins s σ H _ I h) fun u s1 ⟨x, H1, I1, rx, a, dx, fs, ex, ea, l, q⟩ => ?_) ht
  subst ex
  obtain rfl : u = Value.ref a := rx
  refine getmeth_ok I1 ea c hm l ?_
  refine PySem.W.callWith_K (first := [.ref a]) (h₀ := X.base) I.ok.mod.kin hm.kp (thn (ha.run pos pins s1 σ H1 _ I1 q) fun us s2 ⟨vs, H2, I2, r, q2⟩ => ⟨I2.kIn, ?_⟩) hst hpl
  exact run_fnS (us := .ref a :: us) (vs := .ref a :: vs) F hr hb (hx σ) I2 (.cons rfl r) q2
theorem pe_methS0 {k : Nat} {f C0 : Addr} {fd : FuncData} {ps : List Str} {sp : Sp} {m : Str} {o : Expr} {ta : TE} {apos pos : Pos} {CX : CXT} {E : L2.St → XK} {pl : Sem Bool} (he : PE X o ta) (c : Cls X.K C0) (hm : Meth X.K C0 m f) (F : FnOk X.prog X.w X.K X.mg X.base CX k f fd ps sp)
    (hr : Room k X.A) (hb : Binds X.K fd ps []) (hx : ∀ σ, PassesAt CX X σ (E σ))
    (ht : eval (.Call (.Attribute o m apos) [] [] pos) X.env = (do
      let ov ← eval o X.env
      standAt apos.atName
      let (f, first) ← holding [ov] (getMethod ov m pl)
      callWith pos f first (backTo pos (starEach [] X.env)) (backToKw pos (keywordEach [] X.env)))) :
    PE X (.Call (.Attribute o m apos) [] [] pos) (fun σ H Q => ta σ H fun x H1 => ∃ a dx fs, x = .ref a ∧ H1 a = some (.ins C0 dx fs) ∧ fs.lookup m = none ∧ sp [x] H1 Q (E σ)) := by
  refine ⟨fun pins s σ H Q I h => ?_⟩
  refine PySem.W.methodCall_KW (pl := pl) (thn (he.run pins s σ H _ I h) fun u s1 ⟨x, H1, I1, rx, a, dx, fs, ex, ea, l, q⟩ => ?_) ht
  subst ex
  obtain rfl : u = Value.ref a := rx
  refine getmeth_ok I1 ea c hm l ?_
  exact PySem.W.callWith_K0 (first := [.ref a]) I1.kIn hm.kp (run_fnS (us := [.ref a]) (vs := [.ref a]) F hr hb (hx σ) I1 (.cons rfl .nil) q)
def NoSuper (o : Expr) (f : Str) (env : PySem.Env) : Prop := attributeBase o f env (eval o env) = eval o env
def notCall0 : Expr → Bool
  | .Call (.Name _ _) [] [] _ => false
  | _ => true
theorem noSuper_of {o : Expr} (h : notCall0 o = true) (f : Str) (env : PySem.Env) : NoSuper o f env := by
  unfold NoSuper attributeBase
  cases o <;> first
    | rfl
    | (rename_i g es kws p
       cases g <;> first
         | rfl
         | (cases es <;> first
              | rfl
              | (cases kws <;> first | rfl | (simp [notCall0] at h))))
theorem all_back {es : List Expr} (h : es.all notStarred = true) (pos : Pos) (env : PySem.Env) : (backTo pos (starEach es env)).all (fun x => !x.1) = true := by
  induction es with
  | nil => rfl
  | cons e es ih =>
    simp only [List.all_cons, Bool.and_eq_true] at h
    rw [noStar_of h.1 es env]
    show ((false, _) :: backTo pos (starEach es env)).all (fun x => !x.1) = true
    rw [List.all_cons, ih h.2]; rfl
theorem form_of {es : List Expr} (h : es.all notStarred = true) (hl : es.length < 30) (pos : Pos) (env : PySem.Env) : ((backTo pos (starEach es env)).all (fun x => !x.1) && (backToKw pos (keywordEach [] env)).all (fun x => x.1.isSome)
      && decide (es.length + ([] : List Keyword).length + (if ([] : List Keyword).isEmpty then 0 else 1) < 30)) = true := by
  rw [all_back h]
  show (true && true && decide _) = true
  simp; exact hl
theorem eval_meth {o : Expr} {m : Str} {apos pos : Pos} {es : List Expr} {env : PySem.Env} (hb : NoSuper o m env) (h : es.all notStarred = true) (hl : es.length < 30) (hline : (apos.endLine == pos.line) = true) : ∃ pl, eval (.Call (.Attribute o m apos) es [] pos) env = (do
      let ov ← eval o env
      standAt apos.atName
      let (f, first) ← holding [ov] (getMethod ov m pl)
      callWith pos f first (backTo pos (starEach es env)) (backToKw pos (keywordEach [] env))) := by
  have hform : methodCallForm (es.length + ([] : List Keyword).length) (backTo pos (starEach es env)) (backToKw pos (keywordEach [] env)) = true := form_of h hl pos env
  have hpos : methodCallPos true o env apos pos = pure pos := by unfold methodCallPos; simp [hline]
  refine ⟨(do return (← importBound o env).getD true), ?_⟩
  rw [arm_eval_Call, hb]
  unfold methodCall
  rw [hform]
  unfold calleeOf
  simp only [if_true, hpos]
  rfl
structure MethOk (X : Cx) (rw : Bool) (C : CallT) (m : Str) (k : Nat) (c : Str) : Prop where
  cl : Cls X.K (He.ga X.K c)
  me : Meth X.K (He.ga X.K c) m (He.ma X.K (He.ga X.K c) m)
  fn : ∃ fd ps, FnOk X.prog X.w X.K X.mg X.base (L2.CX X.prog X.w) k (He.ma X.K (He.ga X.K c) m) fd ps (spC X.K rw C (dot c m)) ∧ Binds X.K fd ps []
theorem isOf_inv {S : Store} {c m : Str} {x : Val} (h : isOf S c m x = true) : ∃ n fs, x = .loc n ∧ S[n]? = some (.inst c fs) ∧ fs.lookup m = none := by
  cases x <;> simp only [isOf, Bool.false_eq_true] at h
  rename_i n
  cases q : S[n]? with
  | none => rw [q] at h; cases h
  | some ob =>
    rw [q] at h
    cases ob <;> try cases h
    rename_i d fs
    simp only [Bool.and_eq_true, decide_eq_true_eq, Option.isNone_iff_eq_none] at h
    obtain ⟨rfl, h2⟩ := h
    exact ⟨n, fs, rfl, q, h2⟩
theorem s_meth {k : Nat} {o : Expr} {c m : Str} {es : List Expr} {o' : E} {es' : List E} {apos pos : Pos} (hb : notCall0 o = true) (ns : es.all notStarred = true) (hl : es.length < 30) (hline : (apos.endLine == pos.line) = true) (hr : Room k X.A) (tk : Takes X W)
    (M : MethOk X rw C m k c) (ho : SE X rw C W o o') (ha : SA X rw C W es es') (hlen : es.length = es'.length) : SE X rw C W (.Call (.Attribute o m apos) es [] pos) (.meth o' c m es') := by
  obtain ⟨pl, ht⟩ := eval_meth (noSuper_of hb m X.env) ns hl hline (pos := pos)
  obtain ⟨fd, ps, F, b⟩ := M.fn
  have look : ∀ {m1 H1 S1 x u}, SRel X.K rw m1 H1 S1 → Rep X.K m1 H1 x u → isOf S1 c m x = true → ∃ a dx us, u = .ref a ∧ H1 a = some (.ins (He.ga X.K c) dx us) ∧ us.lookup m = none := by
    intro m1 H1 S1 x u s1 r1 hq
    obtain ⟨n, fs, rfl, q, l⟩ := isOf_inv hq
    obtain ⟨a, rfl, ha⟩ := rep_loc r1
    obtain ⟨kc, dx, us, k1, p1⟩ := s1.atA ha q
    refine ⟨a, dx, us, rfl, k1, ?_⟩
    rcases RepP.look p1 m with ⟨_, e2⟩ | ⟨v, w, e1, _⟩
    · exact e2
    · rw [e1] at l; cases l
  cases es with
  | nil =>
    cases es' with
    | cons _ _ => simp at hlen
    | nil =>
      refine PE.wk (pe_methS0 (E := WE W) ho M.cl M.me F hr b (fun σ => passAt tk σ) ht) fun σ H Q ⟨mm, S, ρ, hS, hE, h⟩ => ?_
      simp only [ev] at h
      refine ⟨mm, S, ρ, hS, hE, Out.bind h fun x S1 m1 H1 u x1 s1 r1 h1 => ?_⟩
      split at h1
      · rename_i hq
        obtain ⟨a, dx, us, e1, e2, e3⟩ := look s1 r1 hq
        simp only [evs, Res.bind_ok] at h1
        exact ⟨a, dx, us, e1, e2, e3, m1, S1, [x], s1, .cons r1 .nil, h1.sig fun _ _ _ z => z⟩
      · exact h1.elim
  | cons e es =>
    simp only [List.all_cons, Bool.and_eq_true] at ns
    refine PE.wk (pe_methS2 (E := WE W) ho M.cl M.me F hr b (fun σ => passAt tk σ) ha (noStar_of ns.1 _ _) (backTo_of ns.2 _ _) ht) fun σ H Q ⟨mm, S, ρ, hS, hE, h⟩ => ?_
    simp only [ev] at h
    refine ⟨mm, S, ρ, hS, hE, Out.bind h fun x S1 m1 H1 u x1 s1 r1 h1 => ?_⟩
    split at h1
    · rename_i hq
      obtain ⟨a, dx, us, e1, e2, e3⟩ := look s1 r1 hq
      refine ⟨a, dx, us, e1, e2, e3, m1, S1, ρ, s1, hE.ext x1, Out.bind h1 fun xs S2 m2 H2 ws x2 s2 r2 h2 => ?_⟩
      exact ⟨m2, S2, x :: xs, s2, .cons (r1.ext x2) r2, h2.sig fun _ _ _ z => z⟩
    · exact h1.elim
theorem run_makeS {pins : List (Addr × PySem.Obj)} {σ : L2.St} {H : Hp} {s : Shared} {Q : VK} {us : List Value} {vs : List V} {f C0 : Addr} {fd : FuncData} {ps : List Str} {sp : Sp} {k : Nat} {CX : CXT} {E : XK} (M : Mk X.K C0 f) (F : FnOk X.prog X.w X.K X.mg X.base CX k f fd ps sp) (hr : Room (k + 1) X.A) (hb : Binds X.K fd ps [])
    (hx : PassesAt CX X σ E) (I : Inv X pins σ H s) (r : Vals vs us)
    (h : ∀ x dx, H x = none → H dx = none → dx ≠ x → sp (.ref x :: vs) (upd (upd H dx (.own x)) x (.ins C0 dx [])) (fun v H2 => v = .non ∧ Q (.ref x) H2) E) :
    wpAny (model X.prog X.w) X.A (call (.ref C0) us) (EP X pins σ Q) X.xe s := by
  have hq := h (s.heap.objs.size + 1) s.heap.objs.size (I.hok.fresh (Nat.le_succ _)) (I.hok.fresh (Nat.le_refl _)) (Nat.ne_of_lt (Nat.lt_succ_self _))
  have I2 := Inv.made (C := C0) I
  have r2 : Vals (V.ref (s.heap.objs.size + 1) :: vs) (Value.ref (s.heap.objs.size + 1) :: us) := .cons rfl r
  have hl : (Value.ref (s.heap.objs.size + 1) :: us).length = ps.length := by
    have e := r2.length
    rw [F.len _ _ _ _ hq] at e
    exact e.symm
  have b := hb _ (Value.ref (s.heap.objs.size + 1) :: us) I2.kIn (by rw [List.append_nil]; exact hl)
  rw [List.append_nil] at b
  refine wpAny_call (make_map (f := f) I.kIn M.makes M.init (beq_iff_eq.mp M.fn) (codeAny_mono (F.run _ X.stack _ _ ⟨Value.ref (s.heap.objs.size + 1) :: us, []⟩ (Value.ref (s.heap.objs.size + 1) :: us) _ _ E (hr.make C0 us [])
    (I2.env0.make C0 us []) b r2 hq) fun r s' hq' => ?_))
  cases r with
  | error e => exact hx pins _ _ e s' I2 hq'
  | ok fl =>
    cases fl with
    | ret u =>
      obtain ⟨v, H', I3, rv, ev, q3⟩ := I2.after hq'
      subst ev
      exact ⟨rv, ⟨V.ref (s.heap.objs.size + 1), H', I3, rfl, q3⟩⟩
    | next => exact False.elim hq'
    | brk => exact False.elim hq'
    | cont => exact False.elim hq'
structure MakeOk (X : Cx) (rw : Bool) (C : CallT) (k : Nat) (c : Str) : Prop where
  kc : KCls X.K c
  mkr : Mk X.K (He.ga X.K c) (He.ma X.K (He.ga X.K c) "__init__")
  mg : X.mg c = some (.ref (He.ga X.K c))
  fn : ∃ fd ps, FnOk X.prog X.w X.K X.mg X.base (L2.CX X.prog X.w) k (He.ma X.K (He.ga X.K c) "__init__") fd ps (spC X.K rw C (dot c (Str.ofString "__init__"))) ∧ Binds X.K fd ps []
theorem s_make {k : Nat} {c : Str} {e : Expr} {es : List Expr} {es' : List E} {p pos : Pos} (ns : (e :: es).all notStarred = true) (hr : Room (k + 1) X.A) (tk : Takes X W) (M : MakeOk X rw C k c) (hg : Gl X c) (hdb : (c == ("__debug__" : Str)) = false) (ha : SA X rw C W (e :: es) es') :
    SE X rw C W (.Call (.Name c p) (e :: es) [] pos) (.make c es') := by
  have ns' := ns
  simp only [List.all_cons, Bool.and_eq_true] at ns'
  obtain ⟨fd, ps, F, b⟩ := M.fn
  refine ⟨fun pins s σ H Q I ⟨m, S, ρ, hS, hE, h⟩ => ?_⟩
  refine wpAny_Call_Name_kw (ld_glob I hg M.mg ?_ hdb)
  simp only [ev] at h
  refine PySem.W.callWith_K (h₀ := X.base) I.ok.mod.kin M.mkr.kp (thn (ha.run pos pins s σ H (fun vs H1 => ∃ m1 S1 avs, SRel X.K rw m1 H1 S1 ∧ Ext rw m H m1 H1 ∧ Reps X.K m1 H1 avs vs ∧ Out X.K rw m1 H1 σ W (Rep X.K) ((C (dot c (Str.ofString "__init__")) (.loc S1.length :: avs) (S1 ++ [.inst c []])).bind fun v S2 => (match v with
        | .non => .ok (.loc S1.length) S2
        | _ => .stuck)) Q) I ⟨m, S, ρ, hS, hE, Out.bind h fun xs S1 m1 H1 us x1 s1 r1 h1 => ⟨m1, S1, xs, s1, x1, r1, h1⟩⟩) fun us s1 ⟨vs, H1, I1, r, m1, S1, avs, sr, x1, ra, h1⟩ => ⟨I1.kIn, ?_⟩) (noStar_of ns'.1 _ _) (backTo_of ns'.2 _ _)
  refine run_makeS (E := WE W σ) M.mkr F hr b (passAt tk σ) I1 r fun x dx nx ndx nex => ?_
  have xa : Ext rw m1 H1 m1 (upd H1 dx (.own x)) := Ext.new ndx
  have sa : SRel X.K rw m1 (upd H1 dx (.own x)) S1 := sr.new ndx
  have nx' : upd H1 dx (.own x) x = none := by rw [upd_ne (Ne.symm nex)]; exact nx
  have xb : Ext rw m1 (upd H1 dx (.own x)) (m1 ++ [x]) (upd (upd H1 dx (.own x)) x (.ins (He.ga X.K c) dx [])) := Ext.box nx'
  have sb : SRel X.K rw (m1 ++ [x]) (upd (upd H1 dx (.own x)) x (.ins (He.ga X.K c) dx [])) (S1 ++ [.inst c []]) := sa.push nx' ⟨M.kc, dx, [], upd_same, .nil⟩
  refine ⟨m1 ++ [x], S1 ++ [.inst c []], .loc S1.length :: avs, sb, .cons (.loc (m_len sr x)) (ra.ext (xa.trans xb)), ?_⟩
  refine Out.sig (Out.bind (h1.ext (xa.trans xb)) fun v S2 m2 H2 u x2 s2 r2 h2 => ?_) fun _ _ _ z => z
  cases v <;> try exact h2.elim
  cases r2
  exact ⟨rfl, h2.fin s2 (.loc (x2.get (m_len sr x)))⟩
end
end HI
set_option Elab.async false
set_option linter.all false
set_option maxRecDepth 100000
namespace HI
open PySem PySem.Spec PyProof.Rows L2
def JRel (K : PySem.W.Frag) (rw : Bool) (m1 : MM) (H1 : Hp) (p : List Val × Src) (J : L2.It) : Prop :=
  ∀ m H S, Ext rw m1 H1 m H → SRel K rw m H S → still p.2 S → ∀ i : Nat, (p.1.length ≤ i → J.stop i H) ∧
    ∀ v, p.1[i]? = some v → J.go i H ∧ ∀ x H', J.yld i H x H' → Ext rw m H m H' ∧ SRel K rw m H' S ∧ Rep K m H' v x
def rdI (K : PySem.W.Frag) (rw : Bool) (C : CallT) (W : WX) (it : It) : TI := fun σ H R => ∃ m S ρ, SRel K rw m H S ∧ ERel K m H ρ σ ∧ Out K rw m H σ W (JRel K rw) (evIt C it ρ S) R
abbrev SI (X : Cx) (rw : Bool) (C : CallT) (W : WX) (tg iter : Expr) (it : It) : Prop := PI X tg iter (rdI X.K rw C W it)
section
variable {X : Cx} {C : CallT} {W : WX} {rw : Bool}
theorem PI.wk {tg e : Expr} {t t' : TI} (h : PI X tg e t) (k : ∀ σ H Q, t' σ H Q → t σ H Q) : PI X tg e t' := ⟨fun pins s σ H Q I hw => h.run pins s σ H Q I (k σ H Q hw)⟩
theorem PI.or {tg e : Expr} {t t' : TI} (h : PI X tg e t) (h' : PI X tg e t') : PI X tg e (fun σ H Q => t σ H Q ∨ t' σ H Q) := ⟨fun pins s σ H Q I hw => hw.elim (h.run pins s σ H Q I) (h'.run pins s σ H Q I)⟩
theorem J_list {K : PySem.W.Frag} {m1 : MM} {H1 : Hp} {S1 : Store} {x : Val} {a : Addr} {vs : List Val} (s1 : SRel K rw m1 H1 S1) (rx : Rep K m1 H1 x (.ref a)) (e : lstOf S1 x = some vs) : JRel K rw m1 H1 (vs, srcOf S1 x) (Itl K a) := by
  intro m H S xt hS hst i
  have at_ : ∃ us, H a = some (.lst us) ∧ Reps K m H vs us := by
    cases x with
    | lst ws =>
      simp only [lstOf] at e; cases e
      obtain ⟨a', us, h1, h2, h3, h4⟩ := rep_lst rx
      cases h1
      exact ⟨us, xt.keep _ _ h2 (.inl h3), h4.ext xt⟩
    | loc n =>
      simp only [lstOf] at e
      obtain ⟨a', h1, ha⟩ := rep_loc rx
      cases h1
      cases q : S1[n]? with
      | none => rw [q] at e; cases e
      | some ob =>
        rw [q] at e
        cases ob <;> try cases e
        simp only [srcOf, q, still] at hst
        exact hS.atA (xt.get ha) hst.1
    | _ => simp only [lstOf] at e; cases e
  obtain ⟨us, h1, h2⟩ := at_
  refine ⟨fun hl => ⟨us, SqL.of h1, by rw [← h2.length]; exact hl⟩, fun v hv => ?_⟩
  obtain ⟨u, hu, ru⟩ := h2.get hv
  refine ⟨⟨us, u, SqL.of h1, hu⟩, fun y H' hy => ?_⟩
  obtain ⟨rfl, hy⟩ := hy
  have := hy us (SqL.of h1)
  rw [hu] at this; cases this
  exact ⟨Ext.refl, hS, ru⟩
theorem J_tup {K : PySem.W.Frag} {m1 : MM} {H1 : Hp} {S1 : Store} {a : Addr} {vs : List Val} (rx : Rep K m1 H1 (.tup vs) (.ref a)) : JRel K rw m1 H1 (vs, []) (Itt K a) := by
  intro m H S xt hS hst i
  obtain ⟨a', us, h1, h2, h3, h4⟩ := rep_tup rx
  cases h1
  have k1 := xt.keep _ _ h2 (.inl h3)
  have k2 := h4.ext xt
  refine ⟨fun hl => ⟨us, SqT.of k1, by rw [← k2.length]; exact hl⟩, fun v hv => ?_⟩
  obtain ⟨u, hu, ru⟩ := k2.get hv
  refine ⟨⟨us, u, SqT.of k1, hu⟩, fun y H' hy => ?_⟩
  obtain ⟨rfl, hy⟩ := hy
  have := hy us (SqT.of k1)
  rw [hu] at this; cases this
  exact ⟨Ext.refl, hS, ru⟩
theorem J_str {K : PySem.W.Frag} {m1 : MM} {H1 : Hp} {s : Str} : JRel K rw m1 H1 (charsOf s, []) (Its s) := by
  intro m H S xt hS hst i
  refine ⟨fun hl => (show s.cps.size ≤ i by simpa [charsOf] using hl), fun v hv => ?_⟩
  simp only [charsOf, List.getElem?_map] at hv
  cases q : s.cps.toList[i]? with
  | none => rw [q] at hv; cases hv
  | some c =>
    rw [q] at hv; cases hv
    have q' : s.cps[i]? = some c := by simpa using q
    refine ⟨(Array.getElem?_eq_some_iff.mp q').1, fun y H' hy => ?_⟩
    obtain ⟨rfl, c', h1, rfl⟩ := hy
    rw [q'] at h1; cases h1
    exact ⟨Ext.refl, hS, .str _⟩
theorem J_range {K : PySem.W.Frag} {m1 : MM} {H1 : Hp} {lo : Int} {n : Nat} : JRel K rw m1 H1 (rangeV lo n, []) (Itr lo n) := by
  intro m H S xt hS hst i
  refine ⟨fun hl => (show n ≤ i by simpa [rangeV] using hl), fun v hv => ?_⟩
  simp only [rangeV, List.getElem?_map] at hv
  cases q : (List.range n)[i]? with
  | none => rw [q] at hv; cases hv
  | some c =>
    rw [q] at hv; cases hv
    obtain ⟨h1, h2⟩ := List.getElem?_eq_some_iff.mp q
    simp at h1 h2; subst h2
    refine ⟨h1, fun y H' hy => ?_⟩
    obtain ⟨rfl, rfl⟩ := hy
    exact ⟨Ext.refl, hS, .int _⟩
theorem i_seq {tg a : Expr} {a' : E} (ha : SE X rw C W a a') : SI X rw C W tg a (.seq a') := by
  refine PI.wk (PI.or (pi_list ha) (PI.or (pi_tup ha) (pi_str ha))) fun σ H R ⟨m, S, ρ, hS, hE, h⟩ => ?_
  simp only [evIt] at h
  have gen : ∀ (P : Val → Prop) (F : V → Hp → Prop), (∀ x S1, ev C a' ρ S = .ok x S1 → P x) →
      (∀ x S1 m1 H1 u vs, ev C a' ρ S = .ok x S1 → P x → itemsOf S1 x = some vs → SRel X.K rw m1 H1 S1 → Rep X.K m1 H1 x u → Out X.K rw m1 H1 σ W (JRel X.K rw) (.ok (vs, srcOf S1 x) S1) R → F u H1) → rdE X.K rw C W a' σ H F := by
    intro P F hP hF
    refine ⟨m, S, ρ, hS, hE, Out.bindE h fun x S1 m1 H1 u e1 x1 s1 r1 h1 => ?_⟩
    cases q : itemsOf S1 x with
    | none => rw [q] at h1; exact h1.elim
    | some vs => rw [q] at h1; exact hF x S1 m1 H1 u vs e1 (hP x S1 e1) q s1 r1 h1
  by_cases c1 : ∀ x S1, ev C a' ρ S = .ok x S1 → (match x with | .tup _ => True | _ => False)
  · refine .inr (.inl (gen _ _ c1 fun x S1 m1 H1 u vs e1 hp hi s1 r1 h1 => ?_))
    cases x <;> try exact hp.elim
    obtain ⟨a, us, rfl, k1, k2, k3⟩ := rep_tup r1
    simp only [itemsOf] at hi; cases hi
    exact ⟨a, rfl, ⟨us, SqT.of k1⟩, h1.fin s1 (J_tup (S1 := S1) r1)⟩
  · by_cases c2 : ∀ x S1, ev C a' ρ S = .ok x S1 → (match x with | .str _ => True | _ => False)
    · refine .inr (.inr (gen _ _ c2 fun x S1 m1 H1 u vs e1 hp hi s1 r1 h1 => ?_))
      cases x <;> try exact hp.elim
      cases rep_str r1
      simp only [itemsOf] at hi; cases hi
      exact ⟨_, rfl, h1.fin s1 J_str⟩
    · refine .inl (gen (fun x => (match x with | .tup _ => False | .str _ => False | _ => True)) _ (fun x S1 e => ?_) fun x S1 m1 H1 u vs e1 hp hi s1 r1 h1 => ?_)
      · cases x <;> try trivial
        · exact c2 fun y S2 e2 => by rw [e] at e2; cases e2; trivial
        · exact c1 fun y S2 e2 => by rw [e] at e2; cases e2; trivial
      · have el : lstOf S1 x = some vs := by
          cases x with
          | lst ws => simp only [itemsOf] at hi; cases hi; rfl
          | loc n =>
            simp only [itemsOf] at hi
            simp only [lstOf]
            cases q : S1[n]? with
            | none => rw [q] at hi; cases hi
            | some ob => rw [q] at hi; cases ob <;> first | exact hi | cases hi
          | tup _ => exact hp.elim
          | str _ => exact hp.elim
          | _ => simp only [itemsOf] at hi; cases hi
        obtain ⟨a, us, rfl, k1, k2⟩ := lstOf_rep s1 r1 el
        exact ⟨a, rfl, ⟨us, SqL.of k1⟩, h1.fin s1 (J_list s1 r1 el)⟩
theorem okR_ok {i : Int} (h : okR i = true) : -(2 ^ 62) ≤ i ∧ i < 2 ^ 62 := by
  unfold okR at h
  rw [Bool.and_eq_true, decide_eq_true_eq, decide_eq_true_eq] at h
  exact h
theorem i_range1 {tg a : Expr} {a' : E} {p pos : Pos} (hg : Gl X "range") (hm : X.mg "range" = none) (ns : notStarred a = true) (ha : SE X rw C W a a') : SI X rw C W tg (.Call (.Name "range" p) [a] [] pos) (.range1 a') := by
  refine PI.wk (pi_range1 hg hm (pa_cons ha pa_nil (noStar_of ns _ _)) (noStar_of ns _ _)) fun σ H R ⟨m, S, ρ, hS, hE, h⟩ => ?_
  simp only [evIt] at h
  refine ⟨m, S, ρ, hS, hE, Out.bind h fun x S1 m1 H1 u x1 s1 r1 h1 => ?_⟩
  cases x <;> try exact h1.elim
  cases rep_int r1
  simp only at h1
  split at h1
  · rename_i hr
    have := okR_ok hr
    exact ⟨_, rfl, this.1, this.2, h1.fin s1 J_range⟩
  · exact h1.elim
theorem i_range2 {tg a b : Expr} {a' b' : E} {p pos : Pos} (hg : Gl X "range") (hm : X.mg "range" = none) (na : notStarred a = true) (nb : notStarred b = true) (ha : SE X rw C W a a') (hb : SE X rw C W b b') : SI X rw C W tg (.Call (.Name "range" p) [a, b] [] pos) (.range2 a' b') := by
  have e1 : starEach [b] X.env = [(false, eval b X.env)] := noStar_of nb _ _
  have e2 : starEach [a, b] X.env = [(false, eval a X.env), (false, eval b X.env)] := by rw [noStar_of na [b] X.env, e1]
  refine PI.wk (pi_range2 hg hm (pa_cons ha (pa_cons hb pa_nil (noStar_of nb _ _)) (noStar_of na _ _)) e2 e1) fun σ H R ⟨m, S, ρ, hS, hE, h⟩ => ?_
  simp only [evIt] at h
  refine ⟨m, S, ρ, hS, hE, Out.bind h fun x S1 m1 H1 u x1 s1 r1 h1 => ⟨m1, S1, ρ, s1, hE.ext x1, Out.bind h1 fun y S2 m2 H2 w x2 s2 r2 h2 => ?_⟩⟩
  cases x <;> try exact h2.elim
  cases y <;> try exact h2.elim
  cases rep_int r1; cases rep_int r2
  simp only at h2
  split at h2
  · rename_i hr
    rw [Bool.and_eq_true] at hr
    have k1 := okR_ok hr.1
    have k2 := okR_ok hr.2
    exact ⟨_, _, rfl, ⟨k1.1, k1.2, k2.1, k2.2⟩, h2.fin s2 J_range⟩
  · exact h2.elim
mutual
def tgS : Tg → List Nat
  | .one i => [i]
  | .tup ts => tgSs ts
def tgSs : List Tg → List Nat
  | [] => []
  | t :: ts => tgS t ++ tgSs ts
end
def rdG (K : PySem.W.Frag) (rw : Bool) (tg : Tg) : TG := fun v σ H Q => ∃ m S ρ x, SRel K rw m H S ∧ ERel K m H ρ σ ∧ Rep K m H x v ∧ ∃ ρ', asgT tg x ρ = some ρ' ∧ ∀ σ', ERel K m H ρ' σ' → (∀ j, j ∉ tgS tg → σ'[j]? = σ[j]?) → Q σ' H
def rdGs (K : PySem.W.Frag) (rw : Bool) (tg : List Tg) : TGs := fun v σ H Q => ∃ m S ρ x, SRel K rw m H S ∧ ERel K m H ρ σ ∧ Reps K m H x v ∧ ∃ ρ', asgTs tg x ρ = some ρ' ∧ ∀ σ', ERel K m H ρ' σ' → (∀ j, j ∉ tgSs tg → σ'[j]? = σ[j]?) → Q σ' H
theorem PG.wk {tg : Expr} {t t' : TG} (h : PG X tg t) (k : ∀ v σ H Q, t' v σ H Q → t v σ H Q) : PG X tg t' := ⟨fun pins s σ H v u Q I r hw => h.run pins s σ H v u Q I r (k v σ H Q hw)⟩
theorem PGs.wk {tg : List Expr} {t t' : TGs} (h : PGs X tg t) (k : ∀ v σ H Q, t' v σ H Q → t v σ H Q) : PGs X tg t' := ⟨fun pins s σ H v u Q I r hw => h.run pins s σ H v u Q I r (k v σ H Q hw)⟩
theorem ERel.set {K : PySem.W.Frag} {m : MM} {H : Hp} {ρ : Env} {σ : L2.St} {i : Nat} {v : Val} {u : V} (h : ERel K m H ρ σ) (r : Rep K m H v u) : ERel K m H (ρ.set i (some v)) (σ.set i (some u)) := by
  refine ⟨by simp [h.len], fun j w e => ?_⟩
  by_cases hj : i = j
  · subst hj
    have hl : i < ρ.length := by
      have := (List.getElem?_eq_some_iff.mp e).1
      simpa using this
    rw [List.getElem?_set_self hl] at e; cases e
    exact ⟨u, by rw [List.getElem?_set_self (by rw [← h.len]; exact hl)], r⟩
  · rw [List.getElem?_set_ne hj] at e
    obtain ⟨u', h1, h2⟩ := h.val j w e
    exact ⟨u', by rw [List.getElem?_set_ne hj]; exact h1, h2⟩
theorem g_one {x : Str} {i : Nat} {pos : Pos} (hN : X.N.Nodup) (hi : X.N[i]? = some x) (hx : Loc X.env.scope x) (hf : X.fn x = true ∨ X.env.scope.names.lookup x = some .local) : PG X (.Name x pos) (rdG X.K rw (.one i)) := by
  refine PG.wk (pg_name hN hi hx hf) fun v σ H Q ⟨m, S, ρ, w, hS, hE, hr, ρ', e, k⟩ => ?_
  simp only [asgT] at e; cases e
  refine k _ (hE.set hr) fun j hj => ?_
  simp [tgS] at hj
  rw [List.getElem?_set_ne (Ne.symm hj)]
theorem gs_nil : PGs X [] (rdGs X.K rw []) := by
  refine PGs.wk pgs_nil fun v σ H Q ⟨m, S, ρ, w, hS, hE, hr, ρ', e, k⟩ => ?_
  cases w with
  | nil => cases hr; simp only [asgTs] at e; cases e; exact ⟨rfl, k σ hE fun _ _ => rfl⟩
  | cons _ _ => simp only [asgTs] at e; cases e
theorem gs_cons {e : Expr} {es : List Expr} {t : Tg} {ts : List Tg} (h1 : PG X e (rdG X.K rw t)) (h2 : PGs X es (rdGs X.K rw ts)) (hs : (assignEach (e :: es) X.env).map (·.2) = assign e X.env :: (assignEach es X.env).map (·.2)) : PGs X (e :: es) (rdGs X.K rw (t :: ts)) := by
  refine PGs.wk (pgs_cons h1 h2 hs) fun v σ H Q ⟨m, S, ρ, w, hS, hE, hr, ρ', e, k⟩ => ?_
  cases w with
  | nil => simp only [asgTs] at e; cases e
  | cons a w =>
    cases hr with
    | cons r q =>
      simp only [asgTs] at e
      cases e1 : asgT t a ρ with
      | none => rw [e1] at e; cases e
      | some ρ1 =>
        rw [e1] at e
        refine ⟨_, _, rfl, m, S, ρ, a, hS, hE, r, ρ1, e1, fun σ1 hE1 k1 => ⟨m, S, ρ1, w, hS, hE1, q, ρ', e, fun σ2 hE2 k2 => k σ2 hE2 fun j hj => ?_⟩⟩
        simp only [tgSs, List.mem_append, not_or] at hj
        rw [k2 j hj.2, k1 j hj.1]
theorem g_tup {es : List Expr} {ts : List Tg} {k : Nat} {pos : Pos} (hc : X.calm = true) (h : PGs X es (rdGs X.K rw ts)) (hn : (assignEach es X.env).length = ts.length) (hst : (assignEach es X.env).findIdx? (·.1) = none) : PG X (.Tuple es k pos) (rdG X.K rw (.tup ts)) := by
  refine PG.wk (pg_tup (n := ts.length) hc h hn hst) fun v σ H Q ⟨m, S, ρ, w, hS, hE, hr, ρ', e, k⟩ => ?_
  cases w <;> simp only [asgT] at e <;> try cases e
  rename_i vs
  obtain ⟨a, us, rfl, h1, h2, h3⟩ := rep_tup hr
  refine ⟨a, us, rfl, SqT.of h1, ?_, m, S, ρ, vs, hS, hE, h3, ρ', e, fun σ' q1 q2 => k σ' q1 (by simpa only [tgS] using q2)⟩
  rw [← h3.length]
  have : ∀ (ts : List Tg) (vs : List Val) (ρ ρ' : Env), asgTs ts vs ρ = some ρ' → vs.length = ts.length := by
    intro ts
    induction ts with
    | nil => intro vs ρ ρ' h; cases vs <;> simp only [asgTs] at h <;> first | rfl | cases h
    | cons t ts ih =>
      intro vs ρ ρ' h
      cases vs with
      | nil => simp only [asgTs] at h; cases h
      | cons v vs =>
        simp only [asgTs] at h
        cases q : asgT t v ρ with
        | none => rw [q] at h; cases h
        | some ρ1 => rw [q] at h; simp [ih vs ρ1 ρ' h]
  exact this ts vs ρ ρ' e
end
end HI
set_option Elab.async false
set_option linter.all false
set_option maxRecDepth 100000
namespace HI
open PySem PySem.Spec PyProof.Rows L2
abbrev WF : WX := fun _ _ _ _ => False
def rdC (K : PySem.W.Frag) (rw : Bool) (C : CallT) : Option E → TT
  | none => tYes
  | some e => rdT K rw C WF e
mutual
theorem asgT_out {i : Nat} : ∀ (t : Tg) (v : Val) (ρ : Env), i ∉ tgS t → asgT t v (ρ.set i none) = (asgT t v ρ).map (·.set i none)
  | .one j, v, ρ, h => by
    simp only [tgS, List.mem_singleton] at h
    simp only [asgT, Option.map_some, Option.some.injEq]
    exact List.set_comm _ _ h
  | .tup ts, v, ρ, h => by
    cases v <;> simp only [asgT, Option.map_none]
    exact asgTs_out ts _ ρ (by simpa only [tgS] using h)
theorem asgTs_out {i : Nat} : ∀ (ts : List Tg) (vs : List Val) (ρ : Env), i ∉ tgSs ts → asgTs ts vs (ρ.set i none) = (asgTs ts vs ρ).map (·.set i none)
  | [], [], ρ, h => by simp only [asgTs, Option.map_some]
  | [], _ :: _, ρ, h => by simp only [asgTs, Option.map_none]
  | _ :: _, [], ρ, h => by simp only [asgTs, Option.map_none]
  | t :: ts, v :: vs, ρ, h => by
    simp only [tgSs, List.mem_append, not_or] at h
    simp only [asgTs]
    rw [asgT_out t v ρ h.1]
    cases asgT t v ρ with
    | none => rfl
    | some ρ1 => exact asgTs_out ts vs ρ1 h.2
end
mutual
theorem asgT_in {i : Nat} : ∀ (t : Tg) (v : Val) (ρ : Env), i ∈ tgS t → asgT t v (ρ.set i none) = asgT t v ρ
  | .one j, v, ρ, h => by
    simp only [tgS, List.mem_singleton] at h
    subst h
    simp only [asgT, List.set_set]
  | .tup ts, v, ρ, h => by
    cases v <;> simp only [asgT]
    exact asgTs_in ts _ ρ (by simpa only [tgS] using h)
theorem asgTs_in {i : Nat} : ∀ (ts : List Tg) (vs : List Val) (ρ : Env), i ∈ tgSs ts → asgTs ts vs (ρ.set i none) = asgTs ts vs ρ
  | [], _, ρ, h => by simp [tgSs] at h
  | _ :: _, [], ρ, h => by simp only [asgTs]
  | t :: ts, v :: vs, ρ, h => by
    simp only [asgTs]
    by_cases ht : i ∈ tgS t
    · rw [asgT_in t v ρ ht]
    · have h2 : i ∈ tgSs ts := by
        simp only [tgSs, List.mem_append] at h
        exact h.resolve_left ht
      rw [asgT_out t v ρ ht]
      cases asgT t v ρ with
      | none => rfl
      | some ρ1 => exact asgTs_in ts vs ρ1 h2
end
def wipeE (ρ : Env) : List Nat → Env
  | [] => ρ
  | v :: vs => (wipeE ρ vs).set v none
theorem asg_wipe {t : Tg} {v : Val} {ρ : Env} : ∀ (vs : List Nat), (∀ i ∈ vs, i ∈ tgS t) → asgT t v (wipeE ρ vs) = asgT t v ρ
  | [], _ => rfl
  | i :: vs, h => by
    simp only [wipeE]
    rw [asgT_in t v _ (h i (by simp)), asg_wipe vs fun j hj => h j (by simp [hj])]
theorem wipe_get {σ : L2.St} {j : Nat} : ∀ (vs : List Nat), j ∉ vs → (wipe σ vs)[j]? = σ[j]?
  | [], _ => rfl
  | i :: vs, h => by
    simp only [List.mem_cons, not_or] at h
    simp only [wipe]
    rw [List.getElem?_set_ne (Ne.symm h.1), wipe_get vs h.2]
theorem wipe_in {σ : L2.St} {j : Nat} : ∀ (vs : List Nat), j ∈ vs → (wipe σ vs)[j]? = if j < σ.length then some none else none
  | [], h => by simp at h
  | i :: vs, h => by
    simp only [wipe]
    by_cases e : i = j
    · subst e
      split
      · rw [List.getElem?_set_self (by rw [wipe_length]; assumption)]
      · rw [List.getElem?_eq_none (by simp [wipe_length]; omega)]
    · rw [List.getElem?_set_ne e]
      exact wipe_in vs (by simpa [Ne.symm e] using h)
theorem wipe_same {σ τ : L2.St} {vs : List Nat} (hl : τ.length = σ.length) (h : ∀ j, j ∉ vs → τ[j]? = (wipe σ vs)[j]?) : wipe τ vs = wipe σ vs := by
  apply List.ext_getElem?
  intro j
  by_cases hj : j ∈ vs
  · rw [wipe_in vs hj, wipe_in vs hj, hl]
  · rw [wipe_get vs hj, h j hj]
theorem ERel.wipe {K : PySem.W.Frag} {m : MM} {H : Hp} {ρ : Env} {σ : L2.St} (h : ERel K m H ρ σ) : ∀ vs : List Nat, ERel K m H (wipeE ρ vs) (L2.wipe σ vs)
  | [] => h
  | i :: vs => by
    have ih := ERel.wipe h vs
    simp only [wipeE, L2.wipe]
    refine ⟨by simp [ih.len], fun j w e => ?_⟩
    by_cases hj : i = j
    · subst hj
      have hl : i < (wipeE ρ vs).length := by
        have := (List.getElem?_eq_some_iff.mp e).1
        simpa using this
      rw [List.getElem?_set_self hl] at e; cases e
    · rw [List.getElem?_set_ne hj] at e
      obtain ⟨u, h1, h2⟩ := ih.val j w e
      exact ⟨u, by rw [List.getElem?_set_ne hj]; exact h1, h2⟩
section
variable {X : Cx} {C : CallT} {W : WX} {rw : Bool}
noncomputable def compF (C : CallT) (tg : Tg) (cond : Option E) (elt : E) (ρ : Env) : Val → Store → Res (Option Val) := fun x S2 => match asgT tg x ρ with
  | some ρ' => (evC C cond ρ' S2).bind fun t S3 => if t = true then (noExc (ev C elt ρ' S3)).bind fun v S4 => .ok (some v) S4 else .ok none S3
  | none => .stuck
theorem noExc_ok {α : Type} {r : Res α} {v : α} {S : Store} (h : noExc r = .ok v S) : r = .ok v S := by
  cases r <;> simp only [noExc] at h <;> first | exact h | cases h
theorem c_in_turn {cond : Option E} {m : MM} {H : Hp} {S : Store} {ρ' : Env} {σ : L2.St} {Q : Bool → Hp → Prop} (hS : SRel X.K rw m H S) (hE : ERel X.K m H ρ' σ)
    (h : ∀ t S1, evC C cond ρ' S = .ok t S1 → ∀ m1 H1, Ext rw m H m1 H1 → SRel X.K rw m1 H1 S1 → Q t H1) (ne : ∀ c S1, evC C cond ρ' S ≠ .exc c S1) (ns : evC C cond ρ' S ≠ .stuck) : rdC X.K rw C cond σ H Q := by
  cases cond with
  | none => exact h true S (by simp only [evC]) m H Ext.refl hS
  | some e =>
    refine ⟨m, S, ρ', hS, hE, ?_⟩
    simp only [evC] at h ne ns
    cases q : evT C e ρ' S with
    | ok t S1 =>
      rw [q] at h
      exact fun m1 H1 u x s r => by subst r; exact h t S1 rfl m1 H1 x s
    | exc c S1 => rw [q] at ns; exact absurd rfl ns
    | stuck => rw [q] at ns; exact absurd rfl ns
theorem comp_loop {J : L2.It} {tg : Tg} {cond : Option E} {elt : E} {vs : List Nat} {σ : L2.St} {ρ : Env} {m1 : MM} {H1 : Hp} {D : Addr} {xs : List Val} {src : Src} {S1 : Store} {Qd : Hp → Prop}
    (h1 : ∀ i ∈ vs, i ∈ tgS tg) (h2 : ∀ i ∈ tgS tg, i ∈ vs) (s1 : SRel X.K rw m1 H1 S1) (hE : ERel X.K m1 H1 ρ σ) (hJ : JRel X.K rw m1 H1 (xs, src) J) (hD : H1 D = none)
    (hF : compGo src (compF C tg cond elt ρ) xs [] S1 ≠ .stuck) (nex : ∀ c S', compGo src (compF C tg cond elt ρ) xs [] S1 ≠ .exc c S')
    (hend : ∀ ws S' m H us, compGo src (compF C tg cond elt ρ) xs [] S1 = .ok ws S' → Ext rw m1 H1 m H → SRel X.K rw m H S' → D ∈ m.ph → H D = some (.lst us) → Reps X.K m H ws us → Qd H) :
    ∃ Wt : Nat → Nat → Hp → Prop, (∃ k, Wt 0 k (upd H1 D (.lst []))) ∧ ∀ i k H, Wt i k H → (J.stop i H ∧ Qd H) ∨ (J.go i H ∧ ∃ Nx : Hp → Prop, (∀ H', Nx H' → ∃ k', k' < k ∧ Wt (i + 1) k' H') ∧
      ∀ x H', J.yld i H x H' → rdG X.K rw tg x (L2.wipe σ vs) H' fun σ2 H2 => L2.wipe σ2 vs = L2.wipe σ vs ∧ rdC X.K rw C cond σ2 H2 fun b H3 =>
        if b = true then rdE X.K rw C WF elt σ2 H3 fun y H4 => ∃ acc, H4 D = some (.lst acc) ∧ acc.length < sizeLine ∧ Nx (upd H4 D (.lst (acc ++ [y]))) else Nx H3) := by
  -- the state at turn i
  refine ⟨fun i k H => k = xs.length - i ∧ i ≤ xs.length ∧ ∃ m S acc us, Ext rw m1 H1 m H ∧ SRel X.K rw m H S ∧ D ∈ m.ph ∧ H D = some (.lst us) ∧ Reps X.K m H acc us ∧ compGo src (compF C tg cond elt ρ) xs [] S1 = compGo src (compF C tg cond elt ρ) (xs.drop i) acc S,
    ⟨xs.length, by simp, Nat.zero_le _, m1.addP D, S1, [], [], Ext.newP hD, s1.newP hD, by simp [MM.addP], upd_same, .nil, rfl⟩, ?_⟩
  rintro i k H ⟨rfl, hi, m, S, acc, us, x, hS, hp, hd, hr, e⟩
  have st : still src S := by
    apply Classical.byContradiction
    intro hn
    apply hF
    rw [e]
    cases xs.drop i <;> simp only [compGo, guardS, hn, if_false]
  obtain ⟨j1, j2⟩ := hJ m H S x hS st i
  by_cases hl : i < xs.length
  · right
    obtain ⟨v, hv⟩ : ∃ v, xs[i]? = some v := ⟨xs[i], List.getElem?_eq_getElem hl⟩
    obtain ⟨jg, jy⟩ := j2 v hv
    have ed : xs.drop i = v :: xs.drop (i + 1) := by
      rw [List.drop_eq_getElem_cons hl]
      congr 1
      exact (List.getElem?_eq_some_iff.mp hv).2
    rw [ed] at e
    simp only [compGo, guardS_pos st] at e
    refine ⟨jg, fun H' => i + 1 ≤ xs.length ∧ ∃ m S acc us, Ext rw m1 H1 m H' ∧ SRel X.K rw m H' S ∧ D ∈ m.ph ∧ H' D = some (.lst us) ∧ Reps X.K m H' acc us ∧ compGo src (compF C tg cond elt ρ) xs [] S1 = compGo src (compF C tg cond elt ρ) (xs.drop (i + 1)) acc S, fun H' ⟨q1, q2⟩ => ⟨xs.length - (i + 1), by omega, rfl, q1, q2⟩, fun y H' hy => ?_⟩
    obtain ⟨x2, s2, r2⟩ := jy y H' hy
    -- the target
    cases ea : asgT tg v ρ with
    | none => exact absurd (by rw [e]; simp only [compF, ea, Res.bind_stuck]) hF
    | some ρ' =>
      refine ⟨m, S, wipeE ρ vs, v, s2, (((hE.ext x).ext x2).wipe vs), r2, ρ', by rw [asg_wipe vs h1]; exact ea, fun σ2 hE2 k2 => ⟨wipe_same ?_ fun j hj => k2 j fun z => hj (h2 j z), ?_⟩⟩
      · rw [← hE2.len]
        have : ∀ (t : Tg) (v : Val) (ρ ρ' : Env), asgT t v ρ = some ρ' → ρ'.length = ρ.length := by
          have both : ∀ n, (∀ (t : Tg), sizeOf t ≤ n → ∀ (v : Val) (ρ ρ' : Env), asgT t v ρ = some ρ' → ρ'.length = ρ.length) ∧ (∀ (ts : List Tg), sizeOf ts ≤ n → ∀ (vs : List Val) (ρ ρ' : Env), asgTs ts vs ρ = some ρ' → ρ'.length = ρ.length) := by
            intro n
            induction n with
            | zero => exact ⟨fun t h => by cases t <;> simp at h, fun ts h => by cases ts <;> simp at h⟩
            | succ n ih =>
              refine ⟨fun t h v ρ ρ' e => ?_, fun ts h vs ρ ρ' e => ?_⟩
              · cases t with
                | one i => simp only [asgT] at e; cases e; simp
                | tup ts =>
                  cases v <;> simp only [asgT] at e <;> try cases e
                  exact ih.2 ts (by simp at h; omega) _ _ _ e
              · cases ts with
                | nil => cases vs <;> simp only [asgTs] at e <;> cases e; rfl
                | cons t ts =>
                  cases vs with
                  | nil => simp only [asgTs] at e; cases e
                  | cons v vs =>
                    simp only [asgTs] at e
                    cases q : asgT t v ρ with
                    | none => rw [q] at e; cases e
                    | some ρ1 =>
                      rw [q] at e
                      simp at h
                      rw [ih.2 ts (by omega) _ _ _ e, ih.1 t (by omega) _ _ _ q]
          intro t v ρ ρ' e
          exact (both (sizeOf t)).1 t (Nat.le_refl _) v ρ ρ' e
        rw [this tg v ρ ρ' ea, hE.len]
      · -- the test
        have ne : ∀ c S', evC C cond ρ' S ≠ .exc c S' := by
          intro c S'
          cases cond with
          | none => simp [evC]
          | some ce => simp only [evC]; cases evT C ce ρ' S <;> simp [noExc]
        refine c_in_turn s2 hE2 (fun t S3 e3 m3 H3 x3 s3 => ?_) ne fun z => ?_
        · cases t with
          | false =>
            have e4 : compF C tg cond elt ρ v S = .ok none S3 := by simp only [compF, ea, e3, Res.bind_ok]; rfl
            rw [e4] at e
            exact ⟨hl, m3, S3, acc, us, (x.trans x2).trans x3, s3, x3.ph_sub _ hp, x3.kph _ hp _ (x2.kph _ hp _ hd), (hr.ext x2).ext x3, e⟩
          | true =>
            have e4 : compF C tg cond elt ρ v S = (noExc (ev C elt ρ' S3)).bind fun v S4 => .ok (some v) S4 := by simp only [compF, ea, e3, Res.bind_ok]; rfl
            rw [e4] at e
            refine ⟨m3, S3, ρ', s3, hE2.ext x3, ?_⟩
            cases q : ev C elt ρ' S3 with
            | exc c S4 => exact (hF (by rw [e, q]; rfl)).elim
            | stuck => exact (hF (by rw [e, q]; rfl)).elim
            | ok w S4 =>
              intro m4 H4 u4 x4 s4 r4
              rw [q] at e
              simp only [noExc, Res.bind_ok] at e
              have hp4 := x4.ph_sub _ (x3.ph_sub _ hp)
              have hd4 := x4.kph _ (x3.ph_sub _ hp) _ (x3.kph _ hp _ (x2.kph _ hp _ hd))
              have hr4 := ((hr.ext x2).ext x3).ext x4
              split at e
              · rename_i hlim
                refine ⟨us, hd4, by rw [← hr4.length, ← lim_eq]; exact hlim, hl, m4, S4, acc ++ [w], us ++ [u4], (((x.trans x2).trans x3).trans x4).phan hD, s4.phan hp4, hp4, upd_same, (hr4.append (.cons r4 .nil)).phan hp4, e⟩
              · exact (hF e).elim
        · apply hF
          rw [e]
          simp only [compF, ea, z, Res.bind_stuck]
  · left
    have ei : i = xs.length := by omega
    subst ei
    refine ⟨j1 (Nat.le_refl _), ?_⟩
    rw [List.drop_length] at e
    simp only [compGo, guardS_pos st] at e
    exact hend acc S m H us e x hS hp hd hr
theorem compF_noexc {tg : Tg} {cond : Option E} {elt : E} {ρ : Env} {x : Val} {S : Store} {c : Str} {S' : Store} : compF C tg cond elt ρ x S ≠ .exc c S' := by
  unfold compF
  cases asgT tg x ρ with
  | none => simp
  | some ρ' =>
    simp only
    cases cond with
    | none =>
      simp only [evC, Res.bind_ok, if_true]
      cases ev C elt ρ' S <;> simp [noExc]
    | some e =>
      simp only [evC]
      cases evT C e ρ' S with
      | ok t S1 =>
        simp only [noExc, Res.bind_ok]
        split
        · cases ev C elt ρ' S1 <;> simp [noExc]
        · simp
      | exc _ _ => simp [noExc]
      | stuck => simp [noExc]
theorem compGo_noexc {src : Src} {f : Val → Store → Res (Option Val)} (hf : ∀ x S c S', f x S ≠ .exc c S') : ∀ (xs : List Val) (acc : List Val) (S : Store) (c : Str) (S' : Store), compGo src f xs acc S ≠ .exc c S'
  | [], acc, S, c, S' => by simp only [compGo, guardS]; split <;> simp
  | x :: xs, acc, S, c, S' => by
    simp only [compGo, guardS]
    split
    · cases q : f x S with
      | ok o S1 =>
        simp only [Res.bind_ok]
        cases o with
        | none => exact compGo_noexc hf xs acc S1 c S'
        | some v =>
          simp only
          split
          · exact compGo_noexc hf xs _ S1 c S'
          · simp
      | exc c1 S1 => exact absurd q (hf x S c1 S1)
      | stuck => simp
    · simp
theorem Out.ne_stuck {α β γ : Type} {K : PySem.W.Frag} {m : MM} {H : Hp} {σ : L2.St} {R : MM → Hp → α → β → Prop} {Q : β → Hp → Prop} {r : Res γ} {f : γ → Store → Res α} (h : Out K rw m H σ W R (r.bind f) Q) : r ≠ .stuck := fun e => by
  rw [e] at h; exact h
theorem comp_reads {tg' : Tg} {it : It} {cond : Option E} {elt' : E} {vs : List Nat} (h1 : ∀ i ∈ vs, i ∈ tgS tg') (h2 : ∀ i ∈ tgS tg', i ∈ vs) (σ : L2.St) (H : Hp) (Q : VK) : rdE X.K rw C W (.comp tg' it cond elt') σ H Q → tLc (rdI X.K rw C W it) (rdG X.K rw tg') (rdC X.K rw C cond) (rdE X.K rw C WF elt') vs σ H Q := by
  rintro ⟨m, S, ρ, hS, hE, h⟩
  simp only [ev] at h
  have h' : Out X.K rw m H σ W (Rep X.K) ((evIt C it ρ S).bind fun xs S1 => (compGo xs.2 (compF C tg' cond elt' ρ) xs.1 [] S1).bind fun vs S2 => .ok (.lst vs) S2) Q := h
  refine ⟨m, S, ρ, hS, hE, Out.bind h' fun p S1 m1 H1 J x1 s1 hJ h1' => fun D hD => ?_⟩
  refine comp_loop (Qd := fun H => Q (.ref D) H) h1 h2 s1 (hE.ext x1) (by cases p; exact hJ) hD h1'.ne_stuck (fun c S' => compGo_noexc (fun x S c S' => compF_noexc) _ _ _ c S') fun ws S' m2 H2 us e x2 s2 hp hd hr => ?_
  rw [e] at h1'
  have sub := x2.ph_sub
  refine Out.fin' (m' := ⟨m2.bx, m1.ph⟩) h1' x2.dropP (s2.dropP sub) (.lst hd ?_ (hr.dropP sub))
  rintro (z | z)
  · exact s2.phb D hp z
  · have := s1.phs D z
    rw [hD] at this; cases this
theorem s_comp {tg iter elt : Expr} {ifs : List Expr} {scope : Scope} {own : List (Str × Nat)} {pos : Pos} {tg' : Tg} {it : It} {cond : Option E} {elt' : E} (hc : X.calm = true) (hN : X.N.Nodup) (hi : SI X rw C W tg iter it) (ok : BlkOk X.N X.env.scope scope own)
    (hg : ∀ (s : Shared) (H : Hp) (c : Addr) (cl : List (Str × Addr)) (fp : List Addr), PG (X.blk s H scope (compEnvC scope cl c X.env) fp) tg (rdG X.K rw tg'))
    (ht : ∀ (s : Shared) (H : Hp) (c : Addr) (cl : List (Str × Addr)) (fp : List Addr), PTs (X.blk s H scope (compEnvC scope cl c X.env) fp) ifs (rdC X.K rw C cond))
    (he : ∀ (s : Shared) (H : Hp) (c : Addr) (cl : List (Str × Addr)) (fp : List Addr), PE (X.blk s H scope (compEnvC scope cl c X.env) fp) elt (rdE X.K rw C WF elt'))
    (h1 : ∀ i ∈ own.map (·.2), i ∈ tgS tg') (h2 : ∀ i ∈ tgS tg', i ∈ own.map (·.2)) (hs : ∀ x, foldedSetIterable iter X.env x = pure x) :
    SE X rw C W (.ListComp elt [⟨tg, iter, ifs, 0⟩] scope pos) (.comp tg' it cond elt') := PE.wk (pe_lc (own := own) hc hN hi ok hg ht he hs) fun σ H Q h => comp_reads h1 h2 σ H Q h
theorem boxc_reads {tg' : Tg} {it : It} {cond : Option E} {elt' : E} {vs : List Nat} (h1 : ∀ i ∈ vs, i ∈ tgS tg') (h2 : ∀ i ∈ tgS tg', i ∈ vs) (σ : L2.St) (H : Hp) (Q : VK) : rdE X.K rw C W (.boxc tg' it cond elt') σ H Q → tLc (rdI X.K rw C W it) (rdG X.K rw tg') (rdC X.K rw C cond) (rdE X.K rw C WF elt') vs σ H Q := by
  rintro ⟨m, S, ρ, hS, hE, h⟩
  simp only [ev] at h
  have h' : Out X.K rw m H σ W (Rep X.K) ((evIt C it ρ S).bind fun xs S1 => (compGo xs.2 (compF C tg' cond elt' ρ) xs.1 [] S1).bind fun vs S2 => .ok (.loc S2.length) (S2 ++ [.list vs])) Q := h
  refine ⟨m, S, ρ, hS, hE, Out.bind h' fun p S1 m1 H1 J x1 s1 hJ h1' => fun D hD => ?_⟩
  refine comp_loop (Qd := fun H => Q (.ref D) H) h1 h2 s1 (hE.ext x1) (by cases p; exact hJ) hD h1'.ne_stuck (fun c S' => compGo_noexc (fun x S c S' => compF_noexc) _ _ _ c S') fun ws S' m2 H2 us e x2 s2 hp hd hr => ?_
  rw [e] at h1'
  have sub := x2.ph_sub
  have nD : D ∉ m1.ph := fun z => by
    have := s1.phs D z
    rw [hD] at this; cases this
  have nb : D ∉ m2.bx := s2.phb D hp
  -- the phantom becomes a box
  have tr : ∀ {v : Val} {u : V}, Rep X.K m2 H2 v u → Rep X.K ⟨m2.bx ++ [D], m1.ph⟩ H2 v u := by
    have both : ∀ n : Nat, (∀ (v : Val), sizeOf v ≤ n → ∀ u, Rep X.K m2 H2 v u → Rep X.K ⟨m2.bx ++ [D], m1.ph⟩ H2 v u) ∧ (∀ (vs : List Val), sizeOf vs ≤ n → ∀ us, Reps X.K m2 H2 vs us → Reps X.K ⟨m2.bx ++ [D], m1.ph⟩ H2 vs us) := by
      have nn : ∀ a : Addr, a ∉ m2 → a ∉ (⟨m2.bx ++ [D], m1.ph⟩ : MM) := by
        rintro a ha (z | z)
        · rcases List.mem_append.mp z with z | z
          · exact ha (.inl z)
          · simp at z; subst z; exact ha (.inr hp)
        · exact ha (.inr (sub a z))
      intro n
      induction n with
      | zero => exact ⟨fun v h => by cases v <;> simp at h, fun vs h => by cases vs <;> simp at h⟩
      | succ n ih =>
        refine ⟨fun v hv u r => ?_, fun vs hv us r => ?_⟩
        · cases r with
          | non => exact .non
          | bool b => exact .bool b
          | int i => exact .int i
          | str s => exact .str s
          | tup k1 k2 k3 => exact .tup k1 (nn _ k2) (ih.2 _ (by simp at hv; omega) _ k3)
          | lst k1 k2 k3 => exact .lst k1 (nn _ k2) (ih.2 _ (by simp at hv; omega) _ k3)
          | scr k1 k2 => exact .scr k1 (nn _ k2)
          | scrK k1 => exact .scrK k1
          | @loc n a k1 =>
            refine .loc ?_
            have hl := (List.getElem?_eq_some_iff.mp (show m2.bx[n]? = some a from k1)).1
            show (m2.bx ++ [D])[n]? = some a
            rw [List.getElem?_append_left hl]; exact k1
        · cases r with
          | nil => exact .nil
          | cons k1 k2 => exact .cons (ih.1 _ (by simp at hv; omega) _ k1) (ih.2 _ (by simp at hv; omega) _ k2)
    exact fun {v u} r => (both (sizeOf v)).1 v (Nat.le_refl _) u r
  have trs : ∀ {vs : List Val} {us : List V}, Reps X.K m2 H2 vs us → Reps X.K ⟨m2.bx ++ [D], m1.ph⟩ H2 vs us := by
    intro vs
    induction vs with
    | nil => intro us r; cases r; exact .nil
    | cons v vs ih => intro us r; cases r with | cons a b => exact .cons (tr a) (ih b)
  obtain ⟨ms, ps, em, f1, f2⟩ := x2.more
  refine Out.fin' (m' := ⟨m2.bx ++ [D], m1.ph⟩) h1' ⟨⟨ms ++ [D], [], by rw [em]; simp, fun a ha => ?_, by simp⟩, x2.keep, x2.there, x2.kph⟩ ⟨?_, ?_, fun n a o e1 e2 => ?_, fun hr' a ha => ?_, fun a ha => s2.phs a (sub a ha), fun a ha hb => ?_⟩ (.loc ?_)
  · rcases List.mem_append.mp ha with z | z
    · exact f1 a z
    · simp at z; rw [z]; exact hD
  · simp [s2.len]
  · show (m2.bx ++ [D]).Nodup
    rw [List.nodup_append]
    exact ⟨s2.nd, by simp, fun a ha b hb => by simp at hb; subst hb; exact fun e => nb (e ▸ ha)⟩
  · have e1' : (m2.bx ++ [D])[n]? = some a := e1
    by_cases hn : n < m2.bx.length
    · rw [List.getElem?_append_left hn] at e1'
      rw [List.getElem?_append_left (by rw [← s2.len]; exact hn)] at e2
      have b := s2.box n a o e1' e2
      cases o with
      | list vs => obtain ⟨xs, k1, k2⟩ := b; exact ⟨xs, k1, trs k2⟩
      | dictK vs => obtain ⟨xs, k1, k2⟩ := b; exact ⟨xs, k1, Paired.mapP k2 fun _ _ z => ⟨z.1, tr z.2⟩⟩
      | dictT vs => obtain ⟨xs, k1, k2⟩ := b; exact ⟨xs, k1, Paired.mapP k2 fun _ _ z => ⟨z.1, tr z.2⟩⟩
      | inst c vs => obtain ⟨kc, dx, xs, k1, k2⟩ := b; exact ⟨kc, dx, xs, k1, Paired.mapP k2 fun _ _ z => ⟨z.1, tr z.2⟩⟩
    · have hn' : n = m2.bx.length := by
        have := (List.getElem?_eq_some_iff.mp e1').1
        simp at this; omega
      subst hn'
      simp at e1'; subst e1'
      rw [s2.len] at e2; simp at e2; subst e2
      exact ⟨us, hd, trs hr⟩
  · rcases List.mem_append.mp (show a ∈ m2.bx ++ [D] from ha) with z | z
    · exact s2.nof hr' a z
    · simp at z; subst z; intro o u q; rw [hd] at q; cases q
  · rcases List.mem_append.mp (show a ∈ m2.bx ++ [D] from hb) with z | z
    · exact s2.phb a (sub a ha) z
    · simp at z; subst z; exact nD ha
  · show (m2.bx ++ [D])[S'.length]? = some D
    rw [← s2.len]; simp
theorem s_boxc {tg iter elt : Expr} {ifs : List Expr} {scope : Scope} {own : List (Str × Nat)} {pos : Pos} {tg' : Tg} {it : It} {cond : Option E} {elt' : E} (hc : X.calm = true) (hN : X.N.Nodup) (hi : SI X rw C W tg iter it) (ok : BlkOk X.N X.env.scope scope own)
    (hg : ∀ (s : Shared) (H : Hp) (c : Addr) (cl : List (Str × Addr)) (fp : List Addr), PG (X.blk s H scope (compEnvC scope cl c X.env) fp) tg (rdG X.K rw tg'))
    (ht : ∀ (s : Shared) (H : Hp) (c : Addr) (cl : List (Str × Addr)) (fp : List Addr), PTs (X.blk s H scope (compEnvC scope cl c X.env) fp) ifs (rdC X.K rw C cond))
    (he : ∀ (s : Shared) (H : Hp) (c : Addr) (cl : List (Str × Addr)) (fp : List Addr), PE (X.blk s H scope (compEnvC scope cl c X.env) fp) elt (rdE X.K rw C WF elt'))
    (h1 : ∀ i ∈ own.map (·.2), i ∈ tgS tg') (h2 : ∀ i ∈ tgS tg', i ∈ own.map (·.2)) (hs : ∀ x, foldedSetIterable iter X.env x = pure x) :
    SE X rw C W (.ListComp elt [⟨tg, iter, ifs, 0⟩] scope pos) (.boxc tg' it cond elt') := PE.wk (pe_lc (own := own) hc hN hi ok hg ht he hs) fun σ H Q h => boxc_reads h1 h2 σ H Q h
theorem tc_nil : PTs X [] (rdC X.K rw C none) := pts_nil
theorem tc_one {c : Expr} {c' : E} (h : ST X rw C WF c c') : PTs X [c] (rdC X.K rw C (some c')) := pts_one h
end
end HI
set_option Elab.async false
set_option linter.all false
set_option maxRecDepth 100000
namespace HI
open PySem PySem.Spec PyProof.Rows L2
def OutS (K : PySem.W.Frag) (rw : Bool) (m : MM) (H : Hp) (W : WX) (r : SR) (D : Ends) : Prop := match r with
  | .next ρ' S' => ∀ m' H' σ', Ext rw m H m' H' → SRel K rw m' H' S' → ERel K m' H' ρ' σ' → D.nx σ' H'
  | .ret v S' => ∀ m' H' u, Ext rw m H m' H' → SRel K rw m' H' S' → Rep K m' H' v u → D.rt u H'
  | .brk ρ' S' => ∀ m' H' σ', Ext rw m H m' H' → SRel K rw m' H' S' → ERel K m' H' ρ' σ' → D.bk σ' H'
  | .exc c ρ' S' => KExc K c → ∀ m' H' σ', Ext rw m H m' H' → SRel K rw m' H' S' → ERel K m' H' ρ' σ' → W (.ref (He.ga K c)) none σ' H'
  | .stuck => False
def rdS (K : PySem.W.Frag) (rw : Bool) (L : Nat) (C : CallT) (W : WX) (s : S) : TS := fun D σ H => ∃ m S ρ, SRel K rw m H S ∧ ERel K m H ρ σ ∧ OutS K rw m H W (exS L C s ρ S) D
def rdB (K : PySem.W.Frag) (rw : Bool) (L : Nat) (C : CallT) (W : WX) (s : List S) : TS := fun D σ H => ∃ m S ρ, SRel K rw m H S ∧ ERel K m H ρ σ ∧ OutS K rw m H W (exs L C s ρ S) D
abbrev SS (X : Cx) (rw : Bool) (L : Nat) (C : CallT) (W : WX) (st : Stmt) (s : S) : Prop := PS X st (rdS X.K rw L C W s)
abbrev SB (X : Cx) (rw : Bool) (L : Nat) (C : CallT) (W : WX) (st : List Stmt) (s : List S) : Prop := PSs X st (rdB X.K rw L C W s)
section
variable {K : PySem.W.Frag} {rw : Bool} {m m1 : MM} {H H1 : Hp} {W : WX} {D : Ends} {S : Store} {ρ : Env} {σ : L2.St}
theorem OutS.ext {r : SR} (h : OutS K rw m H W r D) (x : Ext rw m H m1 H1) : OutS K rw m1 H1 W r D := by
  cases r with
  | next ρ' S' => exact fun m' H' σ' y s q => h m' H' σ' (x.trans y) s q
  | ret v S' => exact fun m' H' σ' y s q => h m' H' σ' (x.trans y) s q
  | brk ρ' S' => exact fun m' H' σ' y s q => h m' H' σ' (x.trans y) s q
  | exc c ρ' S' => exact fun kx m' H' σ' y s q => h kx m' H' σ' (x.trans y) s q
  | stuck => exact h
theorem OutS.to {α β : Type} {R : MM → Hp → α → β → Prop} {Q : β → Hp → Prop} {r : Res α} {f : α → Store → SR} (h : OutS K rw m H W (r.to ρ f) D) (hE : ERel K m H ρ σ)
    (k : ∀ v S1 m1 H1 u, r = .ok v S1 → Ext rw m H m1 H1 → SRel K rw m1 H1 S1 → R m1 H1 v u → OutS K rw m1 H1 W (f v S1) D → Q u H1) : Out K rw m H σ W R r Q := by
  cases r with
  | ok v S' => exact fun m1 H1 u x s q => k v S' m1 H1 u rfl x s q (OutS.ext (r := f v S') h x)
  | exc c S' => exact fun kx m' H' x s => h kx m' H' σ x s (hE.ext x)
  | stuck => exact h
end
section
variable {X : Cx} {C : CallT} {W : WX} {rw : Bool} {L : Nat}
theorem ss_pass {pos : Pos} : SS X rw L C W (.Pass pos) .pass := PS.wk ps_pass fun D σ H ⟨m, S, ρ, hS, hE, h⟩ => by
  simp only [exS] at h
  exact h m H σ Ext.refl hS hE
theorem ss_brk {pos : Pos} : SS X rw L C W (.Break pos) .brk := PS.wk ps_break fun D σ H ⟨m, S, ρ, hS, hE, h⟩ => by
  simp only [exS] at h
  exact h m H σ Ext.refl hS hE
theorem ss_expr {e : Expr} {e' : E} {pos : Pos} (he : SE X rw C W e e') (hs : swapsWith e none pos.line X.env = pure false) : SS X rw L C W (.Expr e pos) (.expr e') := by
  refine PS.wk (ps_expr he hs) fun D σ H ⟨m, S, ρ, hS, hE, h⟩ => ?_
  simp only [exS] at h
  exact ⟨m, S, ρ, hS, hE, OutS.to h hE fun v S1 m1 H1 u _ x s r h1 => h1 m1 H1 σ Ext.refl s (hE.ext x)⟩
theorem ss_ret {e : Expr} {e' : E} {pos : Pos} (he : SE X rw C W e e') : SS X rw L C W (.Return (some e) pos) (.ret e') := by
  refine PS.wk (ps_ret he) fun D σ H ⟨m, S, ρ, hS, hE, h⟩ => ?_
  simp only [exS] at h
  exact ⟨m, S, ρ, hS, hE, OutS.to h hE fun v S1 m1 H1 u _ x s r h1 => h1 m1 H1 u Ext.refl s r⟩
theorem ss_retN {pos : Pos} : SS X rw L C W (.Return none pos) .retN := PS.wk ps_retN fun D σ H ⟨m, S, ρ, hS, hE, h⟩ => by
  simp only [exS] at h
  exact h m H .non Ext.refl hS .non
theorem sb_nil : SB X rw L C W [] [] := PSs.wk pss_nil fun D σ H ⟨m, S, ρ, hS, hE, h⟩ => by
  simp only [exs] at h
  exact h m H σ Ext.refl hS hE
theorem sb_cons {st : Stmt} {sts : List Stmt} {s : S} {ss : List S} (h1 : SS X rw L C W st s) (h2 : SB X rw L C W sts ss) : SB X rw L C W (st :: sts) (s :: ss) := by
  refine PSs.wk (pss_cons h1 h2) fun D σ H ⟨m, S, ρ, hS, hE, h⟩ => ?_
  simp only [exs] at h
  refine ⟨m, S, ρ, hS, hE, ?_⟩
  cases q : exS L C s ρ S with
  | next ρ' S' =>
    rw [q] at h
    exact fun m' H' σ' x s r => ⟨m', S', ρ', s, r, OutS.ext (r := exs L C ss ρ' S') h x⟩
  | ret v S' => rw [q] at h; exact h
  | brk ρ' S' => rw [q] at h; exact h
  | exc c ρ' S' => rw [q] at h; exact h
  | stuck => rw [q] at h; exact h
theorem ss_if {c : Expr} {a b : List Stmt} {c' : E} {a' b' : List S} {pos : Pos} (hc : ST X rw C W c c') (ha : SB X rw L C W a a') (hb : SB X rw L C W b b') : SS X rw L C W (.If c a b pos) (.ifS c' a' b') := by
  refine PS.wk (ps_if hc ha hb) fun D σ H ⟨m, S, ρ, hS, hE, h⟩ => ?_
  simp only [exS] at h
  refine ⟨m, S, ρ, hS, hE, OutS.to h hE fun t S1 m1 H1 u _ x s r h1 => ?_⟩
  subst r
  cases t with
  | true => exact ⟨m1, S1, ρ, s, hE.ext x, h1⟩
  | false => exact ⟨m1, S1, ρ, s, hE.ext x, h1⟩
theorem ss_set {tg e : Expr} {tg' : Tg} {e' : E} {pos : Pos} (he : SE X rw C W e e') (hg : PG X tg (rdG X.K rw tg')) (hs : swapsWithSole [tg] e pos.line X.env = pure false) (hw : swappedStores [tg] e X.env = pure none)
    (h1 : (assignEach [tg] X.env).map (·.2) = [assign tg X.env]) : SS X rw L C W (.Assign [tg] e pos) (.set tg' e') := by
  refine PS.wk (ps_asg he hg hs hw h1) fun D σ H ⟨m, S, ρ, hS, hE, h⟩ => ?_
  simp only [exS] at h
  refine ⟨m, S, ρ, hS, hE, OutS.to h hE fun v S1 m1 H1 u _ x s r h1 => ?_⟩
  cases q : asgT tg' v ρ with
  | none => rw [q] at h1; exact h1.elim
  | some ρ' =>
    rw [q] at h1
    exact ⟨m1, S1, ρ, v, s, hE.ext x, r, ρ', q, fun σ' hE' _ => h1 m1 H1 σ' Ext.refl s hE'⟩
theorem ss_setLc {i : Nat} {y : Str} {py : Pos} {tg iter elt : Expr} {ifs : List Expr} {scope : Scope} {own : List (Str × Nat)} {pos spos : Pos} {e' : E} {wi : TI} {g : TG} {tt : TT} {te : TE} (hc : X.calm = true) (hN : X.N.Nodup) (hy : X.N[i]? = some y) (hyl : X.env.scope.names.lookup y = some .local)
    (hsw : swapsWith (.ListComp elt [⟨tg, iter, ifs, 0⟩] scope pos) (some (.Name y py)) spos.line X.env = pure true) (hi : PI X tg iter wi) (ok : BlkOk X.N X.env.scope scope own)
    (hg : ∀ (s : Shared) (H : Hp) (C : Addr) (cl : List (Str × Addr)) (fp : List Addr), PG (X.blk s H scope (compEnvC scope cl C X.env) fp) tg g) (ht : ∀ (s : Shared) (H : Hp) (C : Addr) (cl : List (Str × Addr)) (fp : List Addr), PTs (X.blk s H scope (compEnvC scope cl C X.env) fp) ifs tt)
    (he : ∀ (s : Shared) (H : Hp) (C : Addr) (cl : List (Str × Addr)) (fp : List Addr), PE (X.blk s H scope (compEnvC scope cl C X.env) fp) elt te) (hs : ∀ x, foldedSetIterable iter X.env x = pure x)
    (hr : ∀ σ H Q, rdE X.K rw C W e' σ H Q → tLc wi g tt te (own.map (·.2)) σ H Q) : SS X rw L C W (.Assign [.Name y py] (.ListComp elt [⟨tg, iter, ifs, 0⟩] scope pos) spos) (.set (.one i) e') := by
  refine PS.wk (ps_setLc (own := own) hc hN hy hyl hsw hi ok hg ht he hs) fun D σ H ⟨m, S, ρ, hS, hE, h⟩ => ?_
  simp only [exS] at h
  refine hr σ H _ ⟨m, S, ρ, hS, hE, OutS.to h hE fun v S1 m1 H1 u _ x s r h1 => ?_⟩
  simp only [asgT] at h1
  exact h1 m1 H1 _ Ext.refl s ((hE.ext x).set r)
theorem ss_setF {a e : Expr} {a' e' : E} {f : Str} {p1 pos : Pos} (hrw : rw = true) (ha : SE X rw C W a a') (he : SE X rw C W e e') (hf : NoF X.K f) (hs : swapsWith e (some (.Attribute a f p1)) pos.line X.env = pure false) : SS X rw L C W (.Assign [.Attribute a f p1] e pos) (.setF a' f e') := by
  subst hrw
  refine PS.wk (ps_fld ha he hs) fun D σ H ⟨m, S, ρ, hS, hE, h⟩ => ?_
  simp only [exS] at h
  refine ⟨m, S, ρ, hS, hE, OutS.to h hE fun v S1 m1 H1 u _ x s r h1 => ⟨m1, S1, ρ, s, hE.ext x, OutS.to h1 (hE.ext x) fun y S2 m2 H2 w _ x2 s2 r2 h2 => ?_⟩⟩
  cases y <;> simp only [putFld] at h2 <;> try exact h2.elim
  rename_i n _
  obtain ⟨ad, rfl, hn⟩ := rep_loc r2
  cases q : S2[n]? with
  | none => rw [q] at h2; exact h2.elim
  | some ob =>
    rw [q] at h2
    cases ob <;> try exact h2.elim
    rename_i c fs
    obtain ⟨kc, dx, us, k1, p1⟩ := s2.atA hn q
    simp only at h2
    by_cases hl : fs.length < 1000
    · simp only [hl, if_true] at h2
      have hw := Ext.write (H := H2) (o := .ins (He.ga X.K c) dx (L2.putF f u us)) (mem_bx hn) (fun z => s2.phb ad z (mem_bx hn))
      refine ⟨ad, _, dx, us, rfl, k1, kc.cl, hf c kc, by rw [← p1.length]; exact hl, h2 m2 _ σ hw (s2.write hn ⟨kc, dx, _, upd_same, RepP.ext hw (RepP.putF p1 f (r.ext x2))⟩) ((hE.ext x).ext (x2.trans hw))⟩
    · simp only [hl, if_false] at h2; exact h2.elim
theorem PSet.or {t t' : TSet} (h : PSet X t) (h' : PSet X t') : PSet X (fun o i v H Q => t o i v H Q ∨ t' o i v H Q) := by
  intro pins s σ H o i v ov iv u Q I ro ri rv hw
  rcases hw with hw | hw
  · exact h pins s σ H o i v ov iv u Q I ro ri rv hw
  · exact h' pins s σ H o i v ov iv u Q I ro ri rv hw
theorem putItem_rep {K : PySem.W.Frag} {m : MM} {H : Hp} {S S' : Store} {x y v : Val} {a b u : V} (s2 : SRel K true m H S) (rx : Rep K m H x a) (ry : Rep K m H y b) (rv : Rep K m H v u) (e : putItem S x y v = some S') :
    ∃ p o, Ext true m H m (upd H p o) ∧ SRel K true m (upd H p o) S' ∧ ((∃ xs k j, a = .ref p ∧ b = .int k ∧ H p = some (.lst xs) ∧ ixN xs.length k = some j ∧ o = .lst (xs.set j u)) ∨ (a = .ref p ∧ DPut H p b u (upd H p o))) := by
  cases x <;> simp only [putItem] at e <;> try cases e
  rename_i n
  obtain ⟨ad, rfl, hn⟩ := rep_loc rx
  cases q : S[n]? with
  | none => rw [q] at e; cases e
  | some ob =>
    rw [q] at e
    have bx := s2.atA hn q
    have hw : ∀ o, Ext true m H m (upd H ad o) := fun o => Ext.write (mem_bx hn) (fun z => s2.phb ad z (mem_bx hn))
    cases ob with
    | list vs =>
      obtain ⟨us, k1, k2⟩ := bx
      cases y <;> simp only at e <;> try cases e
      rename_i k
      cases rep_int ry
      cases ej : L2.ixN vs.length k with
      | none => rw [ej] at e; cases e
      | some j =>
        rw [ej] at e; cases e
        refine ⟨ad, .lst (us.set j u), hw _, s2.write hn ⟨us.set j u, upd_same, (k2.set j rv).ext (hw _)⟩, .inl ⟨us, k, j, rfl, rfl, k1, by rw [← k2.length]; exact ej, rfl⟩⟩
    | dictK kvs =>
      obtain ⟨us, k1, k2⟩ := bx
      have k1' := s2.plain (mem_bx hn) k1
      simp only at e
      cases ek : keyOf y with
      | none => rw [ek] at e; cases e
      | some k =>
        rw [ek] at e
        simp only at e
        by_cases hl : kvs.length < LIM
        · simp only [hl, if_true] at e; cases e
          rw [key_rep ry ek]
          refine ⟨ad, .dK (L2.putK us k u), hw _, s2.write hn ⟨_, .inl upd_same, RepP.ext (hw _) (RepP.put k2 k rv)⟩, .inr ⟨rfl, DPut.k k1' (by rw [← k2.length, ← lim_eq]; exact hl)⟩⟩
        · simp only [hl, if_false] at e; cases e
    | dictT kvs =>
      obtain ⟨us, k1, k2⟩ := bx
      have k1' := s2.plain (mem_bx hn) k1
      cases y <;> simp only at e <;> try cases e
      rename_i ks
      obtain ⟨b', ws, rfl, hb, nb, rb⟩ := rep_tup ry
      cases ek : keysOf ks with
      | none => rw [ek] at e; cases e
      | some k =>
        rw [ek] at e
        simp only at e
        by_cases hl : kvs.length < LIM
        · simp only [hl, if_true] at e; cases e
          rw [keys_rep rb ek] at hb
          refine ⟨ad, .dT (L2.putK us k u), hw _, s2.write hn ⟨_, .inl upd_same, RepP.ext (hw _) (RepP.put k2 k rv)⟩, .inr ⟨rfl, DPut.t k1' hb (by rw [← k2.length, ← lim_eq]; exact hl)⟩⟩
        · simp only [hl, if_false] at e; cases e
    | inst c fs => cases e
theorem ss_setI {a k e : Expr} {a' k' e' : E} {p1 pos : Pos} (hrw : rw = true) (hu : X.A.units + 1 < cLine) (ha : SE X rw C W a a') (hk : SE X rw C W k k') (he : SE X rw C W e e') (hs : swapsWithSole [.Subscript a k p1] e pos.line X.env = pure false) (hw : swappedStores [.Subscript a k p1] e X.env = pure none)
    (has : ∀ v, assign (.Subscript a k p1) X.env v = (do
      let ov ← holding [v] (eval a X.env)
      let iv ← holding [v, ov] (eval k X.env)
      standAt p1
      holding [v, ov, iv] (setItem ov iv v)
      release [v, ov, iv] [])) (h1 : (assignEach [.Subscript a k p1] X.env).map (·.2) = [assign (.Subscript a k p1) X.env]) : SS X rw L C W (.Assign [.Subscript a k p1] e pos) (.setI a' k' e') := by
  subst hrw
  refine PS.wk (ps_asg he (pg_sub ha hk (PSet.or set_list (set_dict hu)) has) hs hw h1) fun D σ H ⟨m, S, ρ, hS, hE, h⟩ => ?_
  simp only [exS] at h
  refine ⟨m, S, ρ, hS, hE, OutS.to h hE fun v S1 m1 H1 u _ x s r h1 => ⟨m1, S1, ρ, s, hE.ext x, OutS.to h1 (hE.ext x) fun y S2 m2 H2 w _ x2 s2 r2 h2 => ⟨m2, S2, ρ, s2, (hE.ext x).ext x2, OutS.to h2 ((hE.ext x).ext x2) fun z S3 m3 H3 t _ x3 s3 r3 h3 => ?_⟩⟩⟩
  cases q : putItem S3 y z v with
  | none => rw [q] at h3; exact h3.elim
  | some S4 =>
    rw [q] at h3
    obtain ⟨p, o, xt, st, alt⟩ := putItem_rep s3 (r2.ext x3) r3 ((r.ext x2).ext x3) q
    have fin := h3 m3 _ σ xt st ((((hE.ext x).ext x2).ext x3).ext xt)
    rcases alt with ⟨xs, k, j, e1, e2, e3, e4, e5⟩ | ⟨e1, e2⟩
    · subst e5; exact .inl ⟨p, xs, k, j, e1, e2, e3, e4, fin⟩
    · exact .inr ⟨p, _, e1, e2, fin⟩
end
end HI
set_option Elab.async false
set_option linter.all false
set_option maxRecDepth 100000
namespace HI
open PySem PySem.Spec PyProof.Rows L2
section
variable {X : Cx} {C : CallT} {W : WX} {rw : Bool} {L : Nat}
def AugOk (X : Cx) (op : Operator) (o : B2) : Prop := PIp X op (fun x y H Q => ∃ i j k, x = .int i ∧ y = .int j ∧ aug2 [] o (.int i) (.int j) = some (.int k) ∧ Q (.int k) H)
theorem aug_add : AugOk X .Add .add := by
  intro pins s σ H x y v u Q I r1 r2 ⟨i, j, k, e1, e2, e3, q⟩
  simp only [aug2] at e3; cases e3
  exact ip_add pins s σ H x y v u Q I r1 r2 ⟨i, j, e1, e2, q⟩
theorem aug_sub : AugOk X .Sub .sub := by
  intro pins s σ H x y v u Q I r1 r2 ⟨i, j, k, e1, e2, e3, q⟩
  simp only [aug2] at e3; cases e3
  exact ip_sub pins s σ H x y v u Q I r1 r2 ⟨i, j, e1, e2, q⟩
theorem aug2_inv {S : Store} {o : B2} {x y z : Val} (h : aug2 S o x y = some z) : ∃ i j k, x = .int i ∧ y = .int j ∧ z = .int k ∧ aug2 [] o (.int i) (.int j) = some (.int k) := by
  unfold aug2 at h
  split at h
  · cases h; exact ⟨_, _, _, rfl, rfl, rfl, rfl⟩
  · cases h; exact ⟨_, _, _, rfl, rfl, rfl, rfl⟩
  · cases h
theorem ss_augV {x : Str} {i : Nat} {op : Operator} {o : B2} {e : Expr} {e' : E} {p1 pos : Pos} (ao : AugOk X op o) (hN : X.N.Nodup) (hi : X.N[i]? = some x) (hx : Loc X.env.scope x) (hf : X.fn x = true ∨ X.env.scope.names.lookup x = some .local) (he : SE X rw C W e e') :
    SS X rw L C W (.AugAssign (.Name x p1) op e pos) (.augV i o e') := by
  refine PS.wk (ps_aug hN hi hx he ao hf) fun D σ H ⟨m, S, ρ, hS, hE, h⟩ => ?_
  simp only [exS] at h
  cases q : ρ[i]? with
  | none => rw [q] at h; exact h.elim
  | some ov =>
    rw [q] at h
    cases ov with
    | none => exact h.elim
    | some v =>
      obtain ⟨u, h1, h2⟩ := hE.val i v q
      refine ⟨u, h1, m, S, ρ, hS, hE, OutS.to h hE fun y S1 m1 H1 w _ x1 s1 r1 k1 => ?_⟩
      cases q2 : aug2 S1 o v y with
      | none => rw [q2] at k1; exact k1.elim
      | some z =>
        rw [q2] at k1
        obtain ⟨a, b, c, rfl, rfl, rfl, e3⟩ := aug2_inv q2
        cases rep_int h2; cases rep_int r1
        exact ⟨a, b, c, rfl, rfl, e3, k1 m1 H1 _ Ext.refl s1 ((hE.ext x1).set (.int c))⟩
theorem ss_augF {a e : Expr} {a' : E} {i : Int} {f : Str} {op : Operator} {o : B2} {p1 pos : Pos} (hrw : rw = true) (ao : AugOk X op o) (hf : NoF X.K f) (ha : SE X rw C W a a') (he : PE X e (tC (.int i))) : SS X rw L C W (.AugAssign (.Attribute a f p1) op e pos) (.augF a' f o i) := by
  subst hrw
  refine PS.wk (ps_fldaug ha he ao) fun D σ H ⟨m, S, ρ, hS, hE, h⟩ => ?_
  simp only [exS] at h
  refine ⟨m, S, ρ, hS, hE, OutS.to h hE fun y S1 m1 H1 w _ x1 s1 r1 k1 => ?_⟩
  cases y <;> simp only [getFld, putFld] at k1 <;> try exact k1.elim
  rename_i n _
  obtain ⟨ad, rfl, hn⟩ := rep_loc r1
  cases q : S1[n]? with
  | none => rw [q] at k1; exact k1.elim
  | some ob =>
    rw [q] at k1
    cases ob <;> try exact k1.elim
    rename_i c fs
    simp only at k1
    obtain ⟨kc, dx, us, b1, b2⟩ := s1.atA hn q
    rcases RepP.look b2 f with ⟨e1, _⟩ | ⟨v, u, e1, e2, e3⟩
    · rw [show fldGet fs f = none from e1] at k1; exact k1.elim
    · rw [show fldGet fs f = some v from e1] at k1
      simp only at k1
      cases q2 : aug2 S1 o v (.int i) with
      | none => rw [q2] at k1; exact k1.elim
      | some z =>
        rw [q2] at k1
        obtain ⟨a, b, d, rfl, eb, rfl, e4⟩ := aug2_inv q2
        cases eb
        cases rep_int e3
        simp only at k1
        by_cases hl : fs.length < 1000
        · simp only [hl, if_true] at k1
          have hw := Ext.write (H := H1) (o := .ins (He.ga X.K c) dx (L2.putF f (.int d) us)) (mem_bx hn) (fun z => s1.phb ad z (mem_bx hn))
          exact ⟨ad, _, dx, us, .int a, rfl, b1, kc.cl, hf c kc, e2, a, i, d, rfl, rfl, e4, dx, us, b1, by rw [← b2.length]; exact hl, k1 m1 _ σ hw (s1.write hn ⟨kc, dx, _, upd_same, RepP.ext hw (RepP.putF b2 f (.int d))⟩) ((hE.ext x1).ext hw)⟩
        · simp only [hl, if_false] at k1; exact k1.elim
theorem get_dict (hu : X.A.units + 1 < cLine) : PGet X (fun o i H Q => ∃ a v, o = .ref a ∧ DGet H a i (some v) ∧ Q v H) := by
  intro pins s σ H o i ov iv Q I ro ri ⟨a, v, e, g, q⟩
  subst e; cases ro
  exact d_getItem hu I g ri fun w' s' I' r => ⟨v, H, I', r, q⟩
theorem ss_augI {a k e : Expr} {a' k' e' : E} {op : Operator} {o : B2} {p1 pos : Pos} (hrw : rw = true) (hu : X.A.units + 1 < cLine) (ao : AugOk X op o) (ha : SE X rw C W a a') (hk : SE X rw C W k k') (he : SE X rw C W e e')
    (hst : ∀ ov iv new, augStore k ov iv new = (do holding [new, ov, iv] (setItem ov iv new); release [new, ov, iv] []; pure .next)) : SS X rw L C W (.AugAssign (.Subscript a k p1) op e pos) (.augI a' k' o e') := by
  subst hrw
  refine PS.wk (ps_augS ha hk (get_dict hu) he ao (PSet.or set_list (set_dict hu)) hst) fun D σ H ⟨m, S, ρ, hS, hE, h⟩ => ?_
  simp only [exS] at h
  refine ⟨m, S, ρ, hS, hE, OutS.to h hE fun y S1 m1 H1 w ea x1 s1 r1 k1 => ⟨m1, S1, ρ, s1, hE.ext x1, OutS.to k1 (hE.ext x1) fun z S2 m2 H2 t eb x2 s2 r2 k2 => ?_⟩⟩
  clear ea eb h
  cases q : askD S2 y z with
  | none => rw [q] at k2; exact k2.elim
  | some u0 =>
    rw [q] at k2
    simp only at k2
    clear k1
    cases y <;> simp only [askD] at q <;> try cases q
    · rename_i n
      obtain ⟨ad, rfl, hn⟩ := rep_loc (r1.ext x2)
      have e2 : dAsk S2 n z = some (some u0) := by
        unfold dAsk
        cases q3 : S2[n]? with
        | none => rw [q3] at q; cases q
        | some ob =>
          rw [q3] at q
          cases ob with
          | dictK kvs =>
            simp only at q ⊢
            cases e1 : keyOf z with
            | none => rw [e1] at q; cases q
            | some k => rw [e1] at q; simp only at q ⊢; rw [q]
          | dictT kvs =>
            simp only at q ⊢
            clear k2 r2
            cases z <;> simp only at q <;> try cases q
            rename_i ks
            simp only
            cases e1 : keysOf ks with
            | none => rw [e1] at q; cases q
            | some k => rw [e1] at q; simp only at q ⊢; rw [q]
          | _ => cases q
      obtain ⟨ov, g, ho⟩ := dget_rep s2 hn r2 e2
      rcases ho with ⟨h1, h2⟩ | ⟨v, u', h1, h2, h3⟩
      · cases h1
      · cases h1; subst h2
        refine ⟨ad, u', rfl, g, m2, S2, ρ, s2, (hE.ext x1).ext x2, OutS.to k2 ((hE.ext x1).ext x2) fun yy S3 m3 H3 t3 _ x3 s3 r3 k3 => ?_⟩
        cases q4 : aug2 S3 o u0 yy with
        | none => rw [q4] at k3; exact k3.elim
        | some zz =>
          rw [q4] at k3
          simp only at k3
          obtain ⟨a, b, d, rfl, rfl, rfl, e4⟩ := aug2_inv q4
          cases rep_int h3; cases rep_int r3
          refine ⟨a, b, d, rfl, rfl, e4, ?_⟩
          cases q5 : putItem S3 (.loc n) z (.int d) with
          | none => rw [q5] at k3; exact k3.elim
          | some S4 =>
            rw [q5] at k3
            obtain ⟨p, o, xt, st, alt⟩ := putItem_rep s3 ((r1.ext x2).ext x3) (r2.ext x3) (.int d) q5
            have fin := k3 m3 _ σ xt st ((((hE.ext x1).ext x2).ext x3).ext xt)
            rcases alt with ⟨xs, k, j, e1, e2, e3, e4, e5⟩ | ⟨e1, e2⟩
            · subst e5; exact .inl ⟨p, xs, k, j, e1, e2, e3, e4, fin⟩
            · exact .inr ⟨p, _, e1, e2, fin⟩
theorem isLB_inv {S : Store} {x : Val} (h : isLB S x = true) : ∃ n vs, x = .loc n ∧ S[n]? = some (.list vs) := by
  cases x <;> simp only [isLB, Bool.false_eq_true] at h
  rename_i n
  cases q : S[n]? with
  | none => rw [q] at h; cases h
  | some ob => rw [q] at h; cases ob <;> first | exact ⟨n, _, rfl, q⟩ | cases h
theorem addL_inv {S S' : Store} {n : Nat} {us : List Val} (h : addL S (.loc n) us = some S') : ∃ vs, S[n]? = some (.list vs) ∧ vs.length + us.length ≤ LIM ∧ S' = S.set n (.list (vs ++ us)) := by
  simp only [addL] at h
  cases q : S[n]? with
  | none => rw [q] at h; cases h
  | some ob =>
    rw [q] at h
    cases ob <;> try cases h
    rename_i vs
    simp only at h
    split at h
    · cases h; exact ⟨vs, rfl, by assumption, rfl⟩
    · cases h
theorem ss_append {a e : Expr} {a' e' : E} {apos cpos pos : Pos} (hrw : rw = true) (hb : notCall0 a = true) (ns : notStarred e = true) (hline : (apos.endLine == cpos.line) = true) (ha : SE X rw C W a a') (he : SE X rw C W e e') :
    SS X rw L C W (.Expr (.Call (.Attribute a "append" apos) [e] [] cpos) pos) (.append a' e') := by
  subst hrw
  refine PS.wk (ps_expr (pe_bm PySem.F.plainAttrs_list PySem.F.slot_list_append PySem.F.type_list_append mt_append ha (pa_cons he pa_nil (noStar_of ns _ _)) (noSuper_of hb _ _) (form_of (es := [e]) (by simp [ns]) (by simp) _ _) hline (noStar_of ns _ _) (backTo_nil _ _)) rfl) fun D σ H ⟨m, S, ρ, hS, hE, h⟩ => ?_
  simp only [exS] at h
  refine ⟨m, S, ρ, hS, hE, OutS.to h hE fun y S1 m1 H1 w e1 x1 s1 r1 k1 => ?_⟩
  by_cases hl : isLB S1 y = true
  · simp only [hl, if_true] at k1
    obtain ⟨n, vs, rfl, q⟩ := isLB_inv hl
    obtain ⟨ad, rfl, hn⟩ := rep_loc r1
    obtain ⟨us, b1, b2⟩ := s1.atA hn q
    refine ⟨.inl ⟨rfl, us, SqL.of b1⟩, m1, S1, ρ, s1, hE.ext x1, OutS.to k1 (hE.ext x1) fun v S2 m2 H2 t _ x2 s2 r2 k2 => ?_⟩
    cases q2 : addL S2 (.loc n) [v] with
    | none => rw [q2] at k2; exact k2.elim
    | some S3 =>
      rw [q2] at k2
      obtain ⟨ws, c1, c2, c3⟩ := addL_inv q2
      obtain ⟨us2, b3, b4⟩ := s2.atA (x2.get hn) c1
      have hw := Ext.write (H := H2) (o := .lst (us2 ++ [t])) (mem_bx (x2.get hn)) (fun z => s2.phb ad z (mem_bx (x2.get hn)))
      refine ⟨ad, us2, t, rfl, rfl, b3, ?_, k2 m2 _ σ hw ?_ (((hE.ext x1).ext x2).ext hw)⟩
      · rw [← b4.length, ← lim_eq]; simp at c2; omega
      · rw [c3]; exact s2.write (x2.get hn) ⟨_, upd_same, (b4.append (.cons r2 .nil)).ext hw⟩
  · simp only [hl, if_false] at k1; exact k1.elim
theorem ss_extend {a e : Expr} {a' e' : E} {apos cpos pos : Pos} (hrw : rw = true) (hb : notCall0 a = true) (ns : notStarred e = true) (hline : (apos.endLine == cpos.line) = true) (ha : SE X rw C W a a') (he : SE X rw C W e e') :
    SS X rw L C W (.Expr (.Call (.Attribute a "extend" apos) [e] [] cpos) pos) (.extend a' e') := by
  subst hrw
  refine PS.wk (ps_expr (pe_bm PySem.F.plainAttrs_list PySem.F.slot_list_extend PySem.F.type_list_extend mt_extend ha (pa_cons he pa_nil (noStar_of ns _ _)) (noSuper_of hb _ _) (form_of (es := [e]) (by simp [ns]) (by simp) _ _) hline (noStar_of ns _ _) (backTo_nil _ _)) rfl) fun D σ H ⟨m, S, ρ, hS, hE, h⟩ => ?_
  simp only [exS] at h
  refine ⟨m, S, ρ, hS, hE, OutS.to h hE fun y S1 m1 H1 w e1 x1 s1 r1 k1 => ?_⟩
  by_cases hl : isLB S1 y = true
  · simp only [hl, if_true] at k1
    obtain ⟨n, vs, rfl, q⟩ := isLB_inv hl
    obtain ⟨ad, rfl, hn⟩ := rep_loc r1
    obtain ⟨us, b1, b2⟩ := s1.atA hn q
    refine ⟨.inl ⟨rfl, us, SqL.of b1⟩, m1, S1, ρ, s1, hE.ext x1, OutS.to k1 (hE.ext x1) fun v S2 m2 H2 t _ x2 s2 r2 k2 => ?_⟩
    cases q1 : unl S2 v <;> (rw [q1] at k2; try exact k2.elim)
    rename_i zs
    obtain ⟨b, ts, rfl, d1, d2⟩ := unl_lst s2 r2 q1
    simp only at k2
    cases q2 : addL S2 (.loc n) zs with
    | none => rw [q2] at k2; exact k2.elim
    | some S3 =>
      rw [q2] at k2
      obtain ⟨ws, c1, c2, c3⟩ := addL_inv q2
      obtain ⟨us2, b3, b4⟩ := s2.atA (x2.get hn) c1
      have hw := Ext.write (H := H2) (o := .lst (us2 ++ ts)) (mem_bx (x2.get hn)) (fun z => s2.phb ad z (mem_bx (x2.get hn)))
      refine ⟨ad, b, us2, ts, rfl, rfl, b3, d1, ?_, k2 m2 _ σ hw ?_ (((hE.ext x1).ext x2).ext hw)⟩
      · rw [← b4.length, ← d2.length, ← lim_eq]; exact c2
      · rw [c3]; exact s2.write (x2.get hn) ⟨_, upd_same, (b4.append d2).ext hw⟩
  · simp only [hl, if_false] at k1; exact k1.elim
end
end HI
set_option Elab.async false
set_option linter.all false
set_option maxRecDepth 100000
namespace HI
open PySem PySem.Spec PyProof.Rows L2
section
variable {X : Cx} {C : CallT} {W : WX} {rw : Bool} {L : Nat}
theorem for_reads {tg : Tg} {it : It} {b : List S} {D : Ends} {σ : L2.St} {H : Hp} (h : rdS X.K rw L C W (.forS tg it b) D σ H) : tFor (rdI X.K rw C W it) (rdG X.K rw tg) (rdB X.K rw L C W b) D σ H := by
  obtain ⟨m, S, ρ, hS, hE, h⟩ := h
  simp only [exS] at h
  refine ⟨m, S, ρ, hS, hE, OutS.to h hE fun p S1 m1 H1 J _ x1 s1 hJ k1 => ?_⟩
  obtain ⟨xs, src⟩ := p
  simp only at k1
  refine ⟨fun i k σ H => k = xs.length - i ∧ i ≤ xs.length ∧ ∃ m S ρ, Ext rw m1 H1 m H ∧ SRel X.K rw m H S ∧ ERel X.K m H ρ σ ∧ OutS X.K rw m1 H1 W (forGo src tg (fun ρ' S' => exs L C b ρ' S') (xs.drop i) ρ S) D,
    ⟨xs.length, by simp, Nat.zero_le _, m1, S1, ρ, Ext.refl, s1, hE.ext x1, k1⟩, ?_⟩
  rintro i k σ H ⟨rfl, hi, m, S, ρ, x, hS, hE, h⟩
  have st : still src S := by
    apply Classical.byContradiction
    intro hn
    cases q : xs.drop i <;> (rw [q] at h; simp only [forGo, guardS, hn, if_false] at h; exact h)
  obtain ⟨j1, j2⟩ := hJ m H S x hS st i
  by_cases hl : i < xs.length
  · right
    obtain ⟨v, hv⟩ : ∃ v, xs[i]? = some v := ⟨xs[i], List.getElem?_eq_getElem hl⟩
    obtain ⟨jg, jy⟩ := j2 v hv
    have ed : xs.drop i = v :: xs.drop (i + 1) := by
      rw [List.drop_eq_getElem_cons hl]
      congr 1
      exact (List.getElem?_eq_some_iff.mp hv).2
    rw [ed] at h
    simp only [forGo, guardS_pos st] at h
    refine ⟨jg, fun σ' H' => i + 1 ≤ xs.length ∧ ∃ m S ρ, Ext rw m1 H1 m H' ∧ SRel X.K rw m H' S ∧ ERel X.K m H' ρ σ' ∧ OutS X.K rw m1 H1 W (forGo src tg (fun ρ' S' => exs L C b ρ' S') (xs.drop (i + 1)) ρ S) D, fun σ' H' ⟨q1, q2⟩ => ⟨xs.length - (i + 1), by omega, rfl, q1, q2⟩, fun y H' hy => ?_⟩
    obtain ⟨x2, s2, r2⟩ := jy y H' hy
    cases ea : asgT tg v ρ with
    | none => rw [ea] at h; exact h.elim
    | some ρ' =>
      rw [ea] at h
      simp only at h
      refine ⟨m, S, ρ, v, s2, hE.ext x2, r2, ρ', ea, fun σ2 hE2 _ => ⟨m, S, ρ', s2, hE2, ?_⟩⟩
      have xx := x.trans x2
      cases q : exs L C b ρ' S with
      | next ρ3 S3 =>
        rw [q] at h
        exact fun m3 H3 σ3 x3 s3 e3 => ⟨hl, m3, S3, ρ3, xx.trans x3, s3, e3, h⟩
      | ret w S3 => rw [q] at h; exact fun m3 H3 u3 x3 s3 r3 => h m3 H3 u3 (xx.trans x3) s3 r3
      | brk ρ3 S3 => rw [q] at h; exact fun m3 H3 σ3 x3 s3 e3 => h m3 H3 σ3 (xx.trans x3) s3 e3
      | exc c ρ3 S3 => rw [q] at h; exact fun kx m3 H3 σ3 x3 s3 e3 => h kx m3 H3 σ3 (xx.trans x3) s3 e3
      | stuck => rw [q] at h; exact h
  · left
    have ei : i = xs.length := by omega
    subst ei
    refine ⟨j1 (Nat.le_refl _), ?_⟩
    rw [List.drop_length] at h
    simp only [forGo, guardS_pos st] at h
    exact h m H σ x hS hE
theorem ss_for {tg iter : Expr} {body : List Stmt} {tg' : Tg} {it : It} {b : List S} {pos : Pos} (hp : PassesOwn (model X.prog X.w) X.A X.env X.xe) (hc : X.calm = true) (hi : SI X rw C W tg iter it) (hg : PG X tg (rdG X.K rw tg')) (hb : SB X rw L C W body b)
    (hs : ∀ x, foldedSetIterable iter X.env x = pure x) : SS X rw L C W (.For tg iter body [] pos) (.forS tg' it b) :=
  PS.wk (ps_for hp hc hi hg hb hs) fun D σ H h => for_reads h
theorem ss_while {c : Expr} {body : List Stmt} {c' : E} {b : List S} {pos : Pos} (hp : PassesOwn (model X.prog X.w) X.A X.env X.xe) (hc : ST X rw C W c c') (hb : SB X rw L C W body b) : SS X rw L C W (.While c body [] pos) (.whileS c' b) := by
  refine PS.wk (ps_while hp hc hb) fun D σ H ⟨m1, S1, ρ1, hS1, hE1, h1⟩ => ?_
  simp only [exS] at h1
  refine ⟨fun k σ H' => ∃ m S ρ, Ext rw m1 H m H' ∧ SRel X.K rw m H' S ∧ ERel X.K m H' ρ σ ∧ OutS X.K rw m1 H W (whileGo (fun ρ' S' => evT C c' ρ' S') (fun ρ' S' => exs L C b ρ' S') k ρ S) D, ⟨L, m1, S1, ρ1, Ext.refl, hS1, hE1, h1⟩, ?_⟩
  rintro k σ H' ⟨m, S, ρ, x, hS, hE, h⟩
  cases k with
  | zero => exact h.elim
  | succ k =>
    simp only [whileGo] at h
    refine ⟨m, S, ρ, hS, hE, OutS.to (h.ext x) hE fun t S2 m2 H2 u e2 x2 s2 r2 k2 => ?_⟩
    rw [e2] at h
    subst r2
    cases t with
    | false => exact k2 m2 H2 σ Ext.refl s2 (hE.ext x2)
    | true =>
      simp only [Res.to_ok, if_true] at h
      refine ⟨fun σ' H' => ∃ m S ρ, Ext rw m1 H m H' ∧ SRel X.K rw m H' S ∧ ERel X.K m H' ρ σ' ∧ OutS X.K rw m1 H W (whileGo (fun ρ' S' => evT C c' ρ' S') (fun ρ' S' => exs L C b ρ' S') k ρ S) D, fun σ' H' q => ⟨k, Nat.lt_succ_self _, q⟩, m2, S2, ρ, s2, hE.ext x2, ?_⟩
      have xx := x.trans x2
      cases q : exs L C b ρ S2 with
      | next ρ3 S3 =>
        rw [q] at h
        exact fun m3 H3 σ3 x3 s3 e3 => ⟨m3, S3, ρ3, xx.trans x3, s3, e3, h⟩
      | ret w S3 => rw [q] at h; exact fun m3 H3 u3 x3 s3 r3 => h m3 H3 u3 (xx.trans x3) s3 r3
      | brk ρ3 S3 => rw [q] at h; exact fun m3 H3 σ3 x3 s3 e3 => h m3 H3 σ3 (xx.trans x3) s3 e3
      | exc c ρ3 S3 => rw [q] at h; exact fun kx m3 H3 σ3 x3 s3 e3 => h kx m3 H3 σ3 (xx.trans x3) s3 e3
      | stuck => rw [q] at h; exact h
structure ExcOk (X : Cx) (c : Str) : Prop where
  kx : KExc X.K c
  mg : X.mg c = some (.ref (He.ga X.K c))
  ex : PySem.W.excIn X.K (He.ga X.K c) He.veBase "ValueError.__new__" = true
  kp : PySem.W.keepIn X.K (.ref (He.ga X.K c)) = true
  sb : PySem.W.subIn X.K (.ref (He.ga X.K c)) (.type "BaseException") = some true
  ty : PySem.W.typeIn X.K (.ref (He.ga X.K c)) = some (.type "type")
theorem ss_raise {c msg : Str} {j : Nat} {p p2 p3 pos : Pos} (hc : X.calm = true) (tk : Takes X W) (k : ExcOk X c) (hg : Gl X c) (hdb : (c == ("__debug__" : Str)) = false) : SS X rw L C W (.Raise (some (.Call (.Name c p) [.Constant (.str msg) j p2] [] p3)) none pos) (.raise c) := by
  refine PS.wk (ps_raise hc tk (pmk_own PySem.F.excBase_ValueError k.ex k.mg k.kp (raises_own k.sb k.ty) hg hdb)) fun D σ H ⟨m, S, ρ, hS, hE, h⟩ => ?_
  simp only [exS] at h
  exact h k.kx m H σ Ext.refl hS hE
inductive HsOk (X : Cx) (rw : Bool) (L : Nat) (C : CallT) : List ExceptHandler → List Str → List (List S) → Prop
  | nil : HsOk X rw L C [] [] []
  | cons {h : String} {b0 : Stmt} {suite : List Stmt} {np pos : Pos} {hds : List ExceptHandler} {s0 : List S} {hs : List Str} {bs : List (List S)} (hm : h ∈ EXC) (k : (He.Fa.glo (Str.ofString h)).ok X.K = true) (hn : Names X (Str.ofString h) (.ref (He.ga X.K (Str.ofString h))))
      (hsu : ∀ (a : Addr) (oe : PySem.Obj) (cls : Value) (d : Option Addr) (pn : List (Addr × PySem.Obj)), Zc cls d oe → (∃ vs, oe.data = .fields vs) → SB (X.suite a ((a, oe) :: pn)) rw L C WF (b0 :: suite) s0) (r : HsOk X rw L C hds hs bs) :
      HsOk X rw L C (.ExceptHandler (some (.Name (Str.ofString h) np)) none (b0 :: suite) pos :: hds) (Str.ofString h :: hs) (s0 :: bs)
theorem HsOk.hds {l : List ExceptHandler} {hs : List Str} {bs : List (List S)} (h : HsOk X rw L C l hs bs) : ∃ ts, HdsOk X l ts ∧ ∀ (D : Ends) (c : Str) (m : MM) (H : Hp) (S : Store) (ρ : Env) (σ : L2.St), KExc X.K c → SRel X.K rw m H S → ERel X.K m H ρ σ → OutS X.K rw m H W (exH L C hs bs c ρ S) D → wMany X.K W D ts (.ref (He.ga X.K c)) none σ H := by
  induction h with
  | nil => exact ⟨[], .nil, fun D c m H S ρ σ kx hS hE h => by simp only [exH] at h; exact h kx m H σ Ext.refl hS hE⟩
  | @cons h b0 suite np pos hds s0 hs bs hm k hn hsu r ih =>
    obtain ⟨ts, t1, t2⟩ := ih
    refine ⟨(.ref (He.ga X.K (Str.ofString h)), fun a cls d => rdB X.K rw L C WF s0) :: ts, .cons hn hsu t1, fun D c m H S ρ σ kx hS hE ho => ?_⟩
    simp only [exH] at ho
    refine ⟨catches c (Str.ofString h), kx.exm h hm k, fun e a ha => ?_, fun e => ?_⟩
    · rw [e] at ho
      simp only [if_true] at ho
      refine ⟨m, S, ρ, hS, hE, ?_⟩
      cases q : exs L C s0 ρ S <;> (rw [q] at ho; first | exact ho | exact ho.elim)
    · rw [e] at ho
      exact t2 D c m H S ρ σ kx hS hE ho
theorem ss_try {body : List Stmt} {h0 : ExceptHandler} {hds : List ExceptHandler} {b : List S} {hs : List Str} {bs : List (List S)} {pos : Pos} (hst : X.stack = X.env :: X.outer) (hf : X.env.frame = some X.env.locals) (tk : Takes X W)
    (hb : ∀ (W : WX) (pn : List (Addr × PySem.Obj)) (xe : Value → Shared → Prop), Takes (X.tr pn xe) W → PassesOwn (model X.prog X.w) X.A X.env xe → SB (X.tr pn xe) rw L C W body b) (hh : HsOk X rw L C (h0 :: hds) hs bs) : SS X rw L C W (.Try body (h0 :: hds) [] [] pos) (.tryS b hs bs) := by
  obtain ⟨ts, t1, t2⟩ := hh.hds (W := W)
  refine PS.wk (ps_try_many (tb := fun W => rdB X.K rw L C W b) hst hf tk hb t1) fun D σ H ⟨m, S, ρ, hS, hE, h⟩ => ?_
  simp only [exS] at h
  refine ⟨m, S, ρ, hS, hE, ?_⟩
  cases q : exs L C b ρ S with
  | next ρ3 S3 => rw [q] at h; exact h
  | ret w S3 => rw [q] at h; exact h
  | brk ρ3 S3 => rw [q] at h; exact h
  | stuck => rw [q] at h; exact h
  | exc c ρ3 S3 =>
    rw [q] at h
    exact fun kx m3 H3 σ3 x3 s3 e3 => t2 D c m3 H3 S3 ρ3 σ3 kx s3 e3 (OutS.ext (r := exH L C hs bs c ρ3 S3) h x3)
end
end HI
set_option Elab.async false
set_option linter.all false
set_option maxRecDepth 100000
namespace HI
open PySem PySem.Spec PyProof.Rows L2
section
variable {K : PySem.W.Frag} {rw : Bool} {m m' : MM} {H H' : Hp} {S S' : Store}
mutual
theorem rep_below : ∀ {v : Val} {u : V}, Rep K m H v u → below m.bx.length v = true
  | _, _, .non => rfl
  | _, _, .bool _ => rfl
  | _, _, .int _ => rfl
  | _, _, .str _ => rfl
  | _, _, .tup _ _ r => by simp only [below]; exact reps_below r
  | _, _, .lst _ _ r => by simp only [below]; exact reps_below r
  | _, _, .scr _ _ => rfl
  | _, _, .scrK _ => rfl
  | _, _, .loc (n := n) (a := a) h => by
    simp only [below, decide_eq_true_eq]
    exact (List.getElem?_eq_some_iff.mp (show m.bx[n]? = some a from h)).1
theorem reps_below : ∀ {vs : List Val} {us : List V}, Reps K m H vs us → belows m.bx.length vs = true
  | _, _, .nil => rfl
  | _, _, .cons r t => by simp only [belows, Bool.and_eq_true]; exact ⟨rep_below r, reps_below t⟩
end
structure Cut (m m' : MM) : Prop where
  bx : ∃ ms, m'.bx = m.bx ++ ms
  ph : ∀ a ∈ m.ph, a ∈ m'.ph
theorem Cut.sub (c : Cut m m') {a : Addr} (h : a ∉ m') : a ∉ m := by
  rintro (z | z)
  · obtain ⟨ms, e⟩ := c.bx
    exact h (.inl (by rw [e]; exact List.mem_append_left _ z))
  · exact h (.inr (c.ph a z))
mutual
theorem Rep.cut (c : Cut m m') : ∀ {v : Val} {u : V}, Rep K m' H v u → below m.bx.length v = true → Rep K m H v u
  | _, _, .non, _ => .non
  | _, _, .bool b, _ => .bool b
  | _, _, .int b, _ => .int b
  | _, _, .str b, _ => .str b
  | _, _, .tup h n r, hb => .tup h (c.sub n) (Reps.cut c r (by simpa only [below] using hb))
  | _, _, .lst h n r, hb => .lst h (c.sub n) (Reps.cut c r (by simpa only [below] using hb))
  | _, _, .scr h n, _ => .scr h (c.sub n)
  | _, _, .scrK h, _ => .scrK h
  | _, _, .loc (n := n) (a := a) h, hb => .loc (by
    simp only [below, decide_eq_true_eq] at hb
    obtain ⟨ms, e⟩ := c.bx
    have h' : m'.bx[n]? = some a := h
    rw [e, List.getElem?_append_left hb] at h'
    exact h')
theorem Reps.cut (c : Cut m m') : ∀ {vs : List Val} {us : List V}, Reps K m' H vs us → belows m.bx.length vs = true → Reps K m H vs us
  | _, _, .nil, _ => .nil
  | _, _, .cons r t, hb => by
    simp only [belows, Bool.and_eq_true] at hb
    exact .cons (Rep.cut c r hb.1) (Reps.cut c t hb.2)
end
theorem RepP.cut {κ : Type} (c : Cut m m') {l : List (κ × Val)} {r : List (κ × V)} (h : RepP K m' H' l r) {r0 : List (κ × V)} (h0 : RepP K m H l r0) : RepP K m H' l r := by
  induction h generalizing r0 with
  | nil => exact .nil
  | cons q t ih => cases h0 with | cons q0 t0 => exact .cons ⟨q.1, q.2.cut c (rep_below q0.2)⟩ (ih t0)
theorem Ext.cutM (x : Ext rw m H m' H') : Cut m m' := by
  obtain ⟨ms, ps, rfl, _, _⟩ := x.more
  exact ⟨⟨ms, rfl⟩, fun a h => List.mem_append_right _ h⟩
theorem Ext.back (x : Ext rw m H m' H') : Ext rw m H m H' := ⟨⟨[], [], m.same, by simp, by simp⟩, x.keep, x.there, x.kph⟩
theorem SRel.cut (x : Ext rw m H m' H') (h : SRel K rw m H S) (h' : SRel K rw m' H' S') (e : S'.take S.length = S) : SRel K rw m H' S := by
  have c := x.cutM
  refine ⟨h.len, h.nd, fun n a o e1 e2 => ?_, fun hr a ha => ?_, fun a ha => x.there a (h.phs a ha), h.phb⟩
  · have hl : n < S.length := (List.getElem?_eq_some_iff.mp e2).1
    have e3 : S'[n]? = some o := by
      have q : (S'.take S.length)[n]? = some o := by rw [e]; exact e2
      rw [List.getElem?_take, if_pos hl] at q
      exact q
    have e4 : m'[n]? = some a := x.get e1
    have b' := h'.box n a o e4 e3
    have b := h.box n a o e1 e2
    cases o with
    | list vs =>
      obtain ⟨xs, h1, h2⟩ := b'
      obtain ⟨xs0, _, h3⟩ := b
      exact ⟨xs, h1, h2.cut c (reps_below h3)⟩
    | dictK vs =>
      obtain ⟨xs, h1, h2⟩ := b'
      obtain ⟨xs0, _, h3⟩ := b
      exact ⟨xs, h1, RepP.cut c h2 h3⟩
    | dictT vs =>
      obtain ⟨xs, h1, h2⟩ := b'
      obtain ⟨xs0, _, h3⟩ := b
      exact ⟨xs, h1, RepP.cut c h2 h3⟩
    | inst cc vs =>
      obtain ⟨kc, dx, xs, h1, h2⟩ := b'
      obtain ⟨_, dx0, xs0, _, h3⟩ := b
      exact ⟨kc, dx, xs, h1, RepP.cut c h2 h3⟩
  · obtain ⟨ms, e⟩ := c.bx
    exact h'.nof hr a (by rw [e]; exact List.mem_append_left _ ha)
theorem unbox_rep (x : Ext rw m H m' H') (h : SRel K rw m H S) (h' : SRel K rw m' H' S') {v w : Val} {u : V} (r : Rep K m' H' v u) (e : unbox S.length S' v = some w) : Rep K m H' w u := by
  have c := x.cutM
  rw [← h.len] at e
  have other : ∀ v, (if below m.bx.length v = true then some v else none) = some w → Rep K m' H' v u → Rep K m H' w u := by
    intro v e r
    split at e
    · cases e; exact r.cut c (by assumption)
    · cases e
  cases v with
  | loc n =>
    simp only [unbox] at e
    split at e
    · rename_i hl
      cases e
      exact r.cut c (by simp only [below, decide_eq_true_eq]; exact hl)
    · rename_i hl
      obtain ⟨a, rfl, ha⟩ := rep_loc r
      cases q : S'[n]? with
      | none => rw [q] at e; cases e
      | some ob =>
        rw [q] at e
        cases ob <;> try cases e
        rename_i vs
        simp only at e
        split at e
        · rename_i hb
          cases e
          obtain ⟨us, h1, h2⟩ := h'.atA ha q
          refine .lst h1 ?_ (h2.cut c hb)
          rintro (z | z)
          · obtain ⟨j, hj⟩ := List.getElem?_of_mem z
            have hj' : m'.bx[j]? = some a := x.get (show m[j]? = some a from hj)
            obtain ⟨a1, a2⟩ := List.getElem?_eq_some_iff.mp hj'
            obtain ⟨b1, b2⟩ := List.getElem?_eq_some_iff.mp (show m'.bx[n]? = some a from ha)
            have ej : j = n := (List.getElem_inj h'.nd).mp (a2.trans b2.symm)
            have hl' := (List.getElem?_eq_some_iff.mp hj).1
            omega
          · exact h'.phb a (c.ph a z) (mem_bx ha)
        · cases e
  | _ => exact other _ (by simpa only [unbox] using e) r
end
section
variable {P : Program} {w : World} {K : PySem.W.Frag} {mg : Str → Option Value} {base : Heap} {C C' : CallT} {rw : Bool} {L : Nat}
structure CxOk (X : Cx) (W : WX) (k : Nat) : Prop where
  room : Room k X.A
  calm : X.calm = true
  tk : Takes X W
  own : PassesOwn (model X.prog X.w) X.A X.env X.xe
  stk : X.stack = X.env :: X.outer
  frm : X.env.frame = some X.env.locals
theorem fn_sound {x qual key : Str} {params : Arguments} {body : List Stmt} {scope : Scope} {f : Addr} {fd : FuncData} {N ps : List Str} {k : Nat} {fn : Fn} (F : FunD K x qual params body scope [] [] f fd) (Sc : FnScope N ps scope)
    (hnp : fn.np = ps.length) (hns : fn.ns = N.length) (hC : ∀ avs S, C' key avs S = runFn L C fn avs S)
    (hb : ∀ (X : Cx) (W : WX), X.prog = P → X.w = w → X.K = K → X.mg = mg → X.base = base → X.N = N → X.env.scope = scope → X.fn = (fun _ => true) → CxOk X W k → SB X rw L C W body fn.body) :
    FnOk P w K mg base (L2.CX P w) (k + 1) f fd ps (spC K rw C' key) := by
  have hlen : ∀ vs H Q E, spC K rw C' key vs H Q E → vs.length = ps.length := by
    rintro vs H Q E ⟨m, S, avs, hS, hr, h⟩
    rw [hC] at h
    unfold runFn at h
    split at h
    · rename_i e
      rw [← hr.length, e, hnp]
    · exact h.elim
  refine F.ok Sc hlen fun cdv A outer s H vs Q E hr hsp => ?_
  have hvl := hlen _ _ _ _ hsp
  obtain ⟨m, S, avs, hS, hv, h⟩ := hsp
  rw [hC] at h
  unfold runFn at h
  have hal : avs.length = fn.np := by rw [hv.length, hvl, hnp]
  rw [if_pos hal] at h
  let X := cxOf (L2.CX P w) P w K mg base N qual scope f cdv A outer s H E
  have tk : Takes X (fun cls d _ H => E cls d H) := takes_of rfl rfl rfl rfl
  refine ⟨rdB K rw L C (fun cls d _ H => E cls d H) fn.body, hb X _ rfl rfl rfl rfl rfl rfl rfl rfl ⟨hr, rfl, tk, passes_of rfl, rfl, rfl⟩, m, S, avs.map some ++ List.replicate (fn.ns - fn.np) none, hS, ?_, ?_⟩
  · refine ⟨?_, fun i v e => ?_⟩
    · unfold L2.start
      simp only [List.length_append, List.length_map, List.length_replicate]
      rw [hal, hvl, hns, hnp]
    · by_cases hi : i < avs.length
      · rw [List.getElem?_append_left (by simpa using hi), List.getElem?_map] at e
        cases q : avs[i]? with
        | none => rw [q] at e; cases e
        | some v' =>
          rw [q] at e; cases e
          obtain ⟨u, h1, h2⟩ := hv.get q
          refine ⟨u, ?_, h2⟩
          unfold L2.start
          rw [List.getElem?_append_left (by simp; rw [← hv.length]; exact hi), List.getElem?_map, h1]; rfl
      · rw [List.getElem?_append_right (by simpa using hi)] at e
        have := List.mem_of_getElem? e
        rw [List.mem_replicate] at this
        cases this.2
  · have fin : ∀ v S1, Out K rw m H [] (fun c d _ H' => E c d H') (Rep K) (finish fn S v S1) Q → ∀ m' H' u, Ext rw m H m' H' → SRel K rw m' H' S1 → Rep K m' H' v u → Q u H' := by
      intro v S1 ho m' H' u x' s' r'
      unfold finish at ho
      split at ho
      · split at ho
        · rename_i et
          cases q : unbox S.length S1 v with
          | none => rw [q] at ho; exact ho.elim
          | some u' =>
            rw [q] at ho
            exact ho m H' u x'.back (hS.cut x' s' et) (unbox_rep x' hS s' r' q)
        · exact ho.elim
      · exact ho m' H' u x' s' r'
    cases q : exs L C fn.body (avs.map some ++ List.replicate (fn.ns - fn.np) none) S with
    | ret v S1 =>
      rw [q] at h
      exact fin v S1 h
    | next ρ1 S1 =>
      rw [q] at h
      exact fun m' H' σ' x' s' _ => fin .non S1 h m' H' .non x' s' .non
    | brk ρ1 S1 => rw [q] at h; exact h.elim
    | stuck => rw [q] at h; exact h.elim
    | exc c ρ1 S1 =>
      rw [q] at h
      intro kx m' H' σ' x' s' _
      simp only at h
      unfold finishX at h
      split at h
      · split at h
        · rename_i et
          exact h kx m H' x'.back (hS.cut x' s' et)
        · exact h.elim
      · exact h kx m' H' x' s'
end
end HI
set_option Elab.async false
set_option linter.all false
set_option maxRecDepth 100000
namespace HI
open PySem PySem.Spec PyProof.Rows L2
theorem enumV_get {vs : List Val} : ∀ {k i : Nat} {v : Val}, (enumV vs k)[i]? = some v → ∃ x, vs[i]? = some x ∧ v = .tup [.int ((k + i : Nat) : Int), x] := by
  induction vs with
  | nil => intro k i v h; simp [enumV] at h
  | cons w vs ih =>
    intro k i v h
    cases i with
    | zero => simp [enumV] at h; exact ⟨w, by simp, h.symm⟩
    | succ i =>
      simp only [enumV, List.getElem?_cons_succ] at h
      obtain ⟨x, h1, h2⟩ := ih h
      exact ⟨x, by simpa using h1, by rw [h2]; congr 3; omega⟩
theorem enumV_len (vs : List Val) : ∀ k, (enumV vs k).length = vs.length := by
  induction vs with
  | nil => intro k; rfl
  | cons w vs ih => intro k; simp [enumV, ih]
section
variable {X : Cx} {C : CallT} {W : WX} {rw : Bool}
theorem lst_still {K : PySem.W.Frag} {m1 m : MM} {H1 H : Hp} {S1 S : Store} {x : Val} {a : Addr} {vs : List Val} (rx : Rep K m1 H1 x (.ref a)) (e : lstOf S1 x = some vs) (xt : Ext rw m1 H1 m H) (hS : SRel K rw m H S) (hst : still (srcOf S1 x) S) : ∃ us, H a = some (.lst us) ∧ Reps K m H vs us := by
  cases x with
  | lst ws =>
    simp only [lstOf] at e; cases e
    obtain ⟨a', us, h1, h2, h3, h4⟩ := rep_lst rx
    cases h1
    exact ⟨us, xt.keep _ _ h2 (.inl h3), h4.ext xt⟩
  | loc n =>
    simp only [lstOf] at e
    obtain ⟨a', h1, ha⟩ := rep_loc rx
    cases h1
    cases q : S1[n]? with
    | none => rw [q] at e; cases e
    | some ob =>
      rw [q] at e
      cases ob <;> try cases e
      simp only [srcOf, q, still] at hst
      exact hS.atA (xt.get ha) hst.1
  | _ => simp only [lstOf] at e; cases e
theorem pair_new {K : PySem.W.Frag} {m : MM} {H : Hp} {S : Store} {T : Addr} {v1 v2 : Val} {u1 u2 : V} (hS : SRel K rw m H S) (hT : H T = none) (r1 : Rep K m H v1 u1) (r2 : Rep K m H v2 u2) :
    Ext rw m H m (upd H T (.tup [u1, u2])) ∧ SRel K rw m (upd H T (.tup [u1, u2])) S ∧ Rep K m (upd H T (.tup [u1, u2])) (.tup [v1, v2]) (.ref T) :=
  ⟨Ext.new hT, hS.new hT, .tup upd_same (not_box hS hT) (.cons (r1.ext (Ext.new (rw := rw) hT)) (.cons (r2.ext (Ext.new (rw := rw) hT)) .nil))⟩
theorem J_enum {K : PySem.W.Frag} {m1 : MM} {H1 : Hp} {S1 : Store} {x : Val} {a : Addr} {vs : List Val} (s1 : SRel K rw m1 H1 S1) (rx : Rep K m1 H1 x (.ref a)) (e : lstOf S1 x = some vs) : JRel K rw m1 H1 (enumV vs 0, srcOf S1 x) (Ite K a) := by
  intro m H S xt hS hst i
  obtain ⟨us, h1, h2⟩ := lst_still rx e xt hS hst
  refine ⟨fun hl => ⟨us, SqL.of h1, by rw [← h2.length, ← enumV_len vs 0]; exact hl⟩, fun v hv => ?_⟩
  obtain ⟨y, hy, rfl⟩ := enumV_get hv
  obtain ⟨u, hu, ru⟩ := h2.get hy
  refine ⟨⟨us, u, SqL.of h1, hu⟩, fun z H' hz => ?_⟩
  obtain ⟨T, w, rfl, hT, rfl, hw⟩ := hz
  have := hw us (SqL.of h1)
  rw [hu] at this; cases this
  rw [Nat.zero_add]
  exact pair_new hS hT (.int _) ru
end
end HI
namespace HI
open PySem PySem.Spec PyProof.Rows
set_option maxHeartbeats 1000000 in
theorem meets_enum1 {v : Value} {o : PySem.Obj} {H : Heap → Prop} (B : PySem.Begins v o H) :
    Meets (Builtin.«enumerate.__new__» ⟨[.type "enumerate", v], []⟩) (fun _ R s => H s.heap ∧
      R (.ok (.ret (.ref (s.heap.push o).objs.size))) { s with heap := (s.heap.push o).push { cls := .type "enumerate", data := .fields #[.none, .bool false, .ref s.heap.objs.size, rawInt 0, .none, .none] } }) :=
  .of_wp fun prog w A R s h => by
    obtain ⟨hp, g, d, tk, os⟩ := s; obtain ⟨h1, h⟩ := h
    have hsub := sub_enumerate
    have q1 : ∀ {A' : Around} {E : Value → Shared → Prop} {Q : Value → Shared → Prop}, Q (.ref hp.objs.size) ⟨hp.push o, g, d, tk, os⟩ → wpAny (model prog w) A' (pyIter v) Q E ⟨hp, g, d, tk, os⟩ :=
      fun q => B.iter prog w _ _ ⟨hp, g, d, tk, os⟩ _ h1 q
    wp_walk using q1
    refine wpAny_stack_any fun st => wpAny_pure ?_
    split
    · rename_i c _ _ _ _ _
      cases (c == Value.type "enumerate")
      · wp_walk using q1
        exact ⟨_, rfl, h⟩
      · wp_walk using q1
        exact ⟨_, rfl, h⟩
    · wp_walk using q1
      exact ⟨_, rfl, h⟩
theorem call_enum1 {prog : Program} {w : World} {A : Around} {E : Value → Shared → Prop} {s : Shared} {v : Value} {o : PySem.Obj} {H : Heap → Prop} {Q : Value → Shared → Prop} (B : PySem.Begins v o H) (h1 : H s.heap)
    (h : ∀ h', IsEnum h' (s.heap.objs.size + 1) s.heap.objs.size 0 .none → h'.get? s.heap.objs.size = some o → h'.objs.size = s.heap.objs.size + 2 →
      (∀ b o, s.heap.get? b = some o → h'.get? b = some o) → Q (.ref (s.heap.objs.size + 1)) { s with heap := h' }) :
    wpAny (model prog w) A (call (.type "enumerate") [v]) Q E s := by
  refine callType_new F.called_enumerate (by decide) (F.typeCall_enumerate_1 _) (F.newCall_enumerate_1 _) (fun obj => F.args_object_init_2 obj _) F.entry_enumerate_new
    (meets_enum1 B) ⟨h1, ?_⟩
  have hz : (s.heap.push o).objs.size = s.heap.objs.size + 1 := Heap.size_push ..
  show _ ∧ _
  rw [hz]
  have he : IsEnum ((s.heap.push o).push { cls := .type "enumerate", data := .fields #[.none, .bool false, .ref s.heap.objs.size, rawInt 0, .none, .none] }) (s.heap.objs.size + 1) s.heap.objs.size 0 .none := by
    have := Heap.get?_push_size (s.heap.push o) (o := { cls := .type "enumerate", data := .fields #[.none, .bool false, .ref s.heap.objs.size, rawInt 0, .none, .none] }) rfl
    rw [hz] at this; exact this
  refine ⟨⟨_, he, rfl⟩, h _ he (Heap.get?_push_of_some _ (Heap.get?_push_size _ B.free)) (by rw [Heap.size_push, hz]) fun b o x => Heap.get?_push_of_some _ (Heap.get?_push_of_some _ x)⟩
end HI
namespace HI
open PySem PySem.Spec PyProof.Rows L2
def IteT (K : PySem.W.Frag) (a : Addr) : L2.It :=
  ⟨fun i H => ∃ (xs : List V) (x : V), SqT K H a xs ∧ xs[i]? = some x, fun i H v H' => ∃ T x, v = .ref T ∧ H T = none ∧ H' = upd H T (.tup [.int (i : Nat), x]) ∧ ∀ xs, SqT K H a xs → xs[i]? = some x, fun i H => ∃ xs : List V, SqT K H a xs ∧ xs.length ≤ i⟩
theorem turn_enumT {P : Program} {w : World} {K : PySem.W.Frag} {elts : List Expr} {kk : Nat} {tpos : Pos} (a e it : Addr) :
    Turn P w K (.Tuple elts kk tpos) (IteT K a) [e, it] e (fun i h => (∃ old, IsEnum h e it ((i : Nat) : Int) old) ∧ h.IsTupleIter it a i ∧ e ≠ it) where
  mem := by simp
  obj := fun i h st b hb => by
    obtain ⟨⟨old, he⟩, ⟨o, ho, hc, hd⟩, _⟩ := st
    have e' : b = e ∨ b = it := by simpa using hb
    rcases e' with z | z
    · rw [z]; exact ⟨_, he, fun v q => nomatch q⟩
    · rw [z]; exact ⟨o, ho, fun v q => by rw [hd] at q; cases q⟩
  keep := fun i h h' st k => let ⟨⟨old, he⟩, hi, hne⟩ := st; ⟨⟨old, k e (by simp) _ he⟩, hi.at fun o q => k it (by simp) o q, hne⟩
  item := by
    intro X hP hw hK hc i pins s σ H E I hf st hg
    subst hP hw hK
    obtain ⟨⟨old, he⟩, hit, hne⟩ := st
    obtain ⟨xs, x, hq, hx⟩ := hg
    obtain ⟨its, rv, p, hz⟩ := I.tuple hq
    obtain ⟨u, hu, ru⟩ := rv.get hx
    have ht : s.heap.IsTuple a its.toArray := p
    have hel : e < s.heap.objs.size := Heap.lt_size he
    have hil : it < s.heap.objs.size := by obtain ⟨_, q, _⟩ := hit; exact Heap.lt_size q
    have hai : a ≠ it := by
      rintro rfl
      obtain ⟨o1, e1, c1, d1⟩ := hit
      obtain ⟨o2, e2, c2, n2, d2⟩ := ht
      rw [e1] at e2; cases e2
      rw [d1] at d2; cases d2
    have hae : a ≠ e := by
      rintro rfl
      obtain ⟨o2, e2, c2, n2, d2⟩ := ht
      rw [show s.heap.get? a = _ from he] at e2; cases e2
      cases d2
    have D : Draws X.prog X.w X.A.in1 it [it, a] its.toArray.size _ _ := Draws.tuple (A := X.A.in1) (show X.A.in1.handled = none from I.ok.hd hc) it a hai its.toArray
    have hil2 : i < its.toArray.size := by
      have := (List.getElem?_eq_some_iff.mp hu).1
      simpa using this
    refine wpAny_pyNext_enum_itemD D he ⟨hit, ht⟩ hil2 hne (by simp [hne, Ne.symm hae]) fun x' h' tk hP ho hst' hT hsz hk => ?_
    have hxu : x' = u := by
      have : its.toArray[i]? = some u := by simpa using hu
      rw [this] at hP; cases hP; rfl
    subst hxu
    obtain ⟨hit', ht'⟩ := hst'
    refine ⟨_, rfl, wpAny_letOwnedTupleGo_enum (s := { s with heap := h', toks := tk + 1 }) ho fun h'' he' sb => ?_⟩
    have hT2 : h''.get? s.heap.objs.size = some { cls := .type "tuple", data := .seq #[.int i tk, x'] } := (sb.2 _ (Nat.ne_of_gt hel)).trans hT
    have new : ObjOk X.prog X.w (upd H s.heap.objs.size (.tup [.int (i : Nat), x])) h'' s.heap.objs.size (.tup [.int (i : Nat), x]) :=
      ⟨by show 2 ≤ sizeLine; decide, [.int i tk, x'], .cons ⟨_, rfl⟩ (.cons ru .nil), ⟨_, hT2, rfl, _, rfl⟩⟩
    have I1 : Inv X pins σ (upd H s.heap.objs.size (.tup [.int (i : Nat), x])) { s with heap := h'', toks := tk + 1 } :=
      I.turnedNew (ch := [e, it]) (fun b ob hb q => (sb.2 b (fun z => hb (by simp [z]))).trans (hk b ob (fun z => hb (by simp [z])) (fun z => hb (by simp [z])) q)) hf (Nat.le_refl _) new
    refine ⟨.ref s.heap.objs.size, _, I1, rfl, ⟨_, x, rfl, I.hok.fresh (Nat.le_refl _), rfl, fun ys hy => by rw [I.tuple_inj hy hq]; exact hx⟩, ⟨⟨x', ?_⟩, hit'.at fun o q => (sb.2 it (Ne.symm hne)).trans q, hne⟩, fun b hb => ?_⟩
    · have e1 : ((i + 1 : Nat) : Int) = (i : Int) + 1 := by omega
      rw [e1]; exact he'
    · have hb' : b < s.heap.objs.size := by
        have e' : b = e ∨ b = it := by simpa using hb
        rcases e' with z | z
        · rw [z]; exact hel
        · rw [z]; exact hil
      rw [upd_ne (Nat.ne_of_lt hb')]
      exact (hf b hb).1
  done := by
    intro X hP hw hK hc i pins s σ H E I hf st hg
    subst hP hw hK
    obtain ⟨⟨old, he⟩, hit, hne⟩ := st
    obtain ⟨xs, hq, hx⟩ := hg
    obtain ⟨its, rv, p, hz⟩ := I.tuple hq
    have ht : s.heap.IsTuple a its.toArray := p
    obtain ⟨f0, f1, f2, f3, f4, f5⟩ := hf it (by simp)
    have hl := rv.length
    have hai : a ≠ it := by
      rintro rfl
      obtain ⟨o1, e1, c1, d1⟩ := hit
      obtain ⟨o2, e2, c2, n2, d2⟩ := ht
      rw [e1] at e2; cases e2
      rw [d1] at d2; cases d2
    have fin : ∀ h', Heap.ExtBut it s.heap h' → Inv X pins σ H { s with heap := h' } := fun h' eb => I.turned (t' := s.toks) (fun b o hb q => eb b o hb q) f0 f1 f3 f4 f5
    have hT : s.TypeIs (.ref e) "enumerate" := ⟨_, he, rfl⟩
    unfold pyNext
    refine wpAny_bind (wpAny_attempt (wpAny_callSpecial?_slot (name := Str.ofString "__next__") hT F.slot_enumerate_next
      (wpAny_call_entry F.slot_enumerate_next hT F.entry_enumerate_next ?_ (F.args_enumerate_next_1 _))))
    show wpAny _ _ (field (.ref e) 2 >>= _) _ _ _
    refine wpAny_bind (wpAny_field he rfl (x := .ref it) rfl ?_)
    refine wpAny_bind (wpAny_nextOf_tuple_end (show X.A.in1.handled = none from I.ok.hd hc) hit ht (by simp; omega) fun h' x he' hx' => ?_)
    obtain ⟨o, ho, hc'⟩ := hx'
    refine wpAny_bind (wpAny_isInstance (T := "StopIteration") (b := true) ⟨o, ho, hc'⟩ isSubtype_stop ?_)
    exact wpAny_pure ⟨rfl, fin _ he'⟩
  self := fun A i s Q E st h => let ⟨⟨_, he⟩, _⟩ := st; wpAny_pyIter_enum he h
def iEnumT (K : PySem.W.Frag) (ta : TA) : TI := fun σ H R => ta σ H fun vs H1 => ∃ a xs, vs = [.ref a] ∧ SqT K H1 a xs ∧ R (IteT K a) H1
theorem pi_enumT {X : Cx} {e : Expr} {ta : TA} {p pos tpos : Pos} {elts : List Expr} {kk : Nat} (hg : Gl X "enumerate") (hm : X.mg "enumerate" = none) (ha : PA X [e] ta) (hs : starEach [e] X.env = [(false, eval e X.env)]) :
    PI X (.Tuple elts kk tpos) (.Call (.Name "enumerate" p) [e] [] pos) (iEnumT X.K ta) := by
  refine ⟨fun pins s σ H R I h => ?_⟩
  refine Call_ (ld_blt I hg hm boot_enumerate (PyProof.Rows.callWith_type1 (thn (ha.run pos pins s σ H _ I h) fun us s1 ⟨vs, H1, I1, r1, q1⟩ => ?_) hs rfl))
  obtain ⟨a, xs, ex, hq, q⟩ := q1
  subst ex
  cases r1 with
  | cons r rr =>
    cases rr
    cases r
    obtain ⟨its, rv, p', hz⟩ := I1.tuple hq
    refine call_enum1 (begins_tuple a its.toArray) p' fun h' he hit hsz hk => wpAny_pyIter_enum he ?_
    have I2 : Inv X pins σ H1 { s1 with heap := h' } := I1.kept (t' := s1.toks) hk
    refine ⟨s1.heap.objs.size + 1, [s1.heap.objs.size + 1, s1.heap.objs.size], _, _, H1, rfl, I2, turn_enumT a (s1.heap.objs.size + 1) s1.heap.objs.size, ⟨⟨.none, he⟩, ⟨_, hit, rfl, rfl⟩, Nat.succ_ne_self _⟩, fun b hb => ?_, q⟩
    have e' : b = s1.heap.objs.size + 1 ∨ b = s1.heap.objs.size := by simpa using hb
    have hle : s1.heap.objs.size ≤ b := by
      rcases e' with z | z
      · rw [z]; exact Nat.le_add_right _ _
      · rw [z]; exact Nat.le_refl _
    exact I1.fpOk hle (I1.hok.fresh hle)
section
variable {X : Cx} {C : CallT} {W : WX} {rw : Bool}
theorem J_enumT {K : PySem.W.Frag} {m1 : MM} {H1 : Hp} {a : Addr} {vs : List Val} (rx : Rep K m1 H1 (.tup vs) (.ref a)) : JRel K rw m1 H1 (enumV vs 0, []) (IteT K a) := by
  intro m H S xt hS hst i
  obtain ⟨a', us, e1, h1, h3, h2⟩ := rep_tup (rx.ext xt)
  cases e1
  refine ⟨fun hl => ⟨us, SqT.of h1, by rw [← h2.length, ← enumV_len vs 0]; exact hl⟩, fun v hv => ?_⟩
  obtain ⟨y, hy, rfl⟩ := enumV_get hv
  obtain ⟨u, hu, ru⟩ := h2.get hy
  refine ⟨⟨us, u, SqT.of h1, hu⟩, fun z H' hz => ?_⟩
  obtain ⟨T, w, rfl, hT, rfl, hw⟩ := hz
  have := hw us (SqT.of h1)
  rw [hu] at this; cases this
  rw [Nat.zero_add]
  exact pair_new hS hT (.int _) ru
def isTupV : Val → Bool
  | .tup _ => true
  | _ => false
theorem i_enum {elts : List Expr} {kk : Nat} {tpos : Pos} {a : Expr} {a' : E} {p pos : Pos} (hg : Gl X "enumerate") (hm : X.mg "enumerate" = none) (ns : notStarred a = true) (ha : SE X rw C W a a') : SI X rw C W (.Tuple elts kk tpos) (.Call (.Name "enumerate" p) [a] [] pos) (.enum a') := by
  have sn : starEach [a] X.env = [(false, eval a X.env)] := noStar_of ns _ _
  refine PI.wk (PI.or (pi_enum hg hm (pa_cons ha pa_nil (noStar_of ns _ _)) sn) (pi_enumT hg hm (pa_cons ha pa_nil (noStar_of ns _ _)) sn)) fun σ H R ⟨m, S, ρ, hS, hE, h⟩ => ?_
  simp only [evIt] at h
  by_cases c1 : ∀ x S1, ev C a' ρ S = .ok x S1 → isTupV x = true
  · refine .inr ⟨m, S, ρ, hS, hE, Out.bindE h fun x S1 m1 H1 u e1 x1 s1 r1 h1 => ?_⟩
    have hp := c1 x S1 e1
    cases x <;> try cases hp
    obtain ⟨a, us, rfl, k1, k2, k3⟩ := rep_tup r1
    exact ⟨a, us, rfl, SqT.of k1, h1.fin s1 (J_enumT r1)⟩
  · refine .inl ⟨m, S, ρ, hS, hE, Out.bindE h fun x S1 m1 H1 u e1 x1 s1 r1 h1 => ?_⟩
    have hp : isTupV x = false := by
      cases q : isTupV x with
      | false => rfl
      | true => exact absurd (fun y S2 e2 => by rw [e1] at e2; cases e2; exact q) c1
    cases q : lstOf S1 x with
    | none =>
      cases x <;> simp only [seqOf, q] at h1 <;> first | exact h1.elim | cases hp
    | some vs =>
      have h1' : Out X.K rw m1 H1 σ W (JRel X.K rw) (.ok (enumV vs 0, srcOf S1 x) S1) R := by
        cases x <;> simp only [seqOf, q] at h1 <;> first | exact h1 | cases hp
      obtain ⟨a, us, rfl, k1, k2⟩ := lstOf_rep s1 r1 q
      exact ⟨a, us, rfl, SqL.of k1, h1'.fin s1 (J_enum s1 r1 q)⟩
def isBad : E → Bool
  | .split _ _ => true
  | _ => false
theorem s_bad {e : Expr} {e' : E} (h : isBad e' = true) : SE X rw C W e e' := ⟨fun pins s σ H Q I ⟨m, S, ρ, hS, hE, ho⟩ => by
  cases e' <;> first | cases h | skip
  simp only [ev] at ho
  exact ho.elim⟩
theorem t_bad {e : Expr} {e' : E} (h : isBad e' = true) : ST X rw C W e e' := ⟨fun pins s σ H Q I ⟨m, S, ρ, hS, hE, ho⟩ => by
  cases e' <;> first | cases h | skip
  simp only [evT, ev] at ho
  exact ho.elim⟩
def isBadS : S → Bool
  | .expr e => isBad e
  | _ => false
theorem isBadS_eq {s : S} (h : isBadS s = true) : ∃ a b, s = .expr (.split a b) := by
  unfold isBadS isBad at h
  split at h
  · split at h
    · exact ⟨_, _, rfl⟩
    · cases h
  · cases h
theorem ss_bad {L : Nat} {st : Stmt} {s : S} (h : isBadS s = true) : SS X rw L C W st s := ⟨fun pins s' σ H D I ⟨m, S, ρ, hS, hE, ho⟩ => by
  obtain ⟨a, b, rfl⟩ := isBadS_eq h
  simp only [exS, ev] at ho
  exact ho.elim⟩
theorem s_boxa {a b : Expr} {a' b' : E} {pos : Pos} (ha : SE X rw C W a a') (hb : SE X rw C W b b') : SE X rw C W (.BinOp a .Add b pos) (.boxa a' b') := by
  refine PE.wk (pe_op op_cat ha hb) fun σ H Q ⟨m, S, ρ, hS, hE, h⟩ => ?_
  simp only [ev] at h
  refine ⟨m, S, ρ, hS, hE, Out.bind h fun x S1 m1 H1 u x1 s1 r1 h1 => ⟨m1, S1, ρ, s1, hE.ext x1, Out.bind h1 fun y S2 m2 H2 w x2 s2 r2 h2 => ?_⟩⟩
  have r1' := r1.ext x2
  cases q1 : lstOf S2 x with
  | none => rw [q1] at h2; exact h2.elim
  | some xs =>
    cases q2 : lstOf S2 y with
    | none => rw [q1, q2] at h2; exact h2.elim
    | some ys =>
      rw [q1, q2] at h2
      simp only at h2
      split at h2
      · rename_i hl
        obtain ⟨a, us, rfl, k1, k2⟩ := lstOf_rep s2 r1' q1
        obtain ⟨b, ws, rfl, k3, k4⟩ := lstOf_rep s2 r2 q2
        refine ⟨a, b, us, ws, rfl, rfl, k1, k3, by rw [← k2.length, ← k4.length, ← lim_eq]; exact hl, fun p hp => ?_⟩
        exact h2.fin' (Ext.box hp) (s2.push hp ⟨us ++ ws, upd_same, (k2.append k4).ext (Ext.box (rw := rw) hp)⟩) (.loc (m_len s2 p))
      · exact h2.elim
theorem pairsK_rep {K : PySem.W.Frag} {m : MM} {H : Hp} : ∀ {vs : List Val} {us : List V} {kvs : List (Key × Val)}, Reps K m H vs us → pairsK vs = some kvs → ∃ (ps : List Addr) (ws : List (Key × V)), us = ps.map V.ref ∧ Paired (fun p kv => SqT K H p [kV kv.1, kv.2]) ps ws ∧ RepP K m H kvs ws
  | [], _, kvs, .nil, e => by simp only [pairsK] at e; cases e; exact ⟨[], [], rfl, .nil, .nil⟩
  | v :: vs, _, kvs, .cons (us := us) r q, e => by
    unfold pairsK at e
    split at e
    · rename_i h; cases h
    · rename_i k w r' h
      cases h
      cases e1 : keyOf k with
      | none => rw [e1] at e; simp at e
      | some k0 =>
        cases e2 : pairsK vs with
        | none => rw [e1, e2] at e; simp at e
        | some r2 =>
          rw [e1, e2] at e
          simp at e; subst e
          obtain ⟨ps, ws, h1, h2, h3⟩ := pairsK_rep q e2
          obtain ⟨a, xs, rfl, g1, g2, g3⟩ := rep_tup r
          cases g3 with
          | cons ra g3 => cases g3 with
            | cons rb g3 =>
              cases g3
              cases key_rep ra e1
              rename_i ub
              exact ⟨a :: ps, (k0, ub) :: ws, by rw [h1]; rfl, .cons (SqT.of g1) h2, .cons ⟨rfl, rb⟩ h3⟩
    · cases e
theorem merge_rep {K : PySem.W.Frag} {m : MM} {H : Hp} : ∀ {kvs : List (Key × Val)} {ws : List (Key × V)} {acc : List (Key × Val)} {acc' : List (Key × V)}, RepP K m H acc acc' → RepP K m H kvs ws → RepP K m H (mergeK acc kvs) (L2.mergeK acc' ws)
  | [], _, acc, acc', h, .nil => h
  | kv :: kvs, _, acc, acc', h, .cons (b := b) ⟨e, r⟩ q => by
    have := RepP.put h kv.1 r
    obtain ⟨k, v⟩ := kv
    obtain ⟨k', u⟩ := b
    cases e
    exact merge_rep (acc := putK acc k v) (acc' := L2.putK acc' k u) this q
theorem s_dictOf {a : Expr} {a' : E} {p pos : Pos} (hc : X.calm = true) (hg : Gl X "dict") (hm : X.mg "dict" = none) (ns : notStarred a = true) (ha : SE X rw C W a a') : SE X rw C W (.Call (.Name "dict" p) [a] [] pos) (.dictOf a') := by
  refine PE.wk (pe_callTy (T := "dict") (call_dictP hc) hg hm rfl (pa_cons ha pa_nil (noStar_of ns _ _)) (by decide) (by decide) (noStar_of ns _ _) (backTo_nil _ _)) fun σ H Q ⟨m, S, ρ, hS, hE, h⟩ => ?_
  simp only [ev] at h
  refine ⟨m, S, ρ, hS, hE, Out.bind h fun x S1 m1 H1 u x1 s1 r1 h1 => ?_⟩
  cases q : lstOf S1 x with
  | none => rw [q] at h1; exact h1.elim
  | some vs =>
    rw [q] at h1
    cases q2 : pairsK vs with
    | none => simp only [q2] at h1; exact h1.elim
    | some kvs =>
      simp only [q2] at h1
      obtain ⟨a, us, rfl, k1, k2⟩ := lstOf_rep s1 r1 q
      obtain ⟨ps, ws, rfl, h3, h4⟩ := pairsK_rep k2 q2
      refine ⟨a, ps, ws, rfl, SqL.of k1, h3, fun p hp => ?_⟩
      have mr := merge_rep (acc := []) (acc' := []) .nil h4
      refine h1.fin' (Ext.box hp) (s1.push hp ⟨_, .inl upd_same, RepP.ext (Ext.box (rw := rw) hp) mr⟩) (.loc ?_)
      exact m_len s1 p
end
end HI
set_option Elab.async false
set_option linter.all false
set_option maxRecDepth 100000
namespace HI
open PySem PySem.Spec PyProof.Rows L2
def notComp : Expr → Bool
  | .ListComp _ _ _ _ => false
  | .SetComp _ _ _ _ => false
  | .DictComp _ _ _ _ _ => false
  | _ => true
theorem noSwap {e : Expr} (h : notComp e = true) (t : Option Expr) (l : Nat) (env : PySem.Env) : swapsWith e t l env = pure false := by
  cases e <;> first | rfl | cases h
def notName : Expr → Bool
  | .Name _ _ => false
  | _ => true
theorem noSwapT {e t : Expr} (h : notName t = true) (l : Nat) (env : PySem.Env) : swapsWith e (some t) l env = pure false := by
  cases e <;> first | rfl | (cases t <;> first | rfl | cases h)
def notSet : Expr → Bool
  | .Set _ _ _ => false
  | _ => true
theorem noSetI {e : Expr} (h : notSet e = true) (env : PySem.Env) (x : Value) : foldedSetIterable e env x = pure x := by
  cases e <;> first | rfl | cases h
def notTup : Expr → Bool
  | .Tuple _ _ _ => false
  | .List _ _ => false
  | _ => true
theorem noStores {t e : Expr} (h : (notTup t || notTup e) = true) (env : PySem.Env) : swappedStores [t] e env = pure none := by
  cases t <;> first | rfl | (cases e <;> first | rfl | cases h)
theorem oneAssign {t : Expr} (h : notStarred t = true) (env : PySem.Env) : (assignEach [t] env).map (·.2) = [assign t env] := by
  cases t <;> first | (simp only [assignEach, List.map]; done) | cases h
theorem consAssign {t : Expr} (h : notStarred t = true) (es : List Expr) (env : PySem.Env) : assignEach (t :: es) env = (false, assign t env) :: assignEach es env := by
  cases t <;> first | (simp only [assignEach]; done) | cases h
theorem allAssign {env : PySem.Env} : ∀ {es : List Expr}, es.all notStarred = true → (assignEach es env).length = es.length ∧ (assignEach es env).findIdx? (·.1) = none
  | [], _ => by simp [assignEach]
  | t :: es, h => by
    simp only [List.all_cons, Bool.and_eq_true] at h
    obtain ⟨h1, h2⟩ := allAssign (env := env) h.2
    rw [consAssign h.1]
    refine ⟨by simp [h1], ?_⟩
    rw [List.findIdx?_cons]
    simp [h2]
def notSlice : Expr → Bool
  | .Slice _ _ _ _ => false
  | _ => true
theorem plainIx {b : Expr} (h : notSlice b = true) : PlainIx b := by
  intro o i
  cases b <;> first | rfl | cases h
theorem noSl {b : Expr} (h : notSlice b = true) : NoSl b := plainIx h
theorem plainAug {b : Expr} (h : notSlice b = true) (ov iv new : Value) : augStore b ov iv new = (do holding [new, ov, iv] (setItem ov iv new); release [new, ov, iv] []; pure .next) := by
  cases b <;> first | rfl | cases h
theorem plainSet {a b : Expr} {p : Pos} (h : notSlice b = true) (env : PySem.Env) (v : Value) : assign (.Subscript a b p) env v = (do
      let ov ← holding [v] (eval a env)
      let iv ← holding [v, ov] (eval b env)
      standAt p
      holding [v, ov, iv] (setItem ov iv v)
      release [v, ov, iv] []) := by
  cases b <;> first | (simp only [assign]; done) | cases h
def plainT : Expr → Bool
  | .UnaryOp .Not _ _ => false
  | .BoolOp _ _ _ => false
  | .IfExp _ _ _ _ => false
  | .Compare _ _ _ _ => false
  | _ => true
theorem plain_isTrue {a : Expr} (h : plainT a = true) (env : PySem.Env) (whole : Sem Value) : isTrue a env whole = (do let v ← whole; standAt a.pos; holding [v] (PySem.truthy v)) := by
  cases a
  case UnaryOp op x p => cases op <;> first | (simp only [PySem.isTrue]; done) | cases h
  all_goals first | (simp only [PySem.isTrue]; done) | cases h
theorem notMarks {e : Expr} (h : notSet e = true) (op : CmpOp) : behindInMarks op e = false := by
  cases e <;> first | rfl | cases h
theorem takesWF {X : Cx} : Takes X WF := fun u s' ⟨a, B, sI, pins, σ, H, cls, d, e, I, nb, up, sky, na, os, ag, w⟩ => w.elim
structure GI where
  fns : List Str := []
  mks : List Str := []
  mes : List (Str × Str) := []
  exs : List Str := []
  hns : List String := []
  isi : List Str := []
  free : List Str := []
  cis : List (Str × Int) := []
  css : List (Str × Str) := []
  flds : List Str := []
  tups : List (Str × List Str) := []
structure GOk (G : GI) (X : Cx) (rw : Bool) (C : CallT) (k : Nat) : Prop where
  call : ∀ x ∈ G.fns, ∃ f fd ps, FnOk X.prog X.w X.K X.mg X.base (L2.CX X.prog X.w) k f fd ps (spC X.K rw C x) ∧ X.mg x = some (.ref f) ∧ PySem.W.keepIn X.K (.ref f) = true ∧ Binds X.K fd ps []
  make : ∀ c ∈ G.mks, MakeOk X rw C k c
  meth : ∀ p ∈ G.mes, MethOk X rw C p.2 k p.1
  exc : ∀ c ∈ G.exs, ExcOk X c
  hnd : ∀ h ∈ G.hns, h ∈ EXC ∧ (He.Fa.glo (Str.ofString h)).ok X.K = true ∧ X.mg (Str.ofString h) = some (.ref (He.ga X.K (Str.ofString h)))
  isi : ∀ t ∈ G.isi, ∃ (u : Value) (w : V), ClsV w u ∧ IsiK X.K t u ∧ (∀ c, KCls X.K c → c = t → u = .ref (He.ga X.K t)) ∧ RelV w u ∧ (X.mg t = some u ∨ (X.mg t = none ∧ bootBuiltins t = some u ∧ t ≠ "__name__"))
  free : ∀ x ∈ G.free, X.mg x = none
  cis : ∀ p ∈ G.cis, ∃ t, X.mg p.1 = some (.int p.2 t)
  css : ∀ p ∈ G.css, ∃ t, X.mg p.1 = some (.str p.2 t)
  flds : ∀ f ∈ G.flds, NoF X.K f
  tups : ∀ p ∈ G.tups, X.mg p.1 = some (.ref (He.ga X.K p.1)) ∧ ∀ H, SqT X.K H (He.ga X.K p.1) (p.2.map V.str)
structure Cv where
  N : List Str
  sc : Scope
  room : Bool
  body : Bool
  fa : Bool
structure CR (G : GI) (rw : Bool) (C : CallT) (k : Nat) (cv : Cv) (X : Cx) (W : WX) : Prop where
  g : GOk G X rw C k
  N : X.N = cv.N
  nd : X.N.Nodup
  sc : X.env.scope = cv.sc
  fn : cv.fa = true → X.fn = fun _ => true
  room : cv.room = true → Room (k + 1) X.A ∧ X.calm = true
  hu : X.A.units + 66 < cLine
  tk : Takes X W
  bd : cv.body = true → PassesOwn (model X.prog X.w) X.A X.env X.xe ∧ X.stack = X.env :: X.outer ∧ X.env.frame = some X.env.locals
def glb (cv : Cv) (x : Str) : Bool := decide (cv.sc.names.lookup x = some .globalImplicit) && !(x == ("__debug__" : Str))
def free (G : GI) (cv : Cv) (x : Str) : Bool := glb cv x && (decide (x ∈ G.free) && !decide (x = "__name__"))
def vis (cv : Cv) (x : Str) : Bool := (match cv.sc.names.lookup x with
  | some .local => true
  | some .cell => true
  | some .free => true
  | _ => false) && (!(x == ("__debug__" : Str)) && !(x == ("__classdict__" : Str)))
def loc (cv : Cv) (x : Str) : Bool := match cv.sc.names.lookup x with
  | some .local => true
  | some .cell => cv.fa
  | _ => false
def slot (cv : Cv) (i : Nat) (x : Str) : Bool := decide (cv.N[i]? = some x)
section
variable {G : GI} {rw : Bool} {C : CallT} {k : Nat} {cv : Cv} {X : Cx} {W : WX}
theorem ba2 {a b : Bool} (h : (a && b) = true) : a = true ∧ b = true := Bool.and_eq_true_iff.mp h
theorem CR.glb (r : CR G rw C k cv X W) {x : Str} (h : glb cv x = true) : Gl X x ∧ (x == ("__debug__" : Str)) = false := by
  obtain ⟨h1, h2⟩ := ba2 h
  refine ⟨?_, by simpa using h2⟩
  show X.env.scope.names.lookup x = _
  rw [r.sc]; exact of_decide_eq_true h1
theorem CR.free (r : CR G rw C k cv X W) {x : Str} (h : free G cv x = true) : Gl X x ∧ (x == ("__debug__" : Str)) = false ∧ X.mg x = none ∧ x ≠ "__name__" := by
  obtain ⟨h1, h2⟩ := ba2 h
  obtain ⟨h2, h3⟩ := ba2 h2
  exact ⟨(r.glb h1).1, (r.glb h1).2, r.g.free x (of_decide_eq_true h2), by simpa using h3⟩
theorem CR.vis (r : CR G rw C k cv X W) {x : Str} (h : vis cv x = true) : Vis X.env.scope x ∧ (x == ("__debug__" : Str)) = false ∧ (x == ("__classdict__" : Str)) = false := by
  obtain ⟨h1, h2⟩ := ba2 h
  obtain ⟨h2, h3⟩ := ba2 h2
  refine ⟨?_, by simpa using h2, by simpa using h3⟩
  unfold Vis
  rw [r.sc]
  split at h1
  · rename_i e; exact .inl e
  · rename_i e; exact .inr (.inl e)
  · rename_i e; exact .inr (.inr e)
  · cases h1
theorem CR.loc (r : CR G rw C k cv X W) {x : Str} (h : loc cv x = true) : L2.Loc X.env.scope x ∧ (X.fn x = true ∨ X.env.scope.names.lookup x = some .local) := by
  unfold L2.Loc
  unfold HI.loc at h
  rw [r.sc]
  split at h
  · rename_i e; exact ⟨.inl e, .inr e⟩
  · rename_i e; exact ⟨.inr e, .inl (by rw [r.fn h])⟩
  · cases h
theorem CR.slot (r : CR G rw C k cv X W) {x : Str} {i : Nat} (h : slot cv i x = true) : X.N[i]? = some x := by
  rw [r.N]; exact of_decide_eq_true h
def Cv.blk (cv : Cv) (scope : Scope) : Cv := ⟨cv.N, relS scope cv.sc, true, false, false⟩
theorem GOk.same (g : GOk G X rw C k) {Y : Cx} (h1 : Y.prog = X.prog) (h2 : Y.w = X.w) (h3 : Y.K = X.K) (h4 : Y.mg = X.mg) (h5 : Y.base = X.base) : GOk G Y rw C k := by
  obtain ⟨c1, c2, c3, c4, c5, c6, c7, c8, c9, c10, c11⟩ := g
  refine ⟨?_, fun c hc => ?_, fun p hp => ?_, fun c hc => ?_, ?_, ?_, ?_, ?_, ?_, ?_, ?_⟩
  · rw [h1, h2, h3, h4, h5]; exact c1
  · obtain ⟨a, b, c, d⟩ := c2 c hc
    exact ⟨by rw [h3]; exact a, by rw [h3]; exact b, by rw [h3, h4]; exact c, by rw [h1, h2, h3, h4, h5]; exact d⟩
  · obtain ⟨a, b, c⟩ := c3 p hp
    exact ⟨by rw [h3]; exact a, by rw [h3]; exact b, by rw [h1, h2, h3, h4, h5]; exact c⟩
  · obtain ⟨a, b, c, d, e, f⟩ := c4 c hc
    exact ⟨by rw [h3]; exact a, by rw [h3, h4]; exact b, by rw [h3]; exact c, by rw [h3]; exact d, by rw [h3]; exact e, by rw [h3]; exact f⟩
  all_goals (first | rw [h3, h4] | rw [h3] | rw [h4]); assumption
theorem CR.blk (r : CR G rw C k cv X W) (hr : cv.room = true) {scope : Scope} (s : Shared) (H : Hp) (c : Addr) (cl : List (Str × Addr)) (fp : List Addr) : CR G rw C k (cv.blk scope) (X.blk s H scope (compEnvC scope cl c X.env) fp) WF :=
  ⟨r.g.same rfl rfl rfl rfl rfl, r.N, r.nd, by show relS scope X.env.scope = relS scope cv.sc; rw [r.sc], fun h => (by cases h), fun _ => r.room hr, r.hu, takesWF, fun h => (by cases h)⟩
def Cv.suite (cv : Cv) : Cv := ⟨cv.N, cv.sc, false, false, cv.fa⟩
theorem CR.suite (r : CR G rw C k cv X W) (a : Addr) (pn : List (Addr × PySem.Obj)) : CR G rw C k cv.suite (X.suite a pn) WF :=
  ⟨r.g.same rfl rfl rfl rfl rfl, r.N, r.nd, r.sc, r.fn, fun h => (by cases h), r.hu, takesWF, fun h => (by cases h)⟩
theorem CR.tr (r : CR G rw C k cv X W) {W' : WX} (hb : cv.body = true) (pn : List (Addr × PySem.Obj)) (xe : Value → Shared → Prop) (tk : Takes (X.tr pn xe) W') (po : PassesOwn (model X.prog X.w) X.A X.env xe) : CR G rw C k cv (X.tr pn xe) W' :=
  ⟨r.g.same rfl rfl rfl rfl rfl, r.N, r.nd, r.sc, r.fn, r.room, r.hu, tk, fun h => ⟨po, (r.bd h).2⟩⟩
end
end HI
set_option Elab.async false
set_option linter.all false
set_option maxRecDepth 100000
namespace HI
open PySem PySem.Spec PyProof.Rows L2
section
variable (G : GI) (cv : Cv)
def stepA (f : Expr → E → Bool) : List Expr → List E → Bool
  | [], [] => true
  | e :: es, e' :: es' => notStarred e && (f e e' && stepA f es es')
  | _, _ => false
def stepO (f : Expr → E → Bool) : Option Expr → Option E → Bool
  | none, none => true
  | some e, some e' => f e e'
  | _, _ => false
mutual
def chkG : Tg → Expr → Bool
  | .one i, e => (match e with
    | .Name x _ => slot cv i x && loc cv x
    | _ => false)
  | .tup ts, e => (match e with
    | .Tuple es _ _ => cv.room && chkGs ts es
    | _ => false)
def chkGs : List Tg → List Expr → Bool
  | [], es => (match es with
    | [] => true
    | _ => false)
  | t :: ts, es => (match es with
    | e :: es => notStarred e && (chkG t e && chkGs ts es)
    | [] => false)
end
def isTupE : Expr → Bool
  | .Tuple _ _ _ => true
  | _ => false
def stepI (f : Expr → E → Bool) (tg iter : Expr) : It → Bool
  | .seq a => f iter a
  | .range1 a => (match iter with
    | .Call (.Name x _) [e] [] _ => decide (x = "range") && (free G cv "range" && (notStarred e && f e a))
    | _ => false)
  | .range2 a b => (match iter with
    | .Call (.Name x _) [e, d] [] _ => decide (x = "range") && (free G cv "range" && (notStarred e && (notStarred d && (f e a && f d b))))
    | _ => false)
  | .enum a => (match iter with
    | .Call (.Name x _) [e] [] _ => decide (x = "enumerate") && (free G cv "enumerate" && (isTupE tg && (notStarred e && f e a)))
    | _ => false)
  | _ => false
def isC : U1 → CmpOp → Const → Bool
  | .isNone, .Is, .none => true
  | .notNone, .IsNot, .none => true
  | .isB b, .Is, .bool c => decide (b = c)
  | .notB b, .IsNot, .bool c => decide (b = c)
  | _, _, _ => false
def un1 : U1 → Str → Bool
  | .len, x => decide (x = "len")
  | .tuple, x => decide (x = "tuple")
  | .list, x => decide (x = "list")
  | .sum, x => decide (x = "sum") && cv.room
  | .str, x => decide (x = "str")
  | .int, x => decide (x = "int")
  | _, _ => false
def arO : B2 → Operator → Bool
  | .add, .Add => true
  | .sub, .Sub => true
  | .mul, .Mult => true
  | .fdiv, .FloorDiv => true
  | .mod, .Mod => true
  | .pow, .Pow => true
  | _, _ => false
def cmO : B2 → CmpOp → Bool
  | .eq, .Eq => true
  | .ne, .NotEq => true
  | .lt, .Lt => true
  | .le, .LtE => true
  | .gt, .Gt => true
  | .ge, .GtE => true
  | .isin, .In => true
  | .notin, .NotIn => true
  | _, _ => false
def litC (e : Expr) : Val → Bool
  | .non => (match e with | .Constant .none _ _ => true | _ => false)
  | .bool b => (match e with | .Constant (.bool c) _ _ => decide (b = c) | _ => false)
  | .int i => (match e with
    | .Constant (.int j) _ _ => decide (i = j)
    | .Name x _ => glb cv x && decide ((x, i) ∈ G.cis)
    | _ => false)
  | .str s => (match e with
    | .Constant (.str j) _ _ => decide (s = j)
    | .Name x _ => glb cv x && decide ((x, s) ∈ G.css)
    | _ => false)
  | _ => false
def ownS (tg : Tg) : List (Str × Nat) := (tgS tg).map fun i => (cv.N.getD i Str.empty, i)
def stepC (rE rT : Cv → Expr → E → Bool) (e : Expr) (tg : Tg) (it : It) (cond : Option E) (elt : E) : Bool := match e with
  | .ListComp el [⟨t, iter, ifs, a⟩] scope _ => decide (a = 0) && (cv.room && (notSet iter && (stepI G cv (rE cv) t iter it && (blkC cv.N cv.sc scope (ownS cv tg) && (chkG (cv.blk scope) tg t &&
      ((match ifs, cond with
        | [], none => true
        | [c], some c' => rT (cv.blk scope) c c'
        | _, _ => false) && rE (cv.blk scope) el elt))))))
  | _ => false
def stepE (rE rT : Cv → Expr → E → Bool) (e : Expr) (e' : E) : Bool := isBad e' || match e with
  | .BoolOp _ [a] _ => rE cv a e'
  | .BoolOp .And (a :: b :: rest) p => (match e' with
    | .and a' b' => rE cv a a' && rE cv (.BoolOp .And (b :: rest) p) b'
    | _ => false)
  | .BoolOp .Or (a :: b :: rest) p => (match e' with
    | .or a' b' => rE cv a a' && rE cv (.BoolOp .Or (b :: rest) p) b'
    | _ => false)
  | e => (match e' with
    | .var i => (match e with
      | .Name x _ => slot cv i x && vis cv x
      | _ => false)
    | .lit v => litC G cv e v
    | .un op a => (match e with
      | .Call (.Name x _) [a0] [] _ => un1 cv op x && (free G cv x && (notStarred a0 && rE cv a0 a))
      | .UnaryOp .USub a0 _ => decide (op = .neg) && rE cv a0 a
      | .Compare a0 [c] [.Constant k _ _] _ => isC op c k && rE cv a0 a
      | _ => false)
    | .bin op a b => (match e with
      | .BinOp a0 o b0 _ => arO op o && (rE cv a0 a && rE cv b0 b)
      | .Compare a0 [c] [b0] _ => cmO op c && (notSet b0 && (rE cv a0 a && rE cv b0 b))
      | .Subscript a0 b0 _ => decide (op = .item) && (notSlice b0 && (rE cv a0 a && rE cv b0 b))
      | _ => false)
    | .chain o1 o2 a b c => (match e with
      | .Compare a0 [c1, c2] [b0, d0] _ => cmO o1 c1 && (cmO o2 c2 && (notSet d0 && (rE cv a0 a && (rE cv b0 b && rE cv d0 c))))
      | _ => false)
    | .not a => (match e with
      | .UnaryOp .Not a0 _ => rE cv a0 a
      | _ => false)
    | .ite c a b => (match e with
      | .IfExp c0 a0 b0 _ => rT cv c0 c && (rE cv a0 a && rE cv b0 b)
      | _ => false)
    | .tup es => (match e with
      | .Tuple l _ _ => decide (es.length ≤ 1000) && stepA (rE cv) l es
      | _ => false)
    | .lst es => (match e with
      | .List l _ => decide (es.length ≤ 1000) && stepA (rE cv) l es
      | _ => false)
    | .box es => (match e with
      | .List l _ => decide (es.length ≤ 1000) && stepA (rE cv) l es
      | _ => false)
    | .slice a lo hi => (match e with
      | .Subscript a0 (.Slice l0 h0 none _) _ => rE cv a0 a && (stepO (rE cv) l0 lo && stepO (rE cv) h0 hi)
      | _ => false)
    | .comp tg it cond elt => stepC G cv rE rT e tg it cond elt
    | .boxc tg it cond elt => stepC G cv rE rT e tg it cond elt
    | .call f es => (match e with
      | .Call (.Name x _) (a :: l) [] _ => decide (x = f) && (decide (x ∈ G.fns) && (glb cv x && (cv.room && stepA (rE cv) (a :: l) es)))
      | _ => false)
    | .meth a c m es => (match e with
      | .Call (.Attribute o m0 ap) l [] cp => decide (m0 = m) && (decide ((c, m0) ∈ G.mes) && (notCall0 o && (decide (l.length < 30) && ((ap.endLine == cp.line) && (cv.room && (rE cv o a && stepA (rE cv) l es))))))
      | _ => false)
    | .make c es => (match e with
      | .Call (.Name x _) (a :: l) [] _ => decide (x = c) && (decide (x ∈ G.mks) && (glb cv x && (cv.room && stepA (rE cv) (a :: l) es)))
      | _ => false)
    | .fld a f => (match e with
      | .Attribute a0 f0 _ => decide (f0 = f) && (decide (f0 ∈ G.flds) && (notCall0 a0 && rE cv a0 a))
      | _ => false)
    | .isI a t => (match e with
      | .Call (.Name x _) [a0, .Name t0 _] [] _ => decide (x = "isinstance") && (decide (t0 = t) && (free G cv "isinstance" && (glb cv t0 && (decide (t0 ∈ G.isi) && (notStarred a0 && rE cv a0 a)))))
      | _ => false)
    | .boxa a b => (match e with
      | .BinOp a0 .Add b0 _ => rE cv a0 a && rE cv b0 b
      | _ => false)
    | .dictOf a => (match e with
      | .Call (.Name x _) [a0] [] _ => decide (x = "dict") && (free G cv "dict" && (cv.room && (notStarred a0 && rE cv a0 a)))
      | _ => false)
    | .newK => (match e with
      | .Dict [] [] _ => true
      | _ => false)
    | .newT => (match e with
      | .Dict [] [] _ => true
      | _ => false)
    | _ => false)
def stepT (rE rT rW : Cv → Expr → E → Bool) (e : Expr) (e' : E) : Bool := isBad e' || match e with
  | .BoolOp _ _ _ => rW cv e e'
  | .UnaryOp .Not a0 _ => (match e' with
    | .not a => rT cv a0 a
    | _ => false)
  | .Compare a0 [c] [b0] _ => (match e' with
    | .bin op a b => cmO op c && (notSet b0 && (rE cv a0 a && rE cv b0 b))
    | .un op a => (match b0 with
      | .Constant k _ _ => isC op c k && rE cv a0 a
      | _ => false)
    | _ => false)
  | .Compare a0 [c1, c2] [b0, d0] _ => (match e' with
    | .chain o1 o2 a b c => cmO o1 c1 && (cmO o2 c2 && (notSet d0 && (rE cv a0 a && (rE cv b0 b && rE cv d0 c))))
    | _ => false)
  | _ => plainT e && (plainTest e' && rE cv e e')
def stepW (rT rW : Cv → Expr → E → Bool) (e : Expr) (e' : E) : Bool := match e with
  | .BoolOp .And [a] _ => rT cv a e'
  | .BoolOp .Or [a] _ => rT cv a e'
  | .BoolOp .And (a :: b :: rest) p => (match e' with
    | .and a' b' => rT cv a a' && rW cv (.BoolOp .And (b :: rest) p) b'
    | _ => false)
  | .BoolOp .Or (a :: b :: rest) p => (match e' with
    | .or a' b' => rT cv a a' && rW cv (.BoolOp .Or (b :: rest) p) b'
    | _ => false)
  | _ => false
end
inductive Md where
  | e | t | w
def chk (G : GI) : Nat → Md → Cv → Expr → E → Bool
  | 0, _, _, _, _ => false
  | n + 1, .e, cv, e, e' => stepE G cv (chk G n .e) (chk G n .t) e e'
  | n + 1, .t, cv, e, e' => stepT cv (chk G n .e) (chk G n .t) (chk G n .w) e e'
  | n + 1, .w, cv, e, e' => stepW cv (chk G n .t) (chk G n .w) e e'
section
variable {G : GI} {rw : Bool} {C : CallT} {k : Nat} {cv : Cv} {X : Cx} {W : WX}
def OkE (G : GI) (rw : Bool) (C : CallT) (k : Nat) (f : Cv → Expr → E → Bool) : Prop := ∀ cv X W, CR G rw C k cv X W → ∀ e e', f cv e e' = true → SE X rw C W e e'
def OkT (G : GI) (rw : Bool) (C : CallT) (k : Nat) (f : Cv → Expr → E → Bool) : Prop := ∀ cv X W, CR G rw C k cv X W → ∀ e e', f cv e e' = true → ST X rw C W e e'
def OkW (G : GI) (rw : Bool) (C : CallT) (k : Nat) (f : Cv → Expr → E → Bool) : Prop := ∀ cv X W, CR G rw C k cv X W → ∀ e e', f cv e e' = true → SW X rw C W e e'
variable {rE rT rW : Cv → Expr → E → Bool}
theorem stepA_ok (hE : OkE G rw C k rE) (r : CR G rw C k cv X W) : ∀ {es : List Expr} {es' : List E}, stepA (rE cv) es es' = true → SA X rw C W es es' ∧ es.all notStarred = true ∧ es.length = es'.length
  | [], [], _ => ⟨a_nil, rfl, rfl⟩
  | [], _ :: _, h => by simp [stepA] at h
  | _ :: _, [], h => by simp [stepA] at h
  | e :: es, e' :: es', h => by
    simp only [stepA, Bool.and_eq_true] at h
    obtain ⟨h1, h2, h3⟩ := h
    obtain ⟨a, b, c⟩ := stepA_ok hE r h3
    exact ⟨a_cons h1 (hE cv X W r _ _ h2) a, by simp [h1, b], by simp [c]⟩
theorem stepO_ok (hE : OkE G rw C k rE) (r : CR G rw C k cv X W) : ∀ {e : Option Expr} {e' : Option E}, stepO (rE cv) e e' = true → PO X e (rdP X.K rw C W e')
  | none, none, _ => o_none
  | some e, some e', h => o_some (hE cv X W r _ _ h)
  | none, some _, h => by simp [stepO] at h
  | some _, none, h => by simp [stepO] at h
mutual
theorem chkG_ok (r : CR G rw C k cv X W) : ∀ {t : Tg} {e : Expr}, chkG cv t e = true → PG X e (rdG X.K rw t)
  | .one i, e, h => by
    simp only [chkG] at h
    split at h
    · obtain ⟨h1, h2⟩ := ba2 h
      exact g_one r.nd (r.slot h1) (r.loc h2).1 (r.loc h2).2
    · cases h
  | .tup ts, e, h => by
    simp only [chkG] at h
    split at h
    · obtain ⟨h1, h2⟩ := ba2 h
      obtain ⟨a, b, c⟩ := chkGs_ok r h2
      exact g_tup (r.room h1).2 a ((allAssign b).1.trans c) (allAssign b).2
    · cases h
theorem chkGs_ok (r : CR G rw C k cv X W) : ∀ {t : List Tg} {e : List Expr}, chkGs cv t e = true → PGs X e (rdGs X.K rw t) ∧ e.all notStarred = true ∧ e.length = t.length
  | [], e, h => by
    simp only [chkGs] at h
    split at h
    · exact ⟨gs_nil, rfl, rfl⟩
    · cases h
  | t :: ts, e, h => by
    simp only [chkGs] at h
    split at h
    · simp only [Bool.and_eq_true] at h
      obtain ⟨h1, h2, h3⟩ := h
      obtain ⟨a, b, c⟩ := chkGs_ok r h3
      exact ⟨gs_cons (chkG_ok r h2) a (by rw [consAssign h1]; rfl), by simp [h1, b], by simp [c]⟩
    · cases h
end
theorem stepI_ok (hE : OkE G rw C k rE) (r : CR G rw C k cv X W) {iter tg : Expr} {it : It} (h : stepI G cv (rE cv) tg iter it = true) : SI X rw C W tg iter it := by
  cases it with
  | seq a => exact i_seq (hE cv X W r _ _ h)
  | range1 a =>
    simp only [stepI] at h
    split at h
    · simp only [Bool.and_eq_true, decide_eq_true_eq] at h
      obtain ⟨rfl, h1, h2, h3⟩ := h
      obtain ⟨g1, g2, g3, g4⟩ := r.free h1
      exact i_range1 g1 g3 h2 (hE cv X W r _ _ h3)
    · cases h
  | range2 a b =>
    simp only [stepI] at h
    split at h
    · simp only [Bool.and_eq_true, decide_eq_true_eq] at h
      obtain ⟨rfl, h1, h2, h2', h3, h4⟩ := h
      obtain ⟨g1, g2, g3, g4⟩ := r.free h1
      exact i_range2 g1 g3 h2 h2' (hE cv X W r _ _ h3) (hE cv X W r _ _ h4)
    · cases h
  | enum a =>
    simp only [stepI] at h
    split at h
    · simp only [Bool.and_eq_true, decide_eq_true_eq] at h
      obtain ⟨rfl, h1, h2, h3, h4⟩ := h
      obtain ⟨g1, g2, g3, g4⟩ := r.free h1
      cases tg <;> try cases h2
      exact i_enum g1 g3 h3 (hE cv X W r _ _ h4)
    · cases h
  | zip a b => cases h
  | values a => cases h
  | keys a => cases h
theorem cmO_ok (r : CR G rw C k cv X W) {o : B2} {c : CmpOp} (h : cmO o c = true) : CmpOk X rw W c o ∧ cmpB o = true := by
  have hu := r.hu
  cases o <;> cases c <;> first | (exfalso; exact Bool.noConfusion h) | exact ⟨by first | exact c_lt | exact c_le | exact c_gt | exact c_ge | exact c_eq (by omega) | exact c_ne (by omega) | exact c_in (by omega) | exact c_notin (by omega), rfl⟩
theorem litC_ok (r : CR G rw C k cv X W) {e : Expr} {v : Val} (h : litC G cv e v = true) : SE X rw C W e (.lit v) := by
  cases v with
  | non =>
    simp only [litC] at h
    split at h
    · exact s_lit pe_non fun _ _ => .non
    · cases h
  | bool b =>
    simp only [litC] at h
    split at h
    · cases of_decide_eq_true h; exact s_lit pe_bl fun _ _ => .bool _
    · cases h
  | int i =>
    simp only [litC] at h
    split at h
    · cases of_decide_eq_true h; exact s_lit pe_int fun _ _ => .int _
    · obtain ⟨h1, h2⟩ := ba2 h
      obtain ⟨t, ht⟩ := r.g.cis _ (of_decide_eq_true h2)
      exact s_lit (pe_glob (v := .int i) (r.glb h1).1 ht ⟨_, rfl⟩ (r.glb h1).2) fun _ _ => .int _
    · cases h
  | str s =>
    simp only [litC] at h
    split at h
    · cases of_decide_eq_true h; exact s_lit pe_str fun _ _ => .str _
    · obtain ⟨h1, h2⟩ := ba2 h
      obtain ⟨t, ht⟩ := r.g.css _ (of_decide_eq_true h2)
      exact s_lit (pe_glob (v := .str s) (r.glb h1).1 ht ⟨_, rfl⟩ (r.glb h1).2) fun _ _ => .str _
    · cases h
  | tup _ => cases h
  | lst _ => cases h
  | scr _ => cases h
  | loc _ => cases h
theorem isC_ok (r : CR G rw C k cv X W) {op : U1} {c : CmpOp} {kk : Const} {j : Nat} {p pos : Pos} {a0 : Expr} {a : E} (h : isC op c kk = true) (ha : SE X rw C W a0 a) : SE X rw C W (.Compare a0 [c] [.Constant kk j p] pos) (.un op a) ∧ ST X rw C W (.Compare a0 [c] [.Constant kk j p] pos) (.un op a) := by
  unfold isC at h
  split at h
  · exact ⟨s_isNone ha, t_isNone ha⟩
  · exact ⟨s_notNone ha, t_notNone ha⟩
  · cases of_decide_eq_true h; exact ⟨s_isB ha, t_isB ha⟩
  · cases of_decide_eq_true h; exact ⟨s_notB ha, t_notB ha⟩
  · cases h
theorem un1_ok (r : CR G rw C k cv X W) {op : U1} {x : Str} {a0 : Expr} {a : E} {p pos : Pos} (h : un1 cv op x = true) (hf : HI.free G cv x = true) (ns : notStarred a0 = true) (ha : SE X rw C W a0 a) : SE X rw C W (.Call (.Name x p) [a0] [] pos) (.un op a) := by
  obtain ⟨g1, g2, g3, g4⟩ := r.free hf
  cases op <;> simp only [un1, Bool.and_eq_true, decide_eq_true_eq, Bool.false_eq_true] at h
  · subst h; exact s_un1 call_len g1 g3 rfl ns ha (fun m H S x u Q σ hS rx hh => k_len hS rx hh) g4 g2
  · subst h; exact s_unT call_tuple_of g1 g3 rfl ns ha (fun m H S x u Q σ hS rx hh => k_tuple hS rx hh) g4 g2
  · subst h; exact s_unT call_list_of g1 g3 rfl ns ha (fun m H S x u Q σ hS rx hh => k_list hS rx hh) g4 g2
  · obtain ⟨rfl, h⟩ := h; exact s_un1 (cr_sum (r.room h).2) g1 g3 rfl ns ha (fun m H S x u Q σ hS rx hh => k_sum hS rx hh) g4 g2
  · subst h; exact s_unT (call_str_int.or SkE.call_str_str) g1 g3 rfl ns ha (fun m H S x u Q σ hS rx hh => k_str hS rx hh) g4 g2
  · subst h; exact s_unT (call_int1.or call_int_str) g1 g3 rfl ns ha (fun m H S x u Q σ hS rx hh => k_int hS rx hh) g4 g2
theorem own_ix {tg : Tg} : (ownS cv tg).map (·.2) = tgS tg := by
  unfold ownS
  rw [List.map_map]
  exact List.map_id _
theorem stepC_ok (hE : OkE G rw C k rE) (hT : OkT G rw C k rT) (r : CR G rw C k cv X W) {e : Expr} {tg : Tg} {it : It} {cond : Option E} {elt : E} (h : stepC G cv rE rT e tg it cond elt = true) :
    ∃ el t iter ifs scope pos, e = .ListComp el [⟨t, iter, ifs, 0⟩] scope pos ∧ X.calm = true ∧ (∀ x, foldedSetIterable iter X.env x = pure x) ∧ SI X rw C W t iter it ∧ BlkOk X.N X.env.scope scope (ownS cv tg) ∧
      (∀ (s : Shared) (H : Hp) (c : Addr) (cl : List (Str × Addr)) (fp : List Addr), PG (X.blk s H scope (compEnvC scope cl c X.env) fp) t (rdG X.K rw tg)) ∧
      (∀ (s : Shared) (H : Hp) (c : Addr) (cl : List (Str × Addr)) (fp : List Addr), PTs (X.blk s H scope (compEnvC scope cl c X.env) fp) ifs (rdC X.K rw C cond)) ∧
      (∀ (s : Shared) (H : Hp) (c : Addr) (cl : List (Str × Addr)) (fp : List Addr), PE (X.blk s H scope (compEnvC scope cl c X.env) fp) el (rdE X.K rw C WF elt)) := by
  unfold stepC at h
  split at h
  · rename_i el t iter ifs a scope pos
    simp only [Bool.and_eq_true, decide_eq_true_eq] at h
    obtain ⟨rfl, h1, h2, h3, h4, h5, h6, h7⟩ := h
    refine ⟨el, t, iter, ifs, scope, pos, rfl, (r.room h1).2, noSetI h2 _, stepI_ok hE r h3, by rw [r.N, r.sc]; exact blkOk_by h4, fun s H c cl fp => chkG_ok (r.blk h1 s H c cl fp) h5, fun s H c cl fp => ?_, fun s H c cl fp => hE _ _ _ (r.blk h1 s H c cl fp) _ _ h7⟩
    split at h6
    · exact tc_nil (X := X.blk s H scope (compEnvC scope cl c X.env) fp)
    · exact tc_one (X := X.blk s H scope (compEnvC scope cl c X.env) fp) (hT _ _ _ (r.blk h1 s H c cl fp) _ _ h6)
    · cases h6
  · cases h
theorem stepE_ok (hE : OkE G rw C k rE) (hT : OkT G rw C k rT) (r : CR G rw C k cv X W) {e : Expr} {e' : E} (h : stepE G cv rE rT e e' = true) : SE X rw C W e e' := by
  have hu := r.hu
  unfold stepE at h
  rw [Bool.or_eq_true] at h
  rcases h with h | h
  · exact s_bad h
  split at h
  · exact s_one (hE cv X W r _ _ h)
  · split at h
    · obtain ⟨h1, h2⟩ := ba2 h; exact s_and (hE cv X W r _ _ h1) (hE cv X W r _ _ h2)
    · cases h
  · split at h
    · obtain ⟨h1, h2⟩ := ba2 h; exact s_or (hE cv X W r _ _ h1) (hE cv X W r _ _ h2)
    · cases h
  · cases e' with
    | var i =>
      simp only at h
      split at h
      · obtain ⟨h1, h2⟩ := ba2 h
        obtain ⟨g1, g2, g3⟩ := r.vis h2
        exact s_var (r.slot h1) g1 g2 g3
      · cases h
    | lit v => exact litC_ok r h
    | un op a =>
      simp only at h
      split at h
      · simp only [Bool.and_eq_true] at h
        obtain ⟨h1, h2, h3, h4⟩ := h
        exact un1_ok r h1 h2 h3 (hE cv X W r _ _ h4)
      · simp only [Bool.and_eq_true, decide_eq_true_eq] at h
        obtain ⟨rfl, h2⟩ := h
        exact s_neg (hE cv X W r _ _ h2)
      · obtain ⟨h1, h2⟩ := ba2 h
        exact (isC_ok r h1 (hE cv X W r _ _ h2)).1
      · cases h
    | bin op a b =>
      simp only at h
      split at h
      · simp only [Bool.and_eq_true] at h
        obtain ⟨h1, h2, h3⟩ := h
        have ha := hE cv X W r _ _ h2
        have hb := hE cv X W r _ _ h3
        unfold arO at h1
        split at h1
        · exact s_add ha hb
        · exact s_sub ha hb
        · exact s_mul ha hb
        · exact s_fdiv ha hb
        · exact s_mod ha hb
        · exact s_pow ha hb
        · cases h1
      · simp only [Bool.and_eq_true] at h
        obtain ⟨h1, h2, h3, h4⟩ := h
        exact s_cmp (cmO_ok r h1).1 (notMarks h2 _) (hE cv X W r _ _ h3) (hE cv X W r _ _ h4)
      · simp only [Bool.and_eq_true, decide_eq_true_eq] at h
        obtain ⟨rfl, h2, h3, h4⟩ := h
        exact s_item (by omega) (plainIx h2) (noSl h2) (hE cv X W r _ _ h3) (hE cv X W r _ _ h4)
      · cases h
    | chain o1 o2 a b c =>
      simp only at h
      split at h
      · simp only [Bool.and_eq_true] at h
        obtain ⟨h1, h2, h3, h4, h5, h6⟩ := h
        exact s_chain' (cmO_ok r h1).1 (cmO_ok r h2).1 (cmO_ok r h1).2 (notMarks h3 _) (hE cv X W r _ _ h4) (hE cv X W r _ _ h5) (hE cv X W r _ _ h6)
      · cases h
    | not a =>
      simp only at h
      split at h
      · exact s_not (hE cv X W r _ _ h)
      · cases h
    | ite c a b =>
      simp only at h
      split at h
      · simp only [Bool.and_eq_true] at h
        obtain ⟨h1, h2, h3⟩ := h
        exact s_ite (hT cv X W r _ _ h1) (hE cv X W r _ _ h2) (hE cv X W r _ _ h3)
      · cases h
    | tup es =>
      simp only at h
      split at h
      · obtain ⟨h1, h2⟩ := ba2 h
        exact s_tup (of_decide_eq_true h1) (stepA_ok hE r h2).1
      · cases h
    | lst es =>
      simp only at h
      split at h
      · obtain ⟨h1, h2⟩ := ba2 h
        exact s_lst (of_decide_eq_true h1) (stepA_ok hE r h2).1
      · cases h
    | box es =>
      simp only at h
      split at h
      · obtain ⟨h1, h2⟩ := ba2 h
        exact s_box (of_decide_eq_true h1) (stepA_ok hE r h2).1
      · cases h
    | slice a lo hi =>
      simp only at h
      split at h
      · simp only [Bool.and_eq_true] at h
        obtain ⟨h1, h2, h3⟩ := h
        exact s_slice (hE cv X W r _ _ h1) (stepO_ok hE r h2) (stepO_ok hE r h3)
      · cases h
    | comp tg it cond elt =>
      obtain ⟨el, t, iter, ifs, scope, pos, rfl, c1, c2, c3, c4, c5, c6, c7⟩ := stepC_ok hE hT r h
      exact s_comp c1 r.nd c3 c4 c5 c6 c7 (by rw [own_ix]; exact fun _ z => z) (by rw [own_ix]; exact fun _ z => z) c2
    | boxc tg it cond elt =>
      obtain ⟨el, t, iter, ifs, scope, pos, rfl, c1, c2, c3, c4, c5, c6, c7⟩ := stepC_ok hE hT r h
      exact s_boxc c1 r.nd c3 c4 c5 c6 c7 (by rw [own_ix]; exact fun _ z => z) (by rw [own_ix]; exact fun _ z => z) c2
    | call f es =>
      simp only at h
      split at h
      · simp only [Bool.and_eq_true, decide_eq_true_eq] at h
        obtain ⟨rfl, h1, h2, h3, h4⟩ := h
        obtain ⟨f, fd, ps, F, hm, hk, hb⟩ := r.g.call _ h1
        obtain ⟨a1, a2, a3⟩ := stepA_ok hE r h4
        exact s_call F ((r.room h3).1.mono (Nat.le_succ _)) (r.glb h2).1 hm hk hb r.tk a2 a1 (r.glb h2).2
      · cases h
    | meth a c m es =>
      simp only at h
      split at h
      · simp only [Bool.and_eq_true, decide_eq_true_eq] at h
        obtain ⟨rfl, h1, h2, h3, h4, h5, h6, h7⟩ := h
        obtain ⟨a1, a2, a3⟩ := stepA_ok hE r h7
        exact s_meth h2 a2 h3 h4 ((r.room h5).1.mono (Nat.le_succ _)) r.tk (r.g.meth _ h1) (hE cv X W r _ _ h6) a1 a3
      · cases h
    | make c es =>
      simp only at h
      split at h
      · simp only [Bool.and_eq_true, decide_eq_true_eq] at h
        obtain ⟨rfl, h1, h2, h3, h4⟩ := h
        obtain ⟨a1, a2, a3⟩ := stepA_ok hE r h4
        exact s_make a2 (r.room h3).1 r.tk (r.g.make _ h1) (r.glb h2).1 (r.glb h2).2 a1
      · cases h
    | fld a f =>
      simp only at h
      split at h
      · simp only [Bool.and_eq_true, decide_eq_true_eq] at h
        obtain ⟨rfl, h1, h2, h3⟩ := h
        exact s_fld (noSuper_of h2 _ _) (r.g.flds _ h1) (hE cv X W r _ _ h3)
      · cases h
    | isI a t =>
      simp only at h
      split at h
      · simp only [Bool.and_eq_true, decide_eq_true_eq] at h
        obtain ⟨rfl, rfl, h1, h2, h3, h4, h5⟩ := h
        obtain ⟨u, w, c1, c2, c3, c4, c5⟩ := r.g.isi _ h3
        obtain ⟨g1, g2, g3, g4⟩ := r.free h1
        refine s_isI g1 g3 h4 rfl (hE cv X W r _ _ h5) ?_ c1 c2 c3 rfl
        rcases c5 with c5 | ⟨c5, c6, c7⟩
        · exact pe_glob (r.glb h2).1 c5 c4 (r.glb h2).2
        · exact pe_bltn (r.glb h2).1 c5 c6 c4 c7 (r.glb h2).2
      · cases h
    | boxa a b =>
      simp only at h
      split at h
      · obtain ⟨h1, h2⟩ := ba2 h
        exact s_boxa (hE cv X W r _ _ h1) (hE cv X W r _ _ h2)
      · cases h
    | dictOf a =>
      simp only at h
      split at h
      · simp only [Bool.and_eq_true, decide_eq_true_eq] at h
        obtain ⟨rfl, h1, h2, h3, h4⟩ := h
        obtain ⟨g1, g2, g3, g4⟩ := r.free h1
        exact s_dictOf (r.room h2).2 g1 g3 h3 (hE cv X W r _ _ h4)
      · cases h
    | newK =>
      simp only at h
      split at h
      · exact s_newK
      · cases h
    | newT =>
      simp only at h
      split at h
      · exact s_newT
      · cases h
    | _ => simp at h
theorem stepT_ok (hE : OkE G rw C k rE) (hT : OkT G rw C k rT) (hW : OkW G rw C k rW) (r : CR G rw C k cv X W) {e : Expr} {e' : E} (h : stepT cv rE rT rW e e' = true) : ST X rw C W e e' := by
  unfold stepT at h
  rw [Bool.or_eq_true] at h
  rcases h with h | h
  · exact t_bad h
  split at h
  · exact PW.pt (hW cv X W r _ _ h)
  · split at h
    · exact t_not (hT cv X W r _ _ h)
    · cases h
  · split at h
    · simp only [Bool.and_eq_true] at h
      obtain ⟨h1, h2, h3, h4⟩ := h
      exact t_cmp (cmO_ok r h1).1 (cmO_ok r h1).2 (notMarks h2 _) (hE cv X W r _ _ h3) (hE cv X W r _ _ h4)
    · split at h
      · obtain ⟨h1, h2⟩ := ba2 h
        exact (isC_ok r h1 (hE cv X W r _ _ h2)).2
      · cases h
    · cases h
  · split at h
    · simp only [Bool.and_eq_true] at h
      obtain ⟨h1, h2, h3, h4, h5, h6⟩ := h
      exact t_chain (cmO_ok r h1).1 (cmO_ok r h2).1 (cmO_ok r h1).2 (cmO_ok r h2).2 (notMarks h3 _) (hE cv X W r _ _ h4) (hE cv X W r _ _ h5) (hE cv X W r _ _ h6)
    · cases h
  · simp only [Bool.and_eq_true] at h
    obtain ⟨h1, h2, h3⟩ := h
    exact t_val h2 (fun w => plain_isTrue h1 _ w) (hE cv X W r _ _ h3)
theorem stepW_ok (hT : OkT G rw C k rT) (hW : OkW G rw C k rW) (r : CR G rw C k cv X W) {e : Expr} {e' : E} (h : stepW cv rT rW e e' = true) : SW X rw C W e e' := by
  unfold stepW at h
  split at h
  · exact w_and1 (hT cv X W r _ _ h)
  · exact w_or1 (hT cv X W r _ _ h)
  · split at h
    · obtain ⟨h1, h2⟩ := ba2 h; exact w_and (hT cv X W r _ _ h1) (hW cv X W r _ _ h2)
    · cases h
  · split at h
    · obtain ⟨h1, h2⟩ := ba2 h; exact w_or (hT cv X W r _ _ h1) (hW cv X W r _ _ h2)
    · cases h
  · cases h
theorem chk_ok : ∀ n, OkE G rw C k (chk G n .e) ∧ OkT G rw C k (chk G n .t) ∧ OkW G rw C k (chk G n .w)
  | 0 => ⟨fun _ _ _ _ _ _ h => by simp [chk] at h, fun _ _ _ _ _ _ h => by simp [chk] at h, fun _ _ _ _ _ _ h => by simp [chk] at h⟩
  | n + 1 => by
    obtain ⟨h1, h2, h3⟩ := chk_ok n
    exact ⟨fun cv X W r e e' h => stepE_ok h1 h2 r h, fun cv X W r e e' h => stepT_ok h1 h2 h3 r h, fun cv X W r e e' h => stepW_ok h2 h3 r h⟩
end
end HI
set_option Elab.async false
set_option linter.all false
set_option maxRecDepth 100000
namespace HI
open PySem PySem.Spec PyProof.Rows L2
def swapB (cv : Cv) (e : Expr) (y : Str) (py : Pos) : Bool := match e with
  | .ListComp _ _ scope _ => ((if cv.sc.kind.isAnnotationScope then ScopeKind.function else cv.sc.kind) == .function && cv.sc.names.lookup y == some .local && py.line == e.pos.line
      && !(scope.names.any fun (n, k) => n == y && (k == .local || k == .cell)))
  | _ => false
section
variable (G : GI) (rw : Bool) (cv : Cv)
def agO : B2 → Operator → Bool
  | .add, .Add => true
  | .sub, .Sub => true
  | _, _ => false
def intE : Expr → Int → Bool
  | .Constant (.int j) _ _, i => decide (j = i)
  | _, _ => false
def stepB (f : Stmt → S → Bool) : List Stmt → List S → Bool
  | [], [] => true
  | s :: ss, t :: ts => f s t && stepB f ss ts
  | _, _ => false
def stepH (f : List Stmt → List S → Bool) : List ExceptHandler → List Str → List (List S) → Bool
  | [], [], [] => true
  | .ExceptHandler (some (.Name x _)) none (b0 :: b) _ :: hs, c :: cs, s :: ss => decide (c = x) && (G.hns.any (fun h => decide (x = Str.ofString h)) && (glb cv x && (f (b0 :: b) s && stepH f hs cs ss)))
  | _, _, _ => false
def stepSet (rE rT : Cv → Expr → E → Bool) (t e0 : Expr) (tg : Tg) (e : E) : Bool := match e0 with
  | .ListComp _ _ _ _ => (match tg, t, e with
    | .one i, .Name y py, .comp tg' it cond elt => slot cv i y && (if swapB cv e0 y py then stepC G cv rE rT e0 tg' it cond elt else chkG cv tg t && rE cv e0 e)
    | .one i, .Name y py, .boxc tg' it cond elt => slot cv i y && (if swapB cv e0 y py then stepC G cv rE rT e0 tg' it cond elt else chkG cv tg t && rE cv e0 e)
    | _, _, _ => false)
  | _ => notComp e0 && ((notTup t || notTup e0) && (notStarred t && (chkG cv tg t && rE cv e0 e)))
def stepS (rE rT : Cv → Expr → E → Bool) (rB : Cv → List Stmt → List S → Bool) (st : Stmt) (s : S) : Bool := isBadS s || match s with
  | .pass => (match st with
    | .Pass _ => true
    | _ => false)
  | .brk => (match st with
    | .Break _ => true
    | _ => false)
  | .expr e => (match st with
    | .Expr e0 _ => notComp e0 && rE cv e0 e
    | _ => false)
  | .set tg e => (match st with
    | .Assign [t] e0 _ => stepSet G cv rE rT t e0 tg e
    | _ => false)
  | .setF a f e => (match st with
    | .Assign [.Attribute a0 f0 _] e0 _ => rw && (decide (f0 = f) && (decide (f0 ∈ G.flds) && (rE cv a0 a && rE cv e0 e)))
    | _ => false)
  | .setI a k e => (match st with
    | .Assign [.Subscript a0 k0 _] e0 _ => rw && (notSlice k0 && (rE cv a0 a && (rE cv k0 k && rE cv e0 e)))
    | _ => false)
  | .augV i op e => (match st with
    | .AugAssign (.Name x _) o e0 _ => agO op o && (slot cv i x && (loc cv x && rE cv e0 e))
    | _ => false)
  | .augF a f op i => (match st with
    | .AugAssign (.Attribute a0 f0 _) o e0 _ => rw && (agO op o && (decide (f0 = f) && (decide (f0 ∈ G.flds) && (rE cv a0 a && intE e0 i))))
    | _ => false)
  | .augI a k op e => (match st with
    | .AugAssign (.Subscript a0 k0 _) o e0 _ => rw && (agO op o && (notSlice k0 && (rE cv a0 a && (rE cv k0 k && rE cv e0 e))))
    | _ => false)
  | .append a e => (match st with
    | .Expr (.Call (.Attribute a0 m ap) [e0] [] cp) _ => rw && (decide (m = "append") && (notCall0 a0 && (notStarred e0 && ((ap.endLine == cp.line) && (rE cv a0 a && rE cv e0 e)))))
    | _ => false)
  | .extend a e => (match st with
    | .Expr (.Call (.Attribute a0 m ap) [e0] [] cp) _ => rw && (decide (m = "extend") && (notCall0 a0 && (notStarred e0 && ((ap.endLine == cp.line) && (rE cv a0 a && rE cv e0 e)))))
    | _ => false)
  | .ret e => (match st with
    | .Return (some e0) _ => rE cv e0 e
    | _ => false)
  | .retN => (match st with
    | .Return none _ => true
    | _ => false)
  | .ifS c a b => (match st with
    | .If c0 a0 b0 _ => rT cv c0 c && (rB cv a0 a && rB cv b0 b)
    | _ => false)
  | .forS tg it b => (match st with
    | .For t iter b0 [] _ => cv.body && (cv.room && (notSet iter && (stepI G cv (rE cv) t iter it && (chkG cv tg t && rB cv b0 b))))
    | _ => false)
  | .whileS c b => (match st with
    | .While c0 b0 [] _ => cv.body && (rT cv c0 c && rB cv b0 b)
    | _ => false)
  | .raise c => (match st with
    | .Raise (some (.Call (.Name x _) [.Constant (.str _) _ _] [] _)) none _ => decide (x = c) && (decide (x ∈ G.exs) && (glb cv x && cv.room))
    | _ => false)
  | .tryS b cs bs => (match st with
    | .Try b0 (h0 :: hs) [] [] _ => cv.body && (rB cv b0 b && stepH G cv (rB cv.suite) (h0 :: hs) cs bs)
    | _ => false)
end
def chkS (G : GI) (rw : Bool) : Nat → Cv → Stmt → S → Bool
  | 0, _, _, _ => false
  | n + 1, cv, st, s => stepS G rw cv (chk G 60 .e) (chk G 60 .t) (fun cv => stepB (chkS G rw n cv)) st s
section
variable {G : GI} {rw : Bool} {C : CallT} {k L : Nat} {cv : Cv} {X : Cx} {W : WX} {rE rT : Cv → Expr → E → Bool}
def OkS (G : GI) (rw : Bool) (L : Nat) (C : CallT) (k : Nat) (f : Cv → Stmt → S → Bool) : Prop := ∀ cv X W, CR G rw C k cv X W → ∀ e e', f cv e e' = true → SS X rw L C W e e'
def OkB (G : GI) (rw : Bool) (L : Nat) (C : CallT) (k : Nat) (f : Cv → List Stmt → List S → Bool) : Prop := ∀ cv X W, CR G rw C k cv X W → ∀ e e', f cv e e' = true → SB X rw L C W e e'
theorem agO_ok {o : B2} {c : Operator} (h : agO o c = true) : AugOk X c o := by
  unfold agO at h
  split at h
  · exact aug_add
  · exact aug_sub
  · cases h
theorem intE_ok {e : Expr} {i : Int} (h : intE e i = true) : PE X e (tC (.int i)) := by
  unfold intE at h
  split at h
  · cases of_decide_eq_true h; exact pe_int
  · cases h
theorem stepB_ok {f : Cv → Stmt → S → Bool} (hS : OkS G rw L C k f) : OkB G rw L C k (fun cv => stepB (f cv)) := by
  intro cv X W r e
  induction e with
  | nil =>
    intro e' h
    cases e' with
    | nil => exact sb_nil
    | cons _ _ => simp [stepB] at h
  | cons s ss ih =>
    intro e' h
    cases e' with
    | nil => simp [stepB] at h
    | cons t ts =>
      simp only [stepB, Bool.and_eq_true] at h
      exact sb_cons (hS cv X W r _ _ h.1) (ih _ h.2)
theorem swapB_ok (r : CR G rw C k cv X W) {el : Expr} {gs : List Comprehension} {scope : Scope} {pos : Pos} {y : Str} {py : Pos} (l : Nat) : swapsWith (.ListComp el gs scope pos) (some (.Name y py)) l X.env = pure (swapB cv (.ListComp el gs scope pos) y py) := by
  unfold swapB
  rw [← r.sc]
  rfl
theorem stepSet_ok (hE : OkE G rw C k rE) (hT : OkT G rw C k rT) (r : CR G rw C k cv X W) {t e0 : Expr} {tg : Tg} {e : E} {pos : Pos} (h : stepSet G cv rE rT t e0 tg e = true) : SS X rw L C W (.Assign [t] e0 pos) (.set tg e) := by
  unfold stepSet at h
  split at h
  · rename_i el gs scope p
    split at h
    · rename_i i y py tg' it cond elt
      obtain ⟨h1, h2⟩ := ba2 h
      split at h2
      · rename_i hb
        obtain ⟨el', t', iter, ifs, scope', pos', e1, c1, c2, c3, c4, c5, c6, c7⟩ := stepC_ok hE hT r h2
        cases e1
        have hsw := swapB_ok r (el := el) (gs := [⟨t', iter, ifs, 0⟩]) (scope := scope) (pos := p) (y := y) (py := py) pos.line
        rw [hb] at hsw
        have hyl : X.env.scope.names.lookup y = some .local := by
          rw [r.sc]
          unfold swapB at hb
          simp only [Bool.and_eq_true] at hb
          exact beq_iff_eq.mp hb.1.1.2
        exact ss_setLc (own := ownS cv tg') c1 r.nd (r.slot h1) hyl hsw c3 c4 c5 c6 c7 c2 (fun σ H Q hh => comp_reads (by rw [own_ix]; exact fun _ z => z) (by rw [own_ix]; exact fun _ z => z) σ H Q hh)
      · rename_i hb
        obtain ⟨h2, h3⟩ := ba2 h2
        have hsw := swapB_ok r (el := el) (gs := gs) (scope := scope) (pos := p) (y := y) (py := py) pos.line
        rw [Bool.eq_false_iff.mpr hb] at hsw
        exact ss_set (hE cv X W r _ _ h3) (chkG_ok r h2) hsw (noStores rfl _) (oneAssign rfl _)
    · rename_i i y py tg' it cond elt
      obtain ⟨h1, h2⟩ := ba2 h
      split at h2
      · rename_i hb
        obtain ⟨el', t', iter, ifs, scope', pos', e1, c1, c2, c3, c4, c5, c6, c7⟩ := stepC_ok hE hT r h2
        cases e1
        have hsw := swapB_ok r (el := el) (gs := [⟨t', iter, ifs, 0⟩]) (scope := scope) (pos := p) (y := y) (py := py) pos.line
        rw [hb] at hsw
        have hyl : X.env.scope.names.lookup y = some .local := by
          rw [r.sc]
          unfold swapB at hb
          simp only [Bool.and_eq_true] at hb
          exact beq_iff_eq.mp hb.1.1.2
        exact ss_setLc (own := ownS cv tg') c1 r.nd (r.slot h1) hyl hsw c3 c4 c5 c6 c7 c2 (fun σ H Q hh => boxc_reads (by rw [own_ix]; exact fun _ z => z) (by rw [own_ix]; exact fun _ z => z) σ H Q hh)
      · rename_i hb
        obtain ⟨h2, h3⟩ := ba2 h2
        have hsw := swapB_ok r (el := el) (gs := gs) (scope := scope) (pos := p) (y := y) (py := py) pos.line
        rw [Bool.eq_false_iff.mpr hb] at hsw
        exact ss_set (hE cv X W r _ _ h3) (chkG_ok r h2) hsw (noStores rfl _) (oneAssign rfl _)
    · cases h
  · simp only [Bool.and_eq_true] at h
    obtain ⟨h1, h2, h3, h4, h5⟩ := h
    exact ss_set (hE cv X W r _ _ h5) (chkG_ok r h4) (noSwap h1 _ _ _) (noStores h2 _) (oneAssign h3 _)
theorem stepH_ok {rB : Cv → List Stmt → List S → Bool} (hB : OkB G rw L C k rB) (r : CR G rw C k cv X W) : ∀ {hs : List ExceptHandler} {cs : List Str} {bs : List (List S)}, stepH G cv (rB cv.suite) hs cs bs = true → HsOk X rw L C hs cs bs := by
  intro hs
  induction hs with
  | nil =>
    intro cs bs h
    unfold stepH at h
    split at h
    · exact .nil
    · rename_i e1; exact absurd e1 (by simp)
    · cases h
  | cons hd hs ih =>
    intro cs bs h
    unfold stepH at h
    split at h
    · rename_i e1; exact absurd e1 (by simp)
    · rename_i x np b0 b pos hs' c cs' s ss e1
      cases e1
      simp only [Bool.and_eq_true, decide_eq_true_eq, List.any_eq_true] at h
      obtain ⟨rfl, ⟨hh, hm, rfl⟩, h2, h3, h4⟩ := h
      obtain ⟨g1, g2, g3⟩ := r.g.hnd _ hm
      exact .cons g1 g2 ⟨(r.glb h2).1, (r.glb h2).2, .inl g3⟩ (fun a oe cls d pn _ _ => hB _ _ _ (r.suite a _) _ _ h3) (ih h4)
    · cases h
theorem stepS_ok {rB : Cv → List Stmt → List S → Bool} (hE : OkE G rw C k rE) (hT : OkT G rw C k rT) (hB : OkB G rw L C k rB) (r : CR G rw C k cv X W) {st : Stmt} {s : S} (h : stepS G rw cv rE rT rB st s = true) : SS X rw L C W st s := by
  have hu := r.hu
  unfold stepS at h
  rw [Bool.or_eq_true] at h
  rcases h with h | h
  · exact ss_bad h
  cases s with
  | pass =>
    simp only at h
    split at h
    · exact ss_pass
    · cases h
  | brk =>
    simp only at h
    split at h
    · exact ss_brk
    · cases h
  | expr e =>
    simp only at h
    split at h
    · obtain ⟨h1, h2⟩ := ba2 h; exact ss_expr (hE cv X W r _ _ h2) (noSwap h1 _ _ _)
    · cases h
  | set tg e =>
    simp only at h
    split at h
    · exact stepSet_ok hE hT r h
    · cases h
  | setF a f e =>
    simp only at h
    split at h
    · simp only [Bool.and_eq_true, decide_eq_true_eq] at h
      obtain ⟨h0, rfl, h1, h2, h3⟩ := h
      exact ss_setF h0 (hE cv X W r _ _ h2) (hE cv X W r _ _ h3) (r.g.flds _ h1) (noSwapT rfl _ _)
    · cases h
  | setI a kk e =>
    simp only at h
    split at h
    · simp only [Bool.and_eq_true, decide_eq_true_eq] at h
      obtain ⟨h0, h1, h2, h3, h4⟩ := h
      exact ss_setI h0 (by omega) (hE cv X W r _ _ h2) (hE cv X W r _ _ h3) (hE cv X W r _ _ h4) (by rw [swapsWithSole]; exact noSwapT rfl _ _) (noStores rfl _) (plainSet h1 _) (oneAssign rfl _)
    · cases h
  | augV i op e =>
    simp only at h
    split at h
    · simp only [Bool.and_eq_true, decide_eq_true_eq] at h
      obtain ⟨h1, h2, h3, h4⟩ := h
      exact ss_augV (agO_ok h1) r.nd (r.slot h2) (r.loc h3).1 (r.loc h3).2 (hE cv X W r _ _ h4)
    · cases h
  | augF a f op i =>
    simp only at h
    split at h
    · simp only [Bool.and_eq_true, decide_eq_true_eq] at h
      obtain ⟨h0, h1, rfl, h2, h3, h4⟩ := h
      exact ss_augF h0 (agO_ok h1) (r.g.flds _ h2) (hE cv X W r _ _ h3) (intE_ok h4)
    · cases h
  | augI a kk op e =>
    simp only at h
    split at h
    · simp only [Bool.and_eq_true, decide_eq_true_eq] at h
      obtain ⟨h0, h1, h2, h3, h4, h5⟩ := h
      exact ss_augI h0 (by omega) (agO_ok h1) (hE cv X W r _ _ h3) (hE cv X W r _ _ h4) (hE cv X W r _ _ h5) (plainAug h2)
    · cases h
  | append a e =>
    simp only at h
    split at h
    · simp only [Bool.and_eq_true, decide_eq_true_eq] at h
      obtain ⟨h0, rfl, h1, h2, h3, h4, h5⟩ := h
      exact ss_append h0 h1 h2 h3 (hE cv X W r _ _ h4) (hE cv X W r _ _ h5)
    · cases h
  | extend a e =>
    simp only at h
    split at h
    · simp only [Bool.and_eq_true, decide_eq_true_eq] at h
      obtain ⟨h0, rfl, h1, h2, h3, h4, h5⟩ := h
      exact ss_extend h0 h1 h2 h3 (hE cv X W r _ _ h4) (hE cv X W r _ _ h5)
    · cases h
  | ret e =>
    simp only at h
    split at h
    · exact ss_ret (hE cv X W r _ _ h)
    · cases h
  | retN =>
    simp only at h
    split at h
    · exact ss_retN
    · cases h
  | ifS c a b =>
    simp only at h
    split at h
    · simp only [Bool.and_eq_true] at h
      obtain ⟨h1, h2, h3⟩ := h
      exact ss_if (hT cv X W r _ _ h1) (hB cv X W r _ _ h2) (hB cv X W r _ _ h3)
    · cases h
  | forS tg it b =>
    simp only at h
    split at h
    · simp only [Bool.and_eq_true] at h
      obtain ⟨h1, h2, h3, h4, h5, h6⟩ := h
      exact ss_for (r.bd h1).1 (r.room h2).2 (stepI_ok hE r h4) (chkG_ok r h5) (hB cv X W r _ _ h6) (noSetI h3 _)
    · cases h
  | whileS c b =>
    simp only at h
    split at h
    · simp only [Bool.and_eq_true] at h
      obtain ⟨h1, h2, h3⟩ := h
      exact ss_while (r.bd h1).1 (hT cv X W r _ _ h2) (hB cv X W r _ _ h3)
    · cases h
  | raise c =>
    simp only at h
    split at h
    · simp only [Bool.and_eq_true, decide_eq_true_eq] at h
      obtain ⟨rfl, h1, h2, h3⟩ := h
      exact ss_raise (r.room h3).2 r.tk (r.g.exc _ h1) (r.glb h2).1 (r.glb h2).2
    · cases h
  | tryS b cs bs =>
    simp only at h
    split at h
    · simp only [Bool.and_eq_true] at h
      obtain ⟨h1, h2, h3⟩ := h
      exact ss_try (r.bd h1).2.1 (r.bd h1).2.2 r.tk (fun W' pn xe tk po => hB cv _ _ (r.tr h1 pn xe tk po) _ _ h2) (stepH_ok hB r h3)
    · cases h
theorem chkS_ok : ∀ n, OkS G rw L C k (chkS G rw n)
  | 0 => fun _ _ _ _ _ _ h => by simp [chkS] at h
  | n + 1 => fun cv X W r e e' h => stepS_ok (chk_ok 60).1 (chk_ok 60).2.1 (stepB_ok (chkS_ok n)) r h
end
end HI
set_option Elab.async false
set_option linter.all false
set_option maxRecDepth 100000
namespace HI
open PySem PySem.Spec PyProof.Rows L2
def plainP (p : Arguments) (ps : List Str) : Bool := p.posonlyargs.isEmpty && (p.vararg.isNone && (p.kwonlyargs.isEmpty && (p.kwarg.isNone && decide (p.args.map (·.arg) = ps))))
theorem lookup_zip {n : Str} : ∀ {ps : List Str} {us : List Value}, us.length = ps.length → n ∈ ps → ((ps.zip us).lookup n).isNone = false
  | [], _, _, h => by cases h
  | p :: ps, [], hl, _ => by simp at hl
  | p :: ps, u :: us, hl, h => by
    simp only [List.zip_cons_cons, List.lookup_cons]
    by_cases e : n == p
    · simp [e]
    · simp only [e]
      refine lookup_zip (by simpa using hl) ?_
      rcases List.mem_cons.mp h with rfl | h
      · simp at e
      · exact h
theorem fm_congr {α β : Type} {f g : α → Option β} : ∀ {l : List α}, (∀ x ∈ l, f x = g x) → l.filterMap f = l.filterMap g
  | [], _ => rfl
  | a :: l, h => by
    rw [List.filterMap_cons, List.filterMap_cons, h a (List.mem_cons_self ..), fm_congr fun x hx => h x (List.mem_cons_of_mem _ hx)]
theorem filter_zip : ∀ {ps : List Str} {us : List Value}, ps.Nodup → us.length = ps.length → (ps.filterMap fun n => ((ps.zip us).lookup n).map fun x => (n, x)) = ps.zip us
  | [], us, _, hl => by simp
  | p :: ps, [], _, hl => by simp at hl
  | p :: ps, u :: us, nd, hl => by
    rw [List.nodup_cons] at nd
    simp only [List.zip_cons_cons, List.filterMap_cons, List.lookup_cons, beq_self_eq_true, Option.map_some]
    congr 1
    refine Eq.trans (fm_congr fun n hn => ?_) (filter_zip nd.2 (us := us) (by simpa using hl))
    have : (n == p) = false := by
      rw [beq_eq_false_iff_ne]
      rintro rfl
      exact nd.1 hn
    rw [this]
theorem binds_plain {x qual : Str} {p : Arguments} {body : List Stmt} {scope : Scope} {kV doc pm : Value} {an : Option Addr} {cdv ct : Value} {ps : List Str} (nd : ps.Nodup) (h : plainP p ps = true) (us : List Value) (hl : us.length = ps.length) :
    bindArgs (PySem.W.fnOf x qual p body scope .none kV doc pm an cdv ct) ⟨us, []⟩ = pure (ps.zip us) := by
  simp only [plainP, Bool.and_eq_true, decide_eq_true_eq, List.isEmpty_iff, Option.isNone_iff_eq_none] at h
  obtain ⟨h1, h2, h3, h4, h5⟩ := h
  have hm : (ps.filter fun n => ((ps.zip us).lookup n).isNone) = [] := by
    rw [List.filter_eq_nil_iff]
    intro n hn
    rw [lookup_zip hl hn]; simp
  unfold bindArgs PySem.W.fnOf
  simp only [h1, h2, h3, h4, h5, List.map_nil, List.nil_append]
  rw [show seqItems? Value.none = pure none from rfl]
  simp [hl, hm, filter_zip nd hl]
def kclsB (K : PySem.W.Frag) (c : Str) : Bool := CLS.any (fun s => decide (c = Str.ofString s)) && ((He.Fa.glo c).ok K && ((He.Fa.cls c).ok K && (He.eqO (PySem.W.findIn K (.ref (He.ga K c)) "__class__") (some (some (.builtin "object.__class__"))) &&
  (He.eqO (PySem.W.specialIn K (.builtin "object.__class__") "__get__") (some (some (.builtin "getset_descriptor.__get__"))) && (decide (PySem.W.takesIn K (.builtin "object.__class__") = some true) && (decide (PySem.W.mroIn K (He.ga K c) (.type "object") = some true) &&
  (decide (PySem.W.kitOne K (.ref (He.ga K c)) (.ref (He.ga K c)) = some true) && ["int", "bool", "str", "tuple", "list"].all fun T => decide (PySem.W.kitOne K (.ref (He.ga K c)) (.type T) = some false))))))))
theorem kclsB_ok {K : PySem.W.Frag} {c : Str} (h : kclsB K c = true) : KCls K c := by
  simp only [kclsB, Bool.and_eq_true, decide_eq_true_eq, List.any_eq_true, List.all_eq_true] at h
  obtain ⟨⟨s, h0, h1⟩, h2, h3, h4, h5, h6, h7, h8, h9⟩ := h
  exact ⟨⟨s, h0, h1⟩, h2, He.cls_ok h3, He.eqO_ok h4, He.eqO_ok h5, h6, h7, h8, h9⟩
def kexcB (K : PySem.W.Frag) (c : Str) : Bool := (He.Fa.glo c).ok K && EXC.all fun h => !(He.Fa.glo (Str.ofString h)).ok K || decide (PySem.W.exmOne K (.ref (He.ga K c)) (.ref (He.ga K (Str.ofString h))) = some (catches c (Str.ofString h)))
theorem kexcB_ok {K : PySem.W.Frag} {c : Str} (h : kexcB K c = true) : KExc K c := by
  simp only [kexcB, Bool.and_eq_true, List.all_eq_true, Bool.or_eq_true, decide_eq_true_eq] at h
  refine ⟨h.1, fun x hx hg => ?_⟩
  rcases h.2 x hx with z | z
  · rw [hg] at z; cases z
  · exact z
def isiU (K : PySem.W.Frag) (t : Str) : Value × V := match ["int", "bool", "str", "tuple", "list"].find? (fun T => decide (t = Str.ofString T)) with
  | some T => (.type T, .ty T)
  | none => (.ref (He.ga K t), .ref (He.ga K t))
def isiB (K : PySem.W.Frag) (t : Str) : Bool :=
  decide (PySem.W.kitOne K (.type "NoneType") (isiU K t).1 = some false) && (decide (PySem.W.kitOne K (.type "bool") (isiU K t).1 = some (isTy t ["int", "bool"])) && (decide (PySem.W.kitOne K (.type "int") (isiU K t).1 = some (isTy t ["int"])) &&
  (decide (PySem.W.kitOne K (.type "str") (isiU K t).1 = some (isTy t ["str"])) && (decide (PySem.W.kitOne K (.type "tuple") (isiU K t).1 = some (isTy t ["tuple"])) && (decide (PySem.W.kitOne K (.type "list") (isiU K t).1 = some (isTy t ["list"])) &&
  (match ["int", "bool", "str", "tuple", "list"].find? (fun T => decide (t = Str.ofString T)) with
    | some T => (He.Fa.free t).ok K && (decide (bootBuiltins t = some (.type T)) && (!decide (t = "__name__") && !CLS.any (fun s => decide (t = Str.ofString s))))
    | none => (He.Fa.glo t).ok K && !isTy t ["int", "bool", "str", "tuple", "list"]))))))
def tupsB (K : PySem.W.Frag) (p : Str × List Str) : Bool := (He.Fa.glo p.1).ok K && He.tupB K p.1 (p.2.map He.Dv.str)
def exB (G : GI) (K : PySem.W.Frag) : Bool :=
  G.fns.all (fun x => (He.Fa.glo x).ok K) && (G.mks.all (fun c => kclsB K c && (He.Fa.mkr c).ok K) && (G.mes.all (fun p => kclsB K p.1 && (He.Fa.meth p.1 p.2).ok K) && (G.exs.all (fun c => kexcB K c && (He.Fa.exc c).ok K) &&
  (G.hns.all (fun h => decide (h ∈ EXC) && (He.Fa.glo (Str.ofString h)).ok K) && (G.isi.all (isiB K) && (G.free.all (fun x => (He.Fa.free x).ok K) && (G.cis.all (fun p => (He.Fa.int p.1 p.2).ok K) && (G.css.all (fun p => (He.Fa.str p.1 p.2).ok K) &&
  (G.flds.all (fun f => CLS.all fun c => !(He.Fa.glo (Str.ofString c)).ok K || (He.Fa.noat (Str.ofString c) f).ok K) && G.tups.all (tupsB K))))))))))
structure KG (G : GI) (K : PySem.W.Frag) (mg : Str → Option Value) : Prop where
  call : ∀ x ∈ G.fns, mg x = some (.ref (He.ga K x))
  make : ∀ c ∈ G.mks, KCls K c ∧ Mk K (He.ga K c) (He.ma K (He.ga K c) "__init__") ∧ mg c = some (.ref (He.ga K c))
  meth : ∀ p ∈ G.mes, Cls K (He.ga K p.1) ∧ Meth K (He.ga K p.1) p.2 (He.ma K (He.ga K p.1) p.2)
  exc : ∀ c ∈ G.exs, KExc K c ∧ mg c = some (.ref (He.ga K c)) ∧ PySem.W.excIn K (He.ga K c) He.veBase "ValueError.__new__" = true ∧ PySem.W.keepIn K (.ref (He.ga K c)) = true ∧ PySem.W.subIn K (.ref (He.ga K c)) (.type "BaseException") = some true ∧ PySem.W.typeIn K (.ref (He.ga K c)) = some (.type "type")
  hnd : ∀ h ∈ G.hns, h ∈ EXC ∧ (He.Fa.glo (Str.ofString h)).ok K = true ∧ mg (Str.ofString h) = some (.ref (He.ga K (Str.ofString h)))
  isi : ∀ t ∈ G.isi, ∃ (u : Value) (w : V), ClsV w u ∧ IsiK K t u ∧ (∀ c, KCls K c → c = t → u = .ref (He.ga K t)) ∧ RelV w u ∧ (mg t = some u ∨ (mg t = none ∧ bootBuiltins t = some u ∧ t ≠ "__name__"))
  free : ∀ x ∈ G.free, mg x = none
  cis : ∀ p ∈ G.cis, ∃ t, mg p.1 = some (.int p.2 t)
  css : ∀ p ∈ G.css, ∃ t, mg p.1 = some (.str p.2 t)
  flds : ∀ f ∈ G.flds, NoF K f
  tups : ∀ p ∈ G.tups, mg p.1 = some (.ref (He.ga K p.1)) ∧ ∀ H, SqT K H (He.ga K p.1) (p.2.map V.str)
theorem isiB_ok {K : PySem.W.Frag} {h : Heap} {mg : Str → Option Value} (X : K.In h) (N : h.Ns mainGlobals mg) {t : Str} (c : isiB K t = true) :
    ∃ (u : Value) (w : V), ClsV w u ∧ IsiK K t u ∧ (∀ c, KCls K c → c = t → u = .ref (He.ga K t)) ∧ RelV w u ∧ (mg t = some u ∨ (mg t = none ∧ bootBuiltins t = some u ∧ t ≠ "__name__")) := by
  simp only [isiB, Bool.and_eq_true, decide_eq_true_eq] at c
  obtain ⟨h1, h2, h3, h4, h5, h6, h7⟩ := c
  unfold isiU at h1 h2 h3 h4 h5 h6
  cases q : ["int", "bool", "str", "tuple", "list"].find? (fun T => decide (t = Str.ofString T)) with
  | some T =>
    rw [q] at h1 h2 h3 h4 h5 h6 h7
    simp only [Bool.and_eq_true, decide_eq_true_eq, Bool.not_eq_true', decide_eq_false_iff_not, List.any_eq_false] at h7
    have ht : t = Str.ofString T := of_decide_eq_true (List.find?_some (p := fun T => decide (t = Str.ofString T)) q)
    refine ⟨.type T, .ty T, .ty T, ⟨h1, h2, h3, h4, h5, h6, .inr ⟨T, List.mem_of_find?_eq_some q, ht, rfl⟩⟩, fun c kc e => ?_, rfl, .inr ⟨He.free_ok X N h7.1, h7.2.1, h7.2.2.1⟩⟩
    obtain ⟨s, hs, e2⟩ := kc.mem
    exact absurd (e.symm.trans e2) (by simpa using h7.2.2.2 s hs)
  | none =>
    rw [q] at h1 h2 h3 h4 h5 h6 h7
    simp only [Bool.and_eq_true, Bool.not_eq_true'] at h7
    exact ⟨.ref (He.ga K t), .ref (He.ga K t), .own _, ⟨h1, h2, h3, h4, h5, h6, .inl ⟨rfl, h7.2⟩⟩, fun _ _ _ => rfl, rfl, .inl (He.glo_ok X N h7.1)⟩
theorem map_str {K : PySem.W.Frag} (l : List Str) : (l.map He.Dv.str).map (He.Dv.v K) = l.map V.str := by
  rw [List.map_map]; rfl
theorem exB_ok {G : GI} {K : PySem.W.Frag} {h : Heap} {mg : Str → Option Value} (X : K.In h) (N : h.Ns mainGlobals mg) (c : exB G K = true) : KG G K mg := by
  simp only [exB, Bool.and_eq_true, List.all_eq_true] at c
  obtain ⟨c1, c2, c3, c4, c5, c6, c7, c8, c9, c10, c11⟩ := c
  refine ⟨fun x hx => He.glo_ok X N (c1 x hx), fun x hx => ?_, fun p hp => ?_, fun x hx => ?_, fun x hx => ?_, fun t ht => isiB_ok X N (c6 t ht), fun x hx => He.free_ok X N (c7 x hx), fun p hp => He.int_ok X N (c8 p hp), fun p hp => He.str_ok X N (c9 p hp), fun f hf c kc => ?_, fun p hp => ?_⟩
  · have kc := kclsB_ok (c2 x hx).1
    exact ⟨kc, He.mkr_ok (c2 x hx).2, He.glo_ok X N kc.glo⟩
  · exact ⟨(kclsB_ok (c3 p hp).1).cl, He.meth_ok (c3 p hp).2⟩
  · have kx := kexcB_ok (c4 x hx).1
    obtain ⟨e1, e2, e3, e4⟩ := He.exc_ok (c4 x hx).2
    exact ⟨kx, He.glo_ok X N kx.glo, e1, e2, e3, e4⟩
  · exact ⟨of_decide_eq_true (c5 x hx).1, (c5 x hx).2, He.glo_ok X N (c5 x hx).2⟩
  · obtain ⟨s, hs, rfl⟩ := kc.mem
    have := c10 f hf s hs
    rw [Bool.or_eq_true] at this
    rcases this with z | z
    · rw [kc.glo] at z; cases z
    · exact He.noat_ok z
  · obtain ⟨a, b⟩ := ba2 (c11 p hp)
    refine ⟨He.glo_ok X N a, fun H => ?_⟩
    have := He.tupB_ok b H
    rw [map_str] at this
    exact this
structure De where
  d : He.DefD
  key : Str
  N : List Str
  ps : List Str
def De.ok (G : GI) (T : Tab) (e : De) : Bool := match T e.key with
  | some fn => e.d.dfl.isEmpty && (e.d.kwd.isEmpty && (plainP e.d.params e.ps && (decide (fn.np = e.ps.length) && (decide (fn.ns = e.N.length) && (C8.scC e.N e.ps e.d.scope && stepB (chkS G true 60 ⟨e.N, e.d.scope, true, true, true⟩) e.d.body fn.body)))))
  | none => false
def lnk (G : GI) (des : List De) : Bool :=
  G.fns.all (fun x => des.any fun e => decide (e.key = x) && decide (e.d.at_ = (x, none))) &&
  (G.mks.all (fun c => des.any fun e => decide (e.key = dot c (Str.ofString "__init__")) && decide (e.d.at_ = (c, some (Str.ofString "__init__")))) &&
  G.mes.all (fun p => des.any fun e => decide (e.key = dot p.1 p.2) && decide (e.d.at_ = (p.1, some p.2))))
variable {G : GI} {L : Nat} {T : Tab} {P : Program} {w : World} {K : PySem.W.Frag} {mg : Str → Option Value} {base : Heap} {des : List De}
theorem fn_none {f : Addr} {fd : FuncData} {ps : List Str} {k : Nat} {CX : CXT} {sp : Sp} (h : ∀ vs H Q E, ¬ sp vs H Q E) : FnOk P w K mg base CX k f fd ps sp :=
  ⟨fun vs H Q E z => absurd z (h vs H Q E), fun A outer s H args us vs Q E _ _ _ _ z => absurd z (h vs H Q E)⟩
theorem prog_sound (kg : KG G K mg) (hl : lnk G des = true) (hd : ∀ e ∈ des, ∃ fd, FunD K e.d.name e.d.qual e.d.params e.d.body e.d.scope (e.d.dvs K) (e.d.kws K) (He.fAd K e.d.at_) fd) (ho : ∀ e ∈ des, e.ok G T = true) :
    ∀ n, ∀ e ∈ des, ∀ fd, FunD K e.d.name e.d.qual e.d.params e.d.body e.d.scope (e.d.dvs K) (e.d.kws K) (He.fAd K e.d.at_) fd → FnOk P w K mg base (L2.CX P w) (2 * n) (He.fAd K e.d.at_) fd e.ps (spC K true (callF L T n) e.key) ∧ Binds K fd e.ps [] ∧ PySem.W.keepIn K (.ref (He.fAd K e.d.at_)) = true ∧ ∀ (s : Shared) (us : List Value), us.length = e.ps.length → BindsTo s fd ⟨us, []⟩ (e.ps.zip us) := by
  have main : ∀ n, (∀ (X : Cx), X.prog = P → X.w = w → X.K = K → X.mg = mg → X.base = base → GOk G X true (callF L T n) (2 * n)) → ∀ e ∈ des, ∀ fd, FunD K e.d.name e.d.qual e.d.params e.d.body e.d.scope (e.d.dvs K) (e.d.kws K) (He.fAd K e.d.at_) fd → FnOk P w K mg base (L2.CX P w) (2 * n + 2) (He.fAd K e.d.at_) fd e.ps (spC K true (callF L T (n + 1)) e.key) ∧ Binds K fd e.ps [] ∧ PySem.W.keepIn K (.ref (He.fAd K e.d.at_)) = true ∧ ∀ (s : Shared) (us : List Value), us.length = e.ps.length → BindsTo s fd ⟨us, []⟩ (e.ps.zip us) := by
    intro n hg e he fd F
    have hk := ho e he
    unfold De.ok at hk
    cases q : T e.key with
    | none => rw [q] at hk; cases hk
    | some fn =>
      rw [q] at hk
      simp only [Bool.and_eq_true, decide_eq_true_eq, List.isEmpty_iff] at hk
      obtain ⟨k1, k2, k3, k4, k5, k6, k7⟩ := hk
      have sc := C8.fnScope_by k6
      have e1 : e.d.dvs K = [] := by unfold He.DefD.dvs; rw [k1]; rfl
      have e2 : e.d.kws K = [] := by unfold He.DefD.kws; rw [k2]; rfl
      rw [e1, e2] at F
      have nd : e.ps.Nodup := by
        rw [← sc.pre]
        exact sc.nd.sublist (List.take_sublist _ _)
      refine ⟨?_, F.bindsN fun _ _ _ _ _ _ us hl => binds_plain nd k3 us hl, F.kp, F.bindsA fun _ _ _ _ _ _ us hl => binds_plain nd k3 us hl⟩
      refine fn_sound (L := L) (C := callF L T n) (k := 2 * n + 1) F sc k4 k5 (fun avs S => ?_) (fun X W h1 h2 h3 h4 h5 h6 h7 h8 cx => ?_)
      · simp only [callF, q]
      · have r : CR G true (callF L T n) (2 * n) ⟨e.N, e.d.scope, true, true, true⟩ X W :=
          ⟨hg X h1 h2 h3 h4 h5, h6, by rw [h6]; exact sc.nd, h7, fun _ => h8, fun _ => ⟨cx.room, cx.calm⟩, by have := cx.room.un; omega, cx.tk, fun _ => ⟨cx.own, cx.stk, cx.frm⟩⟩
        exact stepB_ok (chkS_ok 60) _ _ _ r _ _ k7
  have link : ∀ n, (∀ e ∈ des, ∀ fd, FunD K e.d.name e.d.qual e.d.params e.d.body e.d.scope (e.d.dvs K) (e.d.kws K) (He.fAd K e.d.at_) fd → FnOk P w K mg base (L2.CX P w) (2 * n) (He.fAd K e.d.at_) fd e.ps (spC K true (callF L T n) e.key) ∧ Binds K fd e.ps [] ∧ PySem.W.keepIn K (.ref (He.fAd K e.d.at_)) = true ∧ ∀ (s : Shared) (us : List Value), us.length = e.ps.length → BindsTo s fd ⟨us, []⟩ (e.ps.zip us)) →
      ∀ (X : Cx), X.prog = P → X.w = w → X.K = K → X.mg = mg → X.base = base → GOk G X true (callF L T n) (2 * n) := by
    intro n ih X h1 h2 h3 h4 h5
    simp only [lnk, Bool.and_eq_true, List.all_eq_true, List.any_eq_true, decide_eq_true_eq] at hl
    obtain ⟨l1, l2, l3⟩ := hl
    refine ⟨fun x hx => ?_, fun c hc => ?_, fun p hp => ?_, fun c hc => ?_, ?_, ?_, ?_, ?_, ?_, ?_, ?_⟩
    · obtain ⟨e, he, rfl, ea⟩ := l1 x hx
      obtain ⟨fd, FD⟩ := hd e he
      obtain ⟨F, b, kp, _⟩ := ih e he fd FD
      rw [ea] at F kp
      rw [h1, h2, h3, h4, h5]
      exact ⟨_, fd, e.ps, F, kg.call _ hx, kp, b⟩
    · obtain ⟨e, he, ek, ea⟩ := l2 c hc
      obtain ⟨fd, FD⟩ := hd e he
      obtain ⟨F, b, kp, _⟩ := ih e he fd FD
      rw [ea, ek] at F
      obtain ⟨a1, a2, a3⟩ := kg.make c hc
      exact ⟨by rw [h3]; exact a1, by rw [h3]; exact a2, by rw [h3, h4]; exact a3, by rw [h1, h2, h3, h4, h5]; exact ⟨fd, e.ps, F, b⟩⟩
    · obtain ⟨e, he, ek, ea⟩ := l3 p hp
      obtain ⟨fd, FD⟩ := hd e he
      obtain ⟨F, b, kp, _⟩ := ih e he fd FD
      rw [ea, ek] at F
      obtain ⟨a1, a2⟩ := kg.meth p hp
      exact ⟨by rw [h3]; exact a1, by rw [h3]; exact a2, by rw [h1, h2, h3, h4, h5]; exact ⟨fd, e.ps, F, b⟩⟩
    · obtain ⟨a1, a2, a3, a4, a5, a6⟩ := kg.exc c hc
      exact ⟨by rw [h3]; exact a1, by rw [h3, h4]; exact a2, by rw [h3]; exact a3, by rw [h3]; exact a4, by rw [h3]; exact a5, by rw [h3]; exact a6⟩
    · rw [h3, h4]; exact kg.hnd
    · rw [h3, h4]; exact kg.isi
    · rw [h4]; exact kg.free
    · rw [h4]; exact kg.cis
    · rw [h4]; exact kg.css
    · rw [h3]; exact kg.flds
    · rw [h3, h4]; exact kg.tups
  intro n
  induction n with
  | zero =>
    intro e he fd F
    have hk := ho e he
    unfold De.ok at hk
    cases q : T e.key with
    | none => rw [q] at hk; cases hk
    | some fn =>
      rw [q] at hk
      simp only [Bool.and_eq_true, decide_eq_true_eq, List.isEmpty_iff] at hk
      obtain ⟨k1, k2, k3, k4, k5, k6, k7⟩ := hk
      have sc := C8.fnScope_by k6
      have e1 : e.d.dvs K = [] := by unfold He.DefD.dvs; rw [k1]; rfl
      have e2 : e.d.kws K = [] := by unfold He.DefD.kws; rw [k2]; rfl
      rw [e1, e2] at F
      have nd : e.ps.Nodup := by
        rw [← sc.pre]
        exact sc.nd.sublist (List.take_sublist _ _)
      refine ⟨fn_none ?_, F.bindsN fun _ _ _ _ _ _ us hl => binds_plain nd k3 us hl, F.kp, F.bindsA fun _ _ _ _ _ _ us hl => binds_plain nd k3 us hl⟩
      rintro vs H Q E ⟨m, S, avs, hS, hr, h⟩
      exact h
  | succ n ih => exact main n (link n ih)
def Says (L : Nat) (T : Tab) (n : Nat) : Prop := ∀ ns : List Int, ns.length ≤ 63 → ∃ S', callF L T n (Str.ofString "law") [.scr ns] [] = .ok (.bool true) S'
def spL (K : PySem.W.Frag) (L : Nat) (T : Tab) (n : Nat) : Sp := fun vs H Q _ => spC K true (callF L T n) (Str.ofString "law") vs H Q (fun _ _ _ => False)
theorem fn_cx0 {f : Addr} {fd : FuncData} {ps : List Str} {k n : Nat} (F : FnOk P w K mg base (L2.CX P w) k f fd ps (spC K true (callF L T n) (Str.ofString "law"))) : FnOk P w K mg base L2.CX0 k f fd ps (spL K L T n) :=
  ⟨fun vs H Q E z => F.len _ _ _ _ z, fun A outer s H args us vs Q E hr he hb hv z => codeAny_mono (F.run A outer s H args us vs Q (fun _ _ _ => False) hr he hb hv z) fun r s' h => by
    cases r with
    | ok r => cases r <;> exact h
    | error e =>
      obtain ⟨a, B, H', cls, d, _, _, _, _, _, _, _, hf⟩ := h
      exact hf.elim⟩
theorem law_says {n : Nat} (h : Says L T n) {H : Hp} {a : Addr} {ns : List Int} (hl : ns.length ≤ 63) (hO : Only H) (hS : SqL K H a (ns.map V.int)) : spL K L T n [.ref a] H (fun v _ => v = .bl true) (fun _ _ _ => False) := by
  obtain ⟨S', hc⟩ := h ns hl
  refine ⟨⟨[], []⟩, [], [.scr ns], ⟨rfl, List.nodup_nil, fun n a o e e2 => by simp at e2, fun _ a ha => (by cases ha), fun a ha => (by cases ha), fun a ha => (by cases ha)⟩, .cons ?_ .nil, ?_⟩
  · rcases hS with hS | hS
    · exact .scr hS (fun z => by rcases z with z | z <;> cases z)
    · exact .scrK fun H' => .inr hS
  · rw [hc]
    intro m' H' u _ _ r
    exact rep_bool r
theorem law_F {l : PySem.W.OpenLaw} {e : De} {n : Nat} (says : Says L T n) (hl : lnk G des = true) (ho : ∀ e ∈ des, e.ok G T = true) (he : e ∈ des) (hk : e.key = Str.ofString "law") (hat : e.d.at_ = (Str.ofString "law", none)) (hps : e.ps = [Str.ofString "script"]) (hg : Str.ofString "law" ∈ G.fns)
    (w : World) (mg : Str → Option Value) (fa : Addr) (h : Heap) (Y : ∃ K : PySem.W.Frag, K.In h ∧ He.SaysX [] (des.map (·.d)) [] [] (exB G) w h K) (N : h.Ns mainGlobals mg) (hm : mg (Str.ofString "law") = some (.ref fa)) :
    ∃ (K : PySem.W.Frag) (fd : FuncData) (sp : Sp), K.In h ∧ (∀ (s : Shared) (u : Value), BindsTo s fd ⟨[u], []⟩ [("script", u)]) ∧
        (∀ (H : Hp) (a : Addr) (ns : List Int), ns.length ≤ 63 → Only H → SqL K H a (ns.map V.int) → sp [.ref a] H (fun v _ => v = .bl true) fun _ _ _ => False) ∧
        ∀ base : Heap, K.In base → base.Ns mainGlobals mg → FnOk l.prog w K mg base L2.CX0 (2 * n) fa fd ["script"] sp := by
  obtain ⟨K, KX, c⟩ := Y
  have kg := exB_ok KX N c.more
  have ef : fa = He.ga K (Str.ofString "law") := by
    have := kg.call _ hg
    rw [hm] at this; cases this; rfl
  have hD : ∀ e ∈ des, ∃ fd, FunD K e.d.name e.d.qual e.d.params e.d.body e.d.scope (e.d.dvs K) (e.d.kws K) (He.fAd K e.d.at_) fd := by
    intro e he
    have t : He.obsT [] (des.map (·.d)) [] K = He.valT (des.map (·.d)) [] w := c.t
    have t1 : He.SaysD [] (des.map (·.d)) K := congrArg Prod.fst t
    exact t1.defs (List.mem_map_of_mem he)
  obtain ⟨fd, F⟩ := hD e he
  have main : ∀ base : Heap, FnOk l.prog w K mg base (L2.CX l.prog w) (2 * n) (He.fAd K e.d.at_) fd e.ps (spC K true (callF L T n) e.key) ∧ Binds K fd e.ps [] ∧ PySem.W.keepIn K (.ref (He.fAd K e.d.at_)) = true ∧ ∀ (s : Shared) (us : List Value), us.length = e.ps.length → BindsTo s fd ⟨us, []⟩ (e.ps.zip us) :=
    fun base => prog_sound kg hl hD ho n e he fd F
  rw [hat, hps, hk] at main
  rw [ef]
  exact ⟨K, fd, spL K L T n, KX, fun s u => (main h).2.2.2 s [u] rfl, fun H a ns h1 h2 h3 => law_says says h1 h2 h3, fun base _ _ => fn_cx0 (main base).1⟩
end HI
set_option Elab.async false
set_option linter.all false
set_option maxRecDepth 100000
namespace K12
open PySem PySem.Spec PyProof.Rows L2 HI
def f__wall : Fn := { np := 1, ns := 1, pure := false, body := [(.whileS (.lit (.bool true)) [.pass])] }
def f_is_within : Fn := { np := 3, ns := 3, pure := false, body := [(.ret (.and (.isI (.var 0) (Str.ofString "int")) (.and (.not (.isI (.var 0) (Str.ofString "bool"))) (.chain .le .le (.var 1) (.var 0) (.var 2)))))] }
def f_is_word : Fn := { np := 1, ns := 2, pure := false, body := [(.ifS (.or (.not (.isI (.var 0) (Str.ofString "str"))) (.not (.chain .le .le (.lit (.int 1)) (.un .len (.var 0)) (.lit (.int 4))))) [(.ret (.lit (.bool false)))] []), (.ret (.not (.comp (.one 1) (.seq (.var 0)) (some (.bin .notin (.var 1) (.lit (.str (Str.ofString "abcdefghijklmnopqrstuvwxyz"))))) (.var 1))))] }
def f_is_deed : Fn := { np := 1, ns := 1, pure := false, body := [(.ifS (.or (.not (.isI (.var 0) (Str.ofString "tuple"))) (.or (.not (.var 0)) (.not (.isI (.bin .item (.var 0) (.lit (.int 0))) (Str.ofString "str"))))) [(.ret (.lit (.bool false)))] []), (.ifS (.bin .eq (.bin .item (.var 0) (.lit (.int 0))) (.lit (.str (Str.ofString "note")))) [(.ret (.and (.bin .eq (.un .len (.var 0)) (.lit (.int 2))) (.call (Str.ofString "is_word") [(.bin .item (.var 0) (.lit (.int 1)))])))] []), (.ifS (.or (.bin .notin (.bin .item (.var 0) (.lit (.int 0))) (.tup [(.lit (.str (Str.ofString "take"))), (.lit (.str (Str.ofString "give"))), (.lit (.str (Str.ofString "need")))])) (.bin .ne (.un .len (.var 0)) (.lit (.int 3)))) [(.ret (.lit (.bool false)))] []), (.ret (.and (.call (Str.ofString "is_word") [(.bin .item (.var 0) (.lit (.int 1)))]) (.call (Str.ofString "is_within") [(.bin .item (.var 0) (.lit (.int 2))), (.lit (.int 1)), (.lit (.int 999))])))] }
def f_leaves_left : Fn := { np := 3, ns := 4, pure := false, body := [(.ifS (.or (.not (.isI (.var 0) (Str.ofString "tuple"))) (.or (.not (.var 0)) (.or (.not (.isI (.bin .item (.var 0) (.lit (.int 0))) (Str.ofString "str"))) (.bin .gt (.var 2) (.lit (.int 4)))))) [(.ret (.un .neg (.lit (.int 1))))] []), (.ifS (.bin .eq (.bin .item (.var 0) (.lit (.int 0))) (.lit (.str (Str.ofString "do")))) [(.ifS (.or (.bin .ne (.un .len (.var 0)) (.lit (.int 3))) (.or (.not (.call (Str.ofString "is_within") [(.bin .item (.var 0) (.lit (.int 1))), (.lit (.int 0)), (.bin .sub (.lit (.int 5)) (.lit (.int 1)))])) (.not (.call (Str.ofString "is_deed") [(.bin .item (.var 0) (.lit (.int 2)))])))) [(.ret (.un .neg (.lit (.int 1))))] []), (.ret (.bin .sub (.var 1) (.lit (.int 1))))] []), (.ifS (.or (.bin .notin (.bin .item (.var 0) (.lit (.int 0))) (.tup [(.lit (.str (Str.ofString "all"))), (.lit (.str (Str.ofString "any")))])) (.or (.bin .ne (.un .len (.var 0)) (.lit (.int 2))) (.not (.isI (.bin .item (.var 0) (.lit (.int 1))) (Str.ofString "tuple"))))) [(.ret (.un .neg (.lit (.int 1))))] []), (.ifS (.not (.chain .le .le (.lit (.int 1)) (.un .len (.bin .item (.var 0) (.lit (.int 1)))) (.lit (.int 4)))) [(.ret (.un .neg (.lit (.int 1))))] []), (.forS (.one 3) (.seq (.bin .item (.var 0) (.lit (.int 1)))) [(.ifS (.bin .ge (.var 1) (.lit (.int 0))) [(.set (.one 1) (.call (Str.ofString "leaves_left") [(.var 3), (.var 1), (.bin .add (.var 2) (.lit (.int 1)))]))] [])]), (.ret (.var 1))] }
def f_is_errand : Fn := { np := 1, ns := 1, pure := false, body := [(.ret (.bin .ge (.call (Str.ofString "leaves_left") [(.var 0), (.lit (.int 12)), (.lit (.int 1))]) (.lit (.int 0))))] }
def f_leaves_of : Fn := { np := 1, ns := 3, pure := true, body := [(.ifS (.bin .eq (.bin .item (.var 0) (.lit (.int 0))) (.lit (.str (Str.ofString "do")))) [(.ret (.lst [(.slice (.var 0) (some (.lit (.int 1))) none)]))] []), (.set (.one 1) (.box [])), (.forS (.one 2) (.seq (.bin .item (.var 0) (.lit (.int 1)))) [(.extend (.var 1) (.call (Str.ofString "leaves_of") [(.var 2)]))]), (.ret (.var 1))] }
def f_of_leaf : Fn := { np := 2, ns := 2, pure := false, body := [(.ifS (.bin .eq (.var 0) (.lit (.str (Str.ofString "new")))) [(.ret (.tup [(.lit (.str (Str.ofString "open"))), (.tup [(.lit (.str (Str.ofString "try"))), (.var 1)])]))] []), (.ifS (.bin .eq (.var 0) (.lit (.str (Str.ofString "doubt")))) [(.ret (.tup [(.lit (.str (Str.ofString "open"))), (.tup [(.lit (.str (Str.ofString "cancel"))), (.var 1)])]))] []), (.ifS (.bin .isin (.var 0) (.tup [(.lit (.str (Str.ofString "refused"))), (.lit (.str (Str.ofString "left")))])) [(.ret (.tup [(.lit (.str (Str.ofString "failed"))), (.lit .non)]))] []), (.ret (.tup [(.lit (.str (Str.ofString "good"))), (.lit .non)]))] }
def f_how : Fn := { np := 3, ns := 10, pure := false, body := [(.ifS (.bin .eq (.bin .item (.var 0) (.lit (.int 0))) (.lit (.str (Str.ofString "do")))) [(.set (.tup [(.one 3), (.one 4)]) (.call (Str.ofString "of_leaf") [(.bin .item (.var 1) (.var 2)), (.var 2)])), (.ret (.tup [(.var 3), (.var 4), (.bin .add (.var 2) (.lit (.int 1)))]))] []), (.set (.one 5) (.var 2)), (.set (.one 6) (.bin .add (.var 2) (.un .len (.call (Str.ofString "leaves_of") [(.var 0)])))), (.forS (.one 7) (.seq (.bin .item (.var 0) (.lit (.int 1)))) [(.set (.tup [(.one 3), (.one 4), (.one 2)]) (.call (Str.ofString "how") [(.var 7), (.var 1), (.var 2)])), (.ifS (.or (.bin .eq (.var 3) (.lit (.str (Str.ofString "open")))) (.and (.bin .eq (.bin .item (.var 0) (.lit (.int 0))) (.lit (.str (Str.ofString "any")))) (.bin .eq (.var 3) (.lit (.str (Str.ofString "good")))))) [(.ret (.tup [(.var 3), (.var 4), (.var 6)]))] []), (.ifS (.and (.bin .eq (.bin .item (.var 0) (.lit (.int 0))) (.lit (.str (Str.ofString "all")))) (.bin .eq (.var 3) (.lit (.str (Str.ofString "failed"))))) [(.set (.one 8) (.comp (.one 9) (.range2 (.var 5) (.var 6)) (some (.bin .eq (.bin .item (.var 1) (.var 9)) (.lit (.str (Str.ofString "tried"))))) (.var 9))), (.ifS (.var 8) [(.ret (.tup [(.lit (.str (Str.ofString "open"))), (.tup [(.lit (.str (Str.ofString "cancel"))), (.bin .item (.var 8) (.un .neg (.lit (.int 1))))]), (.var 6)]))] []), (.ret (.tup [(.lit (.str (Str.ofString "failed"))), (.lit .non), (.var 6)]))] [])]), (.expr (.split (.lit .non) (.lit .non)))] }
def f_next_of : Fn := { np := 2, ns := 5, pure := false, body := [(.set (.tup [(.one 2), (.one 3), (.one 4)]) (.call (Str.ofString "how") [(.var 0), (.var 1), (.lit (.int 0))])), (.ifS (.bin .eq (.var 2) (.lit (.str (Str.ofString "open")))) [(.ret (.var 3))] []), (.ret (.ite (.bin .eq (.var 2) (.lit (.str (Str.ofString "good")))) (.tup [(.lit (.str (Str.ofString "sure")))]) (.tup [(.lit (.str (Str.ofString "not")))])))] }
def f_Record_init : Fn := { np := 2, ns := 3, pure := false, body := [(.setF (.var 0) (Str.ofString "errand") (.var 1)), (.setF (.var 0) (Str.ofString "known") (.un .tuple (.comp (.one 2) (.seq (.call (Str.ofString "leaves_of") [(.var 1)])) none (.lit (.str (Str.ofString "new")))))), (.setF (.var 0) (Str.ofString "word") (.lit (.str (Str.ofString "open")))), (.setF (.var 0) (Str.ofString "kept") (.box []))] }
def f_Record_with_leaf : Fn := { np := 3, ns := 3, pure := false, body := [(.setF (.var 0) (Str.ofString "known") (.boxa (.bin .add (.slice (.fld (.var 0) (Str.ofString "known")) none (some (.var 1))) (.tup [(.var 2)])) (.slice (.fld (.var 0) (Str.ofString "known")) (some (.bin .add (.var 1) (.lit (.int 1)))) none)))] }
def f_Record_due : Fn := { np := 1, ns := 5, pure := false, body := [(.ifS (.bin .eq (.fld (.var 0) (Str.ofString "word")) (.lit (.str (Str.ofString "open")))) [(.set (.one 1) (.call (Str.ofString "next_of") [(.fld (.var 0) (Str.ofString "errand")), (.fld (.var 0) (Str.ofString "known"))])), (.ret (.ite (.bin .eq (.var 1) (.tup [(.lit (.str (Str.ofString "not")))])) (.tup [(.lit (.str (Str.ofString "end"))), (.lit (.str (Str.ofString "not")))]) (.var 1)))] []), (.ifS (.bin .eq (.fld (.var 0) (Str.ofString "word")) (.lit (.str (Str.ofString "sure")))) [(.set (.one 2) (.comp (.tup [(.one 3), (.one 4)]) (.enum (.fld (.var 0) (Str.ofString "known"))) (some (.and (.bin .eq (.var 4) (.lit (.str (Str.ofString "tried")))) (.bin .notin (.var 3) (.fld (.var 0) (Str.ofString "kept"))))) (.var 3))), (.ret (.ite (.var 2) (.tup [(.lit (.str (Str.ofString "keep"))), (.bin .item (.var 2) (.lit (.int 0)))]) (.tup [(.lit (.str (Str.ofString "end"))), (.lit (.str (Str.ofString "done")))])))] []), (.ret (.lit .non))] }
def f_Record_fits : Fn := { np := 2, ns := 4, pure := true, body := [(.set (.one 2) (.meth (.var 0) (Str.ofString "Record") (Str.ofString "due") [])), (.ifS (.or (.un .isNone (.var 2)) (.bin .isin (.bin .item (.var 1) (.lit (.int 0))) (.tup [(.lit (.str (Str.ofString "sure"))), (.lit (.str (Str.ofString "end")))]))) [(.ret (.and (.un .notNone (.var 2)) (.bin .eq (.bin .add (.tup [(.bin .item (.var 1) (.lit (.int 0)))]) (.slice (.var 1) (some (.lit (.int 2))) none)) (.var 2))))] []), (.expr (.split (.lit .non) (.lit .non))), (.expr (.split (.lit .non) (.lit .non)))] }
def f_Record_follow : Fn := { np := 2, ns := 2, pure := false, body := [(.ifS (.bin .isin (.bin .item (.var 1) (.lit (.int 0))) (.tup [(.lit (.str (Str.ofString "tried"))), (.lit (.str (Str.ofString "refused"))), (.lit (.str (Str.ofString "doubt")))])) [(.expr (.meth (.var 0) (Str.ofString "Record") (Str.ofString "with_leaf") [(.bin .item (.var 1) (.lit (.int 2))), (.bin .item (.var 1) (.lit (.int 0)))]))] []), (.ifS (.bin .eq (.bin .item (.var 1) (.lit (.int 0))) (.lit (.str (Str.ofString "gone")))) [(.expr (.meth (.var 0) (Str.ofString "Record") (Str.ofString "with_leaf") [(.bin .item (.var 1) (.lit (.int 2))), (.ite (.bin .eq (.bin .item (.fld (.var 0) (Str.ofString "known")) (.bin .item (.var 1) (.lit (.int 2)))) (.lit (.str (Str.ofString "tried")))) (.lit (.str (Str.ofString "gone"))) (.lit (.str (Str.ofString "left"))))]))] []), (.ifS (.bin .eq (.bin .item (.var 1) (.lit (.int 0))) (.lit (.str (Str.ofString "kept")))) [(.append (.fld (.var 0) (Str.ofString "kept")) (.bin .item (.var 1) (.lit (.int 2))))] []), (.ifS (.bin .eq (.bin .item (.var 1) (.lit (.int 0))) (.lit (.str (Str.ofString "sure")))) [(.setF (.var 0) (Str.ofString "word") (.lit (.str (Str.ofString "sure"))))] []), (.ifS (.bin .eq (.bin .item (.var 1) (.lit (.int 0))) (.lit (.str (Str.ofString "end")))) [(.setF (.var 0) (Str.ofString "word") (.bin .item (.var 1) (.lit (.int 2))))] [])] }
def f_is_row : Fn := { np := 1, ns := 2, pure := true, body := [(.expr (.split (.lit .non) (.lit .non))), (.ifS (.or (.not (.isI (.var 0) (Str.ofString "tuple"))) (.or (.not (.var 0)) (.or (.not (.isI (.bin .item (.var 0) (.lit (.int 0))) (Str.ofString "str"))) (.bin .notin (.bin .item (.var 0) (.lit (.int 0))) (.var 1))))) [(.ret (.lit (.bool false)))] []), (.ifS (.or (.bin .ne (.un .len (.var 0)) (.bin .item (.var 1) (.bin .item (.var 0) (.lit (.int 0))))) (.not (.call (Str.ofString "is_within") [(.bin .item (.var 0) (.lit (.int 1))), (.lit (.int 0)), (.lit (.int 9999))]))) [(.ret (.lit (.bool false)))] []), (.ifS (.bin .eq (.bin .item (.var 0) (.lit (.int 0))) (.lit (.str (Str.ofString "begin")))) [(.ret (.call (Str.ofString "is_errand") [(.bin .item (.var 0) (.lit (.int 2)))]))] []), (.ifS (.bin .eq (.bin .item (.var 0) (.lit (.int 0))) (.lit (.str (Str.ofString "end")))) [(.ret (.and (.isI (.bin .item (.var 0) (.lit (.int 2))) (Str.ofString "str")) (.bin .isin (.bin .item (.var 0) (.lit (.int 2))) (.tup [(.lit (.str (Str.ofString "done"))), (.lit (.str (Str.ofString "not")))]))))] []), (.ret (.or (.bin .eq (.un .len (.var 0)) (.lit (.int 2))) (.call (Str.ofString "is_within") [(.bin .item (.var 0) (.lit (.int 2))), (.lit (.int 0)), (.lit (.int 11))])))] }
def f_Book_init : Fn := { np := 2, ns := 3, pure := false, body := [(.ifS (.not (.isI (.var 1) (Str.ofString "list"))) [(.raise (Str.ofString "BadRow"))] []), (.setF (.var 0) (Str.ofString "lines") (.box [])), (.setF (.var 0) (Str.ofString "records") (.box [])), (.forS (.one 2) (.seq (.var 1)) [(.expr (.meth (.var 0) (Str.ofString "Book") (Str.ofString "add") [(.var 2)]))])] }
def f_Book_add : Fn := { np := 2, ns := 2, pure := false, body := [(.ifS (.not (.call (Str.ofString "is_row") [(.var 1)])) [(.raise (Str.ofString "BadRow"))] []), (.ifS (.bin .eq (.bin .item (.var 1) (.lit (.int 0))) (.lit (.str (Str.ofString "begin")))) [(.ifS (.bin .ne (.bin .item (.var 1) (.lit (.int 1))) (.un .len (.fld (.var 0) (Str.ofString "records")))) [(.raise (Str.ofString "BadRow"))] []), (.append (.fld (.var 0) (Str.ofString "records")) (.make (Str.ofString "Record") [(.bin .item (.var 1) (.lit (.int 2)))]))] [(.ifS (.or (.bin .ge (.bin .item (.var 1) (.lit (.int 1))) (.un .len (.fld (.var 0) (Str.ofString "records")))) (.not (.meth (.bin .item (.fld (.var 0) (Str.ofString "records")) (.bin .item (.var 1) (.lit (.int 1)))) (Str.ofString "Record") (Str.ofString "fits") [(.var 1)]))) [(.raise (Str.ofString "BadRow"))] []), (.expr (.meth (.bin .item (.fld (.var 0) (Str.ofString "records")) (.bin .item (.var 1) (.lit (.int 1)))) (Str.ofString "Record") (Str.ofString "follow") [(.var 1)]))]), (.append (.fld (.var 0) (Str.ofString "lines")) (.var 1))] }
def f_Book_rows : Fn := { np := 1, ns := 1, pure := false, body := [(.ret (.un .list (.fld (.var 0) (Str.ofString "lines"))))] }
def f_Book_opens : Fn := { np := 1, ns := 3, pure := false, body := [(.ret (.comp (.tup [(.one 1), (.one 2)]) (.enum (.fld (.var 0) (Str.ofString "records"))) (some (.bin .isin (.fld (.var 2) (Str.ofString "word")) (.tup [(.lit (.str (Str.ofString "open"))), (.lit (.str (Str.ofString "sure")))]))) (.var 1)))] }
def f_Book_stands : Fn := { np := 1, ns := 2, pure := false, body := [(.ret (.comp (.one 1) (.seq (.fld (.var 0) (Str.ofString "records"))) none (.tup [(.fld (.var 1) (Str.ofString "errand")), (.fld (.var 1) (Str.ofString "known")), (.fld (.var 1) (Str.ofString "word"))])))] }
def f_are_rooms : Fn := { np := 1, ns := 3, pure := false, body := [(.ifS (.or (.not (.isI (.var 0) (Str.ofString "tuple"))) (.bin .gt (.un .len (.var 0)) (.lit (.int 6)))) [(.ret (.lit (.bool false)))] []), (.forS (.one 1) (.seq (.var 0)) [(.ifS (.or (.not (.isI (.var 1) (Str.ofString "tuple"))) (.or (.bin .ne (.un .len (.var 1)) (.lit (.int 3))) (.not (.call (Str.ofString "is_word") [(.bin .item (.var 1) (.lit (.int 0)))])))) [(.ret (.lit (.bool false)))] []), (.ifS (.or (.not (.call (Str.ofString "is_within") [(.bin .item (.var 1) (.lit (.int 2))), (.lit (.int 0)), (.lit (.int 999))])) (.not (.call (Str.ofString "is_within") [(.bin .item (.var 1) (.lit (.int 1))), (.lit (.int 0)), (.bin .item (.var 1) (.lit (.int 2)))]))) [(.ret (.lit (.bool false)))] [])]), (.ret (.not (.comp (.one 2) (.range2 (.lit (.int 1)) (.un .len (.var 0))) (some (.bin .ge (.bin .item (.bin .item (.var 0) (.bin .sub (.var 2) (.lit (.int 1)))) (.lit (.int 0))) (.bin .item (.bin .item (.var 0) (.var 2)) (.lit (.int 0))))) (.var 2))))] }
def f_is_mark : Fn := { np := 1, ns := 1, pure := false, body := [(.ifS (.or (.not (.isI (.var 0) (Str.ofString "tuple"))) (.bin .ne (.un .len (.var 0)) (.lit (.int 2)))) [(.ret (.lit (.bool false)))] []), (.ret (.and (.call (Str.ofString "is_within") [(.bin .item (.var 0) (.lit (.int 0))), (.lit (.int 0)), (.lit (.int 9999))]) (.call (Str.ofString "is_within") [(.bin .item (.var 0) (.lit (.int 1))), (.lit (.int 0)), (.lit (.int 9999))])))] }
def f_look_mark : Fn := { np := 1, ns := 1, pure := false, body := [(.ifS (.not (.call (Str.ofString "is_mark") [(.var 0)])) [(.raise (Str.ofString "BadMark"))] [])] }
def f_House_init : Fn := { np := 2, ns := 5, pure := false, body := [(.ifS (.not (.call (Str.ofString "are_rooms") [(.var 1)])) [(.raise (Str.ofString "BadRooms"))] []), (.setF (.var 0) (Str.ofString "counts") (.dictOf (.comp (.tup [(.one 2), (.one 3), (.one 4)]) (.seq (.var 1)) none (.tup [(.var 2), (.var 3)])))), (.setF (.var 0) (Str.ofString "tops") (.dictOf (.comp (.tup [(.one 2), (.one 3), (.one 4)]) (.seq (.var 1)) none (.tup [(.var 2), (.var 4)])))), (.setF (.var 0) (Str.ofString "held") .newT), (.setF (.var 0) (Str.ofString "kept") .newT), (.setF (.var 0) (Str.ofString "barred") .newT), (.setF (.var 0) (Str.ofString "words") (.box []))] }
def f_House_look_key : Fn := { np := 2, ns := 2, pure := false, body := [(.expr (.call (Str.ofString "_wall") [(.lit (.int 0))]))] }
def f_House_of_held : Fn := { np := 3, ns := 6, pure := false, body := [(.expr (.split (.lit .non) (.lit .non))), (.ret (.un .sum (.comp (.one 5) (.seq (.var 3)) (some (.and (.bin .eq (.bin .item (.var 5) (.lit (.int 0))) (.var 2)) (.bin .eq (.bin .item (.var 5) (.lit (.int 1))) (.var 1)))) (.bin .item (.var 5) (.lit (.int 2))))))] }
def f_House_space : Fn := { np := 2, ns := 3, pure := false, body := [(.set (.one 2) (.bin .add (.meth (.var 0) (Str.ofString "House") (Str.ofString "of_held") [(.var 1), (.lit (.str (Str.ofString "give")))]) (.meth (.var 0) (Str.ofString "House") (Str.ofString "of_held") [(.var 1), (.lit (.str (Str.ofString "take")))]))), (.ret (.bin .sub (.bin .sub (.bin .item (.fld (.var 0) (Str.ofString "tops")) (.var 1)) (.bin .item (.fld (.var 0) (Str.ofString "counts")) (.var 1))) (.var 2)))] }
def f_House_can : Fn := { np := 2, ns := 2, pure := false, body := [(.ifS (.bin .eq (.bin .item (.var 1) (.lit (.int 0))) (.lit (.str (Str.ofString "note")))) [(.ret (.lit (.bool true)))] []), (.ifS (.bin .notin (.bin .item (.var 1) (.lit (.int 1))) (.fld (.var 0) (Str.ofString "counts"))) [(.ret (.lit (.bool false)))] []), (.ifS (.bin .eq (.bin .item (.var 1) (.lit (.int 0))) (.lit (.str (Str.ofString "give")))) [(.ret (.bin .le (.bin .item (.var 1) (.lit (.int 2))) (.meth (.var 0) (Str.ofString "House") (Str.ofString "space") [(.bin .item (.var 1) (.lit (.int 1)))])))] []), (.ret (.bin .le (.bin .item (.var 1) (.lit (.int 2))) (.bin .item (.fld (.var 0) (Str.ofString "counts")) (.bin .item (.var 1) (.lit (.int 1))))))] }
def f_House_attempt : Fn := { np := 3, ns := 3, pure := false, body := [(.expr (.call (Str.ofString "look_mark") [(.var 1)])), (.ifS (.not (.call (Str.ofString "is_deed") [(.var 2)])) [(.raise (Str.ofString "BadDeed"))] []), (.ifS (.or (.bin .isin (.var 1) (.fld (.var 0) (Str.ofString "held"))) (.bin .isin (.var 1) (.fld (.var 0) (Str.ofString "kept")))) [(.ret (.lit (.str (Str.ofString "ok"))))] []), (.ifS (.bin .isin (.var 1) (.fld (.var 0) (Str.ofString "barred"))) [(.ret (.lit (.str (Str.ofString "barred"))))] []), (.ifS (.not (.meth (.var 0) (Str.ofString "House") (Str.ofString "can") [(.var 2)])) [(.ret (.lit (.str (Str.ofString "refused"))))] []), (.setI (.fld (.var 0) (Str.ofString "held")) (.var 1) (.var 2)), (.ifS (.bin .eq (.bin .item (.var 2) (.lit (.int 0))) (.lit (.str (Str.ofString "take")))) [(.augI (.fld (.var 0) (Str.ofString "counts")) (.bin .item (.var 2) (.lit (.int 1))) .sub (.bin .item (.var 2) (.lit (.int 2))))] []), (.ret (.lit (.str (Str.ofString "ok"))))] }
def f_House_confirm : Fn := { np := 2, ns := 3, pure := false, body := [(.expr (.call (Str.ofString "look_mark") [(.var 1)])), (.ifS (.bin .isin (.var 1) (.fld (.var 0) (Str.ofString "kept"))) [(.ret (.lit (.str (Str.ofString "ok"))))] []), (.ifS (.bin .notin (.var 1) (.fld (.var 0) (Str.ofString "held"))) [(.raise (Str.ofString "NoHold"))] []), (.expr (.split (.lit .non) (.lit .non))), (.setI (.fld (.var 0) (Str.ofString "kept")) (.var 1) (.var 2)), (.ifS (.bin .eq (.bin .item (.var 2) (.lit (.int 0))) (.lit (.str (Str.ofString "give")))) [(.augI (.fld (.var 0) (Str.ofString "counts")) (.bin .item (.var 2) (.lit (.int 1))) .add (.bin .item (.var 2) (.lit (.int 2))))] []), (.ifS (.bin .eq (.bin .item (.var 2) (.lit (.int 0))) (.lit (.str (Str.ofString "note")))) [(.append (.fld (.var 0) (Str.ofString "words")) (.bin .item (.var 2) (.lit (.int 1))))] []), (.ret (.lit (.str (Str.ofString "ok"))))] }
def f_House_cancel : Fn := { np := 2, ns := 3, pure := false, body := [(.expr (.call (Str.ofString "look_mark") [(.var 1)])), (.ifS (.bin .isin (.var 1) (.fld (.var 0) (Str.ofString "kept"))) [(.raise (Str.ofString "NoHold"))] []), (.ifS (.bin .isin (.var 1) (.fld (.var 0) (Str.ofString "held"))) [(.expr (.split (.lit .non) (.lit .non))), (.ifS (.bin .eq (.bin .item (.var 2) (.lit (.int 0))) (.lit (.str (Str.ofString "take")))) [(.augI (.fld (.var 0) (Str.ofString "counts")) (.bin .item (.var 2) (.lit (.int 1))) .add (.bin .item (.var 2) (.lit (.int 2))))] [])] []), (.setI (.fld (.var 0) (Str.ofString "barred")) (.var 1) (.lit (.bool true))), (.ret (.lit (.str (Str.ofString "ok"))))] }
def f_House_stock : Fn := { np := 1, ns := 1, pure := false, body := [(.expr (.call (Str.ofString "_wall") [(.lit (.int 1))]))] }
def f_House_room : Fn := { np := 2, ns := 2, pure := false, body := [(.expr (.call (Str.ofString "_wall") [(.lit (.int 2))]))] }
def f_House_holds : Fn := { np := 1, ns := 1, pure := false, body := [(.expr (.call (Str.ofString "_wall") [(.lit (.int 3))]))] }
def f_House_keeps : Fn := { np := 1, ns := 1, pure := false, body := [(.expr (.call (Str.ofString "_wall") [(.lit (.int 4))]))] }
def f_House_bars : Fn := { np := 1, ns := 1, pure := false, body := [(.expr (.call (Str.ofString "_wall") [(.lit (.int 5))]))] }
def f_House_notes : Fn := { np := 1, ns := 1, pure := false, body := [(.expr (.call (Str.ofString "_wall") [(.lit (.int 6))]))] }
def f_Road_init : Fn := { np := 2, ns := 3, pure := false, body := [(.ifS (.or (.not (.isI (.var 1) (Str.ofString "tuple"))) (.comp (.one 2) (.seq (.var 1)) (some (.not (.isI (.var 2) (Str.ofString "str")))) (.var 2))) [(.raise (Str.ofString "BadRoad"))] []), (.ifS (.comp (.one 2) (.seq (.var 1)) (some (.bin .notin (.var 2) (.tup [(.lit (.str (Str.ofString "good"))), (.lit (.str (Str.ofString "lost"))), (.lit (.str (Str.ofString "deaf")))]))) (.var 2)) [(.raise (Str.ofString "BadRoad"))] []), (.setF (.var 0) (Str.ofString "words") (.var 1)), (.setF (.var 0) (Str.ofString "at") (.lit (.int 0)))] }
def f_Road_use : Fn := { np := 1, ns := 1, pure := false, body := [(.augF (.var 0) (Str.ofString "at") .add 1), (.ret (.ite (.bin .le (.fld (.var 0) (Str.ofString "at")) (.un .len (.fld (.var 0) (Str.ofString "words")))) (.bin .item (.fld (.var 0) (Str.ofString "words")) (.bin .sub (.fld (.var 0) (Str.ofString "at")) (.lit (.int 1)))) (.lit (.str (Str.ofString "good")))))] }
def f_Road_used : Fn := { np := 1, ns := 1, pure := false, body := [(.ret (.fld (.var 0) (Str.ofString "at")))] }
def f_are_houses : Fn := { np := 1, ns := 2, pure := false, body := [(.ifS (.or (.not (.isI (.var 0) (Str.ofString "tuple"))) (.not (.chain .le .le (.lit (.int 1)) (.un .len (.var 0)) (.lit (.int 5))))) [(.ret (.lit (.bool false)))] []), (.ret (.not (.comp (.one 1) (.seq (.var 0)) (some (.not (.isI (.var 1) (Str.ofString "House")))) (.var 1))))] }
def f_Runner_init : Fn := { np := 6, ns := 6, pure := false, body := [(.ifS (.or (.not (.call (Str.ofString "are_houses") [(.var 1)])) (.or (.not (.isI (.var 2) (Str.ofString "Book"))) (.not (.isI (.var 3) (Str.ofString "Road"))))) [(.raise (Str.ofString "BadRoad"))] []), (.ifS (.or (.not (.call (Str.ofString "is_within") [(.var 4), (.lit (.int 0)), (.lit (.int 9))])) (.and (.un .notNone (.var 5)) (.not (.call (Str.ofString "is_within") [(.var 5), (.lit (.int 0)), (.lit (.int 100000))])))) [(.raise (Str.ofString "BadRoad"))] []), (.setF (.var 0) (Str.ofString "houses") (.var 1)), (.setF (.var 0) (Str.ofString "book") (.var 2)), (.setF (.var 0) (Str.ofString "road") (.var 3)), (.setF (.var 0) (Str.ofString "again") (.var 4)), (.setF (.var 0) (Str.ofString "left") (.var 5))] }
def f_Runner_spend : Fn := { np := 1, ns := 1, pure := false, body := [(.ifS (.bin .eq (.fld (.var 0) (Str.ofString "left")) (.lit (.int 0))) [(.raise (Str.ofString "Stopped"))] []), (.ifS (.un .notNone (.fld (.var 0) (Str.ofString "left"))) [(.augF (.var 0) (Str.ofString "left") .sub 1)] [])] }
def f_Runner_write : Fn := { np := 2, ns := 2, pure := false, body := [(.expr (.meth (.var 0) (Str.ofString "Runner") (Str.ofString "spend") [])), (.expr (.meth (.fld (.var 0) (Str.ofString "book")) (Str.ofString "Book") (Str.ofString "add") [(.var 1)])), (.ret (.var 1))] }
def f_Runner_call : Fn := { np := 4, ns := 7, pure := false, body := [(.expr (.meth (.var 0) (Str.ofString "Runner") (Str.ofString "spend") [])), (.set (.one 4) (.meth (.fld (.var 0) (Str.ofString "road")) (Str.ofString "Road") (Str.ofString "use") [])), (.ifS (.bin .eq (.var 4) (.lit (.str (Str.ofString "lost")))) [(.ret (.lit .non))] []), (.set (.one 5) (.bin .item (.fld (.var 0) (Str.ofString "houses")) (.bin .item (.var 2) (.lit (.int 0))))), (.ifS (.bin .eq (.var 1) (.lit (.str (Str.ofString "try")))) [(.set (.one 6) (.meth (.var 5) (Str.ofString "House") (Str.ofString "attempt") [(.var 3), (.bin .item (.var 2) (.lit (.int 1)))]))] [(.ifS (.bin .eq (.var 1) (.lit (.str (Str.ofString "keep")))) [(.set (.one 6) (.meth (.var 5) (Str.ofString "House") (Str.ofString "confirm") [(.var 3)]))] [(.set (.one 6) (.meth (.var 5) (Str.ofString "House") (Str.ofString "cancel") [(.var 3)]))])]), (.ret (.ite (.bin .eq (.var 4) (.lit (.str (Str.ofString "good")))) (.var 6) (.lit .non)))] }
def f_Runner_begin : Fn := { np := 2, ns := 4, pure := false, body := [(.ifS (.or (.not (.call (Str.ofString "is_errand") [(.var 1)])) (.comp (.one 2) (.seq (.call (Str.ofString "leaves_of") [(.var 1)])) (some (.bin .ge (.bin .item (.var 2) (.lit (.int 0))) (.un .len (.fld (.var 0) (Str.ofString "houses"))))) (.var 2))) [(.raise (Str.ofString "BadErrand"))] []), (.set (.one 3) (.un .len (.meth (.fld (.var 0) (Str.ofString "book")) (Str.ofString "Book") (Str.ofString "stands") []))), (.expr (.meth (.var 0) (Str.ofString "Runner") (Str.ofString "write") [(.tup [(.lit (.str (Str.ofString "begin"))), (.var 3), (.var 1)])])), (.ret (.var 3))] }
def f_Runner_move : Fn := { np := 2, ns := 9, pure := false, body := [(.ifS (.or (.not (.call (Str.ofString "is_within") [(.var 1), (.lit (.int 0)), (.lit (.int 9999))])) (.bin .notin (.var 1) (.meth (.fld (.var 0) (Str.ofString "book")) (Str.ofString "Book") (Str.ofString "opens") []))) [(.raise (Str.ofString "NoErrand"))] []), (.set (.one 2) (.bin .item (.fld (.fld (.var 0) (Str.ofString "book")) (Str.ofString "records")) (.var 1))), (.set (.one 3) (.meth (.var 2) (Str.ofString "Record") (Str.ofString "due") [])), (.ifS (.bin .eq (.var 3) (.tup [(.lit (.str (Str.ofString "sure")))])) [(.ret (.meth (.var 0) (Str.ofString "Runner") (Str.ofString "write") [(.tup [(.lit (.str (Str.ofString "sure"))), (.var 1)])]))] []), (.ifS (.bin .eq (.bin .item (.var 3) (.lit (.int 0))) (.lit (.str (Str.ofString "end")))) [(.ret (.meth (.var 0) (Str.ofString "Runner") (Str.ofString "write") [(.tup [(.lit (.str (Str.ofString "end"))), (.var 1), (.bin .item (.var 3) (.lit (.int 1)))])]))] []), (.set (.one 4) (.bin .item (.call (Str.ofString "leaves_of") [(.fld (.var 2) (Str.ofString "errand"))]) (.bin .item (.var 3) (.lit (.int 1))))), (.set (.one 5) (.tup [(.var 1), (.bin .item (.var 3) (.lit (.int 1)))])), (.set (.one 6) (.meth (.var 0) (Str.ofString "Runner") (Str.ofString "call") [(.bin .item (.var 3) (.lit (.int 0))), (.var 4), (.var 5)])), (.set (.one 7) (.lit (.int 1))), (.whileS (.and (.un .isNone (.var 6)) (.or (.bin .ne (.bin .item (.var 3) (.lit (.int 0))) (.lit (.str (Str.ofString "try")))) (.bin .le (.var 7) (.fld (.var 0) (Str.ofString "again"))))) [(.set (.one 6) (.meth (.var 0) (Str.ofString "Runner") (Str.ofString "call") [(.bin .item (.var 3) (.lit (.int 0))), (.var 4), (.var 5)])), (.augV 7 .add (.lit (.int 1)))]), (.ifS (.bin .eq (.bin .item (.var 3) (.lit (.int 0))) (.lit (.str (Str.ofString "cancel")))) [(.ret (.meth (.var 0) (Str.ofString "Runner") (Str.ofString "write") [(.tup [(.lit (.str (Str.ofString "gone"))), (.var 1), (.bin .item (.var 3) (.lit (.int 1)))])]))] []), (.ifS (.bin .eq (.bin .item (.var 3) (.lit (.int 0))) (.lit (.str (Str.ofString "keep")))) [(.ret (.meth (.var 0) (Str.ofString "Runner") (Str.ofString "write") [(.tup [(.lit (.str (Str.ofString "kept"))), (.var 1), (.bin .item (.var 3) (.lit (.int 1)))])]))] []), (.expr (.split (.lit .non) (.lit .non))), (.ret (.meth (.var 0) (Str.ofString "Runner") (Str.ofString "write") [(.tup [(.var 8), (.var 1), (.bin .item (.var 3) (.lit (.int 1)))])]))] }
def f_Runner_finish : Fn := { np := 1, ns := 3, pure := false, body := [(.set (.one 1) (.box [])), (.forS (.one 2) (.seq (.meth (.fld (.var 0) (Str.ofString "book")) (Str.ofString "Book") (Str.ofString "opens") [])) [(.whileS (.bin .isin (.var 2) (.meth (.fld (.var 0) (Str.ofString "book")) (Str.ofString "Book") (Str.ofString "opens") [])) [(.append (.var 1) (.meth (.var 0) (Str.ofString "Runner") (Str.ofString "move") [(.var 2)]))])]), (.ret (.var 1))] }
def f_Runner_moves_left : Fn := { np := 1, ns := 1, pure := false, body := [(.expr (.call (Str.ofString "_wall") [(.lit (.int 7))]))] }
def f__law_cell : Fn := { np := 2, ns := 2, pure := false, body := [(.ifS (.bin .lt (.var 1) (.un .len (.var 0))) [(.ret (.bin .item (.var 0) (.var 1)))] []), (.ret (.lit (.int 0)))] }
def f_law : Fn := { np := 1, ns := 16, pure := false, body := [(.set (.one 1) (.tup [(.make (Str.ofString "House") [(.tup [(.tup [(.lit (.str (Str.ofString "a"))), (.lit (.int 1)), (.lit (.int 5))])])]), (.make (Str.ofString "House") [(.tup [])])])), (.set (.one 2) (.make (Str.ofString "Book") [(.lst [])])), (.set (.one 3) (.make (Str.ofString "Road") [(.tup [(.lit (.str (Str.ofString "lost")))])])), (.set (.one 4) (.box [(.tup [(.tup []), (.var 2), (.var 3), (.lit (.int 0)), (.lit .non)]), (.tup [(.un .list (.var 1)), (.var 2), (.var 3), (.lit (.int 0)), (.lit .non)]), (.tup [(.bin .mul (.var 1) (.lit (.int 3))), (.var 2), (.var 3), (.lit (.int 0)), (.lit .non)])])), (.set (.one 4) (.boxa (.var 4) (.lst [(.tup [(.tup [(.lit .non)]), (.var 2), (.var 3), (.lit (.int 0)), (.lit .non)]), (.tup [(.var 1), (.lit .non), (.var 3), (.lit (.int 0)), (.lit .non)]), (.tup [(.var 1), (.lst []), (.var 3), (.lit (.int 0)), (.lit .non)])]))), (.set (.one 4) (.boxa (.var 4) (.lst [(.tup [(.var 1), (.var 2), (.lit .non), (.lit (.int 0)), (.lit .non)]), (.tup [(.var 1), (.var 2), (.tup [(.lit (.str (Str.ofString "good")))]), (.lit (.int 0)), (.lit .non)]), (.tup [(.var 1), (.var 2), (.var 3), (.un .neg (.lit (.int 1))), (.lit .non)])]))), (.set (.one 4) (.boxa (.var 4) (.lst [(.tup [(.var 1), (.var 2), (.var 3), (.lit (.int 10)), (.lit .non)]), (.tup [(.var 1), (.var 2), (.var 3), (.lit (.bool true)), (.lit .non)]), (.tup [(.var 1), (.var 2), (.var 3), (.lit (.int 0)), (.un .neg (.lit (.int 1)))])]))), (.append (.var 4) (.tup [(.var 1), (.var 2), (.var 3), (.lit (.int 0)), (.lit (.int 100001))])), (.set (.tup [(.one 5), (.one 6), (.one 7), (.one 8), (.one 9)]) (.bin .item (.var 4) (.bin .mod (.call (Str.ofString "_law_cell") [(.var 0), (.lit (.int 0))]) (.lit (.int 13))))), (.set (.one 10) (.lst [(.lit .non), (.lst [(.lit (.str (Str.ofString "good")))]), (.tup [(.lit (.str (Str.ofString "good"))), (.lit (.str (Str.ofString "bad")))]), (.tup [(.lit (.str (Str.ofString "good"))), (.lit .non)]), (.lit (.str (Str.ofString "good"))), (.tup [(.lit (.int 1))])])), (.set (.one 11) (.make (Str.ofString "Runner") [(.var 1), (.var 2), (.var 3), (.lit (.int 0)), (.lit (.int 0))])), (.set (.one 12) (.tup [(.lit (.str (Str.ofString "do"))), (.lit (.int 0)), (.tup [(.lit (.str (Str.ofString "note"))), (.lit (.str (Str.ofString "a")))])])), (.set (.one 13) (.lst [(.lit .non), (.tup [(.lit (.str (Str.ofString "do"))), (.lit (.int 2)), (.tup [(.lit (.str (Str.ofString "note"))), (.lit (.str (Str.ofString "a")))])]), (.tup [(.lit (.str (Str.ofString "all"))), (.tup [(.var 12), (.tup [(.lit (.str (Str.ofString "do"))), (.lit (.int 4)), (.tup [(.lit (.str (Str.ofString "note"))), (.lit (.str (Str.ofString "b")))])])])]), (.tup [(.lit (.str (Str.ofString "any"))), (.tup [])]), (.bin .add (.var 12) (.tup [(.lit (.int 1))]))])), (.set (.one 14) (.box [])), (.forS (.one 15) (.range1 (.lit (.int 4))) [(.tryS [(.ifS (.bin .eq (.var 15) (.lit (.int 0))) [(.expr (.make (Str.ofString "Runner") [(.var 5), (.var 6), (.var 7), (.var 8), (.var 9)]))] [(.ifS (.bin .eq (.var 15) (.lit (.int 1))) [(.expr (.make (Str.ofString "Road") [(.bin .item (.var 10) (.bin .mod (.call (Str.ofString "_law_cell") [(.var 0), (.lit (.int 1))]) (.lit (.int 6))))]))] [(.ifS (.bin .eq (.var 15) (.lit (.int 2))) [(.expr (.meth (.var 11) (Str.ofString "Runner") (Str.ofString "begin") [(.bin .item (.var 13) (.bin .mod (.call (Str.ofString "_law_cell") [(.var 0), (.lit (.int 2))]) (.lit (.int 5))))]))] [(.expr (.meth (.var 11) (Str.ofString "Runner") (Str.ofString "move") [(.bin .item (.lst [(.lit (.int 0)), (.un .neg (.lit (.int 1))), (.lit .non), (.lit (.bool true)), (.lit (.str (Str.ofString "0"))), (.lit (.int 10000))]) (.bin .mod (.call (Str.ofString "_law_cell") [(.var 0), (.lit (.int 3))]) (.lit (.int 6))))]))])])])] [Str.ofString "BadRoad", Str.ofString "BadErrand", Str.ofString "NoErrand"] [[(.append (.var 14) (.lit (.str (Str.ofString "road"))))], [(.append (.var 14) (.lit (.str (Str.ofString "errand"))))], [(.append (.var 14) (.lit (.str (Str.ofString "none"))))]])]), (.ifS (.or (.bin .ne (.var 14) (.lst [(.lit (.str (Str.ofString "road"))), (.lit (.str (Str.ofString "road"))), (.lit (.str (Str.ofString "errand"))), (.lit (.str (Str.ofString "none")))])) (.bin .ne (.meth (.var 2) (Str.ofString "Book") (Str.ofString "rows") []) (.lst []))) [(.ret (.lit (.bool false)))] []), (.ret (.and (.bin .eq (.meth (.var 3) (Str.ofString "Road") (Str.ofString "used") []) (.lit (.int 0))) (.bin .eq (.meth (.var 11) (Str.ofString "Runner") (Str.ofString "finish") []) (.lst []))))] }
def tab : List (Str × Fn) := [((Str.ofString "_wall"), f__wall), ((Str.ofString "is_within"), f_is_within), ((Str.ofString "is_word"), f_is_word), ((Str.ofString "is_deed"), f_is_deed), ((Str.ofString "leaves_left"), f_leaves_left), ((Str.ofString "is_errand"), f_is_errand), ((Str.ofString "leaves_of"), f_leaves_of), ((Str.ofString "of_leaf"), f_of_leaf), ((Str.ofString "how"), f_how), ((Str.ofString "next_of"), f_next_of), ((dot (Str.ofString "Record") (Str.ofString "__init__")), f_Record_init), ((dot (Str.ofString "Record") (Str.ofString "with_leaf")), f_Record_with_leaf), ((dot (Str.ofString "Record") (Str.ofString "due")), f_Record_due), ((dot (Str.ofString "Record") (Str.ofString "fits")), f_Record_fits), ((dot (Str.ofString "Record") (Str.ofString "follow")), f_Record_follow), ((Str.ofString "is_row"), f_is_row), ((dot (Str.ofString "Book") (Str.ofString "__init__")), f_Book_init), ((dot (Str.ofString "Book") (Str.ofString "add")), f_Book_add), ((dot (Str.ofString "Book") (Str.ofString "rows")), f_Book_rows), ((dot (Str.ofString "Book") (Str.ofString "opens")), f_Book_opens), ((dot (Str.ofString "Book") (Str.ofString "stands")), f_Book_stands), ((Str.ofString "are_rooms"), f_are_rooms), ((Str.ofString "is_mark"), f_is_mark), ((Str.ofString "look_mark"), f_look_mark), ((dot (Str.ofString "House") (Str.ofString "__init__")), f_House_init), ((dot (Str.ofString "House") (Str.ofString "look_key")), f_House_look_key), ((dot (Str.ofString "House") (Str.ofString "of_held")), f_House_of_held), ((dot (Str.ofString "House") (Str.ofString "space")), f_House_space), ((dot (Str.ofString "House") (Str.ofString "can")), f_House_can), ((dot (Str.ofString "House") (Str.ofString "attempt")), f_House_attempt), ((dot (Str.ofString "House") (Str.ofString "confirm")), f_House_confirm), ((dot (Str.ofString "House") (Str.ofString "cancel")), f_House_cancel), ((dot (Str.ofString "House") (Str.ofString "stock")), f_House_stock), ((dot (Str.ofString "House") (Str.ofString "room")), f_House_room), ((dot (Str.ofString "House") (Str.ofString "holds")), f_House_holds), ((dot (Str.ofString "House") (Str.ofString "keeps")), f_House_keeps), ((dot (Str.ofString "House") (Str.ofString "bars")), f_House_bars), ((dot (Str.ofString "House") (Str.ofString "notes")), f_House_notes), ((dot (Str.ofString "Road") (Str.ofString "__init__")), f_Road_init), ((dot (Str.ofString "Road") (Str.ofString "use")), f_Road_use), ((dot (Str.ofString "Road") (Str.ofString "used")), f_Road_used), ((Str.ofString "are_houses"), f_are_houses), ((dot (Str.ofString "Runner") (Str.ofString "__init__")), f_Runner_init), ((dot (Str.ofString "Runner") (Str.ofString "spend")), f_Runner_spend), ((dot (Str.ofString "Runner") (Str.ofString "write")), f_Runner_write), ((dot (Str.ofString "Runner") (Str.ofString "call")), f_Runner_call), ((dot (Str.ofString "Runner") (Str.ofString "begin")), f_Runner_begin), ((dot (Str.ofString "Runner") (Str.ofString "move")), f_Runner_move), ((dot (Str.ofString "Runner") (Str.ofString "finish")), f_Runner_finish), ((dot (Str.ofString "Runner") (Str.ofString "moves_left")), f_Runner_moves_left), ((Str.ofString "_law_cell"), f__law_cell), ((Str.ofString "law"), f_law)]
def T : Tab := fun x => (tab.find? fun p => decide (p.1 = x)).map (·.2)
theorem T__wall : T (Str.ofString "_wall") = some f__wall := by kernel_rfl
theorem T_is_within : T (Str.ofString "is_within") = some f_is_within := by kernel_rfl
theorem T_is_word : T (Str.ofString "is_word") = some f_is_word := by kernel_rfl
theorem T_is_deed : T (Str.ofString "is_deed") = some f_is_deed := by kernel_rfl
theorem T_leaves_left : T (Str.ofString "leaves_left") = some f_leaves_left := by kernel_rfl
theorem T_is_errand : T (Str.ofString "is_errand") = some f_is_errand := by kernel_rfl
theorem T_leaves_of : T (Str.ofString "leaves_of") = some f_leaves_of := by kernel_rfl
theorem T_of_leaf : T (Str.ofString "of_leaf") = some f_of_leaf := by kernel_rfl
theorem T_how : T (Str.ofString "how") = some f_how := by kernel_rfl
theorem T_next_of : T (Str.ofString "next_of") = some f_next_of := by kernel_rfl
theorem T_Record_init : T (dot (Str.ofString "Record") (Str.ofString "__init__")) = some f_Record_init := by kernel_rfl
theorem T_Record_with_leaf : T (dot (Str.ofString "Record") (Str.ofString "with_leaf")) = some f_Record_with_leaf := by kernel_rfl
theorem T_Record_due : T (dot (Str.ofString "Record") (Str.ofString "due")) = some f_Record_due := by kernel_rfl
theorem T_Record_fits : T (dot (Str.ofString "Record") (Str.ofString "fits")) = some f_Record_fits := by kernel_rfl
theorem T_Record_follow : T (dot (Str.ofString "Record") (Str.ofString "follow")) = some f_Record_follow := by kernel_rfl
theorem T_is_row : T (Str.ofString "is_row") = some f_is_row := by kernel_rfl
theorem T_Book_init : T (dot (Str.ofString "Book") (Str.ofString "__init__")) = some f_Book_init := by kernel_rfl
theorem T_Book_add : T (dot (Str.ofString "Book") (Str.ofString "add")) = some f_Book_add := by kernel_rfl
theorem T_Book_rows : T (dot (Str.ofString "Book") (Str.ofString "rows")) = some f_Book_rows := by kernel_rfl
theorem T_Book_opens : T (dot (Str.ofString "Book") (Str.ofString "opens")) = some f_Book_opens := by kernel_rfl
theorem T_Book_stands : T (dot (Str.ofString "Book") (Str.ofString "stands")) = some f_Book_stands := by kernel_rfl
theorem T_are_rooms : T (Str.ofString "are_rooms") = some f_are_rooms := by kernel_rfl
theorem T_is_mark : T (Str.ofString "is_mark") = some f_is_mark := by kernel_rfl
theorem T_look_mark : T (Str.ofString "look_mark") = some f_look_mark := by kernel_rfl
theorem T_House_init : T (dot (Str.ofString "House") (Str.ofString "__init__")) = some f_House_init := by kernel_rfl
theorem T_House_look_key : T (dot (Str.ofString "House") (Str.ofString "look_key")) = some f_House_look_key := by kernel_rfl
theorem T_House_of_held : T (dot (Str.ofString "House") (Str.ofString "of_held")) = some f_House_of_held := by kernel_rfl
theorem T_House_space : T (dot (Str.ofString "House") (Str.ofString "space")) = some f_House_space := by kernel_rfl
theorem T_House_can : T (dot (Str.ofString "House") (Str.ofString "can")) = some f_House_can := by kernel_rfl
theorem T_House_attempt : T (dot (Str.ofString "House") (Str.ofString "attempt")) = some f_House_attempt := by kernel_rfl
theorem T_House_confirm : T (dot (Str.ofString "House") (Str.ofString "confirm")) = some f_House_confirm := by kernel_rfl
theorem T_House_cancel : T (dot (Str.ofString "House") (Str.ofString "cancel")) = some f_House_cancel := by kernel_rfl
theorem T_House_stock : T (dot (Str.ofString "House") (Str.ofString "stock")) = some f_House_stock := by kernel_rfl
theorem T_House_room : T (dot (Str.ofString "House") (Str.ofString "room")) = some f_House_room := by kernel_rfl
theorem T_House_holds : T (dot (Str.ofString "House") (Str.ofString "holds")) = some f_House_holds := by kernel_rfl
theorem T_House_keeps : T (dot (Str.ofString "House") (Str.ofString "keeps")) = some f_House_keeps := by kernel_rfl
theorem T_House_bars : T (dot (Str.ofString "House") (Str.ofString "bars")) = some f_House_bars := by kernel_rfl
theorem T_House_notes : T (dot (Str.ofString "House") (Str.ofString "notes")) = some f_House_notes := by kernel_rfl
theorem T_Road_init : T (dot (Str.ofString "Road") (Str.ofString "__init__")) = some f_Road_init := by kernel_rfl
theorem T_Road_use : T (dot (Str.ofString "Road") (Str.ofString "use")) = some f_Road_use := by kernel_rfl
theorem T_Road_used : T (dot (Str.ofString "Road") (Str.ofString "used")) = some f_Road_used := by kernel_rfl
theorem T_are_houses : T (Str.ofString "are_houses") = some f_are_houses := by kernel_rfl
theorem T_Runner_init : T (dot (Str.ofString "Runner") (Str.ofString "__init__")) = some f_Runner_init := by kernel_rfl
theorem T_Runner_spend : T (dot (Str.ofString "Runner") (Str.ofString "spend")) = some f_Runner_spend := by kernel_rfl
theorem T_Runner_write : T (dot (Str.ofString "Runner") (Str.ofString "write")) = some f_Runner_write := by kernel_rfl
theorem T_Runner_call : T (dot (Str.ofString "Runner") (Str.ofString "call")) = some f_Runner_call := by kernel_rfl
theorem T_Runner_begin : T (dot (Str.ofString "Runner") (Str.ofString "begin")) = some f_Runner_begin := by kernel_rfl
theorem T_Runner_move : T (dot (Str.ofString "Runner") (Str.ofString "move")) = some f_Runner_move := by kernel_rfl
theorem T_Runner_finish : T (dot (Str.ofString "Runner") (Str.ofString "finish")) = some f_Runner_finish := by kernel_rfl
theorem T_Runner_moves_left : T (dot (Str.ofString "Runner") (Str.ofString "moves_left")) = some f_Runner_moves_left := by kernel_rfl
theorem T__law_cell : T (Str.ofString "_law_cell") = some f__law_cell := by kernel_rfl
theorem T_law : T (Str.ofString "law") = some f_law := by kernel_rfl
def G : GI where
  fns := [(Str.ofString "_wall"), (Str.ofString "is_within"), (Str.ofString "is_word"), (Str.ofString "is_deed"), (Str.ofString "leaves_left"), (Str.ofString "is_errand"), (Str.ofString "leaves_of"), (Str.ofString "of_leaf"), (Str.ofString "how"), (Str.ofString "next_of"), (Str.ofString "is_row"), (Str.ofString "are_rooms"), (Str.ofString "is_mark"), (Str.ofString "look_mark"), (Str.ofString "are_houses"), (Str.ofString "_law_cell"), (Str.ofString "law")]
  mks := [(Str.ofString "Record"), (Str.ofString "Book"), (Str.ofString "House"), (Str.ofString "Road"), (Str.ofString "Runner")]
  mes := [((Str.ofString "Record"), (Str.ofString "with_leaf")), ((Str.ofString "Record"), (Str.ofString "due")), ((Str.ofString "Record"), (Str.ofString "fits")), ((Str.ofString "Record"), (Str.ofString "follow")), ((Str.ofString "Book"), (Str.ofString "add")), ((Str.ofString "Book"), (Str.ofString "rows")), ((Str.ofString "Book"), (Str.ofString "opens")), ((Str.ofString "Book"), (Str.ofString "stands")), ((Str.ofString "House"), (Str.ofString "look_key")), ((Str.ofString "House"), (Str.ofString "of_held")), ((Str.ofString "House"), (Str.ofString "space")), ((Str.ofString "House"), (Str.ofString "can")), ((Str.ofString "House"), (Str.ofString "attempt")), ((Str.ofString "House"), (Str.ofString "confirm")), ((Str.ofString "House"), (Str.ofString "cancel")), ((Str.ofString "House"), (Str.ofString "stock")), ((Str.ofString "House"), (Str.ofString "room")), ((Str.ofString "House"), (Str.ofString "holds")), ((Str.ofString "House"), (Str.ofString "keeps")), ((Str.ofString "House"), (Str.ofString "bars")), ((Str.ofString "House"), (Str.ofString "notes")), ((Str.ofString "Road"), (Str.ofString "use")), ((Str.ofString "Road"), (Str.ofString "used")), ((Str.ofString "Runner"), (Str.ofString "spend")), ((Str.ofString "Runner"), (Str.ofString "write")), ((Str.ofString "Runner"), (Str.ofString "call")), ((Str.ofString "Runner"), (Str.ofString "begin")), ((Str.ofString "Runner"), (Str.ofString "move")), ((Str.ofString "Runner"), (Str.ofString "finish")), ((Str.ofString "Runner"), (Str.ofString "moves_left"))]
  exs := [(Str.ofString "BadDeed"), (Str.ofString "BadErrand"), (Str.ofString "BadMark"), (Str.ofString "BadRoad"), (Str.ofString "BadRooms"), (Str.ofString "BadRow"), (Str.ofString "NoErrand"), (Str.ofString "NoHold"), (Str.ofString "Stopped")]
  hns := ["BadErrand", "BadRoad", "NoErrand"]
  isi := [(Str.ofString "Book"), (Str.ofString "House"), (Str.ofString "Road"), (Str.ofString "bool"), (Str.ofString "int"), (Str.ofString "list"), (Str.ofString "str"), (Str.ofString "tuple")]
  free := [(Str.ofString "bool"), (Str.ofString "dict"), (Str.ofString "enumerate"), (Str.ofString "int"), (Str.ofString "isinstance"), (Str.ofString "len"), (Str.ofString "list"), (Str.ofString "range"), (Str.ofString "str"), (Str.ofString "sum"), (Str.ofString "tuple")]
  cis := [((Str.ofString "MOST"), 999), ((Str.ofString "MOST_HOUSES"), 5), ((Str.ofString "MOST_PARTS"), 4), ((Str.ofString "MOST_LEAVES"), 12), ((Str.ofString "MOST_DEEP"), 4), ((Str.ofString "MOST_KEYS"), 6), ((Str.ofString "MOST_NUMBER"), 9999), ((Str.ofString "MOST_TRIES"), 9), ((Str.ofString "MOST_MOVES"), 100000)]
  css := [((Str.ofString "SMALL"), (Str.ofString "abcdefghijklmnopqrstuvwxyz"))]
  flds := [(Str.ofString "again"), (Str.ofString "at"), (Str.ofString "barred"), (Str.ofString "book"), (Str.ofString "counts"), (Str.ofString "errand"), (Str.ofString "held"), (Str.ofString "houses"), (Str.ofString "kept"), (Str.ofString "known"), (Str.ofString "left"), (Str.ofString "lines"), (Str.ofString "records"), (Str.ofString "road"), (Str.ofString "tops"), (Str.ofString "word"), (Str.ofString "words")]
  tups := []
end K12
set_option Elab.async false
set_option linter.all false
set_option maxRecDepth 100000
set_option maxHeartbeats 0
namespace K12
open PySem PySem.Spec PyProof.Rows L2 HI
def top (i : Nat) : Stmt := PySem.Challenge.pw_holdall_k12_runners_refuse.main.body.getD i (.Pass ⟨0, 0, 0, 0⟩)
def e__wall : De := ⟨⟨((Str.ofString "_wall"), none), (Str.ofString "_wall"), (Str.ofString "_wall"), defArgs (top 0), defBody (top 0), defScope (top 0), [], []⟩, (Str.ofString "_wall"), [(Str.ofString "k")], [(Str.ofString "k")]⟩
def e_is_within : De := ⟨⟨((Str.ofString "is_within"), none), (Str.ofString "is_within"), (Str.ofString "is_within"), defArgs (top 19), defBody (top 19), defScope (top 19), [], []⟩, (Str.ofString "is_within"), [(Str.ofString "thing"), (Str.ofString "low"), (Str.ofString "high")], [(Str.ofString "thing"), (Str.ofString "low"), (Str.ofString "high")]⟩
def e_is_word : De := ⟨⟨((Str.ofString "is_word"), none), (Str.ofString "is_word"), (Str.ofString "is_word"), defArgs (top 20), defBody (top 20), defScope (top 20), [], []⟩, (Str.ofString "is_word"), [(Str.ofString "thing"), (Str.ofString "sign")], [(Str.ofString "thing")]⟩
def e_is_deed : De := ⟨⟨((Str.ofString "is_deed"), none), (Str.ofString "is_deed"), (Str.ofString "is_deed"), defArgs (top 21), defBody (top 21), defScope (top 21), [], []⟩, (Str.ofString "is_deed"), [(Str.ofString "thing")], [(Str.ofString "thing")]⟩
def e_leaves_left : De := ⟨⟨((Str.ofString "leaves_left"), none), (Str.ofString "leaves_left"), (Str.ofString "leaves_left"), defArgs (top 22), defBody (top 22), defScope (top 22), [], []⟩, (Str.ofString "leaves_left"), [(Str.ofString "thing"), (Str.ofString "left"), (Str.ofString "deep"), (Str.ofString "part")], [(Str.ofString "thing"), (Str.ofString "left"), (Str.ofString "deep")]⟩
def e_is_errand : De := ⟨⟨((Str.ofString "is_errand"), none), (Str.ofString "is_errand"), (Str.ofString "is_errand"), defArgs (top 23), defBody (top 23), defScope (top 23), [], []⟩, (Str.ofString "is_errand"), [(Str.ofString "thing")], [(Str.ofString "thing")]⟩
def e_leaves_of : De := ⟨⟨((Str.ofString "leaves_of"), none), (Str.ofString "leaves_of"), (Str.ofString "leaves_of"), defArgs (top 24), defBody (top 24), defScope (top 24), [], []⟩, (Str.ofString "leaves_of"), [(Str.ofString "errand"), (Str.ofString "found"), (Str.ofString "part")], [(Str.ofString "errand")]⟩
def e_of_leaf : De := ⟨⟨((Str.ofString "of_leaf"), none), (Str.ofString "of_leaf"), (Str.ofString "of_leaf"), defArgs (top 26), defBody (top 26), defScope (top 26), [], []⟩, (Str.ofString "of_leaf"), [(Str.ofString "word"), (Str.ofString "at")], [(Str.ofString "word"), (Str.ofString "at")]⟩
def e_how : De := ⟨⟨((Str.ofString "how"), none), (Str.ofString "how"), (Str.ofString "how"), defArgs (top 27), defBody (top 27), defScope (top 27), [], []⟩, (Str.ofString "how"), [(Str.ofString "errand"), (Str.ofString "known"), (Str.ofString "at"), (Str.ofString "stands"), (Str.ofString "move"), (Str.ofString "first"), (Str.ofString "end"), (Str.ofString "part"), (Str.ofString "some"), (Str.ofString "leaf")], [(Str.ofString "errand"), (Str.ofString "known"), (Str.ofString "at")]⟩
def e_next_of : De := ⟨⟨((Str.ofString "next_of"), none), (Str.ofString "next_of"), (Str.ofString "next_of"), defArgs (top 28), defBody (top 28), defScope (top 28), [], []⟩, (Str.ofString "next_of"), [(Str.ofString "errand"), (Str.ofString "known"), (Str.ofString "stands"), (Str.ofString "move"), (Str.ofString "end")], [(Str.ofString "errand"), (Str.ofString "known")]⟩
def e_Record_init : De := ⟨⟨((Str.ofString "Record"), some (Str.ofString "__init__")), (Str.ofString "__init__"), (Str.ofString "Record.__init__"), defArgs (inClass (top 30) 0), defBody (inClass (top 30) 0), defScope (inClass (top 30) 0), [], []⟩, (dot (Str.ofString "Record") (Str.ofString "__init__")), [(Str.ofString "self"), (Str.ofString "errand"), (Str.ofString "leaf")], [(Str.ofString "self"), (Str.ofString "errand")]⟩
def e_Record_with_leaf : De := ⟨⟨((Str.ofString "Record"), some (Str.ofString "with_leaf")), (Str.ofString "with_leaf"), (Str.ofString "Record.with_leaf"), defArgs (inClass (top 30) 1), defBody (inClass (top 30) 1), defScope (inClass (top 30) 1), [], []⟩, (dot (Str.ofString "Record") (Str.ofString "with_leaf")), [(Str.ofString "self"), (Str.ofString "leaf"), (Str.ofString "word")], [(Str.ofString "self"), (Str.ofString "leaf"), (Str.ofString "word")]⟩
def e_Record_due : De := ⟨⟨((Str.ofString "Record"), some (Str.ofString "due")), (Str.ofString "due"), (Str.ofString "Record.due"), defArgs (inClass (top 30) 2), defBody (inClass (top 30) 2), defScope (inClass (top 30) 2), [], []⟩, (dot (Str.ofString "Record") (Str.ofString "due")), [(Str.ofString "self"), (Str.ofString "move"), (Str.ofString "some"), (Str.ofString "leaf"), (Str.ofString "word")], [(Str.ofString "self")]⟩
def e_Record_fits : De := ⟨⟨((Str.ofString "Record"), some (Str.ofString "fits")), (Str.ofString "fits"), (Str.ofString "Record.fits"), defArgs (inClass (top 30) 3), defBody (inClass (top 30) 3), defScope (inClass (top 30) 3), [], []⟩, (dot (Str.ofString "Record") (Str.ofString "fits")), [(Str.ofString "self"), (Str.ofString "row"), (Str.ofString "due"), (Str.ofString "words")], [(Str.ofString "self"), (Str.ofString "row")]⟩
def e_Record_follow : De := ⟨⟨((Str.ofString "Record"), some (Str.ofString "follow")), (Str.ofString "follow"), (Str.ofString "Record.follow"), defArgs (inClass (top 30) 4), defBody (inClass (top 30) 4), defScope (inClass (top 30) 4), [], []⟩, (dot (Str.ofString "Record") (Str.ofString "follow")), [(Str.ofString "self"), (Str.ofString "row")], [(Str.ofString "self"), (Str.ofString "row")]⟩
def e_is_row : De := ⟨⟨((Str.ofString "is_row"), none), (Str.ofString "is_row"), (Str.ofString "is_row"), defArgs (top 31), defBody (top 31), defScope (top 31), [], []⟩, (Str.ofString "is_row"), [(Str.ofString "thing"), (Str.ofString "sizes")], [(Str.ofString "thing")]⟩
def e_Book_init : De := ⟨⟨((Str.ofString "Book"), some (Str.ofString "__init__")), (Str.ofString "__init__"), (Str.ofString "Book.__init__"), defArgs (inClass (top 32) 0), defBody (inClass (top 32) 0), defScope (inClass (top 32) 0), [], []⟩, (dot (Str.ofString "Book") (Str.ofString "__init__")), [(Str.ofString "self"), (Str.ofString "rows"), (Str.ofString "row")], [(Str.ofString "self"), (Str.ofString "rows")]⟩
def e_Book_add : De := ⟨⟨((Str.ofString "Book"), some (Str.ofString "add")), (Str.ofString "add"), (Str.ofString "Book.add"), defArgs (inClass (top 32) 1), defBody (inClass (top 32) 1), defScope (inClass (top 32) 1), [], []⟩, (dot (Str.ofString "Book") (Str.ofString "add")), [(Str.ofString "self"), (Str.ofString "row")], [(Str.ofString "self"), (Str.ofString "row")]⟩
def e_Book_rows : De := ⟨⟨((Str.ofString "Book"), some (Str.ofString "rows")), (Str.ofString "rows"), (Str.ofString "Book.rows"), defArgs (inClass (top 32) 2), defBody (inClass (top 32) 2), defScope (inClass (top 32) 2), [], []⟩, (dot (Str.ofString "Book") (Str.ofString "rows")), [(Str.ofString "self")], [(Str.ofString "self")]⟩
def e_Book_opens : De := ⟨⟨((Str.ofString "Book"), some (Str.ofString "opens")), (Str.ofString "opens"), (Str.ofString "Book.opens"), defArgs (inClass (top 32) 3), defBody (inClass (top 32) 3), defScope (inClass (top 32) 3), [], []⟩, (dot (Str.ofString "Book") (Str.ofString "opens")), [(Str.ofString "self"), (Str.ofString "at"), (Str.ofString "record")], [(Str.ofString "self")]⟩
def e_Book_stands : De := ⟨⟨((Str.ofString "Book"), some (Str.ofString "stands")), (Str.ofString "stands"), (Str.ofString "Book.stands"), defArgs (inClass (top 32) 4), defBody (inClass (top 32) 4), defScope (inClass (top 32) 4), [], []⟩, (dot (Str.ofString "Book") (Str.ofString "stands")), [(Str.ofString "self"), (Str.ofString "record")], [(Str.ofString "self")]⟩
def e_are_rooms : De := ⟨⟨((Str.ofString "are_rooms"), none), (Str.ofString "are_rooms"), (Str.ofString "are_rooms"), defArgs (top 36), defBody (top 36), defScope (top 36), [], []⟩, (Str.ofString "are_rooms"), [(Str.ofString "thing"), (Str.ofString "one"), (Str.ofString "at")], [(Str.ofString "thing")]⟩
def e_is_mark : De := ⟨⟨((Str.ofString "is_mark"), none), (Str.ofString "is_mark"), (Str.ofString "is_mark"), defArgs (top 37), defBody (top 37), defScope (top 37), [], []⟩, (Str.ofString "is_mark"), [(Str.ofString "thing")], [(Str.ofString "thing")]⟩
def e_look_mark : De := ⟨⟨((Str.ofString "look_mark"), none), (Str.ofString "look_mark"), (Str.ofString "look_mark"), defArgs (top 38), defBody (top 38), defScope (top 38), [], []⟩, (Str.ofString "look_mark"), [(Str.ofString "mark")], [(Str.ofString "mark")]⟩
def e_House_init : De := ⟨⟨((Str.ofString "House"), some (Str.ofString "__init__")), (Str.ofString "__init__"), (Str.ofString "House.__init__"), defArgs (inClass (top 39) 0), defBody (inClass (top 39) 0), defScope (inClass (top 39) 0), [], []⟩, (dot (Str.ofString "House") (Str.ofString "__init__")), [(Str.ofString "self"), (Str.ofString "rooms"), (Str.ofString "key"), (Str.ofString "many"), (Str.ofString "top")], [(Str.ofString "self"), (Str.ofString "rooms")]⟩
def e_House_look_key : De := ⟨⟨((Str.ofString "House"), some (Str.ofString "look_key")), (Str.ofString "look_key"), (Str.ofString "House.look_key"), defArgs (inClass (top 39) 1), defBody (inClass (top 39) 1), defScope (inClass (top 39) 1), [], []⟩, (dot (Str.ofString "House") (Str.ofString "look_key")), [(Str.ofString "self"), (Str.ofString "key")], [(Str.ofString "self"), (Str.ofString "key")]⟩
def e_House_of_held : De := ⟨⟨((Str.ofString "House"), some (Str.ofString "of_held")), (Str.ofString "of_held"), (Str.ofString "House.of_held"), defArgs (inClass (top 39) 2), defBody (inClass (top 39) 2), defScope (inClass (top 39) 2), [], []⟩, (dot (Str.ofString "House") (Str.ofString "of_held")), [(Str.ofString "self"), (Str.ofString "key"), (Str.ofString "word"), (Str.ofString "some"), (Str.ofString "mark"), (Str.ofString "deed")], [(Str.ofString "self"), (Str.ofString "key"), (Str.ofString "word")]⟩
def e_House_space : De := ⟨⟨((Str.ofString "House"), some (Str.ofString "space")), (Str.ofString "space"), (Str.ofString "House.space"), defArgs (inClass (top 39) 3), defBody (inClass (top 39) 3), defScope (inClass (top 39) 3), [], []⟩, (dot (Str.ofString "House") (Str.ofString "space")), [(Str.ofString "self"), (Str.ofString "key"), (Str.ofString "held")], [(Str.ofString "self"), (Str.ofString "key")]⟩
def e_House_can : De := ⟨⟨((Str.ofString "House"), some (Str.ofString "can")), (Str.ofString "can"), (Str.ofString "House.can"), defArgs (inClass (top 39) 4), defBody (inClass (top 39) 4), defScope (inClass (top 39) 4), [], []⟩, (dot (Str.ofString "House") (Str.ofString "can")), [(Str.ofString "self"), (Str.ofString "deed")], [(Str.ofString "self"), (Str.ofString "deed")]⟩
def e_House_attempt : De := ⟨⟨((Str.ofString "House"), some (Str.ofString "attempt")), (Str.ofString "attempt"), (Str.ofString "House.attempt"), defArgs (inClass (top 39) 5), defBody (inClass (top 39) 5), defScope (inClass (top 39) 5), [], []⟩, (dot (Str.ofString "House") (Str.ofString "attempt")), [(Str.ofString "self"), (Str.ofString "mark"), (Str.ofString "deed")], [(Str.ofString "self"), (Str.ofString "mark"), (Str.ofString "deed")]⟩
def e_House_confirm : De := ⟨⟨((Str.ofString "House"), some (Str.ofString "confirm")), (Str.ofString "confirm"), (Str.ofString "House.confirm"), defArgs (inClass (top 39) 6), defBody (inClass (top 39) 6), defScope (inClass (top 39) 6), [], []⟩, (dot (Str.ofString "House") (Str.ofString "confirm")), [(Str.ofString "self"), (Str.ofString "mark"), (Str.ofString "deed")], [(Str.ofString "self"), (Str.ofString "mark")]⟩
def e_House_cancel : De := ⟨⟨((Str.ofString "House"), some (Str.ofString "cancel")), (Str.ofString "cancel"), (Str.ofString "House.cancel"), defArgs (inClass (top 39) 7), defBody (inClass (top 39) 7), defScope (inClass (top 39) 7), [], []⟩, (dot (Str.ofString "House") (Str.ofString "cancel")), [(Str.ofString "self"), (Str.ofString "mark"), (Str.ofString "deed")], [(Str.ofString "self"), (Str.ofString "mark")]⟩
def e_House_stock : De := ⟨⟨((Str.ofString "House"), some (Str.ofString "stock")), (Str.ofString "stock"), (Str.ofString "House.stock"), defArgs (inClass (top 39) 8), defBody (inClass (top 39) 8), defScope (inClass (top 39) 8), [], []⟩, (dot (Str.ofString "House") (Str.ofString "stock")), [(Str.ofString "self")], [(Str.ofString "self")]⟩
def e_House_room : De := ⟨⟨((Str.ofString "House"), some (Str.ofString "room")), (Str.ofString "room"), (Str.ofString "House.room"), defArgs (inClass (top 39) 9), defBody (inClass (top 39) 9), defScope (inClass (top 39) 9), [], []⟩, (dot (Str.ofString "House") (Str.ofString "room")), [(Str.ofString "self"), (Str.ofString "key")], [(Str.ofString "self"), (Str.ofString "key")]⟩
def e_House_holds : De := ⟨⟨((Str.ofString "House"), some (Str.ofString "holds")), (Str.ofString "holds"), (Str.ofString "House.holds"), defArgs (inClass (top 39) 10), defBody (inClass (top 39) 10), defScope (inClass (top 39) 10), [], []⟩, (dot (Str.ofString "House") (Str.ofString "holds")), [(Str.ofString "self")], [(Str.ofString "self")]⟩
def e_House_keeps : De := ⟨⟨((Str.ofString "House"), some (Str.ofString "keeps")), (Str.ofString "keeps"), (Str.ofString "House.keeps"), defArgs (inClass (top 39) 11), defBody (inClass (top 39) 11), defScope (inClass (top 39) 11), [], []⟩, (dot (Str.ofString "House") (Str.ofString "keeps")), [(Str.ofString "self")], [(Str.ofString "self")]⟩
def e_House_bars : De := ⟨⟨((Str.ofString "House"), some (Str.ofString "bars")), (Str.ofString "bars"), (Str.ofString "House.bars"), defArgs (inClass (top 39) 12), defBody (inClass (top 39) 12), defScope (inClass (top 39) 12), [], []⟩, (dot (Str.ofString "House") (Str.ofString "bars")), [(Str.ofString "self")], [(Str.ofString "self")]⟩
def e_House_notes : De := ⟨⟨((Str.ofString "House"), some (Str.ofString "notes")), (Str.ofString "notes"), (Str.ofString "House.notes"), defArgs (inClass (top 39) 13), defBody (inClass (top 39) 13), defScope (inClass (top 39) 13), [], []⟩, (dot (Str.ofString "House") (Str.ofString "notes")), [(Str.ofString "self")], [(Str.ofString "self")]⟩
def e_Road_init : De := ⟨⟨((Str.ofString "Road"), some (Str.ofString "__init__")), (Str.ofString "__init__"), (Str.ofString "Road.__init__"), defArgs (inClass (top 43) 0), defBody (inClass (top 43) 0), defScope (inClass (top 43) 0), [], []⟩, (dot (Str.ofString "Road") (Str.ofString "__init__")), [(Str.ofString "self"), (Str.ofString "words"), (Str.ofString "one")], [(Str.ofString "self"), (Str.ofString "words")]⟩
def e_Road_use : De := ⟨⟨((Str.ofString "Road"), some (Str.ofString "use")), (Str.ofString "use"), (Str.ofString "Road.use"), defArgs (inClass (top 43) 1), defBody (inClass (top 43) 1), defScope (inClass (top 43) 1), [], []⟩, (dot (Str.ofString "Road") (Str.ofString "use")), [(Str.ofString "self")], [(Str.ofString "self")]⟩
def e_Road_used : De := ⟨⟨((Str.ofString "Road"), some (Str.ofString "used")), (Str.ofString "used"), (Str.ofString "Road.used"), defArgs (inClass (top 43) 2), defBody (inClass (top 43) 2), defScope (inClass (top 43) 2), [], []⟩, (dot (Str.ofString "Road") (Str.ofString "used")), [(Str.ofString "self")], [(Str.ofString "self")]⟩
def e_are_houses : De := ⟨⟨((Str.ofString "are_houses"), none), (Str.ofString "are_houses"), (Str.ofString "are_houses"), defArgs (top 44), defBody (top 44), defScope (top 44), [], []⟩, (Str.ofString "are_houses"), [(Str.ofString "thing"), (Str.ofString "one")], [(Str.ofString "thing")]⟩
def e_Runner_init : De := ⟨⟨((Str.ofString "Runner"), some (Str.ofString "__init__")), (Str.ofString "__init__"), (Str.ofString "Runner.__init__"), defArgs (inClass (top 45) 0), defBody (inClass (top 45) 0), defScope (inClass (top 45) 0), [], []⟩, (dot (Str.ofString "Runner") (Str.ofString "__init__")), [(Str.ofString "self"), (Str.ofString "houses"), (Str.ofString "book"), (Str.ofString "road"), (Str.ofString "again"), (Str.ofString "left")], [(Str.ofString "self"), (Str.ofString "houses"), (Str.ofString "book"), (Str.ofString "road"), (Str.ofString "again"), (Str.ofString "left")]⟩
def e_Runner_spend : De := ⟨⟨((Str.ofString "Runner"), some (Str.ofString "spend")), (Str.ofString "spend"), (Str.ofString "Runner.spend"), defArgs (inClass (top 45) 1), defBody (inClass (top 45) 1), defScope (inClass (top 45) 1), [], []⟩, (dot (Str.ofString "Runner") (Str.ofString "spend")), [(Str.ofString "self")], [(Str.ofString "self")]⟩
def e_Runner_write : De := ⟨⟨((Str.ofString "Runner"), some (Str.ofString "write")), (Str.ofString "write"), (Str.ofString "Runner.write"), defArgs (inClass (top 45) 2), defBody (inClass (top 45) 2), defScope (inClass (top 45) 2), [], []⟩, (dot (Str.ofString "Runner") (Str.ofString "write")), [(Str.ofString "self"), (Str.ofString "row")], [(Str.ofString "self"), (Str.ofString "row")]⟩
def e_Runner_call : De := ⟨⟨((Str.ofString "Runner"), some (Str.ofString "call")), (Str.ofString "call"), (Str.ofString "Runner.call"), defArgs (inClass (top 45) 3), defBody (inClass (top 45) 3), defScope (inClass (top 45) 3), [], []⟩, (dot (Str.ofString "Runner") (Str.ofString "call")), [(Str.ofString "self"), (Str.ofString "word"), (Str.ofString "leaf"), (Str.ofString "mark"), (Str.ofString "became"), (Str.ofString "house"), (Str.ofString "answer")], [(Str.ofString "self"), (Str.ofString "word"), (Str.ofString "leaf"), (Str.ofString "mark")]⟩
def e_Runner_begin : De := ⟨⟨((Str.ofString "Runner"), some (Str.ofString "begin")), (Str.ofString "begin"), (Str.ofString "Runner.begin"), defArgs (inClass (top 45) 4), defBody (inClass (top 45) 4), defScope (inClass (top 45) 4), [], []⟩, (dot (Str.ofString "Runner") (Str.ofString "begin")), [(Str.ofString "self"), (Str.ofString "errand"), (Str.ofString "leaf"), (Str.ofString "number")], [(Str.ofString "self"), (Str.ofString "errand")]⟩
def e_Runner_move : De := ⟨⟨((Str.ofString "Runner"), some (Str.ofString "move")), (Str.ofString "move"), (Str.ofString "Runner.move"), defArgs (inClass (top 45) 5), defBody (inClass (top 45) 5), defScope (inClass (top 45) 5), [], []⟩, (dot (Str.ofString "Runner") (Str.ofString "move")), [(Str.ofString "self"), (Str.ofString "number"), (Str.ofString "record"), (Str.ofString "due"), (Str.ofString "leaf"), (Str.ofString "mark"), (Str.ofString "answer"), (Str.ofString "calls"), (Str.ofString "word")], [(Str.ofString "self"), (Str.ofString "number")]⟩
def e_Runner_finish : De := ⟨⟨((Str.ofString "Runner"), some (Str.ofString "finish")), (Str.ofString "finish"), (Str.ofString "Runner.finish"), defArgs (inClass (top 45) 6), defBody (inClass (top 45) 6), defScope (inClass (top 45) 6), [], []⟩, (dot (Str.ofString "Runner") (Str.ofString "finish")), [(Str.ofString "self"), (Str.ofString "found"), (Str.ofString "number")], [(Str.ofString "self")]⟩
def e_Runner_moves_left : De := ⟨⟨((Str.ofString "Runner"), some (Str.ofString "moves_left")), (Str.ofString "moves_left"), (Str.ofString "Runner.moves_left"), defArgs (inClass (top 45) 7), defBody (inClass (top 45) 7), defScope (inClass (top 45) 7), [], []⟩, (dot (Str.ofString "Runner") (Str.ofString "moves_left")), [(Str.ofString "self")], [(Str.ofString "self")]⟩
def e__law_cell : De := ⟨⟨((Str.ofString "_law_cell"), none), (Str.ofString "_law_cell"), (Str.ofString "_law_cell"), defArgs (top 47), defBody (top 47), defScope (top 47), [], []⟩, (Str.ofString "_law_cell"), [(Str.ofString "script"), (Str.ofString "k")], [(Str.ofString "script"), (Str.ofString "k")]⟩
def e_law : De := ⟨⟨((Str.ofString "law"), none), (Str.ofString "law"), (Str.ofString "law"), defArgs (top 48), defBody (top 48), defScope (top 48), [], []⟩, (Str.ofString "law"), [(Str.ofString "script"), (Str.ofString "houses"), (Str.ofString "book"), (Str.ofString "road"), (Str.ofString "odd"), (Str.ofString "one"), (Str.ofString "two"), (Str.ofString "three"), (Str.ofString "four"), (Str.ofString "five"), (Str.ofString "roads"), (Str.ofString "runner"), (Str.ofString "do"), (Str.ofString "errands"), (Str.ofString "caught"), (Str.ofString "way")], [(Str.ofString "script")]⟩
theorem ok__wall : De.ok G T e__wall = true := by kernel_rfl
theorem ok_is_within : De.ok G T e_is_within = true := by kernel_rfl
theorem ok_is_word : De.ok G T e_is_word = true := by kernel_rfl
theorem ok_is_deed : De.ok G T e_is_deed = true := by kernel_rfl
theorem ok_leaves_left : De.ok G T e_leaves_left = true := by kernel_rfl
theorem ok_is_errand : De.ok G T e_is_errand = true := by kernel_rfl
theorem ok_leaves_of : De.ok G T e_leaves_of = true := by kernel_rfl
theorem ok_of_leaf : De.ok G T e_of_leaf = true := by kernel_rfl
theorem ok_how : De.ok G T e_how = true := by kernel_rfl
theorem ok_next_of : De.ok G T e_next_of = true := by kernel_rfl
theorem ok_Record_init : De.ok G T e_Record_init = true := by kernel_rfl
theorem ok_Record_with_leaf : De.ok G T e_Record_with_leaf = true := by kernel_rfl
theorem ok_Record_due : De.ok G T e_Record_due = true := by kernel_rfl
theorem ok_Record_fits : De.ok G T e_Record_fits = true := by kernel_rfl
theorem ok_Record_follow : De.ok G T e_Record_follow = true := by kernel_rfl
theorem ok_is_row : De.ok G T e_is_row = true := by kernel_rfl
theorem ok_Book_init : De.ok G T e_Book_init = true := by kernel_rfl
theorem ok_Book_add : De.ok G T e_Book_add = true := by kernel_rfl
theorem ok_Book_rows : De.ok G T e_Book_rows = true := by kernel_rfl
theorem ok_Book_opens : De.ok G T e_Book_opens = true := by kernel_rfl
theorem ok_Book_stands : De.ok G T e_Book_stands = true := by kernel_rfl
theorem ok_are_rooms : De.ok G T e_are_rooms = true := by kernel_rfl
theorem ok_is_mark : De.ok G T e_is_mark = true := by kernel_rfl
theorem ok_look_mark : De.ok G T e_look_mark = true := by kernel_rfl
theorem ok_House_init : De.ok G T e_House_init = true := by kernel_rfl
theorem ok_House_look_key : De.ok G T e_House_look_key = true := by kernel_rfl
theorem ok_House_of_held : De.ok G T e_House_of_held = true := by kernel_rfl
theorem ok_House_space : De.ok G T e_House_space = true := by kernel_rfl
theorem ok_House_can : De.ok G T e_House_can = true := by kernel_rfl
theorem ok_House_attempt : De.ok G T e_House_attempt = true := by kernel_rfl
theorem ok_House_confirm : De.ok G T e_House_confirm = true := by kernel_rfl
theorem ok_House_cancel : De.ok G T e_House_cancel = true := by kernel_rfl
theorem ok_House_stock : De.ok G T e_House_stock = true := by kernel_rfl
theorem ok_House_room : De.ok G T e_House_room = true := by kernel_rfl
theorem ok_House_holds : De.ok G T e_House_holds = true := by kernel_rfl
theorem ok_House_keeps : De.ok G T e_House_keeps = true := by kernel_rfl
theorem ok_House_bars : De.ok G T e_House_bars = true := by kernel_rfl
theorem ok_House_notes : De.ok G T e_House_notes = true := by kernel_rfl
theorem ok_Road_init : De.ok G T e_Road_init = true := by kernel_rfl
theorem ok_Road_use : De.ok G T e_Road_use = true := by kernel_rfl
theorem ok_Road_used : De.ok G T e_Road_used = true := by kernel_rfl
theorem ok_are_houses : De.ok G T e_are_houses = true := by kernel_rfl
theorem ok_Runner_init : De.ok G T e_Runner_init = true := by kernel_rfl
theorem ok_Runner_spend : De.ok G T e_Runner_spend = true := by kernel_rfl
theorem ok_Runner_write : De.ok G T e_Runner_write = true := by kernel_rfl
theorem ok_Runner_call : De.ok G T e_Runner_call = true := by kernel_rfl
theorem ok_Runner_begin : De.ok G T e_Runner_begin = true := by kernel_rfl
theorem ok_Runner_move : De.ok G T e_Runner_move = true := by kernel_rfl
theorem ok_Runner_finish : De.ok G T e_Runner_finish = true := by kernel_rfl
theorem ok_Runner_moves_left : De.ok G T e_Runner_moves_left = true := by kernel_rfl
theorem ok__law_cell : De.ok G T e__law_cell = true := by kernel_rfl
theorem ok_law : De.ok G T e_law = true := by kernel_rfl
def des : List De := [e__wall, e_is_within, e_is_word, e_is_deed, e_leaves_left, e_is_errand, e_leaves_of, e_of_leaf, e_how, e_next_of, e_Record_init, e_Record_with_leaf, e_Record_due, e_Record_fits, e_Record_follow, e_is_row, e_Book_init, e_Book_add, e_Book_rows, e_Book_opens, e_Book_stands, e_are_rooms, e_is_mark, e_look_mark, e_House_init, e_House_look_key, e_House_of_held, e_House_space, e_House_can, e_House_attempt, e_House_confirm, e_House_cancel, e_House_stock, e_House_room, e_House_holds, e_House_keeps, e_House_bars, e_House_notes, e_Road_init, e_Road_use, e_Road_used, e_are_houses, e_Runner_init, e_Runner_spend, e_Runner_write, e_Runner_call, e_Runner_begin, e_Runner_move, e_Runner_finish, e_Runner_moves_left, e__law_cell, e_law]
theorem oks : ∀ e ∈ des, De.ok G T e = true := by
  intro e he
  simp only [des, List.mem_cons, List.mem_nil_iff, or_false] at he
  rcases he with rfl | rfl | rfl | rfl | rfl | rfl | rfl | rfl | rfl | rfl | rfl | rfl | rfl | rfl | rfl | rfl | rfl | rfl | rfl | rfl | rfl | rfl | rfl | rfl | rfl | rfl | rfl | rfl | rfl | rfl | rfl | rfl | rfl | rfl | rfl | rfl | rfl | rfl | rfl | rfl | rfl | rfl | rfl | rfl | rfl | rfl | rfl | rfl | rfl | rfl | rfl | rfl
  · exact ok__wall
  · exact ok_is_within
  · exact ok_is_word
  · exact ok_is_deed
  · exact ok_leaves_left
  · exact ok_is_errand
  · exact ok_leaves_of
  · exact ok_of_leaf
  · exact ok_how
  · exact ok_next_of
  · exact ok_Record_init
  · exact ok_Record_with_leaf
  · exact ok_Record_due
  · exact ok_Record_fits
  · exact ok_Record_follow
  · exact ok_is_row
  · exact ok_Book_init
  · exact ok_Book_add
  · exact ok_Book_rows
  · exact ok_Book_opens
  · exact ok_Book_stands
  · exact ok_are_rooms
  · exact ok_is_mark
  · exact ok_look_mark
  · exact ok_House_init
  · exact ok_House_look_key
  · exact ok_House_of_held
  · exact ok_House_space
  · exact ok_House_can
  · exact ok_House_attempt
  · exact ok_House_confirm
  · exact ok_House_cancel
  · exact ok_House_stock
  · exact ok_House_room
  · exact ok_House_holds
  · exact ok_House_keeps
  · exact ok_House_bars
  · exact ok_House_notes
  · exact ok_Road_init
  · exact ok_Road_use
  · exact ok_Road_used
  · exact ok_are_houses
  · exact ok_Runner_init
  · exact ok_Runner_spend
  · exact ok_Runner_write
  · exact ok_Runner_call
  · exact ok_Runner_begin
  · exact ok_Runner_move
  · exact ok_Runner_finish
  · exact ok_Runner_moves_left
  · exact ok__law_cell
  · exact ok_law
theorem lnks : lnk G des = true := by kernel_rfl
def loose0 : List PySem.Str := [(Str.ofString "_wall"), (Str.ofString "__name__"), (Str.ofString "HoldError"), (Str.ofString "BadRooms"), (Str.ofString "BadMark"), (Str.ofString "BadDeed"), (Str.ofString "NoHold"), (Str.ofString "BadErrand"), (Str.ofString "BadRow"), (Str.ofString "BadRoad"), (Str.ofString "NoErrand"), (Str.ofString "Stopped"), (Str.ofString "SMALL"), (Str.ofString "MOST"), (Str.ofString "MOST_HOUSES"), (Str.ofString "MOST_PARTS"), (Str.ofString "MOST_LEAVES"), (Str.ofString "MOST_DEEP"), (Str.ofString "is_within"), (Str.ofString "is_word")]
def loose1 : List PySem.Str := [(Str.ofString "is_deed"), (Str.ofString "leaves_left"), (Str.ofString "is_errand"), (Str.ofString "leaves_of"), (Str.ofString "of_leaf"), (Str.ofString "how"), (Str.ofString "next_of"), (Str.ofString "Record"), (Str.ofString "is_row"), (Str.ofString "Book"), (Str.ofString "MOST_KEYS"), (Str.ofString "MOST_NUMBER"), (Str.ofString "are_rooms"), (Str.ofString "is_mark"), (Str.ofString "look_mark"), (Str.ofString "House"), (Str.ofString "MOST_TRIES"), (Str.ofString "MOST_MOVES"), (Str.ofString "Road"), (Str.ofString "are_houses")]
def loose2 : List PySem.Str := [(Str.ofString "Runner"), (Str.ofString "_law_cell")]
def loose : List PySem.Str := loose0 ++ loose1 ++ loose2
def fn : List He.DefD := des.map (·.d)
abbrev R : PySem.W.OpenRow := PySem.W.OpenLaw.row PySem.Challenge.rw_holdall_k12_runners_refuse
abbrev hk : PySem.W.Hook := He.hookX 5 [] fn [] [] (exB G)
def ob (s : PySem.W.SharedT) : He.AlX := He.obsX 5 [] fn [] [] (exB G) (HandSHeadRun.getT s)
theorem ob_eq (s : PySem.W.SharedT) : ob s = hk.obs s.abs := He.obsX_eq (HandSHeadRun.getT_eq s)
theorem run (w : World) : HandSHeadRun.RunEq R (PySem.W.view R.prog [48]) hk ob 6000 loose w := by
  intro os
  kernel_rfl
end K12
open PySem PySem.W PySem.Calls PyProof.Rows
theorem K12.holds (LL : Nat) (says : HI.Says LL K12.T 40) : PySem.Challenge.rw_holdall_k12_runners_refuse.Holds := by
  w_on; o_law
  refine HandSHeadRun.head_any (r := OpenLaw.row PySem.Challenge.rw_holdall_k12_runners_refuse) (q := view (OpenLaw.row PySem.Challenge.rw_holdall_k12_runners_refuse).prog [48]) (H := K12.hk) (ob := K12.ob) (M := 6000) (loose := K12.loose) (d := HandSHeadRun.topDef (OpenLaw.row PySem.Challenge.rw_holdall_k12_runners_refuse).prog 48) (kwd := []) K12.ob_eq
    (by kernel_rfl) (fun s => by kernel_rfl) K12.run (by kernel_rfl) (by kernel_rfl) (by kernel_rfl) (by rfl) (by first | assumption | decide +kernel) (by decide +kernel) ⟨rfl, rfl, rfl, rfl, rfl, by decide +kernel⟩ ?hw ?hc
  case hw => w_witness2
  case hc =>
    refine L2.walk_ofE (l := PySem.Challenge.rw_holdall_k12_runners_refuse) (n := 63) (k := 80) (x := "script") (CX := L2.CX0) rfl (by decide) (by kernel_rfl) ⟨rfl, by decide, by decide⟩ ?F (fun _ _ _ _ z => z)
    intro w mg fa h Y G hmg0
    have hmg : mg ("law" : PySem.Str) = some (.ref fa) := by
      have e : (HandSHeadRun.topDef (OpenLaw.row PySem.Challenge.rw_holdall_k12_runners_refuse).prog 48).name = ("law" : PySem.Str) := by kernel_rfl
      rw [← e]
      exact hmg0
    exact HI.law_F (e := K12.e_law) says K12.lnks K12.oks (by simp [K12.des]) rfl rfl rfl (by decide +kernel) w mg fa h Y G hmg
set_option Elab.async false
set_option linter.all false
set_option maxRecDepth 100000
namespace K12
open PySem HI
def cell (ns : List Int) (k : Nat) : Int := ns.getD k 0
theorem atI_nat {α : Type} (xs : List α) (k : Nat) : atI xs (k : Int) = xs[k]? := by
  show L2.atI xs (k : Int) = _
  unfold L2.atI L2.ixN
  by_cases h : k < xs.length
  · rw [if_pos (by omega), if_pos (by omega)]; simp
  · rw [if_pos (by omega), if_neg (by omega)]; simp; omega
theorem cell_run (L n : Nat) (ns : List Int) (k : Nat) (S : Store) : callF L T (n + 1) (Str.ofString "_law_cell") [.scr ns, .int (k : Int)] S = .ok (.int (cell ns k)) S := by
  simp only [callF, T__law_cell, runFn, f__law_cell]
  by_cases h : (k : Int) < (ns.length : Int)
  · have h' : k < ns.length := by omega
    simp [exs, exS, ev, evT, op1, op2, HI.truthy, HI.getItem, atI_nat, h, h', HI.finish, cell]
  · have h' : ¬ k < ns.length := by omega
    simp [exs, exS, ev, evT, op1, op2, HI.truthy, HI.getItem, h, h', HI.finish, cell]
theorem exs_app (L : Nat) (C : CallT) : ∀ (a b : List HI.S) (ρ : HI.Env) (S : Store), exs L C (a ++ b) ρ S = (exs L C a ρ S).andThen fun ρ' S' => exs L C b ρ' S'
  | [], b, ρ, S => by simp only [List.nil_append, exs, SR.then_next]
  | s :: a, b, ρ, S => by
    simp only [List.cons_append, exs]
    cases exS L C s ρ S with
    | next ρ' S' => simp only [SR.then_next]; exact exs_app L C a b ρ' S'
    | _ => rfl
abbrev C : CallT := callF 100 T 39
abbrev KC : CallT := callK 100 60 T 39
theorem kB_next {ss : List HI.S} {ρ ρ' : HI.Env} {S S' : Store} (h : kB 100 KC 60 ss ρ S = .next ρ' S') : exs 100 C ss ρ S = .next ρ' S' := by
  rcases (kS_le (callK_le 100 60 T 39) 100 60).2.1 ss ρ S with q | q
  · rw [h] at q; cases q
  · rw [← q, h]
theorem kB_ret {ss : List HI.S} {ρ : HI.Env} {S S' : Store} {v : Val} (h : kB 100 KC 60 ss ρ S = .ret v S') : exs 100 C ss ρ S = .ret v S' := by
  rcases (kS_le (callK_le 100 60 T 39) 100 60).2.1 ss ρ S with q | q
  · rw [h] at q; cases q
  · rw [← q, h]
def cm (k m : Int) : E := .bin .mod (.call (Str.ofString "_law_cell") [.var 0, .lit (.int k)]) (.lit (.int m))
theorem cm_run {ns : List Int} {ρ : HI.Env} (h : ρ[0]? = some (some (.scr ns))) (k : Nat) (m : Int) (hm : 0 < m) (S : Store) : ev C (cm (k : Int) m) ρ S = .ok (.int (cell ns k % m)) S := by
  simp only [cm, ev, evs, h, Res.bind_ok, C, cell_run, op2, hm, decide_true, if_true, ofO_some]
def pre : List HI.S := f_law.body.take 8
def unp (a : E) : HI.S := .set (.tup [.one 5, .one 6, .one 7, .one 8, .one 9]) (.bin .item (.var 4) a)
def mid : List HI.S := (f_law.body.drop 9).take 5
def BB (x1 x2 x3 : E) : List HI.S := [(.tryS [(.ifS (.bin .eq (.var 15) (.lit (.int 0))) [(.expr (.make (Str.ofString "Runner") [(.var 5), (.var 6), (.var 7), (.var 8), (.var 9)]))] [(.ifS (.bin .eq (.var 15) (.lit (.int 1))) [(.expr (.make (Str.ofString "Road") [(.bin .item (.var 10) x1)]))] [(.ifS (.bin .eq (.var 15) (.lit (.int 2))) [(.expr (.meth (.var 11) (Str.ofString "Runner") (Str.ofString "begin") [(.bin .item (.var 13) x2)]))] [(.expr (.meth (.var 11) (Str.ofString "Runner") (Str.ofString "move") [(.bin .item (.lst [(.lit (.int 0)), (.un .neg (.lit (.int 1))), (.lit .non), (.lit (.bool true)), (.lit (.str (Str.ofString "0"))), (.lit (.int 10000))]) x3)]))])])])] [Str.ofString "BadRoad", Str.ofString "BadErrand", Str.ofString "NoErrand"] [[(.append (.var 14) (.lit (.str (Str.ofString "road"))))], [(.append (.var 14) (.lit (.str (Str.ofString "errand"))))], [(.append (.var 14) (.lit (.str (Str.ofString "none"))))]])]
def fin : List HI.S := f_law.body.drop 15
theorem body_eq : f_law.body = pre ++ (unp (cm 0 13) :: (mid ++ (.forS (.one 15) (.range1 (.lit (.int 4))) (BB (cm 1 6) (cm 2 5) (cm 3 6)) :: fin))) := by kernel_rfl
def X1 : SR := kB 100 KC 60 pre (some (.scr []) :: List.replicate 15 none) []
def t1 : HI.Env := match X1 with | .next ρ _ => ρ.tail | _ => []
def S1 : Store := match X1 with | .next _ S => S | _ => []
theorem step1 (ns : List Int) : kB 100 KC 60 pre (some (.scr ns) :: List.replicate 15 none) [] = .next (some (.scr ns) :: t1) S1 := by kernel_rfl
def X2 (i : Int) : SR := kB 100 KC 60 (unp (.lit (.int i)) :: mid) (some (.scr []) :: t1) S1
def t2 (i : Int) : HI.Env := match X2 i with | .next ρ _ => ρ | _ => []
def S2 : Store := match X2 0 with | .next _ S => S | _ => []
def g (i : Int) (k : Nat) : Option Val := (t2 i).getD k none
def env (ns : List Int) (v5 v6 v7 v8 v9 x : Option Val) : HI.Env := [some (.scr ns), g 0 1, g 0 2, g 0 3, g 0 4, v5, v6, v7, v8, v9, g 0 10, g 0 11, g 0 12, g 0 13, g 0 14, x]
def envi (ns : List Int) (i : Int) (x : Option Val) : HI.Env := env ns (g i 5) (g i 6) (g i 7) (g i 8) (g i 9) x
abbrev a1 : E := .lit .non
def S3 : Store := match kB 100 KC 60 (BB a1 a1 a1) (envi [] 0 (some (.int 0))) S2 with | .next _ S => S | _ => []
def S4 : Store := match kB 100 KC 60 (BB (.lit (.int 0)) a1 a1) (envi [] 0 (some (.int 1))) S3 with | .next _ S => S | _ => []
def S5 : Store := match kB 100 KC 60 (BB a1 (.lit (.int 0)) a1) (envi [] 0 (some (.int 2))) S4 with | .next _ S => S | _ => []
def S6 : Store := match kB 100 KC 60 (BB a1 a1 (.lit (.int 0))) (envi [] 0 (some (.int 3))) S5 with | .next _ S => S | _ => []
def S7 : Store := match kB 100 KC 60 fin (envi [] 0 (some (.int 3))) S6 with | .ret _ S => S | _ => []
theorem st2_0 (ns : List Int) : kB 100 KC 60 (unp (.lit (.int 0)) :: mid) (some (.scr ns) :: t1) S1 = .next (envi ns 0 none) S2 := by kernel_rfl
theorem it0_0 (ns : List Int) : kB 100 KC 60 (BB (cm 1 6) (cm 2 5) (cm 3 6)) (envi ns 0 (some (.int 0))) S2 = .next (envi ns 0 (some (.int 0))) S3 := by kernel_rfl
theorem st2_1 (ns : List Int) : kB 100 KC 60 (unp (.lit (.int 1)) :: mid) (some (.scr ns) :: t1) S1 = .next (envi ns 1 none) S2 := by kernel_rfl
theorem it0_1 (ns : List Int) : kB 100 KC 60 (BB (cm 1 6) (cm 2 5) (cm 3 6)) (envi ns 1 (some (.int 0))) S2 = .next (envi ns 1 (some (.int 0))) S3 := by kernel_rfl
theorem st2_2 (ns : List Int) : kB 100 KC 60 (unp (.lit (.int 2)) :: mid) (some (.scr ns) :: t1) S1 = .next (envi ns 2 none) S2 := by kernel_rfl
theorem it0_2 (ns : List Int) : kB 100 KC 60 (BB (cm 1 6) (cm 2 5) (cm 3 6)) (envi ns 2 (some (.int 0))) S2 = .next (envi ns 2 (some (.int 0))) S3 := by kernel_rfl
theorem st2_3 (ns : List Int) : kB 100 KC 60 (unp (.lit (.int 3)) :: mid) (some (.scr ns) :: t1) S1 = .next (envi ns 3 none) S2 := by kernel_rfl
theorem it0_3 (ns : List Int) : kB 100 KC 60 (BB (cm 1 6) (cm 2 5) (cm 3 6)) (envi ns 3 (some (.int 0))) S2 = .next (envi ns 3 (some (.int 0))) S3 := by kernel_rfl
theorem st2_4 (ns : List Int) : kB 100 KC 60 (unp (.lit (.int 4)) :: mid) (some (.scr ns) :: t1) S1 = .next (envi ns 4 none) S2 := by kernel_rfl
theorem it0_4 (ns : List Int) : kB 100 KC 60 (BB (cm 1 6) (cm 2 5) (cm 3 6)) (envi ns 4 (some (.int 0))) S2 = .next (envi ns 4 (some (.int 0))) S3 := by kernel_rfl
theorem st2_5 (ns : List Int) : kB 100 KC 60 (unp (.lit (.int 5)) :: mid) (some (.scr ns) :: t1) S1 = .next (envi ns 5 none) S2 := by kernel_rfl
theorem it0_5 (ns : List Int) : kB 100 KC 60 (BB (cm 1 6) (cm 2 5) (cm 3 6)) (envi ns 5 (some (.int 0))) S2 = .next (envi ns 5 (some (.int 0))) S3 := by kernel_rfl
theorem st2_6 (ns : List Int) : kB 100 KC 60 (unp (.lit (.int 6)) :: mid) (some (.scr ns) :: t1) S1 = .next (envi ns 6 none) S2 := by kernel_rfl
theorem it0_6 (ns : List Int) : kB 100 KC 60 (BB (cm 1 6) (cm 2 5) (cm 3 6)) (envi ns 6 (some (.int 0))) S2 = .next (envi ns 6 (some (.int 0))) S3 := by kernel_rfl
theorem st2_7 (ns : List Int) : kB 100 KC 60 (unp (.lit (.int 7)) :: mid) (some (.scr ns) :: t1) S1 = .next (envi ns 7 none) S2 := by kernel_rfl
theorem it0_7 (ns : List Int) : kB 100 KC 60 (BB (cm 1 6) (cm 2 5) (cm 3 6)) (envi ns 7 (some (.int 0))) S2 = .next (envi ns 7 (some (.int 0))) S3 := by kernel_rfl
theorem st2_8 (ns : List Int) : kB 100 KC 60 (unp (.lit (.int 8)) :: mid) (some (.scr ns) :: t1) S1 = .next (envi ns 8 none) S2 := by kernel_rfl
theorem it0_8 (ns : List Int) : kB 100 KC 60 (BB (cm 1 6) (cm 2 5) (cm 3 6)) (envi ns 8 (some (.int 0))) S2 = .next (envi ns 8 (some (.int 0))) S3 := by kernel_rfl
theorem st2_9 (ns : List Int) : kB 100 KC 60 (unp (.lit (.int 9)) :: mid) (some (.scr ns) :: t1) S1 = .next (envi ns 9 none) S2 := by kernel_rfl
theorem it0_9 (ns : List Int) : kB 100 KC 60 (BB (cm 1 6) (cm 2 5) (cm 3 6)) (envi ns 9 (some (.int 0))) S2 = .next (envi ns 9 (some (.int 0))) S3 := by kernel_rfl
theorem st2_10 (ns : List Int) : kB 100 KC 60 (unp (.lit (.int 10)) :: mid) (some (.scr ns) :: t1) S1 = .next (envi ns 10 none) S2 := by kernel_rfl
theorem it0_10 (ns : List Int) : kB 100 KC 60 (BB (cm 1 6) (cm 2 5) (cm 3 6)) (envi ns 10 (some (.int 0))) S2 = .next (envi ns 10 (some (.int 0))) S3 := by kernel_rfl
theorem st2_11 (ns : List Int) : kB 100 KC 60 (unp (.lit (.int 11)) :: mid) (some (.scr ns) :: t1) S1 = .next (envi ns 11 none) S2 := by kernel_rfl
theorem it0_11 (ns : List Int) : kB 100 KC 60 (BB (cm 1 6) (cm 2 5) (cm 3 6)) (envi ns 11 (some (.int 0))) S2 = .next (envi ns 11 (some (.int 0))) S3 := by kernel_rfl
theorem st2_12 (ns : List Int) : kB 100 KC 60 (unp (.lit (.int 12)) :: mid) (some (.scr ns) :: t1) S1 = .next (envi ns 12 none) S2 := by kernel_rfl
theorem it0_12 (ns : List Int) : kB 100 KC 60 (BB (cm 1 6) (cm 2 5) (cm 3 6)) (envi ns 12 (some (.int 0))) S2 = .next (envi ns 12 (some (.int 0))) S3 := by kernel_rfl
theorem it1_0 (ns : List Int) (v5 v6 v7 v8 v9 : Option Val) : kB 100 KC 60 (BB (.lit (.int 0)) (cm 2 5) (cm 3 6)) (env ns v5 v6 v7 v8 v9 (some (.int 1))) S3 = .next (env ns v5 v6 v7 v8 v9 (some (.int 1))) S4 := by kernel_rfl
theorem it1_1 (ns : List Int) (v5 v6 v7 v8 v9 : Option Val) : kB 100 KC 60 (BB (.lit (.int 1)) (cm 2 5) (cm 3 6)) (env ns v5 v6 v7 v8 v9 (some (.int 1))) S3 = .next (env ns v5 v6 v7 v8 v9 (some (.int 1))) S4 := by kernel_rfl
theorem it1_2 (ns : List Int) (v5 v6 v7 v8 v9 : Option Val) : kB 100 KC 60 (BB (.lit (.int 2)) (cm 2 5) (cm 3 6)) (env ns v5 v6 v7 v8 v9 (some (.int 1))) S3 = .next (env ns v5 v6 v7 v8 v9 (some (.int 1))) S4 := by kernel_rfl
theorem it1_3 (ns : List Int) (v5 v6 v7 v8 v9 : Option Val) : kB 100 KC 60 (BB (.lit (.int 3)) (cm 2 5) (cm 3 6)) (env ns v5 v6 v7 v8 v9 (some (.int 1))) S3 = .next (env ns v5 v6 v7 v8 v9 (some (.int 1))) S4 := by kernel_rfl
theorem it1_4 (ns : List Int) (v5 v6 v7 v8 v9 : Option Val) : kB 100 KC 60 (BB (.lit (.int 4)) (cm 2 5) (cm 3 6)) (env ns v5 v6 v7 v8 v9 (some (.int 1))) S3 = .next (env ns v5 v6 v7 v8 v9 (some (.int 1))) S4 := by kernel_rfl
theorem it1_5 (ns : List Int) (v5 v6 v7 v8 v9 : Option Val) : kB 100 KC 60 (BB (.lit (.int 5)) (cm 2 5) (cm 3 6)) (env ns v5 v6 v7 v8 v9 (some (.int 1))) S3 = .next (env ns v5 v6 v7 v8 v9 (some (.int 1))) S4 := by kernel_rfl
theorem it2_0 (ns : List Int) (v5 v6 v7 v8 v9 : Option Val) : kB 100 KC 60 (BB (cm 1 6) (.lit (.int 0)) (cm 3 6)) (env ns v5 v6 v7 v8 v9 (some (.int 2))) S4 = .next (env ns v5 v6 v7 v8 v9 (some (.int 2))) S5 := by kernel_rfl
theorem it2_1 (ns : List Int) (v5 v6 v7 v8 v9 : Option Val) : kB 100 KC 60 (BB (cm 1 6) (.lit (.int 1)) (cm 3 6)) (env ns v5 v6 v7 v8 v9 (some (.int 2))) S4 = .next (env ns v5 v6 v7 v8 v9 (some (.int 2))) S5 := by kernel_rfl
theorem it2_2 (ns : List Int) (v5 v6 v7 v8 v9 : Option Val) : kB 100 KC 60 (BB (cm 1 6) (.lit (.int 2)) (cm 3 6)) (env ns v5 v6 v7 v8 v9 (some (.int 2))) S4 = .next (env ns v5 v6 v7 v8 v9 (some (.int 2))) S5 := by kernel_rfl
theorem it2_3 (ns : List Int) (v5 v6 v7 v8 v9 : Option Val) : kB 100 KC 60 (BB (cm 1 6) (.lit (.int 3)) (cm 3 6)) (env ns v5 v6 v7 v8 v9 (some (.int 2))) S4 = .next (env ns v5 v6 v7 v8 v9 (some (.int 2))) S5 := by kernel_rfl
theorem it2_4 (ns : List Int) (v5 v6 v7 v8 v9 : Option Val) : kB 100 KC 60 (BB (cm 1 6) (.lit (.int 4)) (cm 3 6)) (env ns v5 v6 v7 v8 v9 (some (.int 2))) S4 = .next (env ns v5 v6 v7 v8 v9 (some (.int 2))) S5 := by kernel_rfl
theorem it3_0 (ns : List Int) (v5 v6 v7 v8 v9 : Option Val) : kB 100 KC 60 (BB (cm 1 6) (cm 2 5) (.lit (.int 0))) (env ns v5 v6 v7 v8 v9 (some (.int 3))) S5 = .next (env ns v5 v6 v7 v8 v9 (some (.int 3))) S6 := by kernel_rfl
theorem it3_1 (ns : List Int) (v5 v6 v7 v8 v9 : Option Val) : kB 100 KC 60 (BB (cm 1 6) (cm 2 5) (.lit (.int 1))) (env ns v5 v6 v7 v8 v9 (some (.int 3))) S5 = .next (env ns v5 v6 v7 v8 v9 (some (.int 3))) S6 := by kernel_rfl
theorem it3_2 (ns : List Int) (v5 v6 v7 v8 v9 : Option Val) : kB 100 KC 60 (BB (cm 1 6) (cm 2 5) (.lit (.int 2))) (env ns v5 v6 v7 v8 v9 (some (.int 3))) S5 = .next (env ns v5 v6 v7 v8 v9 (some (.int 3))) S6 := by kernel_rfl
theorem it3_3 (ns : List Int) (v5 v6 v7 v8 v9 : Option Val) : kB 100 KC 60 (BB (cm 1 6) (cm 2 5) (.lit (.int 3))) (env ns v5 v6 v7 v8 v9 (some (.int 3))) S5 = .next (env ns v5 v6 v7 v8 v9 (some (.int 3))) S6 := by kernel_rfl
theorem it3_4 (ns : List Int) (v5 v6 v7 v8 v9 : Option Val) : kB 100 KC 60 (BB (cm 1 6) (cm 2 5) (.lit (.int 4))) (env ns v5 v6 v7 v8 v9 (some (.int 3))) S5 = .next (env ns v5 v6 v7 v8 v9 (some (.int 3))) S6 := by kernel_rfl
theorem it3_5 (ns : List Int) (v5 v6 v7 v8 v9 : Option Val) : kB 100 KC 60 (BB (cm 1 6) (cm 2 5) (.lit (.int 5))) (env ns v5 v6 v7 v8 v9 (some (.int 3))) S5 = .next (env ns v5 v6 v7 v8 v9 (some (.int 3))) S6 := by kernel_rfl
theorem end_ (ns : List Int) (v5 v6 v7 v8 v9 : Option Val) : kB 100 KC 60 fin (env ns v5 v6 v7 v8 v9 (some (.int 3))) S6 = .ret (.bool true) S7 := by kernel_rfl
end K12
set_option Elab.async false
set_option linter.all false
set_option maxRecDepth 100000
namespace K12
open PySem HI
theorem unp_eq {a : E} {ρ : HI.Env} {i : Int} (h : ∀ S, ev C a ρ S = .ok (.int i) S) (S : Store) : exS 100 C (unp a) ρ S = exS 100 C (unp (.lit (.int i))) ρ S := by
  simp only [unp, exS, ev, h]
theorem BB_eq {x1 x2 x3 y1 y2 y3 : E} {ρ : HI.Env} (h1 : ∀ S, ev C x1 ρ S = ev C y1 ρ S) (h2 : ∀ S, ev C x2 ρ S = ev C y2 ρ S) (h3 : ∀ S, ev C x3 ρ S = ev C y3 ρ S) (S : Store) : exs 100 C (BB x1 x2 x3) ρ S = exs 100 C (BB y1 y2 y3) ρ S := by
  simp only [BB, exs, exS, ev, evs, evT, h1, h2, h3]
theorem for4 {b : List HI.S} {ρ r0 r1 r2 r3 : HI.Env} {S Sa Sb Sc Sd : Store} (h0 : exs 100 C b (ρ.set 15 (some (.int 0))) S = .next r0 Sa) (h1 : exs 100 C b (r0.set 15 (some (.int 1))) Sa = .next r1 Sb) (h2 : exs 100 C b (r1.set 15 (some (.int 2))) Sb = .next r2 Sc) (h3 : exs 100 C b (r2.set 15 (some (.int 3))) Sc = .next r3 Sd) :
    exS 100 C (.forS (.one 15) (.range1 (.lit (.int 4))) b) ρ S = .next r3 Sd := by
  have e : evIt C (.range1 (.lit (.int 4))) ρ S = .ok ([.int 0, .int 1, .int 2, .int 3], []) S := by
    simp only [evIt, ev, Res.bind_ok]; rfl
  simp only [exS, e, Res.to_ok, forGo, guardS_nil, asgT, h0, h1, h2, h3, SR.loop_next]
theorem mod_lt (a : Int) (m : Nat) (hm : 0 < m) : ∃ i : Nat, i < m ∧ a % (m : Int) = (i : Int) := by
  refine ⟨(a % (m : Int)).toNat, ?_, ?_⟩
  · have := Int.emod_nonneg a (b := (m : Int)) (by omega)
    have := Int.emod_lt_of_pos a (b := (m : Int)) (by omega)
    omega
  · have := Int.emod_nonneg a (b := (m : Int)) (by omega)
    omega
variable {ns : List Int}
theorem it0_all {i : Nat} (hi : i < 13) : exs 100 C (BB (cm 1 6) (cm 2 5) (cm 3 6)) (envi ns i (some (.int 0))) S2 = .next (envi ns i (some (.int 0))) S3 := by
  match i, hi with
  | 0, _ => exact kB_next (it0_0 ns)
  | 1, _ => exact kB_next (it0_1 ns)
  | 2, _ => exact kB_next (it0_2 ns)
  | 3, _ => exact kB_next (it0_3 ns)
  | 4, _ => exact kB_next (it0_4 ns)
  | 5, _ => exact kB_next (it0_5 ns)
  | 6, _ => exact kB_next (it0_6 ns)
  | 7, _ => exact kB_next (it0_7 ns)
  | 8, _ => exact kB_next (it0_8 ns)
  | 9, _ => exact kB_next (it0_9 ns)
  | 10, _ => exact kB_next (it0_10 ns)
  | 11, _ => exact kB_next (it0_11 ns)
  | 12, _ => exact kB_next (it0_12 ns)
theorem st2_all {i : Nat} (hi : i < 13) : exs 100 C (unp (.lit (.int i)) :: mid) (some (.scr ns) :: t1) S1 = .next (envi ns i none) S2 := by
  match i, hi with
  | 0, _ => exact kB_next (st2_0 ns)
  | 1, _ => exact kB_next (st2_1 ns)
  | 2, _ => exact kB_next (st2_2 ns)
  | 3, _ => exact kB_next (st2_3 ns)
  | 4, _ => exact kB_next (st2_4 ns)
  | 5, _ => exact kB_next (st2_5 ns)
  | 6, _ => exact kB_next (st2_6 ns)
  | 7, _ => exact kB_next (st2_7 ns)
  | 8, _ => exact kB_next (st2_8 ns)
  | 9, _ => exact kB_next (st2_9 ns)
  | 10, _ => exact kB_next (st2_10 ns)
  | 11, _ => exact kB_next (st2_11 ns)
  | 12, _ => exact kB_next (st2_12 ns)
theorem it1_all {j : Nat} (hj : j < 6) (h : cell ns 1 % 6 = (j : Int)) (v5 v6 v7 v8 v9 : Option Val) : exs 100 C (BB (cm 1 6) (cm 2 5) (cm 3 6)) (env ns v5 v6 v7 v8 v9 (some (.int 1))) S3 = .next (env ns v5 v6 v7 v8 v9 (some (.int 1))) S4 := by
  rw [BB_eq (h1 := (fun S => by rw [show ((1 : Int)) = (((1 : Nat) : Int)) from rfl, cm_run (ns := ns) rfl 1 6 (by decide), h]; simp only [ev])) (h2 := (fun _ => rfl)) (h3 := (fun _ => rfl)) (y1 := (.lit (.int j))) (y2 := (cm 2 5)) (y3 := (cm 3 6))]
  match j, hj with
  | 0, _ => exact kB_next (it1_0 ns v5 v6 v7 v8 v9)
  | 1, _ => exact kB_next (it1_1 ns v5 v6 v7 v8 v9)
  | 2, _ => exact kB_next (it1_2 ns v5 v6 v7 v8 v9)
  | 3, _ => exact kB_next (it1_3 ns v5 v6 v7 v8 v9)
  | 4, _ => exact kB_next (it1_4 ns v5 v6 v7 v8 v9)
  | 5, _ => exact kB_next (it1_5 ns v5 v6 v7 v8 v9)
theorem it2_all {j : Nat} (hj : j < 5) (h : cell ns 2 % 5 = (j : Int)) (v5 v6 v7 v8 v9 : Option Val) : exs 100 C (BB (cm 1 6) (cm 2 5) (cm 3 6)) (env ns v5 v6 v7 v8 v9 (some (.int 2))) S4 = .next (env ns v5 v6 v7 v8 v9 (some (.int 2))) S5 := by
  rw [BB_eq (h1 := (fun _ => rfl)) (h2 := (fun S => by rw [show ((2 : Int)) = (((2 : Nat) : Int)) from rfl, cm_run (ns := ns) rfl 2 5 (by decide), h]; simp only [ev])) (h3 := (fun _ => rfl)) (y1 := (cm 1 6)) (y2 := (.lit (.int j))) (y3 := (cm 3 6))]
  match j, hj with
  | 0, _ => exact kB_next (it2_0 ns v5 v6 v7 v8 v9)
  | 1, _ => exact kB_next (it2_1 ns v5 v6 v7 v8 v9)
  | 2, _ => exact kB_next (it2_2 ns v5 v6 v7 v8 v9)
  | 3, _ => exact kB_next (it2_3 ns v5 v6 v7 v8 v9)
  | 4, _ => exact kB_next (it2_4 ns v5 v6 v7 v8 v9)
theorem it3_all {j : Nat} (hj : j < 6) (h : cell ns 3 % 6 = (j : Int)) (v5 v6 v7 v8 v9 : Option Val) : exs 100 C (BB (cm 1 6) (cm 2 5) (cm 3 6)) (env ns v5 v6 v7 v8 v9 (some (.int 3))) S5 = .next (env ns v5 v6 v7 v8 v9 (some (.int 3))) S6 := by
  rw [BB_eq (h1 := (fun _ => rfl)) (h2 := (fun _ => rfl)) (h3 := (fun S => by rw [show ((3 : Int)) = (((3 : Nat) : Int)) from rfl, cm_run (ns := ns) rfl 3 6 (by decide), h]; simp only [ev])) (y1 := (cm 1 6)) (y2 := (cm 2 5)) (y3 := (.lit (.int j)))]
  match j, hj with
  | 0, _ => exact kB_next (it3_0 ns v5 v6 v7 v8 v9)
  | 1, _ => exact kB_next (it3_1 ns v5 v6 v7 v8 v9)
  | 2, _ => exact kB_next (it3_2 ns v5 v6 v7 v8 v9)
  | 3, _ => exact kB_next (it3_3 ns v5 v6 v7 v8 v9)
  | 4, _ => exact kB_next (it3_4 ns v5 v6 v7 v8 v9)
  | 5, _ => exact kB_next (it3_5 ns v5 v6 v7 v8 v9)
theorem body_run (ns : List Int) : exs 100 C f_law.body (some (.scr ns) :: List.replicate 15 none) [] = .ret (.bool true) S7 := by
  obtain ⟨i, hi, ei⟩ := mod_lt (cell ns 0) 13 (by decide)
  obtain ⟨j, hj, ej⟩ := mod_lt (cell ns 1) 6 (by decide)
  obtain ⟨k, hk, ek⟩ := mod_lt (cell ns 2) 5 (by decide)
  obtain ⟨l, hl, el⟩ := mod_lt (cell ns 3) 6 (by decide)
  rw [body_eq, exs_app, kB_next (step1 ns), SR.then_next]
  have e0 : exs 100 C (unp (cm 0 13) :: mid) (some (.scr ns) :: t1) S1 = .next (envi ns i none) S2 := by
    rw [← st2_all hi]
    simp only [exs]
    rw [unp_eq (i := (i : Int)) fun S => ?_]
    rw [show ((0 : Int)) = (((0 : Nat) : Int)) from rfl, cm_run (ns := ns) rfl 0 13 (by decide)]
    rw [show ((13 : Int)) = (((13 : Nat) : Int)) from rfl, ei]
  rw [show ∀ (a : HI.S) (b c : List HI.S), a :: (b ++ c) = (a :: b) ++ c from fun _ _ _ => rfl, exs_app, e0, SR.then_next]
  simp only [exs]
  rw [for4 (r0 := envi ns i (some (.int 0))) (it0_all hi) (it1_all hj ej _ _ _ _ _) (it2_all hk ek _ _ _ _ _) (it3_all hl el _ _ _ _ _), SR.then_next]
  exact kB_ret (end_ ns _ _ _ _ _)
theorem says : Says 100 T 40 := by
  intro ns _
  refine ⟨S7, ?_⟩
  have e : callF 100 T 40 (Str.ofString "law") [.scr ns] [] = runFn 100 C f_law [.scr ns] [] := by
    show (match T (Str.ofString "law") with
      | some fn => runFn 100 (callF 100 T 39) fn [.scr ns] []
      | none => .stuck) = _
    rw [T_law]
  rw [e]
  unfold runFn
  rw [if_pos (show [Val.scr ns].length = f_law.np from rfl)]
  rw [show (List.map some [Val.scr ns] ++ List.replicate (f_law.ns - f_law.np) none : HI.Env) = some (.scr ns) :: List.replicate 15 none from rfl, body_run ns]
  rfl
end K12
set_option maxRecDepth 100000 in
set_option maxHeartbeats 0 in
theorem PySem.Challenge.cw_holdall_k12_runners_refuse_holds : PySem.Challenge.rw_holdall_k12_runners_refuse.Holds := by
  exact K12.holds 100 K12.says
