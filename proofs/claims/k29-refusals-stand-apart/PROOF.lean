import PyProof.Rows.All
import Wide.All
import OpenK.AllK
import Wide.FinOn
import KE.KStateDown
import HandS.Head0
import HandS.Head1
import HandS.Head2
import HandS.HeadEnd
import HandS.HeadHook1
import HandS.HeadHook2
import HandS.HeadHook4
import HandS.ForMost
import HandS.ForExc
import HandS.Text
import HandS.TupMul
import HandS.CallSlots
import HandS.ExcOwn
import HandS.TryMany
import HandS.TupAny
import HandS.Deep
import HandS.Style
import HandS.IsInst
import HandS.Flow
import HandS.SortRule
import HandS.SortInts
import HandS.TupLen
import HandS.RaiseMore
import HandS.Small
import HandS.Defaults
import HandS.Iter
import KE.GoesMore
import KE.GoesEnum
import PyProof.Draws
import HandS.SortOrd
import HandS.Conv
import KE.KDictSum
import PyProof.Rows.SortShellAny
import HandS.DictTup
import PyProof.DictMoreH
import HandS.TupSets
import HandS.NoneIn
import KE.GoesZip
import HandS.DictSubView0
import HandS.DictSubView
import KE.KSortTupG
import HandS.Call
import KE.KDictZip
import PyProof.CollectWalk
import HandS.MapObj
import PyProof.StrOps2
import PyProof.FitsStr
import HandS.ExcIs
import HandS.EndBits
import HandS.Codes
import PySem.Challenge.RW_holdall_k29_refusals_stand_apart
set_option Elab.async false
set_option linter.all false
set_option maxRecDepth 100000
namespace HRN
open PySem PySem.W HandSHeadRun
def At {α : Type} (r : OpenRow) (M : Nat) (w : World) (f : SharedT → α) (v : α) : Prop := ∀ os : OsState, (endF (stepQ (denQ tabQ) r.prog w) M r.prog w os).map f = some v
theorem At.map {α β : Type} {r : OpenRow} {M : Nat} {w : World} {f : SharedT → α} {v : α} (h : At r M w f v) (g : α → β) : At r M w (fun s => g (f s)) (g v) := fun os => by
  have := h os
  cases x : endF (stepQ (denQ tabQ) r.prog w) M r.prog w os with
  | none => rw [x] at this; cases this
  | some s => rw [x] at this; simp only [Option.map_some, Option.some.injEq] at this ⊢; rw [this]
theorem At.both {α β γ : Type} {r : OpenRow} {M : Nat} {w : World} {f : SharedT → α} {v : α} {g : SharedT → β} {u : β} (h1 : At r M w f v) (h2 : At r M w g u) (k : α → β → γ) : At r M w (fun s => k (f s) (g s)) (k v u) := fun os => by
  have e1 := h1 os
  have e2 := h2 os
  cases x : endF (stepQ (denQ tabQ) r.prog w) M r.prog w os with
  | none => rw [x] at e1; cases e1
  | some s => rw [x] at e1 e2; simp only [Option.map_some, Option.some.injEq] at e1 e2 ⊢; rw [e1, e2]
abbrev Fr (s : SharedT) : PySem.W.Frag := He.frT (getT s) (He.asD (getT s) 5)
abbrev Ok (fn : List He.DefD) (s : SharedT) : Bool := fn.all fun d => d.ok (Fr s)
abbrev Fn (fn : List He.DefD) (s : SharedT) : List He.FnW := fn.map fun d => He.fnW (Fr s) d.at_
abbrev Ex (ex : PySem.W.Frag → Bool) (s : SharedT) : Bool := ex (Fr s)
theorem Ok.of {r : OpenRow} {M : Nat} {w : World} {fn : List He.DefD} (k : Nat) (h1 : At r M w (Ok (fn.take k)) true) (h2 : At r M w (Ok (fn.drop k)) true) : At r M w (Ok fn) true := by
  have := h1.both h2 (fun a b => a && b)
  intro os
  have e := this os
  rw [Bool.and_self] at e
  rw [← e]
  congr 1
  funext s
  show (fn.all fun d => d.ok (Fr s)) = (((fn.take k).all fun d => d.ok (Fr s)) && ((fn.drop k).all fun d => d.ok (Fr s)))
  rw [← List.all_append, List.take_append_drop]
theorem Fn.of {r : OpenRow} {M : Nat} {w : World} {fn : List He.DefD} (k : Nat) (h1 : At r M w (Fn (fn.take k)) ((fn.take k).map He.DefD.val)) (h2 : At r M w (Fn (fn.drop k)) ((fn.drop k).map He.DefD.val)) : At r M w (Fn fn) (fn.map He.DefD.val) := by
  have := h1.both h2 (fun a b => a ++ b)
  intro os
  have e := this os
  rw [← List.map_append, List.take_append_drop] at e
  rw [← e]
  congr 1
  funext s
  show (fn.map fun d => He.fnW (Fr s) d.at_) = ((fn.take k).map fun d => He.fnW (Fr s) d.at_) ++ ((fn.drop k).map fun d => He.fnW (Fr s) d.at_)
  rw [← List.map_append, List.take_append_drop]
theorem run_of {r : OpenRow} {q : Program} {M : Nat} {loose : List PySem.Str} {w : World} {fn : List He.DefD} {ex : PySem.W.Frag → Bool}
    (h1 : At r M w (fun s => looksF r.prog (boot_heap w.params) s.abs) true)
    (h2 : At r M w (fun s => seenQ q loose (importedModules r.prog.main.body) (fun s => xlAt q [] s && recOk r.toRowW.records s) s.abs) (openGood q loose))
    (h3 : At r M w (Ok fn) true) (h4 : At r M w (Fn fn) (fn.map He.DefD.val)) (h5 : At r M w (Ex ex) true) : RunEq r q (He.hookX 5 [] fn [] [] ex) (fun s => He.obsX 5 [] fn [] [] ex (getT s)) M loose w := fun os => by
  have e1 := h1 os
  have e2 := h2 os
  have e3 := h3 os
  have e4 := h4 os
  have e5 := h5 os
  cases x : endF (stepQ (denQ tabQ) r.prog w) M r.prog w os with
  | none => rw [x] at e1; cases e1
  | some s =>
    rw [x] at e1 e2 e3 e4 e5
    simp only [Option.map_some, Option.some.injEq] at e1 e2 e3 e4 e5 ⊢
    rw [e1, e2]
    congr 2
    show He.obsX 5 [] fn [] [] ex (getT s) = He.valX fn [] w
    simp only [He.obsX, He.obsT, He.obsD, He.valX, He.valT, He.valD, List.all_nil, List.map_nil, Bool.true_and]
    have e3' : (fn.all fun d => He.DefD.ok (He.frT (getT s) (He.asD (getT s) 5)) d) = true := e3
    have e4' : (fn.map fun d => He.fnW (He.frT (getT s) (He.asD (getT s) 5)) d.at_) = fn.map He.DefD.val := e4
    have e5' : ex (He.frT (getT s) (He.asD (getT s) 5)) = true := e5
    rw [e3', e4', e5']
    rfl
end HRN
set_option Elab.async false
set_option linter.all false
set_option maxRecDepth 100000
namespace HI
open PySem
abbrev Key := Sum Int Str
inductive Val where
  | non | bool (b : Bool) | int (i : Int) | str (s : Str)
  | tup (vs : List Val) | lst (vs : List Val) | scr (ns : List Int) | loc (n : Nat)
inductive Obj where
  | list (vs : List Val)
  | dictK (kvs : List (Key × Val))
  | dictT (kvs : List (List Key × Val))
  | inst (cls : Str) (fs : List (Str × Val))
mutual
def veq : Val → Val → Bool
  | .non, .non => true
  | .bool a, .bool b => decide (a = b)
  | .int a, .int b => decide (a = b)
  | .str a, .str b => decide (a = b)
  | .tup a, .tup b => veqs a b
  | .lst a, .lst b => veqs a b
  | .scr a, .scr b => decide (a = b)
  | .loc a, .loc b => decide (a = b)
  | _, _ => false
def veqs : List Val → List Val → Bool
  | [], [] => true
  | a :: as, b :: bs => veq a b && veqs as bs
  | _, _ => false
end
mutual
theorem veq_ok : ∀ {a b : Val}, veq a b = true → a = b
  | .non, b, h => by cases b <;> first | rfl | (simp [veq] at h; done)
  | .bool a, b, h => by cases b <;> simp [veq] at h; subst h; rfl
  | .int a, b, h => by cases b <;> simp [veq] at h; subst h; rfl
  | .str a, b, h => by cases b <;> simp [veq] at h; subst h; rfl
  | .tup a, b, h => by cases b <;> simp [veq] at h; rw [veqs_ok h]
  | .lst a, b, h => by cases b <;> simp [veq] at h; rw [veqs_ok h]
  | .scr a, b, h => by cases b <;> simp [veq] at h; subst h; rfl
  | .loc a, b, h => by cases b <;> simp [veq] at h; subst h; rfl
theorem veqs_ok : ∀ {a b : List Val}, veqs a b = true → a = b
  | [], b, h => by cases b <;> first | rfl | (simp [veqs] at h; done)
  | a :: as, b, h => by
    cases b with
    | nil => simp [veqs] at h
    | cons b bs =>
      simp only [veqs, Bool.and_eq_true] at h
      rw [veq_ok h.1, veqs_ok h.2]
end
mutual
theorem veq_rfl : ∀ a : Val, veq a a = true
  | .non => rfl
  | .bool _ | .int _ | .str _ | .scr _ | .loc _ => by simp [veq]
  | .tup a => by simp only [veq]; exact veqs_rfl a
  | .lst a => by simp only [veq]; exact veqs_rfl a
theorem veqs_rfl : ∀ a : List Val, veqs a a = true
  | [] => rfl
  | a :: as => by simp only [veqs, veq_rfl a, veqs_rfl as]; rfl
end
instance : DecidableEq Val := fun a b => decidable_of_iff (veq a b = true) ⟨veq_ok, fun h => h ▸ veq_rfl a⟩
instance : DecidableEq Obj := fun a b => match a, b with
  | .list x, .list y => decidable_of_iff (x = y) ⟨fun h => h ▸ rfl, fun h => by cases h; rfl⟩
  | .dictK x, .dictK y => decidable_of_iff (x = y) ⟨fun h => h ▸ rfl, fun h => by cases h; rfl⟩
  | .dictT x, .dictT y => decidable_of_iff (x = y) ⟨fun h => h ▸ rfl, fun h => by cases h; rfl⟩
  | .inst c x, .inst d y => decidable_of_iff (c = d ∧ x = y) ⟨fun h => by rw [h.1, h.2], fun h => by cases h; exact ⟨rfl, rfl⟩⟩
  | .list _, .dictK _ | .list _, .dictT _ | .list _, .inst _ _ | .dictK _, .list _ | .dictK _, .dictT _ | .dictK _, .inst _ _
  | .dictT _, .list _ | .dictT _, .dictK _ | .dictT _, .inst _ _ | .inst _ _, .list _ | .inst _ _, .dictK _ | .inst _ _, .dictT _ => isFalse (by intro h; cases h)
abbrev Store := List Obj
inductive Res (α : Type) where
  | ok (a : α) (S : Store)
  | exc (c : Str) (S : Store)
  | stuck
def Res.bind {α β : Type} : Res α → (α → Store → Res β) → Res β
  | .ok a S, f => f a S
  | .exc c S, _ => .exc c S
  | .stuck, _ => .stuck
@[simp] theorem Res.bind_ok {α β : Type} (a : α) (S : Store) (f : α → Store → Res β) : (Res.ok a S).bind f = f a S := rfl
@[simp] theorem Res.bind_exc {α β : Type} (c : Str) (S : Store) (f : α → Store → Res β) : (Res.exc c S : Res α).bind f = .exc c S := rfl
@[simp] theorem Res.bind_stuck {α β : Type} (f : α → Store → Res β) : (Res.stuck : Res α).bind f = .stuck := rfl
def ofO {α : Type} (o : Option α) (S : Store) : Res α := match o with
  | some a => .ok a S
  | none => .stuck
@[simp] theorem ofO_some {α : Type} (a : α) (S : Store) : ofO (some a) S = .ok a S := rfl
@[simp] theorem ofO_none {α : Type} (S : Store) : ofO (none : Option α) S = .stuck := rfl
abbrev LIM : Nat := 16777216
inductive B2 where
  | add | sub | mul | fdiv | mod | pow | eq | ne | lt | le | gt | ge | isin | notin | item | min2 | count | zipL | splitT | joinT | eqD | neD
  deriving DecidableEq
inductive U1 where
  | len | tuple | list | sorted | sum | str | int | neg | isNone | notNone | isB (b : Bool) | notB (b : Bool) | lenSet | rangeL
  deriving DecidableEq
mutual
def fine : Nat → Val → Bool
  | 0, _ => false
  | _ + 1, .non | _ + 1, .bool _ | _ + 1, .int _ => true
  | _ + 1, .str s => s.cps.all (· < 0x110000)
  | n + 1, .tup vs | n + 1, .lst vs => fines n vs
  | _ + 1, .scr _ | _ + 1, .loc _ => false
def fines : Nat → List Val → Bool
  | _, [] => true
  | n, v :: vs => fine n v && fines n vs
end
mutual
def eqv : Val → Val → Bool
  | .non, .non => true
  | .bool a, .bool b => a == b
  | .bool a, .int j => (if a then 1 else 0) == j
  | .int i, .bool b => i == (if b then 1 else 0)
  | .int i, .int j => i == j
  | .str x, .str y => x == y
  | .lst xs, .lst ys => eqvs xs ys
  | .tup xs, .tup ys => eqvs xs ys
  | _, _ => false
def eqvs : List Val → List Val → Bool
  | [], [] => true
  | x :: xs, y :: ys => eqv x y && eqvs xs ys
  | _, _ => false
end
def unl (S : Store) : Val → Val
  | .loc n => match S[n]? with
    | some (.list vs) => .lst vs
    | _ => .loc n
  | v => v
def isScal : Val → Bool
  | .non | .bool _ | .int _ | .str _ => true
  | _ => false
def sameScal : Val → Val → Bool
  | .non, .non => true | .non, .int _ => true | .int _, .non => true | .non, .bool _ => true | .bool _, .non => true
  | .non, .str _ => true | .str _, .non => true | .int _, .int _ => true | .bool _, .bool _ => true | .str _, .str _ => true
  | _, _ => false
def eqS (S : Store) (a b : Val) : Option Bool :=
  if sameScal a b then some (eqv a b)
  else if fine 60 (unl S a) && fine 60 (unl S b) then some (eqv (unl S a) (unl S b)) else none
def keyOf : Val → Option Key
  | .int i => some (.inl i)
  | .str s => some (.inr s)
  | _ => none
def keysOf : List Val → Option (List Key)
  | [] => some []
  | v :: vs => match keyOf v, keysOf vs with
    | some k, some ks => some (k :: ks)
    | _, _ => none
def keyV : Key → Val
  | .inl i => .int i
  | .inr s => .str s
def getK {κ : Type} [DecidableEq κ] (kvs : List (κ × Val)) (k : κ) : Option Val := (kvs.find? fun kv => decide (kv.1 = k)).map (·.2)
def putK {κ : Type} [DecidableEq κ] (kvs : List (κ × Val)) (k : κ) (v : Val) : List (κ × Val) :=
  if (kvs.any fun kv => decide (kv.1 = k)) = true then kvs.map (fun kv => if kv.1 = k then (kv.1, v) else kv) else kvs ++ [(k, v)]
def dropK {κ : Type} [DecidableEq κ] (kvs : List (κ × Val)) (k : κ) : List (κ × Val) := kvs.filter fun kv => decide (kv.1 ≠ k)
abbrev atI {α : Type} (xs : List α) (i : Int) : Option α := L2.atI xs i
def atV (vs : List Val) : Val → Option Val
  | .int k => atI vs k
  | _ => none
def getItem (S : Store) (a i : Val) : Option Val := match a with
  | .tup vs => atV vs i
  | .lst vs => atV vs i
  | .scr ns => (match i with | .int k => (atI ns k).map .int | _ => none)
  | .str s => (match i with | .int k => if s.length ≤ LIM then (atI s.cps.toList k).map fun c => .str ⟨#[c]⟩ else none | _ => none)
  | .loc n => (match S[n]? with
    | some (.list vs) => atV vs i
    | some (.dictK kvs) => (match keyOf i with | some k => getK kvs k | none => none)
    | some (.dictT kvs) => (match i with | .tup ks => (match keysOf ks with | some k => getK kvs k | none => none) | _ => none)
    | _ => none)
  | _ => none
def memV (xs : List Val) (x : Val) : Bool := xs.any fun y => eqv y x
def flat : Val → Bool
  | .non | .bool _ | .int _ | .str _ => true
  | _ => false
def isIn (S : Store) (x y : Val) : Option Bool := match y with
  | .str s => (match x with | .str t => (match t.cps.toList with | [c] => some (decide (c ∈ s.cps.toList)) | _ => none) | _ => none)
  | .tup vs => if fine 60 x && fines 59 vs then some (memV vs x) else none
  | .lst vs => if fine 60 x && fines 59 vs then some (memV vs x) else none
  | .loc n => (match S[n]? with
    | some (.list vs) => if fine 60 x && fines 59 vs then some (memV vs x) else none
    | some (.dictK kvs) => (match keyOf x with | some k => some (getK kvs k).isSome | none => none)
    | some (.dictT kvs) => (match x with | .tup ks => (match keysOf ks with | some k => some (getK kvs k).isSome | none => none) | _ => none)
    | _ => none)
  | _ => none
def small64 (i : Int) : Bool := decide (-(2 ^ 64) < i) && decide (i < 2 ^ 64)
def repL (k : Int) (vs : List Val) : List Val := (List.replicate k.toNat vs).flatten
def zipV : List Val → List Val → List Val
  | a :: as, b :: bs => .tup [a, b] :: zipV as bs
  | _, _ => []
def strsOf : List Val → Option (List Str)
  | [] => some []
  | .str i :: vs => (strsOf vs).map (i :: ·)
  | _ => none
def deep (S : Store) : Nat → Val → Val
  | 0, v => v
  | n + 1, .loc k => (match S[k]? with
    | some (.list vs) => .lst (vs.map (deep S n))
    | _ => .loc k)
  | n + 1, .tup vs => .tup (vs.map (deep S n))
  | n + 1, .lst vs => .lst (vs.map (deep S n))
  | _ + 1, v => v
def eqD (S : Store) (a b : Val) : Option Bool :=
  if fine 60 (deep S 8 a) && fine 60 (deep S 8 b) then some (eqv (deep S 8 a) (deep S 8 b)) else none
def countV (S : Store) (a b : Val) : Option Val := match a with
  | .str x => (match b with
    | .str y => some (.int (Txt.count x y))
    | _ => none)
  | a => (match unl S a with
    | .lst xs => if fine 60 b && fines 59 xs then some (.int ((xs.countP fun y => eqv y b : Nat) : Int)) else none
    | _ => none)
def zipLV (S : Store) (a b : Val) : Option Val := match unl S a, unl S b with
  | .lst xs, .lst ys => if xs.length ≤ 1000 ∧ ys.length ≤ 1000 then some (.lst (zipV xs ys)) else none
  | _, _ => none
def splitV (a b : Val) : Option Val := match a, b with
  | .str x, .str y => if (y.length == 0) = false ∧ x.length + 2 ≤ LIM then some (.lst ((Txt.split x y).map .str)) else none
  | _, _ => none
def joinV (S : Store) (a b : Val) : Option Val := match a, unl S b with
  | .str x, .lst vs => (match strsOf vs with
    | some ss => if (ss.map (·.length)).sum + ss.length * x.length ≤ LIM then some (.str (Txt.join x ss)) else none
    | none => none)
  | _, _ => none
def op2 (S : Store) : B2 → Val → Val → Option Val
  | .add, .int a, .int b => some (.int (a + b))
  | .add, .str a, .str b => if a.length + b.length ≤ LIM then some (.str (a ++ b)) else none
  | .add, .tup a, .tup b => if a.length + b.length ≤ LIM then some (.tup (a ++ b)) else none
  | .add, a, b => (match unl S a, unl S b with
    | .lst xs, .lst ys => if xs.length + ys.length ≤ LIM then some (.lst (xs ++ ys)) else none
    | _, _ => none)
  | .sub, .int a, .int b => some (.int (a - b))
  | .mul, .int a, .int b => if small64 a || small64 b then some (.int (a * b)) else none
  | .mul, .tup a, .int k => if decide (1 ≤ k) && decide (k ≤ 1000) && decide (a.length ≤ 1000) && !a.isEmpty then some (.tup (repL k a)) else none
  | .mul, .lst a, .int k => if decide (-1000 ≤ k) && decide (k ≤ 1000) && decide (a.length ≤ 1000) then some (.lst (repL k a)) else none
  | .fdiv, .int a, .int b => if decide (0 < b) && decide (b < 1073741824) then some (.int (a / b)) else none
  | .mod, .int a, .int b => if decide (0 < b) then some (.int (a % b)) else none
  | .pow, .int a, .int b => if decide (0 ≤ b) && decide ((PySem.Builtin.Int.intBits a : Int) * b ≤ 2 ^ 27) then some (.int (a ^ b.toNat)) else none
  | .eq, a, b => (eqS S a b).map .bool
  | .ne, a, b => (eqS S a b).map fun c => .bool (!c)
  | .lt, .int a, .int b => some (.bool (decide (a < b)))
  | .le, .int a, .int b => some (.bool (decide (a ≤ b)))
  | .gt, .int a, .int b => some (.bool (decide (b < a)))
  | .ge, .int a, .int b => some (.bool (decide (b ≤ a)))
  | .lt, .str a, .str b => some (.bool (decide (a.cps.toList < b.cps.toList)))
  | .le, .str a, .str b => some (.bool (!decide (b.cps.toList < a.cps.toList)))
  | .gt, .str a, .str b => some (.bool (decide (b.cps.toList < a.cps.toList)))
  | .ge, .str a, .str b => some (.bool (!decide (a.cps.toList < b.cps.toList)))
  | .isin, a, b => (isIn S a b).map .bool
  | .notin, a, b => (isIn S a b).map fun c => .bool (!c)
  | .item, a, b => getItem S a b
  | .min2, .int a, .int b => some (.int (if b < a then b else a))
  | .count, a, b => countV S a b
  | .eqD, a, b => (eqD S a b).map .bool
  | .neD, a, b => (eqD S a b).map fun c => .bool (!c)
  | .zipL, a, b => zipLV S a b
  | .splitT, a, b => splitV a b
  | .joinT, a, b => joinV S a b
  | _, _, _ => none
def truthy (S : Store) : Val → Option Bool
  | .non => some false
  | .bool b => some b
  | .int i => some (i != 0)
  | .str s => if s.length ≤ LIM then some (s.length != 0) else none
  | .tup vs => some (!vs.isEmpty)
  | .lst vs => some (!vs.isEmpty)
  | .loc n => (match S[n]? with
    | some (.list vs) => some (!vs.isEmpty)
    | _ => none)
  | _ => none
def intsOf : List Val → Option (List Int)
  | [] => some []
  | .int i :: vs => (intsOf vs).map (i :: ·)
  | _ => none
def pairOf : Val → Option (Int × Int)
  | .tup [.int a, .int b] => some (a, b)
  | _ => none
def pairsOf : List Val → Option (List (Int × Int))
  | [] => some []
  | v :: vs => match pairOf v, pairsOf vs with
    | some p, some ps => some (p :: ps)
    | _, _ => none
def pairV (p : Int × Int) : Val := .tup [.int p.1, .int p.2]
def insertBy {α : Type} (lt : α → α → Bool) (x : α) : List α → List α
  | [] => [x]
  | y :: ys => if lt y x then y :: insertBy lt x ys else x :: y :: ys
def sortBy {α : Type} (lt : α → α → Bool) (xs : List α) : List α := xs.foldr (insertBy lt) []
def ltS (a b : Str) : Bool := decide (a.cps.toList < b.cps.toList)
def ltP (a b : Int × Int) : Bool := decide (a.1 < b.1) || (decide (a.1 = b.1) && decide (a.2 < b.2))
def sortVals (vs : List Val) : Option (List Val) := match intsOf vs with
  | some ns => some ((sortBy (fun a b => decide (a < b)) ns).map .int)
  | none => match strsOf vs with
    | some ss => if ss.length < 64 then some ((sortBy ltS ss).map .str) else none
    | none => match pairsOf vs with
      | some ps => some ((sortBy ltP ps).map pairV)
      | none => none
def strKeys : List (Key × Val) → Option (List Str)
  | [] => some []
  | (.inr s, _) :: r => (strKeys r).map (s :: ·)
  | _ => none
def pairKeys : List (List Key × Val) → Option (List (Int × Int))
  | [] => some []
  | ([.inl a, .inl b], _) :: r => (pairKeys r).map ((a, b) :: ·)
  | _ => none
def sortedV (S : Store) : Val → Option Val
  | .lst vs => (sortVals vs).map .lst
  | .loc n => (match S[n]? with
    | some (.list vs) => (sortVals vs).map .lst
    | some (.dictK kvs) => (match strKeys kvs with
      | some ks => if ks.length < 64 then some (.lst ((sortBy ltS ks).map .str)) else none
      | none => none)
    | some (.dictT kvs) => (match pairKeys kvs with
      | some ks => some (.lst ((sortBy ltP ks).map pairV))
      | none => none)
    | _ => none)
  | _ => none
def lenSetV (vs : List Val) : Option Val := match pairsOf vs with
  | some ps => if ps.length < 64 ∧ ps.Nodup then some (.int ps.length) else none
  | none => none
def op1 (S : Store) : U1 → Val → Option Val
  | .len, .str s => if s.length ≤ LIM then some (.int s.length) else none
  | .len, .tup vs => some (.int vs.length)
  | .len, .lst vs => some (.int vs.length)
  | .len, .scr vs => some (.int vs.length)
  | .len, .loc n => (match S[n]? with
    | some (.list vs) => some (.int vs.length)
    | _ => none)
  | .tuple, .tup vs => some (.tup vs)
  | .tuple, .lst vs => some (.tup vs)
  | .tuple, .loc n => (match S[n]? with | some (.list vs) => some (.tup vs) | _ => none)
  | .list, .tup vs => some (.lst vs)
  | .list, .lst vs => some (.lst vs)
  | .list, .loc n => (match S[n]? with | some (.list vs) => some (.lst vs) | _ => none)
  | .sorted, v => sortedV S v
  | .sum, .lst vs => (intsOf vs).map fun ns => .int ns.sum
  | .str, .int i => if i.natAbs.log2 < 1920 then some (.str (toString i)) else none
  | .str, .str s => some (.str s)
  | .int, .int i => some (.int i)
  | .int, .bool b => some (.int (if b then 1 else 0))
  | .int, .str s => (match PySem.intText? s with
    | some n => if s.length ≤ 640 then some (.int n) else none
    | none => none)
  | .neg, .int i => some (.int (-i))
  | .isNone, v => (match v with | .non => some (.bool true) | _ => some (.bool false))
  | .notNone, v => (match v with | .non => some (.bool false) | _ => some (.bool true))
  | .isB b, .bool c => some (.bool (decide (c = b)))
  | .notB b, .bool c => some (.bool (!decide (c = b)))
  | .lenSet, .lst vs => lenSetV vs
  | .rangeL, .int j => if 0 ≤ j ∧ j ≤ 100000 then some (.lst ((List.range j.toNat).map fun (k : Nat) => .int k)) else none
  | _, _ => none
def bnd : Option Val → Option (Option Int)
  | none => some none
  | some (.int i) => some (some i)
  | _ => none
abbrev sIx := HT.sIx
def cut {α : Type} (xs : List α) (lo hi : Option Int) : List α := (xs.drop (sIx xs.length 0 lo)).take (sIx xs.length xs.length hi - sIx xs.length 0 lo)
def sliceV (S : Store) (a : Val) (lo hi : Option Int) : Option Val := match unl S a with
  | .tup vs => some (.tup (cut vs lo hi))
  | .lst vs => some (.lst (cut vs lo hi))
  | .str s => if s.length ≤ LIM then some (.str ⟨(cut s.cps.toList lo hi).toArray⟩) else none
  | _ => none
def isTy (t : Str) (l : List String) : Bool := l.any fun x => decide (t = Str.ofString x)
def isInst (S : Store) (t : Str) : Val → Option Bool
  | .non => some false
  | .bool _ => some (isTy t ["int", "bool"])
  | .int _ => some (isTy t ["int"])
  | .str _ => some (isTy t ["str"])
  | .tup _ => some (isTy t ["tuple"])
  | .lst _ => some (isTy t ["list"])
  | .scr _ => none
  | .loc n => (match S[n]? with
    | some (.list _) => some (isTy t ["list"])
    | some (.inst c _) => if c = t then some true else if isTy t ["int", "bool", "str", "tuple", "list"] then some false else none
    | _ => none)
def fldGet (fs : List (Str × Val)) (f : Str) : Option Val := fs.lookup f
def fldPut : List (Str × Val) → Str → Val → List (Str × Val)
  | [], f, v => [(f, v)]
  | (g, u) :: r, f, v => if g = f then (g, v) :: r else (g, u) :: fldPut r f v
end HI
namespace HI
open PySem
inductive Tg where
  | one (i : Nat)
  | tup (ts : List Tg)
mutual
inductive E where
  | var (i : Nat)
  | lit (v : Val)
  | un (op : U1) (a : E)
  | bin (op : B2) (a b : E)
  | chain (o1 o2 : B2) (a b c : E)
  | and (a b : E)
  | or (a b : E)
  | not (a : E)
  | ite (c a b : E)
  | tup (es : List E)
  | lst (es : List E)
  | slice (a : E) (lo hi : Option E)
  | comp (tg : Tg) (it : It) (cond : Option E) (elt : E)
  | call (f : Str) (es : List E)
  | meth (a : E) (c m : Str) (es : List E)
  | make (c : Str) (es : List E)
  | fld (a : E) (f : Str)
  | isI (a : E) (t : Str)
  | dlook (ks : List (Option Str)) (vs : List E) (k : E) (d : Option E)
  | inG (neg : Bool) (a : E) (g : Str) (vs : List Str)
  | box (es : List E)
  | newK
  | newT
  | newD (ks : List Str) (vs : List E)
  | dictOf (a : E)
  | pop (d k : E)
  | get2 (d k x : E)
  | join (s a : E)
  | split (a s : E)
  | itemsS (a : E)
  | boxc (tg : Tg) (it : It) (cond : Option E) (elt : E)
  | boxa (a b : E)
inductive It where
  | seq (a : E)
  | range1 (a : E)
  | range2 (a b : E)
  | enum (a : E)
  | zip (a b : E)
  | values (a : E)
  | keys (a : E)
end
inductive S where
  | pass
  | brk
  | expr (e : E)
  | set (tg : Tg) (e : E)
  | setF (a : E) (f : Str) (e : E)
  | setI (a k : E) (e : E)
  | augV (i : Nat) (op : B2) (e : E)
  | augF (a : E) (f : Str) (op : B2) (i : Int)
  | augI (a k : E) (op : B2) (e : E)
  | append (a e : E)
  | extend (a e : E)
  | ret (e : E)
  | retN
  | ifS (c : E) (a b : List S)
  | forS (tg : Tg) (it : It) (b : List S)
  | whileS (c : E) (b : List S)
  | forK (tg : Tg) (a : E) (b : List S)
  | raise (c : Str)
  | tryS (b : List S) (cs : List Str) (bs : List (List S))
  | tryA (i j : Nat) (b : List S) (ts : List Str)
structure Fn where
  np : Nat
  ns : Nat
  body : List S
  pure : Bool := false
abbrev Env := List (Option Val)
abbrev CallT := Str → List Val → Store → Res Val
mutual
def asgT : Tg → Val → Env → Option Env
  | .one i, v, ρ => some (ρ.set i (some v))
  | .tup ts, .tup vs, ρ => asgTs ts vs ρ
  | .tup _, _, _ => none
def asgTs : List Tg → List Val → Env → Option Env
  | [], [], ρ => some ρ
  | t :: ts, v :: vs, ρ => match asgT t v ρ with
    | some ρ' => asgTs ts vs ρ'
    | none => none
  | _, _, _ => none
end
def charsOf (s : Str) : List Val := s.cps.toList.map fun c => .str ⟨#[c]⟩
def itemsOf (S : Store) : Val → Option (List Val)
  | .tup vs => some vs
  | .lst vs => some vs
  | .str s => some (charsOf s)
  | .loc n => (match S[n]? with
    | some (.list vs) => some vs
    | _ => none)
  | _ => none
def lstOf (S : Store) : Val → Option (List Val)
  | .lst vs => some vs
  | .loc n => (match S[n]? with | some (.list vs) => some vs | _ => none)
  | _ => none
def seqOf (S : Store) : Val → Option (List Val)
  | .tup vs => some vs
  | v => lstOf S v
def keysOfD (S : Store) : Val → Option (List Val)
  | .loc n => (match S[n]? with
    | some (.dictK kvs) => some (kvs.map fun kv => keyV kv.1)
    | some (.dictT kvs) => some (kvs.map fun kv => .tup (kv.1.map keyV))
    | _ => none)
  | _ => none
def rangeV (lo : Int) (n : Nat) : List Val := (List.range n).map fun (k : Nat) => .int (lo + k)
def okR (i : Int) : Bool := decide (-(2 ^ 62) ≤ i) && decide (i < 2 ^ 62)
def enumV : List Val → Nat → List Val
  | [], _ => []
  | v :: vs, k => .tup [.int (k : Int), v] :: enumV vs (k + 1)
def valuesOf (S : Store) : Val → Option (List Val)
  | .loc n => (match S[n]? with
    | some (.dictK kvs) => some (kvs.map (·.2))
    | some (.dictT kvs) => some (kvs.map (·.2))
    | _ => none)
  | _ => none
abbrev Src := List (Nat × Obj)
def srcOf (S : Store) : Val → Src
  | .loc n => (match S[n]? with
    | some o => [(n, o)]
    | none => [])
  | _ => []
def still : Src → Store → Prop
  | [], _ => True
  | p :: r, S => S[p.1]? = some p.2 ∧ still r S
instance stillDec : ∀ (src : Src) (S : Store), Decidable (still src S)
  | [], _ => isTrue trivial
  | p :: r, S => @instDecidableAnd _ _ (inferInstance : Decidable (S[p.1]? = some p.2)) (stillDec r S)
def guardS {α : Type} (src : Src) (S : Store) (r : α) (bad : α) : α := if still src S then r else bad
@[simp] theorem guardS_nil {α : Type} (S : Store) (r bad : α) : guardS [] S r bad = r := by simp [guardS, still]
theorem guardS_pos {α : Type} {src : Src} {S : Store} (h : still src S) (r bad : α) : guardS src S r bad = r := by simp [guardS, h]
def compGo (src : Src) (f : Val → Store → Res (Option Val)) : List Val → List Val → Store → Res (List Val)
  | [], acc, S => guardS src S (.ok acc S) .stuck
  | x :: xs, acc, S => guardS src S ((f x S).bind fun o S1 => match o with
    | some v => if acc.length < LIM then compGo src f xs (acc ++ [v]) S1 else .stuck
    | none => compGo src f xs acc S1) .stuck
def noExc {α : Type} : Res α → Res α
  | .exc _ _ => .stuck
  | r => r
def pairsK : List Val → Option (List (Key × Val))
  | [] => some []
  | .tup [k, v] :: r => (match keyOf k, pairsK r with
    | some k, some r => some ((k, v) :: r)
    | _, _ => none)
  | _ => none
def mergeK (kvs more : List (Key × Val)) : List (Key × Val) := more.foldl (fun acc kv => putK acc kv.1 kv.2) kvs
def strInts : List (Key × Val) → Option (List (Str × Int))
  | [] => some []
  | (.inr s, .int i) :: r => (strInts r).map ((s, i) :: ·)
  | _ => none
def joinS (sep : Str) : List Str → Str
  | [] => Str.empty
  | [s] => s
  | s :: r => s ++ (sep ++ joinS sep r)
def lookD : List (Option Str) → List Val → Val → Option Val
  | none :: ks, v :: vs, x => (match x with | .non => some v | _ => lookD ks vs x)
  | some k :: ks, v :: vs, x => (match x with | .str s => if s = k then some v else lookD ks vs x | _ => lookD ks vs x)
  | _, _, _ => none
def okLook (ks : List (Option Str)) : Val → Bool
  | .str _ => true
  | .non => ks.any (·.isNone)
  | _ => false
def isDK (S : Store) : Val → Bool
  | .loc n => (match S[n]? with
    | some (.dictK _) => true
    | some (.dictT _) => true
    | _ => false)
  | _ => false
def dot (c m : Str) : Str := c ++ (Str.ofString "." ++ m)
def isOf (S : Store) (c m : Str) : Val → Bool
  | .loc n => (match S[n]? with
    | some (.inst d fs) => decide (d = c) && (fldGet fs m).isNone
    | _ => false)
  | _ => false
section
variable (C : CallT)
mutual
def ev : E → Env → Store → Res Val
  | .var i, ρ, S => (match ρ[i]? with | some (some v) => .ok v S | _ => .stuck)
  | .lit v, _, S => .ok v S
  | .un op a, ρ, S => (ev a ρ S).bind fun x S1 => ofO (op1 S1 op x) S1
  | .bin op a b, ρ, S => (ev a ρ S).bind fun x S1 => (ev b ρ S1).bind fun y S2 => ofO (op2 S2 op x y) S2
  | .chain o1 o2 a b c, ρ, S => (ev a ρ S).bind fun x S1 => (ev b ρ S1).bind fun y S2 =>
      (match op2 S2 o1 x y with
      | some (.bool true) => (ev c ρ S2).bind fun z S3 => ofO (op2 S3 o2 y z) S3
      | some (.bool false) => .ok (.bool false) S2
      | _ => .stuck)
  | .and a b, ρ, S => (ev a ρ S).bind fun x S1 => (match x with
      | .bool true => ev b ρ S1
      | .bool false => .ok (.bool false) S1
      | _ => .stuck)
  | .or a b, ρ, S => (ev a ρ S).bind fun x S1 => (match truthy S1 x with
      | some true => .ok x S1
      | some false => ev b ρ S1
      | none => .stuck)
  | .not a, ρ, S => (ev a ρ S).bind fun x S1 => (match truthy S1 x with
      | some b => .ok (.bool (!b)) S1
      | none => .stuck)
  | .ite c a b, ρ, S => (evT c ρ S).bind fun t S1 => if t = true then ev a ρ S1 else ev b ρ S1
  | .tup es, ρ, S => (evs es ρ S).bind fun vs S1 => .ok (.tup vs) S1
  | .lst es, ρ, S => (evs es ρ S).bind fun vs S1 => .ok (.lst vs) S1
  | .slice a lo hi, ρ, S => (ev a ρ S).bind fun x S1 => (evO lo ρ S1).bind fun l S2 => (match bnd l with
      | some l => (evO hi ρ S2).bind fun h S3 => (match bnd h with
        | some h => ofO (sliceV S3 x l h) S3
        | none => .stuck)
      | none => .stuck)
  | .comp tg it cond elt, ρ, S => (evIt it ρ S).bind fun xs S1 =>
      (compGo xs.2 (fun x S2 => match asgT tg x ρ with
        | some ρ' => (evC cond ρ' S2).bind fun t S3 => if t = true then (noExc (ev elt ρ' S3)).bind fun v S4 => .ok (some v) S4 else .ok none S3
        | none => .stuck) xs.1 [] S1).bind fun vs S2 => .ok (.lst vs) S2
  | .boxc tg it cond elt, ρ, S => (evIt it ρ S).bind fun xs S1 =>
      (compGo xs.2 (fun x S2 => match asgT tg x ρ with
        | some ρ' => (evC cond ρ' S2).bind fun t S3 => if t = true then (noExc (ev elt ρ' S3)).bind fun v S4 => .ok (some v) S4 else .ok none S3
        | none => .stuck) xs.1 [] S1).bind fun vs S2 => .ok (.loc S2.length) (S2 ++ [.list vs])
  | .call f es, ρ, S => (evs es ρ S).bind fun vs S1 => C f vs S1
  | .meth a c m es, ρ, S => (ev a ρ S).bind fun x S1 => if isOf S1 c m x = true then (evs es ρ S1).bind fun vs S2 => C (dot c m) (x :: vs) S2 else .stuck
  | .make c es, ρ, S => (evs es ρ S).bind fun vs S1 =>
      (C (dot c (Str.ofString "__init__")) (.loc S1.length :: vs) (S1 ++ [.inst c []])).bind fun v S2 => (match v with
        | .non => .ok (.loc S1.length) S2
        | _ => .stuck)
  | .fld a f, ρ, S => (ev a ρ S).bind fun x S1 => (match x with
      | .loc n => (match S1[n]? with
        | some (.inst _ fs) => ofO (fldGet fs f) S1
        | _ => .stuck)
      | _ => .stuck)
  | .isI a t, ρ, S => (ev a ρ S).bind fun x S1 => (match isInst S1 t x with
      | some b => .ok (.bool b) S1
      | none => .stuck)
  | .dlook ks vs k d, ρ, S => (evs vs ρ S).bind fun us S1 => (ev k ρ S1).bind fun x S2 => (evO d ρ S2).bind fun y S3 =>
      if okLook ks x then (match lookD ks us x with
        | some v => .ok v S3
        | none => ofO y S3) else .stuck
  | .inG neg a _ vs, ρ, S => (ev a ρ S).bind fun x S1 => (match x with
      | .str s => if fine 60 (.str s) = true then .ok (.bool (neg != vs.contains s)) S1 else .stuck
      | _ => .stuck)
  | .box es, ρ, S => (evs es ρ S).bind fun vs S1 => .ok (.loc S1.length) (S1 ++ [.list vs])
  | .boxa a b, ρ, S => (ev a ρ S).bind fun x S1 => (ev b ρ S1).bind fun y S2 => (match lstOf S2 x, lstOf S2 y with
      | some xs, some ys => if xs.length + ys.length ≤ LIM then .ok (.loc S2.length) (S2 ++ [.list (xs ++ ys)]) else .stuck
      | _, _ => .stuck)
  | .newK, _, S => .ok (.loc S.length) (S ++ [.dictK []])
  | .newT, _, S => .ok (.loc S.length) (S ++ [.dictT []])
  | .newD ks vs, ρ, S => (evs vs ρ S).bind fun us S1 => .ok (.loc S1.length) (S1 ++ [.dictK (mergeK [] ((ks.map Sum.inr).zip us))])
  | .dictOf a, ρ, S => (ev a ρ S).bind fun x S1 => (match lstOf S1 x with
      | some vs => (match pairsK vs with
        | some kvs => .ok (.loc S1.length) (S1 ++ [.dictK (mergeK [] kvs)])
        | none => .stuck)
      | none => .stuck)
  | .pop d k, ρ, S => (ev d ρ S).bind fun x S1 => if isDK S1 x = true then (ev k ρ S1).bind fun y S2 => (match x with
      | .loc n => (match S2[n]? with
        | some (.dictT kvs) => (match y with
          | .tup ks => (match keysOf ks with
            | some k => (match getK kvs k with
              | some v => .ok v (S2.set n (.dictT (dropK kvs k)))
              | none => .stuck)
            | none => .stuck)
          | _ => .stuck)
        | _ => .stuck)
      | _ => .stuck) else .stuck
  | .get2 d k x, ρ, S => (ev d ρ S).bind fun x0 S1 => if isDK S1 x0 = true then (ev k ρ S1).bind fun y S2 => (ev x ρ S2).bind fun z S3 => (match x0 with
      | .loc n => (match S3[n]? with
        | some (.dictK kvs) => (match keyOf y with
          | some k => .ok ((getK kvs k).getD z) S3
          | none => .stuck)
        | _ => .stuck)
      | _ => .stuck) else .stuck
  | .join s a, ρ, S => (ev s ρ S).bind fun x S1 => (ev a ρ S1).bind fun y S2 => (match x, y with
      | .str sep, .lst vs => (match strsOf vs with
        | some ss => if (joinS sep ss).length ≤ LIM then .ok (.str (joinS sep ss)) S2 else .stuck
        | none => .stuck)
      | _, _ => .stuck)
  | .split _ _, _, _ => .stuck
  | .itemsS a, ρ, S => (ev a ρ S).bind fun x S1 => (match x with
      | .loc n => (match S1[n]? with
        | some (.dictK kvs) => (match strInts kvs with
          | some ps => if ps.length < 64 then .ok (.lst ((sortBy (fun a b => ltS a.1 b.1) ps).map fun p => .tup [.str p.1, .int p.2])) S1 else .stuck
          | none => .stuck)
        | _ => .stuck)
      | _ => .stuck)
def evT : E → Env → Store → Res Bool
  | .and a b, ρ, S => (evT a ρ S).bind fun x S1 => if x = true then evT b ρ S1 else .ok false S1
  | .or a b, ρ, S => (evT a ρ S).bind fun x S1 => if x = true then .ok true S1 else evT b ρ S1
  | .not a, ρ, S => (evT a ρ S).bind fun x S1 => .ok (!x) S1
  | e, ρ, S => (ev e ρ S).bind fun x S1 => ofO (truthy S1 x) S1
def evs : List E → Env → Store → Res (List Val)
  | [], _, S => .ok [] S
  | e :: es, ρ, S => (ev e ρ S).bind fun v S1 => (evs es ρ S1).bind fun vs S2 => .ok (v :: vs) S2
def evO : Option E → Env → Store → Res (Option Val)
  | none, _, S => .ok none S
  | some e, ρ, S => (ev e ρ S).bind fun v S1 => .ok (some v) S1
def evC : Option E → Env → Store → Res Bool
  | none, _, S => .ok true S
  | some e, ρ, S => noExc (evT e ρ S)
def evIt : It → Env → Store → Res (List Val × Src)
  | .seq a, ρ, S => (ev a ρ S).bind fun x S1 => (match itemsOf S1 x with
      | some vs => .ok (vs, srcOf S1 x) S1
      | none => .stuck)
  | .range1 a, ρ, S => (ev a ρ S).bind fun x S1 => (match x with
      | .int j => if okR j then .ok (rangeV 0 j.toNat, []) S1 else .stuck
      | _ => .stuck)
  | .range2 a b, ρ, S => (ev a ρ S).bind fun x S1 => (ev b ρ S1).bind fun y S2 => (match x, y with
      | .int i, .int j => if okR i && okR j then .ok (rangeV i (j - i).toNat, []) S2 else .stuck
      | _, _ => .stuck)
  | .enum a, ρ, S => (ev a ρ S).bind fun x S1 => (match seqOf S1 x with
      | some vs => .ok (enumV vs 0, srcOf S1 x) S1
      | none => .stuck)
  | .zip a b, ρ, S => (ev a ρ S).bind fun x S1 => (ev b ρ S1).bind fun y S2 => (match seqOf S2 x, seqOf S2 y with
      | some vs, some us => .ok (zipV vs us, srcOf S2 x ++ srcOf S2 y) S2
      | _, _ => .stuck)
  | .keys a, ρ, S => (ev a ρ S).bind fun x S1 => (match keysOfD S1 x with
      | some vs => .ok (vs, srcOf S1 x) S1
      | none => .stuck)
  | .values a, ρ, S => (ev a ρ S).bind fun x S1 => (match valuesOf S1 x with
      | some vs => .ok (vs, srcOf S1 x) S1
      | none => .stuck)
end
end
end HI
namespace HI
open PySem
inductive SR where
  | next (ρ : Env) (S : Store)
  | ret (v : Val) (S : Store)
  | brk (ρ : Env) (S : Store)
  | exc (c : Str) (ρ : Env) (S : Store)
  | stuck
def Res.to {α : Type} (r : Res α) (ρ : Env) (f : α → Store → SR) : SR := match r with
  | .ok a S => f a S
  | .exc c S => .exc c ρ S
  | .stuck => .stuck
@[simp] theorem Res.to_ok {α : Type} (a : α) (S : Store) (ρ : Env) (f : α → Store → SR) : (Res.ok a S).to ρ f = f a S := rfl
@[simp] theorem Res.to_exc {α : Type} (c : Str) (S : Store) (ρ : Env) (f : α → Store → SR) : (Res.exc c S : Res α).to ρ f = .exc c ρ S := rfl
@[simp] theorem Res.to_stuck {α : Type} (ρ : Env) (f : α → Store → SR) : (Res.stuck : Res α).to ρ f = .stuck := rfl
def SR.andThen (r : SR) (f : Env → Store → SR) : SR := match r with
  | .next ρ S => f ρ S
  | r => r
@[simp] theorem SR.then_next (ρ : Env) (S : Store) (f : Env → Store → SR) : (SR.next ρ S).andThen f = f ρ S := rfl
@[simp] theorem SR.then_ret (v : Val) (S : Store) (f : Env → Store → SR) : (SR.ret v S).andThen f = .ret v S := rfl
@[simp] theorem SR.then_brk (ρ : Env) (S : Store) (f : Env → Store → SR) : (SR.brk ρ S).andThen f = .brk ρ S := rfl
@[simp] theorem SR.then_exc (c : Str) (ρ : Env) (S : Store) (f : Env → Store → SR) : (SR.exc c ρ S).andThen f = .exc c ρ S := rfl
@[simp] theorem SR.then_stuck (f : Env → Store → SR) : SR.stuck.andThen f = .stuck := rfl
def SR.loop (r : SR) (f : Env → Store → SR) : SR := match r with
  | .next ρ S => f ρ S
  | .brk ρ S => .next ρ S
  | r => r
@[simp] theorem SR.loop_next (ρ : Env) (S : Store) (f : Env → Store → SR) : (SR.next ρ S).loop f = f ρ S := rfl
@[simp] theorem SR.loop_ret (v : Val) (S : Store) (f : Env → Store → SR) : (SR.ret v S).loop f = .ret v S := rfl
@[simp] theorem SR.loop_brk (ρ : Env) (S : Store) (f : Env → Store → SR) : (SR.brk ρ S).loop f = .next ρ S := rfl
@[simp] theorem SR.loop_exc (c : Str) (ρ : Env) (S : Store) (f : Env → Store → SR) : (SR.exc c ρ S).loop f = .exc c ρ S := rfl
@[simp] theorem SR.loop_stuck (f : Env → Store → SR) : SR.stuck.loop f = .stuck := rfl
def noExcS : SR → SR
  | .exc _ _ _ => .stuck
  | r => r
def sameS (S0 : Store) : SR → SR
  | .next ρ S => if S = S0 then .next ρ S else .stuck
  | .ret v S => if S = S0 then .ret v S else .stuck
  | .brk ρ S => if S = S0 then .brk ρ S else .stuck
  | _ => .stuck
def forGo (src : Src) (tg : Tg) (f : Env → Store → SR) : List Val → Env → Store → SR
  | [], ρ, S => guardS src S (.next ρ S) .stuck
  | x :: xs, ρ, S => guardS src S (match asgT tg x ρ with
    | some ρ' => (f ρ' S).loop (forGo src tg f xs)
    | none => .stuck) .stuck
def whileGo (c : Env → Store → Res Bool) (f : Env → Store → SR) : Nat → Env → Store → SR
  | 0, _, _ => .stuck
  | n + 1, ρ, S => (c ρ S).to ρ fun t S1 => if t = true then (f ρ S1).loop (whileGo c f n) else .next ρ S1
def putItem (S : Store) (x y v : Val) : Option Store := match x with
  | .loc n => (match S[n]? with
    | some (.list vs) => (match y with
      | .int k => (match L2.ixN vs.length k with
        | some j => some (S.set n (.list (vs.set j v)))
        | none => none)
      | _ => none)
    | some (.dictK kvs) => (match keyOf y with
      | some k => if kvs.length < LIM then some (S.set n (.dictK (putK kvs k v))) else none
      | none => none)
    | some (.dictT kvs) => (match y with
      | .tup ks => (match keysOf ks with
        | some k => if kvs.length < LIM then some (S.set n (.dictT (putK kvs k v))) else none
        | none => none)
      | _ => none)
    | _ => none)
  | _ => none
def putFld (S : Store) (x : Val) (f : Str) (v : Val) : Option Store := match x with
  | .loc n => (match S[n]? with
    | some (.inst c fs) => if fs.length < 1000 then some (S.set n (.inst c (fldPut fs f v))) else none
    | _ => none)
  | _ => none
def getFld (S : Store) (x : Val) (f : Str) : Option Val := match x with
  | .loc n => (match S[n]? with
    | some (.inst _ fs) => fldGet fs f
    | _ => none)
  | _ => none
def aug2 (S : Store) (op : B2) (x y : Val) : Option Val := match op, x, y with
  | .add, .int a, .int b => some (.int (a + b))
  | .sub, .int a, .int b => some (.int (a - b))
  | _, _, _ => none
def askD (S : Store) (x y : Val) : Option Val := match x with
  | .loc n => (match S[n]? with
    | some (.list vs) => atV vs y
    | some (.dictK kvs) => (match keyOf y with | some k => getK kvs k | none => none)
    | some (.dictT kvs) => (match y with | .tup ks => (match keysOf ks with | some k => getK kvs k | none => none) | _ => none)
    | _ => none)
  | _ => none
def isLB (S : Store) : Val → Bool
  | .loc n => (match S[n]? with
    | some (.list _) => true
    | _ => false)
  | _ => false
def addL (S : Store) (x : Val) (us : List Val) : Option Store := match x with
  | .loc n => (match S[n]? with
    | some (.list vs) => if vs.length + us.length ≤ LIM then some (S.set n (.list (vs ++ us))) else none
    | _ => none)
  | _ => none
def anyErr : Str := Str.ofString "HoldError"
def exA (ts : List Str) (i j : Nat) (c : Str) (ρ : Env) (S : Store) : SR := if c ∈ ts then .next ((ρ.set j (some (.loc S.length))).set i none) (S ++ [.list ((ts.map (fun t => decide (c = t)) ++ [true]).map Val.bool)]) else .stuck
def catches (c h : Str) : Bool := decide (c = h) || decide (h = anyErr)
section
variable (L : Nat) (C : CallT)
mutual
def exS : S → Env → Store → SR
  | .pass, ρ, S => .next ρ S
  | .brk, ρ, S => .brk ρ S
  | .expr e, ρ, S => (ev C e ρ S).to ρ fun _ S1 => .next ρ S1
  | .set tg e, ρ, S => (ev C e ρ S).to ρ fun v S1 => (match asgT tg v ρ with
      | some ρ' => .next ρ' S1
      | none => .stuck)
  | .setF a f e, ρ, S => (ev C e ρ S).to ρ fun v S1 => (ev C a ρ S1).to ρ fun x S2 => (match putFld S2 x f v with
      | some S3 => .next ρ S3
      | none => .stuck)
  | .setI a k e, ρ, S => (ev C e ρ S).to ρ fun v S1 => (ev C a ρ S1).to ρ fun x S2 => (ev C k ρ S2).to ρ fun y S3 => (match putItem S3 x y v with
      | some S4 => .next ρ S4
      | none => .stuck)
  | .augV i op e, ρ, S => (match ρ[i]? with
      | some (some x) => (ev C e ρ S).to ρ fun y S1 => (match aug2 S1 op x y with
        | some z => .next (ρ.set i (some z)) S1
        | none => .stuck)
      | _ => .stuck)
  | .augF a f op i, ρ, S => (ev C a ρ S).to ρ fun x S1 => (match getFld S1 x f with
      | some u => (match aug2 S1 op u (.int i) with
        | some z => (match putFld S1 x f z with
          | some S3 => .next ρ S3
          | none => .stuck)
        | none => .stuck)
      | none => .stuck)
  | .augI a k op e, ρ, S => (ev C a ρ S).to ρ fun x S1 => (ev C k ρ S1).to ρ fun y S2 => (match askD S2 x y with
      | some u => (ev C e ρ S2).to ρ fun w S3 => (match aug2 S3 op u w with
        | some z => (match putItem S3 x y z with
          | some S4 => .next ρ S4
          | none => .stuck)
        | none => .stuck)
      | none => .stuck)
  | .append a e, ρ, S => (ev C a ρ S).to ρ fun x S1 => if isLB S1 x = true then (ev C e ρ S1).to ρ fun v S2 => (match addL S2 x [v] with
      | some S3 => .next ρ S3
      | none => .stuck) else .stuck
  | .extend a e, ρ, S => (ev C a ρ S).to ρ fun x S1 => if isLB S1 x = true then (ev C e ρ S1).to ρ fun v S2 => (match unl S2 v with
      | .lst us => (match addL S2 x us with
        | some S3 => .next ρ S3
        | none => .stuck)
      | _ => .stuck) else .stuck
  | .ret e, ρ, S => (ev C e ρ S).to ρ fun v S1 => .ret v S1
  | .retN, _, S => .ret .non S
  | .ifS c a b, ρ, S => (evT C c ρ S).to ρ fun t S1 => if t = true then exs a ρ S1 else exs b ρ S1
  | .forS tg it b, ρ, S => (evIt C it ρ S).to ρ fun xs S1 => forGo xs.2 tg (fun ρ' S' => exs b ρ' S') xs.1 ρ S1
  | .forK tg a b, ρ, S => (evIt C (.keys a) ρ S).to ρ fun xs S1 => forGo xs.2 tg (fun ρ' S' => sameS S' (exs b ρ' S')) xs.1 ρ S1
  | .whileS c b, ρ, S => whileGo (fun ρ' S' => evT C c ρ' S') (fun ρ' S' => exs b ρ' S') L ρ S
  | .raise c, ρ, S => .exc c ρ S
  | .tryS b cs bs, ρ, S => (match exs b ρ S with
      | .exc c ρ' S' => exH cs bs c ρ' S'
      | r => r)
  | .tryA i j b ts, ρ, S => (match exs b ρ S with
      | .exc c ρ' S' => exA ts i j c ρ' S'
      | r => r)
def exs : List S → Env → Store → SR
  | [], ρ, S => .next ρ S
  | s :: ss, ρ, S => (exS s ρ S).andThen fun ρ' S' => exs ss ρ' S'
def exH : List Str → List (List S) → Str → Env → Store → SR
  | h :: hs, b :: bs, c, ρ, S => if catches c h = true then noExcS (exs b ρ S) else exH hs bs c ρ S
  | _, _, c, ρ, S => .exc c ρ S
end
mutual
def below (lo : Nat) : Val → Bool
  | .loc n => decide (n < lo)
  | .tup vs => belows lo vs
  | .lst vs => belows lo vs
  | _ => true
def belows (lo : Nat) : List Val → Bool
  | [] => true
  | v :: vs => below lo v && belows lo vs
end
def unbox (lo : Nat) (S : Store) (v : Val) : Option Val := match v with
  | .loc n => if n < lo then some (.loc n) else (match S[n]? with
    | some (.list vs) => if belows lo vs then some (.lst vs) else none
    | _ => none)
  | v => if below lo v then some v else none
def finish (fn : Fn) (S0 : Store) (v : Val) (S : Store) : Res Val :=
  if fn.pure then (if S.take S0.length = S0 then (match unbox S0.length S v with
    | some u => .ok u S0
    | none => .stuck) else .stuck) else .ok v S
def finishX (fn : Fn) (S0 : Store) (c : Str) (S : Store) : Res Val :=
  if fn.pure then (if S.take S0.length = S0 then .exc c S0 else .stuck) else .exc c S
def runFn (fn : Fn) (args : List Val) (S : Store) : Res Val :=
  if args.length = fn.np then (match exs L C fn.body (args.map some ++ List.replicate (fn.ns - fn.np) none) S with
    | .ret v S1 => finish fn S v S1
    | .next _ S1 => finish fn S .non S1
    | .exc c _ S1 => finishX fn S c S1
    | _ => .stuck) else .stuck
abbrev Tab := Str → Option Fn
def callF (T : Tab) : Nat → CallT
  | 0 => fun _ _ _ => .stuck
  | n + 1 => fun f args S => (match T f with
    | some fn => runFn L (callF T n) fn args S
    | none => .stuck)
end
end HI
set_option Elab.async false
set_option linter.all false
set_option maxRecDepth 100000
namespace HI
open PySem
section
variable (C : CallT)
mutual
def kE : Nat → E → Env → Store → Res Val
  | 0, _, _, _ => .stuck
  | n + 1, .var i, ρ, S => (match ρ[i]? with | some (some v) => .ok v S | _ => .stuck)
  | n + 1, .lit v, _, S => .ok v S
  | n + 1, .un op a, ρ, S => (kE n a ρ S).bind fun x S1 => ofO (op1 S1 op x) S1
  | n + 1, .bin op a b, ρ, S => (kE n a ρ S).bind fun x S1 => (kE n b ρ S1).bind fun y S2 => ofO (op2 S2 op x y) S2
  | n + 1, .chain o1 o2 a b c, ρ, S => (kE n a ρ S).bind fun x S1 => (kE n b ρ S1).bind fun y S2 =>
      (match op2 S2 o1 x y with
      | some (.bool true) => (kE n c ρ S2).bind fun z S3 => ofO (op2 S3 o2 y z) S3
      | some (.bool false) => .ok (.bool false) S2
      | _ => .stuck)
  | n + 1, .and a b, ρ, S => (kE n a ρ S).bind fun x S1 => (match x with
      | .bool true => kE n b ρ S1
      | .bool false => .ok (.bool false) S1
      | _ => .stuck)
  | n + 1, .or a b, ρ, S => (kE n a ρ S).bind fun x S1 => (match truthy S1 x with
      | some true => .ok x S1
      | some false => kE n b ρ S1
      | none => .stuck)
  | n + 1, .not a, ρ, S => (kE n a ρ S).bind fun x S1 => (match truthy S1 x with
      | some b => .ok (.bool (!b)) S1
      | none => .stuck)
  | n + 1, .ite c a b, ρ, S => (kT n c ρ S).bind fun t S1 => if t = true then kE n a ρ S1 else kE n b ρ S1
  | n + 1, .tup es, ρ, S => (kA n es ρ S).bind fun vs S1 => .ok (.tup vs) S1
  | n + 1, .lst es, ρ, S => (kA n es ρ S).bind fun vs S1 => .ok (.lst vs) S1
  | n + 1, .slice a lo hi, ρ, S => (kE n a ρ S).bind fun x S1 => (kO n lo ρ S1).bind fun l S2 => (match bnd l with
      | some l => (kO n hi ρ S2).bind fun h S3 => (match bnd h with
        | some h => ofO (sliceV S3 x l h) S3
        | none => .stuck)
      | none => .stuck)
  | n + 1, .comp tg it cond elt, ρ, S => (kI n it ρ S).bind fun xs S1 =>
      (compGo xs.2 (fun x S2 => match asgT tg x ρ with
        | some ρ' => (kC n cond ρ' S2).bind fun t S3 => if t = true then (noExc (kE n elt ρ' S3)).bind fun v S4 => .ok (some v) S4 else .ok none S3
        | none => .stuck) xs.1 [] S1).bind fun vs S2 => .ok (.lst vs) S2
  | n + 1, .boxc tg it cond elt, ρ, S => (kI n it ρ S).bind fun xs S1 =>
      (compGo xs.2 (fun x S2 => match asgT tg x ρ with
        | some ρ' => (kC n cond ρ' S2).bind fun t S3 => if t = true then (noExc (kE n elt ρ' S3)).bind fun v S4 => .ok (some v) S4 else .ok none S3
        | none => .stuck) xs.1 [] S1).bind fun vs S2 => .ok (.loc S2.length) (S2 ++ [.list vs])
  | n + 1, .call f es, ρ, S => (kA n es ρ S).bind fun vs S1 => C f vs S1
  | n + 1, .meth a c m es, ρ, S => (kE n a ρ S).bind fun x S1 => if isOf S1 c m x = true then (kA n es ρ S1).bind fun vs S2 => C (dot c m) (x :: vs) S2 else .stuck
  | n + 1, .make c es, ρ, S => (kA n es ρ S).bind fun vs S1 =>
      (C (dot c (Str.ofString "__init__")) (.loc S1.length :: vs) (S1 ++ [.inst c []])).bind fun v S2 => (match v with
        | .non => .ok (.loc S1.length) S2
        | _ => .stuck)
  | n + 1, .fld a f, ρ, S => (kE n a ρ S).bind fun x S1 => (match x with
      | .loc n => (match S1[n]? with
        | some (.inst _ fs) => ofO (fldGet fs f) S1
        | _ => .stuck)
      | _ => .stuck)
  | n + 1, .isI a t, ρ, S => (kE n a ρ S).bind fun x S1 => (match isInst S1 t x with
      | some b => .ok (.bool b) S1
      | none => .stuck)
  | n + 1, .dlook ks vs k d, ρ, S => (kA n vs ρ S).bind fun us S1 => (kE n k ρ S1).bind fun x S2 => (kO n d ρ S2).bind fun y S3 =>
      if okLook ks x then (match lookD ks us x with
        | some v => .ok v S3
        | none => ofO y S3) else .stuck
  | n + 1, .inG neg a _ vs, ρ, S => (kE n a ρ S).bind fun x S1 => (match x with
      | .str s => if fine 60 (.str s) = true then .ok (.bool (neg != vs.contains s)) S1 else .stuck
      | _ => .stuck)
  | n + 1, .box es, ρ, S => (kA n es ρ S).bind fun vs S1 => .ok (.loc S1.length) (S1 ++ [.list vs])
  | n + 1, .boxa a b, ρ, S => (kE n a ρ S).bind fun x S1 => (kE n b ρ S1).bind fun y S2 => (match lstOf S2 x, lstOf S2 y with
      | some xs, some ys => if xs.length + ys.length ≤ LIM then .ok (.loc S2.length) (S2 ++ [.list (xs ++ ys)]) else .stuck
      | _, _ => .stuck)
  | n + 1, .newK, _, S => .ok (.loc S.length) (S ++ [.dictK []])
  | n + 1, .newT, _, S => .ok (.loc S.length) (S ++ [.dictT []])
  | n + 1, .newD ks vs, ρ, S => (kA n vs ρ S).bind fun us S1 => .ok (.loc S1.length) (S1 ++ [.dictK (mergeK [] ((ks.map Sum.inr).zip us))])
  | n + 1, .dictOf a, ρ, S => (kE n a ρ S).bind fun x S1 => (match lstOf S1 x with
      | some vs => (match pairsK vs with
        | some kvs => .ok (.loc S1.length) (S1 ++ [.dictK (mergeK [] kvs)])
        | none => .stuck)
      | none => .stuck)
  | n + 1, .pop d k, ρ, S => (kE n d ρ S).bind fun x S1 => if isDK S1 x = true then (kE n k ρ S1).bind fun y S2 => (match x with
      | .loc n => (match S2[n]? with
        | some (.dictT kvs) => (match y with
          | .tup ks => (match keysOf ks with
            | some k => (match getK kvs k with
              | some v => .ok v (S2.set n (.dictT (dropK kvs k)))
              | none => .stuck)
            | none => .stuck)
          | _ => .stuck)
        | _ => .stuck)
      | _ => .stuck) else .stuck
  | n + 1, .get2 d k x, ρ, S => (kE n d ρ S).bind fun x0 S1 => if isDK S1 x0 = true then (kE n k ρ S1).bind fun y S2 => (kE n x ρ S2).bind fun z S3 => (match x0 with
      | .loc n => (match S3[n]? with
        | some (.dictK kvs) => (match keyOf y with
          | some k => .ok ((getK kvs k).getD z) S3
          | none => .stuck)
        | _ => .stuck)
      | _ => .stuck) else .stuck
  | n + 1, .join s a, ρ, S => (kE n s ρ S).bind fun x S1 => (kE n a ρ S1).bind fun y S2 => (match x, y with
      | .str sep, .lst vs => (match strsOf vs with
        | some ss => if (joinS sep ss).length ≤ LIM then .ok (.str (joinS sep ss)) S2 else .stuck
        | none => .stuck)
      | _, _ => .stuck)
  | n + 1, .split _ _, _, _ => .stuck
  | n + 1, .itemsS a, ρ, S => (kE n a ρ S).bind fun x S1 => (match x with
      | .loc n => (match S1[n]? with
        | some (.dictK kvs) => (match strInts kvs with
          | some ps => if ps.length < 64 then .ok (.lst ((sortBy (fun a b => ltS a.1 b.1) ps).map fun p => .tup [.str p.1, .int p.2])) S1 else .stuck
          | none => .stuck)
        | _ => .stuck)
      | _ => .stuck)
def kT : Nat → E → Env → Store → Res Bool
  | 0, _, _, _ => .stuck
  | n + 1, .and a b, ρ, S => (kT n a ρ S).bind fun x S1 => if x = true then kT n b ρ S1 else .ok false S1
  | n + 1, .or a b, ρ, S => (kT n a ρ S).bind fun x S1 => if x = true then .ok true S1 else kT n b ρ S1
  | n + 1, .not a, ρ, S => (kT n a ρ S).bind fun x S1 => .ok (!x) S1
  | n + 1, e, ρ, S => (kE n e ρ S).bind fun x S1 => ofO (truthy S1 x) S1
def kA : Nat → List E → Env → Store → Res (List Val)
  | 0, _, _, _ => .stuck
  | n + 1, [], _, S => .ok [] S
  | n + 1, e :: es, ρ, S => (kE n e ρ S).bind fun v S1 => (kA n es ρ S1).bind fun vs S2 => .ok (v :: vs) S2
def kO : Nat → Option E → Env → Store → Res (Option Val)
  | 0, _, _, _ => .stuck
  | n + 1, none, _, S => .ok none S
  | n + 1, some e, ρ, S => (kE n e ρ S).bind fun v S1 => .ok (some v) S1
def kC : Nat → Option E → Env → Store → Res Bool
  | 0, _, _, _ => .stuck
  | n + 1, none, _, S => .ok true S
  | n + 1, some e, ρ, S => noExc (kT n e ρ S)
def kI : Nat → It → Env → Store → Res (List Val × Src)
  | 0, _, _, _ => .stuck
  | n + 1, .seq a, ρ, S => (kE n a ρ S).bind fun x S1 => (match itemsOf S1 x with
      | some vs => .ok (vs, srcOf S1 x) S1
      | none => .stuck)
  | n + 1, .range1 a, ρ, S => (kE n a ρ S).bind fun x S1 => (match x with
      | .int j => if okR j then .ok (rangeV 0 j.toNat, []) S1 else .stuck
      | _ => .stuck)
  | n + 1, .range2 a b, ρ, S => (kE n a ρ S).bind fun x S1 => (kE n b ρ S1).bind fun y S2 => (match x, y with
      | .int i, .int j => if okR i && okR j then .ok (rangeV i (j - i).toNat, []) S2 else .stuck
      | _, _ => .stuck)
  | n + 1, .enum a, ρ, S => (kE n a ρ S).bind fun x S1 => (match seqOf S1 x with
      | some vs => .ok (enumV vs 0, srcOf S1 x) S1
      | none => .stuck)
  | n + 1, .zip a b, ρ, S => (kE n a ρ S).bind fun x S1 => (kE n b ρ S1).bind fun y S2 => (match seqOf S2 x, seqOf S2 y with
      | some vs, some us => .ok (zipV vs us, srcOf S2 x ++ srcOf S2 y) S2
      | _, _ => .stuck)
  | n + 1, .keys a, ρ, S => (kE n a ρ S).bind fun x S1 => (match keysOfD S1 x with
      | some vs => .ok (vs, srcOf S1 x) S1
      | none => .stuck)
  | n + 1, .values a, ρ, S => (kE n a ρ S).bind fun x S1 => (match valuesOf S1 x with
      | some vs => .ok (vs, srcOf S1 x) S1
      | none => .stuck)
end
end
section
variable (L : Nat) (C : CallT)
mutual
def kS : Nat → S → Env → Store → SR
  | 0, _, _, _ => .stuck
  | n + 1, .pass, ρ, S => .next ρ S
  | n + 1, .brk, ρ, S => .brk ρ S
  | n + 1, .expr e, ρ, S => (kE C n e ρ S).to ρ fun _ S1 => .next ρ S1
  | n + 1, .set tg e, ρ, S => (kE C n e ρ S).to ρ fun v S1 => (match asgT tg v ρ with
      | some ρ' => .next ρ' S1
      | none => .stuck)
  | n + 1, .setF a f e, ρ, S => (kE C n e ρ S).to ρ fun v S1 => (kE C n a ρ S1).to ρ fun x S2 => (match putFld S2 x f v with
      | some S3 => .next ρ S3
      | none => .stuck)
  | n + 1, .setI a k e, ρ, S => (kE C n e ρ S).to ρ fun v S1 => (kE C n a ρ S1).to ρ fun x S2 => (kE C n k ρ S2).to ρ fun y S3 => (match putItem S3 x y v with
      | some S4 => .next ρ S4
      | none => .stuck)
  | n + 1, .augV i op e, ρ, S => (match ρ[i]? with
      | some (some x) => (kE C n e ρ S).to ρ fun y S1 => (match aug2 S1 op x y with
        | some z => .next (ρ.set i (some z)) S1
        | none => .stuck)
      | _ => .stuck)
  | n + 1, .augF a f op i, ρ, S => (kE C n a ρ S).to ρ fun x S1 => (match getFld S1 x f with
      | some u => (match aug2 S1 op u (.int i) with
        | some z => (match putFld S1 x f z with
          | some S3 => .next ρ S3
          | none => .stuck)
        | none => .stuck)
      | none => .stuck)
  | n + 1, .augI a k op e, ρ, S => (kE C n a ρ S).to ρ fun x S1 => (kE C n k ρ S1).to ρ fun y S2 => (match askD S2 x y with
      | some u => (kE C n e ρ S2).to ρ fun w S3 => (match aug2 S3 op u w with
        | some z => (match putItem S3 x y z with
          | some S4 => .next ρ S4
          | none => .stuck)
        | none => .stuck)
      | none => .stuck)
  | n + 1, .append a e, ρ, S => (kE C n a ρ S).to ρ fun x S1 => if isLB S1 x = true then (kE C n e ρ S1).to ρ fun v S2 => (match addL S2 x [v] with
      | some S3 => .next ρ S3
      | none => .stuck) else .stuck
  | n + 1, .extend a e, ρ, S => (kE C n a ρ S).to ρ fun x S1 => if isLB S1 x = true then (kE C n e ρ S1).to ρ fun v S2 => (match unl S2 v with
      | .lst us => (match addL S2 x us with
        | some S3 => .next ρ S3
        | none => .stuck)
      | _ => .stuck) else .stuck
  | n + 1, .ret e, ρ, S => (kE C n e ρ S).to ρ fun v S1 => .ret v S1
  | n + 1, .retN, _, S => .ret .non S
  | n + 1, .ifS c a b, ρ, S => (kT C n c ρ S).to ρ fun t S1 => if t = true then kB n a ρ S1 else kB n b ρ S1
  | n + 1, .forS tg it b, ρ, S => (kI C n it ρ S).to ρ fun xs S1 => forGo xs.2 tg (fun ρ' S' => kB n b ρ' S') xs.1 ρ S1
  | n + 1, .forK tg a b, ρ, S => (kI C n (.keys a) ρ S).to ρ fun xs S1 => forGo xs.2 tg (fun ρ' S' => sameS S' (kB n b ρ' S')) xs.1 ρ S1
  | n + 1, .whileS c b, ρ, S => whileGo (fun ρ' S' => kT C n c ρ' S') (fun ρ' S' => kB n b ρ' S') L ρ S
  | n + 1, .raise c, ρ, S => .exc c ρ S
  | n + 1, .tryS b cs bs, ρ, S => (match kB n b ρ S with
      | .exc c ρ' S' => kH n cs bs c ρ' S'
      | r => r)
  | n + 1, .tryA i j b ts, ρ, S => (match kB n b ρ S with
      | .exc c ρ' S' => exA ts i j c ρ' S'
      | r => r)
def kB : Nat → List S → Env → Store → SR
  | 0, _, _, _ => .stuck
  | n + 1, [], ρ, S => .next ρ S
  | n + 1, s :: ss, ρ, S => (kS n s ρ S).andThen fun ρ' S' => kB n ss ρ' S'
def kH : Nat → List Str → List (List S) → Str → Env → Store → SR
  | 0, _, _, _, _, _ => .stuck
  | n + 1, h :: hs, b :: bs, c, ρ, S => if catches c h = true then noExcS (kB n b ρ S) else kH n hs bs c ρ S
  | n + 1, _, _, c, ρ, S => .exc c ρ S
end
end
def runK (L : Nat) (C : CallT) (fuel : Nat) (fn : Fn) (args : List Val) (S : Store) : Res Val :=
  if args.length = fn.np then (match kB L C fuel fn.body (args.map some ++ List.replicate (fn.ns - fn.np) none) S with
    | .ret v S1 => finish fn S v S1
    | .next _ S1 => finish fn S .non S1
    | .exc c _ S1 => finishX fn S c S1
    | _ => .stuck) else .stuck
def callK (L fuel : Nat) (T : Tab) : Nat → CallT
  | 0 => fun _ _ _ => .stuck
  | n + 1 => fun f args S => (match T f with
    | some fn => runK L (callK L fuel T n) fuel fn args S
    | none => .stuck)
end HI
set_option Elab.async false
set_option linter.all false
set_option maxRecDepth 100000
namespace HI
open PySem
def Le {α : Type} (r r' : Res α) : Prop := r = .stuck ∨ r = r'
theorem Le.rfl {α : Type} {r : Res α} : Le r r := .inr (Eq.refl _)
theorem Le.st {α : Type} {r : Res α} : Le .stuck r := .inl (Eq.refl _)
theorem Le.bind {α β : Type} {r r' : Res α} {f f' : α → Store → Res β} (h : Le r r') (k : ∀ v S, Le (f v S) (f' v S)) : Le (r.bind f) (r'.bind f') := by
  rcases h with rfl | rfl
  · exact .st
  · cases r with
    | ok v S => exact k v S
    | exc c S => exact .rfl
    | stuck => exact .rfl
theorem Le.noExc {α : Type} {r r' : Res α} (h : Le r r') : Le (noExc r) (noExc r') := by
  rcases h with rfl | rfl
  · exact .st
  · exact .rfl
theorem Le.ok {α : Type} {r r' : Res α} (h : Le r r') {v : α} {S : Store} (e : r = .ok v S) : r' = .ok v S := by
  rcases h with rfl | rfl
  · cases e
  · exact e
theorem Le.exc {α : Type} {r r' : Res α} (h : Le r r') {c : Str} {S : Store} (e : r = .exc c S) : r' = .exc c S := by
  rcases h with rfl | rfl
  · cases e
  · exact e
theorem Le.compGo {src : Src} {f f' : Val → Store → Res (Option Val)} (h : ∀ x S, Le (f x S) (f' x S)) : ∀ (xs acc : List Val) (S : Store), Le (compGo src f xs acc S) (compGo src f' xs acc S)
  | [], acc, S => .rfl
  | x :: xs, acc, S => by
    unfold HI.compGo guardS
    split
    · refine Le.bind (h x S) fun o S1 => ?_
      cases o with
      | none => exact Le.compGo h xs acc S1
      | some v =>
        simp only
        split
        · exact Le.compGo h xs _ S1
        · exact .rfl
    · exact .rfl
def LeC (C C' : CallT) : Prop := ∀ f vs S, Le (C f vs S) (C' f vs S)
section
variable {C C' : CallT}
theorem kE_le (hC : LeC C C') : ∀ n, (∀ e ρ S, Le (kE C n e ρ S) (ev C' e ρ S)) ∧ (∀ e ρ S, Le (kT C n e ρ S) (evT C' e ρ S)) ∧ (∀ e ρ S, Le (kA C n e ρ S) (evs C' e ρ S)) ∧ (∀ e ρ S, Le (kO C n e ρ S) (evO C' e ρ S)) ∧ (∀ e ρ S, Le (kC C n e ρ S) (evC C' e ρ S)) ∧ (∀ e ρ S, Le (kI C n e ρ S) (evIt C' e ρ S))
  | 0 => ⟨fun _ _ _ => by simp only [kE]; exact .st, fun _ _ _ => by simp only [kT]; exact .st, fun _ _ _ => by simp only [kA]; exact .st, fun _ _ _ => by simp only [kO]; exact .st, fun _ _ _ => by simp only [kC]; exact .st, fun _ _ _ => by simp only [kI]; exact .st⟩
  | n + 1 => by
    obtain ⟨hE, hT, hA, hO, hCd, hI⟩ := kE_le hC n
    have hcomp : ∀ (tg : Tg) (cond : Option E) (elt : E) (ρ : Env) (x : Val) (S2 : Store), Le (match asgT tg x ρ with
        | some ρ' => (kC C n cond ρ' S2).bind fun t S3 => if t = true then (noExc (kE C n elt ρ' S3)).bind fun v S4 => .ok (some v) S4 else .ok none S3
        | none => .stuck) (match asgT tg x ρ with
        | some ρ' => (evC C' cond ρ' S2).bind fun t S3 => if t = true then (noExc (ev C' elt ρ' S3)).bind fun v S4 => .ok (some v) S4 else .ok none S3
        | none => .stuck) := by
      intro tg cond elt ρ x S2
      cases asgT tg x ρ with
      | none => exact .rfl
      | some ρ' =>
        refine Le.bind (hCd _ _ _) fun t S3 => ?_
        split
        · exact Le.bind (Le.noExc (hE _ _ _)) fun _ _ => .rfl
        · exact .rfl
    refine ⟨fun e ρ S => ?_, fun e ρ S => ?_, fun e ρ S => ?_, fun e ρ S => ?_, fun e ρ S => ?_, fun e ρ S => ?_⟩
    · cases e with
      | var i => simp only [kE, ev]; exact .rfl
      | lit v => simp only [kE, ev]; exact .rfl
      | un op a => simp only [kE, ev]; exact Le.bind (hE _ _ _) fun _ _ => .rfl
      | bin op a b => simp only [kE, ev]; exact Le.bind (hE _ _ _) fun _ _ => Le.bind (hE _ _ _) fun _ _ => .rfl
      | chain o1 o2 a b c =>
        simp only [kE, ev]
        refine Le.bind (hE _ _ _) fun x S1 => Le.bind (hE _ _ _) fun y S2 => ?_
        cases op2 S2 o1 x y with
        | none => exact .rfl
        | some z =>
          cases z <;> try exact .rfl
          rename_i b
          cases b
          · exact .rfl
          · exact Le.bind (hE _ _ _) fun _ _ => .rfl
      | and a b =>
        simp only [kE, ev]
        refine Le.bind (hE _ _ _) fun x S1 => ?_
        cases x <;> try exact .rfl
        rename_i b
        cases b
        · exact .rfl
        · exact hE _ _ _
      | or a b =>
        simp only [kE, ev]
        refine Le.bind (hE _ _ _) fun x S1 => ?_
        cases truthy S1 x with
        | none => exact .rfl
        | some b =>
          cases b
          · exact hE _ _ _
          · exact .rfl
      | not a => simp only [kE, ev]; exact Le.bind (hE _ _ _) fun _ _ => .rfl
      | ite c a b =>
        simp only [kE, ev]
        refine Le.bind (hT _ _ _) fun t S1 => ?_
        split
        · exact hE _ _ _
        · exact hE _ _ _
      | tup es => simp only [kE, ev]; exact Le.bind (hA _ _ _) fun _ _ => .rfl
      | lst es => simp only [kE, ev]; exact Le.bind (hA _ _ _) fun _ _ => .rfl
      | slice a lo hi =>
        simp only [kE, ev]
        refine Le.bind (hE _ _ _) fun x S1 => Le.bind (hO _ _ _) fun l S2 => ?_
        cases bnd l with
        | none => exact .rfl
        | some l => exact Le.bind (hO _ _ _) fun _ _ => .rfl
      | comp tg it cond elt =>
        simp only [kE, ev]
        exact Le.bind (hI _ _ _) fun xs S1 => Le.bind (Le.compGo (hcomp tg cond elt ρ) _ _ _) fun _ _ => .rfl
      | boxc tg it cond elt =>
        simp only [kE, ev]
        exact Le.bind (hI _ _ _) fun xs S1 => Le.bind (Le.compGo (hcomp tg cond elt ρ) _ _ _) fun _ _ => .rfl
      | boxa a b => simp only [kE, ev]; exact Le.bind (hE _ _ _) fun _ _ => Le.bind (hE _ _ _) fun _ _ => .rfl
      | call f es => simp only [kE, ev]; exact Le.bind (hA _ _ _) fun _ _ => hC _ _ _
      | meth a c m es =>
        simp only [kE, ev]
        refine Le.bind (hE _ _ _) fun x S1 => ?_
        split
        · exact Le.bind (hA _ _ _) fun _ _ => hC _ _ _
        · exact .rfl
      | make c es => simp only [kE, ev]; exact Le.bind (hA _ _ _) fun _ _ => Le.bind (hC _ _ _) fun _ _ => .rfl
      | fld a f => simp only [kE, ev]; exact Le.bind (hE _ _ _) fun _ _ => .rfl
      | isI a t => simp only [kE, ev]; exact Le.bind (hE _ _ _) fun _ _ => .rfl
      | dlook ks vs k d => simp only [kE, ev]; exact Le.bind (hA _ _ _) fun _ _ => Le.bind (hE _ _ _) fun _ _ => Le.bind (hO _ _ _) fun _ _ => .rfl
      | inG neg a g vs => simp only [kE, ev]; exact Le.bind (hE _ _ _) fun _ _ => .rfl
      | box es => simp only [kE, ev]; exact Le.bind (hA _ _ _) fun _ _ => .rfl
      | newK => simp only [kE, ev]; exact .rfl
      | newT => simp only [kE, ev]; exact .rfl
      | newD ks vs => simp only [kE, ev]; exact Le.bind (hA _ _ _) fun _ _ => .rfl
      | dictOf a => simp only [kE, ev]; exact Le.bind (hE _ _ _) fun _ _ => .rfl
      | pop d k =>
        simp only [kE, ev]
        refine Le.bind (hE _ _ _) fun x S1 => ?_
        split
        · exact Le.bind (hE _ _ _) fun _ _ => .rfl
        · exact .rfl
      | get2 d k x =>
        simp only [kE, ev]
        refine Le.bind (hE _ _ _) fun x S1 => ?_
        split
        · exact Le.bind (hE _ _ _) fun _ _ => Le.bind (hE _ _ _) fun _ _ => .rfl
        · exact .rfl
      | join s a => simp only [kE, ev]; exact Le.bind (hE _ _ _) fun _ _ => Le.bind (hE _ _ _) fun _ _ => .rfl
      | split a b => simp only [kE, ev]; exact .rfl
      | itemsS a => simp only [kE, ev]; exact Le.bind (hE _ _ _) fun _ _ => .rfl
    · cases e with
      | and a b =>
        simp only [kT, evT]
        refine Le.bind (hT _ _ _) fun x S1 => ?_
        split
        · exact hT _ _ _
        · exact .rfl
      | or a b =>
        simp only [kT, evT]
        refine Le.bind (hT _ _ _) fun x S1 => ?_
        split
        · exact .rfl
        · exact hT _ _ _
      | not a => simp only [kT, evT]; exact Le.bind (hT _ _ _) fun _ _ => .rfl
      | _ => simp only [kT, evT]; exact Le.bind (hE _ _ _) fun _ _ => .rfl
    · cases e with
      | nil => simp only [kA, evs]; exact .rfl
      | cons e es => simp only [kA, evs]; exact Le.bind (hE _ _ _) fun _ _ => Le.bind (hA _ _ _) fun _ _ => .rfl
    · cases e with
      | none => simp only [kO, evO]; exact .rfl
      | some e => simp only [kO, evO]; exact Le.bind (hE _ _ _) fun _ _ => .rfl
    · cases e with
      | none => simp only [kC, evC]; exact .rfl
      | some e => simp only [kC, evC]; exact Le.noExc (hT _ _ _)
    · cases e with
      | seq a => simp only [kI, evIt]; exact Le.bind (hE _ _ _) fun _ _ => .rfl
      | range1 a => simp only [kI, evIt]; exact Le.bind (hE _ _ _) fun _ _ => .rfl
      | range2 a b => simp only [kI, evIt]; exact Le.bind (hE _ _ _) fun _ _ => Le.bind (hE _ _ _) fun _ _ => .rfl
      | enum a => simp only [kI, evIt]; exact Le.bind (hE _ _ _) fun _ _ => .rfl
      | zip a b => simp only [kI, evIt]; exact Le.bind (hE _ _ _) fun _ _ => Le.bind (hE _ _ _) fun _ _ => .rfl
      | values a => simp only [kI, evIt]; exact Le.bind (hE _ _ _) fun _ _ => .rfl
      | keys a => simp only [kI, evIt]; exact Le.bind (hE _ _ _) fun _ _ => .rfl
def LeS (r r' : SR) : Prop := r = .stuck ∨ r = r'
theorem LeS.rfl {r : SR} : LeS r r := .inr (Eq.refl _)
theorem LeS.st {r : SR} : LeS .stuck r := .inl (Eq.refl _)
theorem LeS.to {α : Type} {r r' : Res α} {ρ : Env} {f f' : α → Store → SR} (h : Le r r') (k : ∀ v S, LeS (f v S) (f' v S)) : LeS (r.to ρ f) (r'.to ρ f') := by
  rcases h with rfl | rfl
  · exact .st
  · cases r with
    | ok v S => exact k v S
    | exc c S => exact .rfl
    | stuck => exact .rfl
theorem LeS.andThen {r r' : SR} {f f' : Env → Store → SR} (h : LeS r r') (k : ∀ v S, LeS (f v S) (f' v S)) : LeS (r.andThen f) (r'.andThen f') := by
  rcases h with rfl | rfl
  · exact .st
  · cases r <;> first | exact k _ _ | exact .rfl
theorem LeS.loop {r r' : SR} {f f' : Env → Store → SR} (h : LeS r r') (k : ∀ v S, LeS (f v S) (f' v S)) : LeS (r.loop f) (r'.loop f') := by
  rcases h with rfl | rfl
  · exact .st
  · cases r <;> first | exact k _ _ | exact .rfl
theorem LeS.sameS {S0 : Store} {r r' : SR} (h : LeS r r') : LeS (sameS S0 r) (sameS S0 r') := by
  rcases h with h | h
  · rw [h]; exact .st
  · rw [h]; exact .rfl
theorem LeS.noExcS {r r' : SR} (h : LeS r r') : LeS (noExcS r) (noExcS r') := by
  rcases h with rfl | rfl
  · exact .st
  · exact .rfl
theorem LeS.forGo {src : Src} {tg : Tg} {f f' : Env → Store → SR} (h : ∀ ρ S, LeS (f ρ S) (f' ρ S)) : ∀ (xs : List Val) (ρ : Env) (S : Store), LeS (forGo src tg f xs ρ S) (forGo src tg f' xs ρ S)
  | [], ρ, S => .rfl
  | x :: xs, ρ, S => by
    unfold HI.forGo guardS
    split
    · cases asgT tg x ρ with
      | none => exact .rfl
      | some ρ' => exact LeS.loop (h _ _) fun ρ S => LeS.forGo h xs ρ S
    · exact .rfl
theorem LeS.whileGo {c c' : Env → Store → Res Bool} {f f' : Env → Store → SR} (hc : ∀ ρ S, Le (c ρ S) (c' ρ S)) (h : ∀ ρ S, LeS (f ρ S) (f' ρ S)) : ∀ (n : Nat) (ρ : Env) (S : Store), LeS (whileGo c f n ρ S) (whileGo c' f' n ρ S)
  | 0, ρ, S => .rfl
  | n + 1, ρ, S => by
    unfold HI.whileGo
    refine LeS.to (hc _ _) fun t S1 => ?_
    split
    · exact LeS.loop (h _ _) fun ρ S => LeS.whileGo hc h n ρ S
    · exact .rfl
theorem kS_le (hC : LeC C C') (L : Nat) : ∀ n, (∀ e ρ S, LeS (kS L C n e ρ S) (exS L C' e ρ S)) ∧ (∀ e ρ S, LeS (kB L C n e ρ S) (exs L C' e ρ S)) ∧ (∀ hs bs c ρ S, LeS (kH L C n hs bs c ρ S) (exH L C' hs bs c ρ S))
  | 0 => ⟨fun _ _ _ => by simp only [kS]; exact .st, fun _ _ _ => by simp only [kB]; exact .st, fun _ _ _ _ _ => by simp only [kH]; exact .st⟩
  | n + 1 => by
    obtain ⟨hS, hB, hH⟩ := kS_le hC L n
    obtain ⟨hE, hT, hA, hO, hCd, hI⟩ := kE_le hC n
    refine ⟨fun e ρ S => ?_, fun e ρ S => ?_, fun hs bs c ρ S => ?_⟩
    · cases e with
      | pass => simp only [kS, exS]; exact .rfl
      | brk => simp only [kS, exS]; exact .rfl
      | expr e => simp only [kS, exS]; exact LeS.to (hE _ _ _) fun _ _ => .rfl
      | set tg e => simp only [kS, exS]; exact LeS.to (hE _ _ _) fun _ _ => .rfl
      | setF a f e => simp only [kS, exS]; exact LeS.to (hE _ _ _) fun _ _ => LeS.to (hE _ _ _) fun _ _ => .rfl
      | setI a k e => simp only [kS, exS]; exact LeS.to (hE _ _ _) fun _ _ => LeS.to (hE _ _ _) fun _ _ => LeS.to (hE _ _ _) fun _ _ => .rfl
      | augV i op e =>
        simp only [kS, exS]
        cases ρ[i]? with
        | none => exact .rfl
        | some o =>
          cases o with
          | none => exact .rfl
          | some x => exact LeS.to (hE _ _ _) fun _ _ => .rfl
      | augF a f op i => simp only [kS, exS]; exact LeS.to (hE _ _ _) fun _ _ => .rfl
      | augI a k op e =>
        simp only [kS, exS]
        refine LeS.to (hE _ _ _) fun x S1 => LeS.to (hE _ _ _) fun y S2 => ?_
        cases askD S2 x y with
        | none => exact .rfl
        | some u => exact LeS.to (hE _ _ _) fun _ _ => .rfl
      | append a e =>
        simp only [kS, exS]
        refine LeS.to (hE _ _ _) fun x S1 => ?_
        split
        · exact LeS.to (hE _ _ _) fun _ _ => .rfl
        · exact .rfl
      | extend a e =>
        simp only [kS, exS]
        refine LeS.to (hE _ _ _) fun x S1 => ?_
        split
        · exact LeS.to (hE _ _ _) fun _ _ => .rfl
        · exact .rfl
      | ret e => simp only [kS, exS]; exact LeS.to (hE _ _ _) fun _ _ => .rfl
      | retN => simp only [kS, exS]; exact .rfl
      | ifS c a b =>
        simp only [kS, exS]
        refine LeS.to (hT _ _ _) fun x S1 => ?_
        split
        · exact hB _ _ _
        · exact hB _ _ _
      | forS tg it b => simp only [kS, exS]; exact LeS.to (hI _ _ _) fun xs S1 => LeS.forGo (fun ρ S => hB b ρ S) _ _ _
      | forK tg a b => simp only [kS, exS]; exact LeS.to (hI _ _ _) fun xs S1 => LeS.forGo (fun ρ S => LeS.sameS (hB b ρ S)) _ _ _
      | whileS c b => simp only [kS, exS]; exact LeS.whileGo (fun ρ S => hT c ρ S) (fun ρ S => hB b ρ S) _ _ _
      | raise c => simp only [kS, exS]; exact .rfl
      | tryS b cs bs =>
        simp only [kS, exS]
        rcases hB b ρ S with q | q
        · rw [q]; exact .st
        · rw [q]
          cases exs L C' b ρ S <;> first | exact .rfl | exact hH _ _ _ _ _
      | tryA i j b ts =>
        simp only [kS, exS]
        rcases hB b ρ S with q | q
        · rw [q]; exact .st
        · rw [q]; exact .rfl
    · cases e with
      | nil => simp only [kB, exs]; exact .rfl
      | cons e es => simp only [kB, exs]; exact LeS.andThen (hS _ _ _) fun ρ S => hB _ _ _
    · cases hs with
      | nil => simp only [kH, exH]; exact .rfl
      | cons h hs =>
        cases bs with
        | nil => simp only [kH, exH]; exact .rfl
        | cons b bs =>
          simp only [kH, exH]
          split
          · exact LeS.noExcS (hB _ _ _)
          · exact hH _ _ _ _ _
theorem runK_le (hC : LeC C C') (L fuel : Nat) (fn : Fn) (args : List Val) (S : Store) : Le (runK L C fuel fn args S) (runFn L C' fn args S) := by
  unfold runK runFn
  split
  · rcases (kS_le hC L fuel).2.1 fn.body (args.map some ++ List.replicate (fn.ns - fn.np) none) S with q | q
    · rw [q]; exact .st
    · rw [q]; exact .rfl
  · exact .rfl
theorem callK_le (L fuel : Nat) (T : Tab) : ∀ n, LeC (callK L fuel T n) (callF L T n)
  | 0 => fun f vs S => .rfl
  | n + 1 => fun f vs S => by
    simp only [callK, callF]
    cases T f with
    | none => exact .rfl
    | some fn => exact runK_le (callK_le L fuel T n) L fuel fn vs S
end
end HI
set_option Elab.async false
set_option linter.all false
set_option maxRecDepth 100000
namespace HI
open PySem PySem.Spec PyProof.Rows L2
structure MM where
  bx : List Addr
  ph : List Addr
instance : Membership Addr MM := ⟨fun m a => a ∈ m.bx ∨ a ∈ m.ph⟩
instance : GetElem? MM Nat Addr (fun m i => i < m.bx.length) where
  getElem m i h := m.bx[i]
  getElem? m i := m.bx[i]?
instance : HAppend MM (List Addr) MM := ⟨fun m l => ⟨m.bx ++ l, m.ph⟩⟩
theorem MM.get (m : MM) (n : Nat) : m[n]? = m.bx[n]? := rfl
theorem MM.mem {m : MM} {a : Addr} : a ∈ m ↔ a ∈ m.bx ∨ a ∈ m.ph := Iff.rfl
def MM.addP (m : MM) (d : Addr) : MM := ⟨m.bx, d :: m.ph⟩
section
variable (K : PySem.W.Frag)
mutual
inductive Rep : MM → Hp → Val → V → Prop
  | non {m H} : Rep m H .non .non
  | bool {m H} (b : Bool) : Rep m H (.bool b) (.bl b)
  | int {m H} (i : Int) : Rep m H (.int i) (.int i)
  | str {m H} (s : Str) : Rep m H (.str s) (.str s)
  | tup {m H} {a : Addr} {xs : List V} {vs : List Val} : H a = some (.tup xs) → a ∉ m → Reps m H vs xs → Rep m H (.tup vs) (.ref a)
  | lst {m H} {a : Addr} {xs : List V} {vs : List Val} : H a = some (.lst xs) → a ∉ m → Reps m H vs xs → Rep m H (.lst vs) (.ref a)
  | scr {m H} {a : Addr} {ns : List Int} : Rd H a (.lst (ns.map V.int)) → a ∉ m → Rep m H (.scr ns) (.ref a)
  | scrK {m H} {a : Addr} {ns : List Int} : (∀ H' : Hp, SqL K H' a (ns.map V.int)) → Rep m H (.scr ns) (.ref a)
  | loc {m H} {n : Nat} {a : Addr} : m[n]? = some a → Rep m H (.loc n) (.ref a)
inductive Reps : MM → Hp → List Val → List V → Prop
  | nil {m H} : Reps m H [] []
  | cons {m H} {v : Val} {u : V} {vs : List Val} {us : List V} : Rep m H v u → Reps m H vs us → Reps m H (v :: vs) (u :: us)
end
end
structure Ext (rw : Bool) (m : MM) (H : Hp) (m' : MM) (H' : Hp) : Prop where
  more : ∃ ms ps : List Addr, m' = ⟨m.bx ++ ms, ps ++ m.ph⟩ ∧ (∀ a ∈ ms, H a = none) ∧ ∀ a ∈ ps, H a = none
  keep : ∀ a o, H a = some o → (a ∉ m ∨ (rw = false ∧ a ∉ m.ph)) → H' a = some o
  there : ∀ a, (H a).isSome = true → (H' a).isSome = true
  kph : ∀ a ∈ m.ph, ∀ o, H a = some o → H' a = some o
section
variable {rw : Bool} {m m1 m2 m' : MM} {H H1 H2 H' : Hp}
theorem MM.app_nil (m : MM) : m ++ ([] : List Addr) = m := by
  show (⟨m.bx ++ [], m.ph⟩ : MM) = m
  rw [List.append_nil]
theorem MM.app_app (m : MM) (a b : List Addr) : (m ++ a) ++ b = m ++ (a ++ b) := by
  show (⟨(m.bx ++ a) ++ b, m.ph⟩ : MM) = ⟨m.bx ++ (a ++ b), m.ph⟩
  rw [List.append_assoc]
theorem MM.mem_app {m : MM} {l : List Addr} {a : Addr} : a ∈ m ++ l ↔ a ∈ m ∨ a ∈ l := by
  show (a ∈ m.bx ++ l ∨ a ∈ m.ph) ↔ (a ∈ m.bx ∨ a ∈ m.ph) ∨ a ∈ l
  rw [List.mem_append]
  constructor
  · rintro ((h | h) | h)
    · exact .inl (.inl h)
    · exact .inr h
    · exact .inl (.inr h)
  · rintro ((h | h) | h)
    · exact .inl (.inl h)
    · exact .inr h
    · exact .inl (.inr h)
theorem MM.get_app {m : MM} {l : List Addr} {n : Nat} {a : Addr} (h : m[n]? = some a) : (m ++ l)[n]? = some a := by
  have hl : n < m.bx.length := (List.getElem?_eq_some_iff.mp (show m.bx[n]? = some a from h)).1
  show (m.bx ++ l)[n]? = some a
  rw [List.getElem?_append_left hl]; exact h
theorem MM.same (m : MM) : m = ⟨m.bx ++ [], [] ++ m.ph⟩ := by
  cases m; simp
theorem Ext.refl : Ext rw m H m H := ⟨⟨[], [], m.same, by simp, by simp⟩, fun _ _ h _ => h, fun _ h => h, fun _ _ _ h => h⟩
theorem Ext.ph_sub (x : Ext rw m H m' H') : ∀ a ∈ m.ph, a ∈ m'.ph := by
  obtain ⟨ms, ps, rfl, hf, hp⟩ := x.more
  exact fun a h => List.mem_append_right _ h
theorem Ext.not_ph (x : Ext rw m H m' H') {a : Addr} (ha : (H a).isSome = true) (hm : a ∉ m.ph) : a ∉ m'.ph := by
  obtain ⟨ms, ps, rfl, hf, hp⟩ := x.more
  intro h
  rcases List.mem_append.mp h with h | h
  · rw [hp a h] at ha; cases ha
  · exact hm h
theorem Ext.not_mem (x : Ext rw m H m' H') {a : Addr} (ha : (H a).isSome = true) (hm : a ∉ m) : a ∉ m' := by
  intro h
  rcases h with h | h
  · obtain ⟨ms, ps, rfl, hf, hp⟩ := x.more
    rcases List.mem_append.mp h with h | h
    · exact hm (.inl h)
    · rw [hf a h] at ha; cases ha
  · exact x.not_ph ha (fun z => hm (.inr z)) h
theorem Ext.trans (x : Ext rw m H m1 H1) (y : Ext rw m1 H1 m2 H2) : Ext rw m H m2 H2 := by
  obtain ⟨ms, ps, e1, f1, g1⟩ := x.more
  obtain ⟨ms2, ps2, e2, f2, g2⟩ := y.more
  have old : ∀ a, H1 a = none → H a = none := fun a h => by
    cases q : H a with
    | none => rfl
    | some o =>
      have z := x.there a (by rw [q]; rfl)
      rw [h] at z; cases z
  refine ⟨⟨ms ++ ms2, ps2 ++ ps, by rw [e2, e1]; simp [List.append_assoc], fun a ha => ?_, fun a ha => ?_⟩, fun a o h hm => y.keep a o (x.keep a o h hm) (hm.imp (fun z => x.not_mem (by rw [h]; rfl) z) fun z => ⟨z.1, x.not_ph (by rw [h]; rfl) z.2⟩), fun a h => y.there a (x.there a h), fun a ha o h => y.kph a (x.ph_sub a ha) o (x.kph a ha o h)⟩
  · rcases List.mem_append.mp ha with h | h
    · exact f1 a h
    · exact old a (f2 a h)
  · rcases List.mem_append.mp ha with h | h
    · exact old a (g2 a h)
    · exact g1 a h
theorem Ext.get (x : Ext rw m H m' H') {n : Nat} {a : Addr} (h : m[n]? = some a) : m'[n]? = some a := by
  obtain ⟨ms, ps, rfl, _⟩ := x.more
  have hl : n < m.bx.length := (List.getElem?_eq_some_iff.mp (show m.bx[n]? = some a from h)).1
  show (m.bx ++ ms)[n]? = some a
  rw [List.getElem?_append_left hl]; exact h
theorem there_upd {p : Addr} {o : HO} (a : Addr) (h : (H a).isSome = true) : (upd H p o a).isSome = true := by
  by_cases e : a = p
  · subst e; rw [upd_same]; rfl
  · rw [upd_ne e]; exact h
theorem Ext.new {p : Addr} {o : HO} (hp : H p = none) : Ext rw m H m (upd H p o) :=
  ⟨⟨[], [], m.same, by simp, by simp⟩, fun a ob h _ => by rw [upd_ne (ne_of_none h hp)]; exact h, there_upd, fun a _ ob h => by rw [upd_ne (ne_of_none h hp)]; exact h⟩
theorem Ext.box {p : Addr} {o : HO} (hp : H p = none) : Ext rw m H (m ++ [p]) (upd H p o) :=
  ⟨⟨[p], [], rfl, by simpa using hp, by simp⟩, (Ext.new (rw := rw) (m := m) hp).keep, there_upd, (Ext.new (rw := rw) (m := m) hp).kph⟩
theorem Ext.newP {p : Addr} {o : HO} (hp : H p = none) : Ext rw m H (m.addP p) (upd H p o) :=
  ⟨⟨[], [p], by simp [MM.addP], by simp, by simpa using hp⟩, (Ext.new (rw := rw) (m := m) hp).keep, there_upd, (Ext.new (rw := rw) (m := m) hp).kph⟩
theorem Ext.dropP (x : Ext rw m H m' H') : Ext rw m H ⟨m'.bx, m.ph⟩ H' := by
  obtain ⟨ms, ps, rfl, hf, hp⟩ := x.more
  exact ⟨⟨ms, [], by simp, hf, by simp⟩, x.keep, x.there, x.kph⟩
theorem Ext.write {p : Addr} {o : HO} (hm : p ∈ m.bx) (np : p ∉ m.ph) : Ext true m H m (upd H p o) :=
  ⟨⟨[], [], m.same, by simp, by simp⟩, fun a ob h ha => by rw [upd_ne (fun e => by subst e; rcases ha with ha | ha; exact ha (.inl hm); cases ha.1)]; exact h, there_upd, fun a ha ob h => by
    rw [upd_ne (fun e => np (by rw [← e]; exact ha))]; exact h⟩
theorem Ext.phan (x : Ext rw m H m' H') {p : Addr} {o : HO} (hp : H p = none) : Ext rw m H m' (upd H' p o) :=
  ⟨x.more, fun a ob h ha => by rw [upd_ne (ne_of_none h hp)]; exact x.keep a ob h ha, fun a h => there_upd a (x.there a h), fun a ha ob h => by rw [upd_ne (ne_of_none h hp)]; exact x.kph a ha ob h⟩
end
section
variable {rw : Bool} {K : PySem.W.Frag} {m m' : MM} {H H' : Hp}
mutual
theorem Rep.ext (x : Ext rw m H m' H') : ∀ {v : Val} {u : V}, Rep K m H v u → Rep K m' H' v u
  | _, _, .non => .non
  | _, _, .bool b => .bool b
  | _, _, .int i => .int i
  | _, _, .str s => .str s
  | _, _, .tup h n r => .tup (x.keep _ _ h (.inl n)) (x.not_mem (by rw [h]; rfl) n) (Reps.ext x r)
  | _, _, .lst h n r => .lst (x.keep _ _ h (.inl n)) (x.not_mem (by rw [h]; rfl) n) (Reps.ext x r)
  | _, _, .scr (a := a) h n => by
    have hs : (H a).isSome = true := by
      rcases h with h | ⟨o, h⟩ <;> rw [h] <;> rfl
    refine .scr ?_ (x.not_mem hs n)
    rcases h with h | ⟨o, h⟩
    · exact .inl (x.keep _ _ h (.inl n))
    · exact .inr ⟨o, x.keep _ _ h (.inl n)⟩
  | _, _, .scrK h => .scrK h
  | _, _, .loc h => .loc (x.get h)
theorem Reps.ext (x : Ext rw m H m' H') : ∀ {vs : List Val} {us : List V}, Reps K m H vs us → Reps K m' H' vs us
  | _, _, .nil => .nil
  | _, _, .cons r t => .cons (r.ext x) (Reps.ext x t)
end
theorem Reps.length {vs : List Val} {us : List V} (r : Reps K m H vs us) : vs.length = us.length := by
  induction vs generalizing us with
  | nil => cases r; rfl
  | cons v vs ih => cases r with | cons _ t => simp [ih t]
theorem Reps.append {vs ws : List Val} {us xs : List V} (r : Reps K m H vs us) (q : Reps K m H ws xs) : Reps K m H (vs ++ ws) (us ++ xs) := by
  induction vs generalizing us with
  | nil => cases r; exact q
  | cons v vs ih => cases r with | cons a t => exact .cons a (ih t)
theorem Reps.get {vs : List Val} {us : List V} (r : Reps K m H vs us) {i : Nat} {v : Val} (h : vs[i]? = some v) : ∃ u, us[i]? = some u ∧ Rep K m H v u := by
  induction vs generalizing us i with
  | nil => simp at h
  | cons w vs ih => cases r with
    | cons a t => cases i with
      | zero => simp at h; subst h; exact ⟨_, rfl, a⟩
      | succ i => obtain ⟨u, h1, h2⟩ := ih t (i := i) (by simpa using h); exact ⟨u, by simpa using h1, h2⟩
theorem Reps.getN {vs : List Val} {us : List V} (r : Reps K m H vs us) {i : Nat} (h : vs[i]? = none) : us[i]? = none := by
  have := r.length
  rw [List.getElem?_eq_none_iff] at h ⊢; omega
theorem Reps.take {vs : List Val} {us : List V} (r : Reps K m H vs us) (n : Nat) : Reps K m H (vs.take n) (us.take n) := by
  induction vs generalizing us n with
  | nil => cases r; simpa using .nil
  | cons v vs ih => cases r with
    | cons a t => cases n with
      | zero => exact .nil
      | succ n => exact .cons a (ih t n)
theorem Reps.drop {vs : List Val} {us : List V} (r : Reps K m H vs us) (n : Nat) : Reps K m H (vs.drop n) (us.drop n) := by
  induction vs generalizing us n with
  | nil => cases r; simpa using .nil
  | cons v vs ih => cases r with
    | cons a t => cases n with
      | zero => exact .cons a t
      | succ n => exact ih t n
theorem Reps.set {vs : List Val} {us : List V} (r : Reps K m H vs us) (i : Nat) {v : Val} {u : V} (q : Rep K m H v u) : Reps K m H (vs.set i v) (us.set i u) := by
  induction vs generalizing us i with
  | nil => cases r; exact .nil
  | cons w vs ih => cases r with
    | cons a t => cases i with
      | zero => exact .cons q t
      | succ i => exact .cons a (ih t i)
theorem Reps.rep {vs : List Val} {us : List V} (r : Reps K m H vs us) (k : Nat) : Reps K m H (List.replicate k vs).flatten (List.replicate k us).flatten := by
  induction k with
  | zero => exact .nil
  | succ k ih => simp only [List.replicate_succ, List.flatten_cons]; exact r.append ih
theorem Reps.ints {us : List V} : ∀ {ns : List Int}, Reps K m H (ns.map Val.int) us → us = ns.map V.int
  | [], .nil => rfl
  | n :: ns, .cons (.int _) t => by rw [Reps.ints t]; rfl
theorem Reps.of_ints : ∀ (ns : List Int), Reps K m H (ns.map Val.int) (ns.map V.int)
  | [] => .nil
  | n :: ns => .cons (.int n) (Reps.of_ints ns)
theorem Reps.strs {us : List V} : ∀ {ns : List Str}, Reps K m H (ns.map Val.str) us → us = ns.map V.str
  | [], .nil => rfl
  | n :: ns, .cons (.str _) t => by rw [Reps.strs t]; rfl
theorem Reps.of_strs : ∀ (ns : List Str), Reps K m H (ns.map Val.str) (ns.map V.str)
  | [] => .nil
  | n :: ns => .cons (.str n) (Reps.of_strs ns)
end
section
variable (K : PySem.W.Frag)
abbrev RepP {κ : Type} (m : MM) (H : Hp) : List (κ × Val) → List (κ × V) → Prop := Paired fun (p : κ × Val) (q : κ × V) => p.1 = q.1 ∧ Rep K m H p.2 q.2
def CLS : List String := ["House", "Record", "Book", "Road", "Runner"]
structure KCls (c : Str) : Prop where
  mem : ∃ s ∈ CLS, c = Str.ofString s
  glo : (He.Fa.glo c).ok K = true
  cl : Cls K (He.ga K c)
  ha : PySem.W.findIn K (.ref (He.ga K c)) "__class__" = some (some (.builtin "object.__class__"))
  hn : PySem.W.specialIn K (.builtin "object.__class__") "__get__" = some (some (.builtin "getset_descriptor.__get__"))
  htk : PySem.W.takesIn K (.builtin "object.__class__") = some true
  hm : PySem.W.mroIn K (He.ga K c) (.type "object") = some true
  same : PySem.W.kitOne K (.ref (He.ga K c)) (.ref (He.ga K c)) = some true
  blt : ∀ T ∈ ["int", "bool", "str", "tuple", "list"], PySem.W.kitOne K (.ref (He.ga K c)) (.type T) = some false
def BoxOk (m : MM) (H : Hp) (a : Addr) : Obj → Prop
  | .list vs => ∃ xs, H a = some (.lst xs) ∧ Reps K m H vs xs
  | .dictK kvs => ∃ us, Rd H a (.dK us) ∧ RepP K m H kvs us
  | .dictT kvs => ∃ us, Rd H a (.dT us) ∧ RepP K m H kvs us
  | .inst c fs => KCls K c ∧ ∃ dx us, H a = some (.ins (He.ga K c) dx us) ∧ RepP K m H fs us
def NoFrz (m : MM) (H : Hp) : Prop := ∀ a ∈ m.bx, ∀ o u, H a ≠ some (.frz o u)
structure SRel (rw : Bool) (m : MM) (H : Hp) (S : Store) : Prop where
  len : m.bx.length = S.length
  nd : m.bx.Nodup
  box : ∀ (n : Nat) a o, m[n]? = some a → S[n]? = some o → BoxOk K m H a o
  nof : rw = true → NoFrz m H
  phs : ∀ a ∈ m.ph, (H a).isSome = true
  phb : ∀ a ∈ m.ph, a ∉ m.bx
  pht : ∀ a ∈ m.ph, ∀ xs, H a ≠ some (.tup xs)
structure ERel (m : MM) (H : Hp) (ρ : Env) (σ : L2.St) : Prop where
  len : ρ.length = σ.length
  val : ∀ (i : Nat) v, ρ[i]? = some (some v) → ∃ u, σ[i]? = some (some u) ∧ Rep K m H v u
end
section
variable {rw : Bool} {K : PySem.W.Frag} {m m' m1 : MM} {H H' H1 : Hp} {S S1 : Store} {ρ : Env} {σ : L2.St}
theorem RepP.ext {κ : Type} (x : Ext rw m H m' H') {l : List (κ × Val)} {r : List (κ × V)} (h : RepP K m H l r) : RepP K m' H' l r := Paired.mapP h fun _ _ z => ⟨z.1, z.2.ext x⟩
theorem Rd.eq {a : Addr} {u : HO} (e : H' a = H a) (h : Rd H a u) : Rd H' a u := by
  rcases h with h | ⟨o, h⟩
  · exact .inl (e.trans h)
  · exact .inr ⟨o, e.trans h⟩
theorem Rd.some {a : Addr} {u : HO} (h : Rd H a u) : (H a).isSome = true := by
  rcases h with h | ⟨o, h⟩ <;> rw [h] <;> rfl
theorem BoxOk.ext (x : Ext rw m H m' H') {a : Addr} {o : Obj} (e : H' a = H a) (h : BoxOk K m H a o) : BoxOk K m' H' a o := by
  cases o with
  | list vs => obtain ⟨xs, h1, h2⟩ := h; exact ⟨xs, e.trans h1, h2.ext x⟩
  | dictK vs => obtain ⟨xs, h1, h2⟩ := h; exact ⟨xs, Rd.eq e h1, RepP.ext x h2⟩
  | dictT vs => obtain ⟨xs, h1, h2⟩ := h; exact ⟨xs, Rd.eq e h1, RepP.ext x h2⟩
  | inst c vs => obtain ⟨kc, dx, xs, h1, h2⟩ := h; exact ⟨kc, dx, xs, e.trans h1, RepP.ext x h2⟩
theorem BoxOk.some {a : Addr} {o : Obj} (h : BoxOk K m H a o) : (H a).isSome = true := by
  cases o with
  | list vs => obtain ⟨xs, h1, h2⟩ := h; rw [h1]; rfl
  | dictK vs => obtain ⟨xs, h1, h2⟩ := h; exact Rd.some h1
  | dictT vs => obtain ⟨xs, h1, h2⟩ := h; exact Rd.some h1
  | inst c vs => obtain ⟨kc, dx, xs, h1, h2⟩ := h; rw [h1]; rfl
theorem ERel.ext (x : Ext rw m H m' H') (h : ERel K m H ρ σ) : ERel K m' H' ρ σ := ⟨h.len, fun i v e => by
  obtain ⟨u, h1, h2⟩ := h.val i v e
  exact ⟨u, h1, h2.ext x⟩⟩
theorem SRel.at (h : SRel K rw m H S) {n : Nat} {o : Obj} (e : S[n]? = some o) : ∃ a, m[n]? = some a ∧ BoxOk K m H a o := by
  have hl : n < m.bx.length := by rw [h.len]; exact (List.getElem?_eq_some_iff.mp e).1
  exact ⟨m.bx[n], List.getElem?_eq_getElem hl, h.box n _ o (List.getElem?_eq_getElem hl) e⟩
theorem SRel.atA (h : SRel K rw m H S) {n : Nat} {a : Addr} {o : Obj} (ha : m[n]? = some a) (e : S[n]? = some o) : BoxOk K m H a o := h.box n a o ha e
theorem mem_bx {n : Nat} {a : Addr} (h : m[n]? = some a) : a ∈ m.bx := List.mem_of_getElem? (show m.bx[n]? = some a from h)
theorem mem_of {n : Nat} {a : Addr} (h : m[n]? = some a) : a ∈ m := .inl (mem_bx h)
theorem SRel.mem_some (h : SRel K rw m H S) {a : Addr} (hm : a ∈ m.bx) : (H a).isSome = true := by
  obtain ⟨n, hn⟩ := List.getElem?_of_mem hm
  have hl : n < S.length := by rw [← h.len]; exact (List.getElem?_eq_some_iff.mp hn).1
  exact (h.box n a _ hn (List.getElem?_eq_getElem hl)).some
theorem SRel.free (h : SRel K rw m H S) {p : Addr} (hp : H p = none) : p ∉ m.bx := fun hm => by
  have := h.mem_some hm
  rw [hp] at this; cases this
theorem SRel.new (h : SRel K rw m H S) {p : Addr} {o : HO} (hp : H p = none) : SRel K rw m (upd H p o) S := by
  have np := h.free hp
  exact ⟨h.len, h.nd, fun n a ob e1 e2 => (h.box n a ob e1 e2).ext (Ext.new (rw := rw) hp) (upd_ne fun e => np (by rw [← e]; exact mem_bx e1)), fun hr a ha o' u' => by
    rw [upd_ne (fun e => np (by rw [← e]; exact ha))]; exact h.nof hr a ha o' u', fun a ha => there_upd a (h.phs a ha), h.phb, fun a ha xs => by
    rw [upd_ne (fun e => by have := h.phs a ha; rw [e, hp] at this; cases this)]; exact h.pht a ha xs⟩
theorem SRel.push (h : SRel K rw m H S) {p : Addr} {o : HO} {ob : Obj} (hp : H p = none) (b : BoxOk K (m ++ [p]) (upd H p o) p ob) (nf : ∀ o' u', o ≠ .frz o' u' := by intro o' u' z; cases z) : SRel K rw (m ++ [p]) (upd H p o) (S ++ [ob]) := by
  have np := h.free hp
  refine ⟨?_, ?_, fun n a o' e1 e2 => ?_, fun hr a ha o' u' => ?_, fun a ha => there_upd a (h.phs a ha), fun a ha hb => ?_, fun a ha xs => by
    rw [upd_ne (fun e => by have := h.phs a ha; rw [e, hp] at this; cases this)]; exact h.pht a ha xs⟩
  · show (m.bx ++ [p]).length = (S ++ [ob]).length
    simp [h.len]
  · show (m.bx ++ [p]).Nodup
    rw [List.nodup_append]
    exact ⟨h.nd, by simp, fun a ha b hb => by simp at hb; subst hb; exact fun e => np (e ▸ ha)⟩
  · have e1' : (m.bx ++ [p])[n]? = some a := e1
    by_cases hn : n < m.bx.length
    · rw [List.getElem?_append_left hn] at e1'
      rw [List.getElem?_append_left (by rw [← h.len]; exact hn)] at e2
      exact (h.box n a o' e1' e2).ext (Ext.box (rw := rw) hp) (upd_ne fun e => np (by rw [← e]; exact List.mem_of_getElem? e1'))
    · have hn' : n = m.bx.length := by
        have := (List.getElem?_eq_some_iff.mp e1').1
        simp at this; omega
      subst hn'
      simp at e1'; subst e1'
      rw [h.len] at e2; simp at e2; subst e2
      exact b
  · rcases List.mem_append.mp (show a ∈ m.bx ++ [p] from ha) with ha | ha
    · rw [upd_ne (fun e => np (by rw [← e]; exact ha))]; exact h.nof hr a ha o' u'
    · simp at ha; subst ha
      rw [upd_same]; intro z; cases z; exact nf _ _ rfl
  · rcases List.mem_append.mp (show a ∈ m.bx ++ [p] from hb) with hb | hb
    · exact h.phb a ha hb
    · simp at hb; subst hb
      have := h.phs a ha
      rw [hp] at this; cases this
theorem SRel.write (h : SRel K true m H S) {n : Nat} {p : Addr} {o : HO} {ob : Obj} (hp : m[n]? = some p) (b : BoxOk K m (upd H p o) p ob) (nf : ∀ o' u', o ≠ .frz o' u' := by intro o' u' z; cases z) : SRel K true m (upd H p o) (S.set n ob) := by
  refine ⟨by simp [h.len], h.nd, fun k a o' e1 e2 => ?_, fun hr a ha o' u' => ?_, fun a ha => there_upd a (h.phs a ha), h.phb, fun a ha xs => by
    rw [upd_ne (fun e => by subst e; exact h.phb a ha (mem_bx hp))]; exact h.pht a ha xs⟩
  · by_cases hk : k = n
    · subst hk
      rw [hp] at e1; cases e1
      have hl : k < S.length := by rw [← h.len]; exact (List.getElem?_eq_some_iff.mp (show m.bx[k]? = some p from hp)).1
      rw [List.getElem?_set_self hl] at e2; cases e2
      exact b
    · rw [List.getElem?_set_ne (Ne.symm hk)] at e2
      refine (h.box k a o' e1 e2).ext (Ext.write (mem_bx hp) (fun z => h.phb p z (mem_bx hp))) (upd_ne fun e => hk ?_)
      subst e
      obtain ⟨h1, h2⟩ := List.getElem?_eq_some_iff.mp (show m.bx[k]? = some a from e1)
      obtain ⟨h3, h4⟩ := List.getElem?_eq_some_iff.mp (show m.bx[n]? = some a from hp)
      exact (List.getElem_inj h.nd).mp (h2.trans h4.symm)
  · by_cases e : a = p
    · subst e; rw [upd_same]; intro z; cases z; exact nf _ _ rfl
    · rw [upd_ne e]; exact h.nof rfl a ha o' u'
theorem SRel.plain (h : SRel K true m H S) {a : Addr} {u : HO} (ha : a ∈ m.bx) (r : Rd H a u) : H a = some u := by
  rcases r with r | ⟨o, r⟩
  · exact r
  · exact absurd r (h.nof rfl a ha o u)
theorem SRel.newP (h : SRel K rw m H S) {p : Addr} {o : HO} (hp : H p = none) (nt : ∀ xs, o ≠ .tup xs := by intro xs z; cases z) : SRel K rw (m.addP p) (upd H p o) S := by
  have np := h.free hp
  refine ⟨h.len, h.nd, fun n a ob e1 e2 => (h.box n a ob e1 e2).ext (Ext.newP (rw := rw) hp) (upd_ne fun e => np (by rw [← e]; exact mem_bx e1)), fun hr a ha o' u' => ?_, fun a ha => ?_, fun a ha => ?_, fun a ha xs => ?_⟩
  · rw [upd_ne (fun e => np (by rw [← e]; exact ha))]; exact h.nof hr a ha o' u'
  · rcases List.mem_cons.mp ha with e | ha
    · rw [e, upd_same]; rfl
    · exact there_upd a (h.phs a ha)
  · rcases List.mem_cons.mp ha with e | ha
    · rw [e]; exact np
    · exact h.phb a ha
  · rcases List.mem_cons.mp ha with e | ha
    · rw [e, upd_same]; intro z; cases z; exact nt _ rfl
    · rw [upd_ne (fun e => by have := h.phs a ha; rw [e, hp] at this; cases this)]; exact h.pht a ha xs
mutual
theorem Rep.phan {p : Addr} {o : HO} (hp : p ∈ m.ph) : ∀ {v : Val} {u : V}, Rep K m H v u → Rep K m (upd H p o) v u
  | _, _, .non => .non
  | _, _, .bool b => .bool b
  | _, _, .int i => .int i
  | _, _, .str s => .str s
  | _, _, .tup h n r => .tup (by rw [upd_ne (fun e => n (by rw [e]; exact .inr hp))]; exact h) n (Reps.phan hp r)
  | _, _, .lst h n r => .lst (by rw [upd_ne (fun e => n (by rw [e]; exact .inr hp))]; exact h) n (Reps.phan hp r)
  | _, _, .scr h n => .scr (Rd.eq (upd_ne (fun e => n (by rw [e]; exact .inr hp))) h) n
  | _, _, .scrK h => .scrK h
  | _, _, .loc h => .loc h
theorem Reps.phan {p : Addr} {o : HO} (hp : p ∈ m.ph) : ∀ {vs : List Val} {us : List V}, Reps K m H vs us → Reps K m (upd H p o) vs us
  | _, _, .nil => .nil
  | _, _, .cons r t => .cons (Rep.phan hp r) (Reps.phan hp t)
end
theorem SRel.phan (h : SRel K rw m H S) {p : Addr} {o : HO} (hp : p ∈ m.ph) (nt : ∀ xs, o ≠ .tup xs := by intro xs z; cases z) : SRel K rw m (upd H p o) S := by
  have np := h.phb p hp
  refine ⟨h.len, h.nd, fun n a ob e1 e2 => ?_, fun hr a ha o' u' => by
    rw [upd_ne (fun e => np (by rw [← e]; exact ha))]; exact h.nof hr a ha o' u', fun a ha => there_upd a (h.phs a ha), h.phb, fun a ha xs => by
    by_cases e : a = p
    · rw [e, upd_same]; intro z; cases z; exact nt _ rfl
    · rw [upd_ne e]; exact h.pht a ha xs⟩
  have b := h.box n a ob e1 e2
  have e : upd H p o a = H a := upd_ne fun e => np (by rw [← e]; exact mem_bx e1)
  cases ob with
  | list vs => obtain ⟨xs, h1, h2⟩ := b; exact ⟨xs, e.trans h1, h2.phan hp⟩
  | dictK vs => obtain ⟨xs, h1, h2⟩ := b; exact ⟨xs, Rd.eq e h1, Paired.mapP h2 fun _ _ z => ⟨z.1, z.2.phan hp⟩⟩
  | dictT vs => obtain ⟨xs, h1, h2⟩ := b; exact ⟨xs, Rd.eq e h1, Paired.mapP h2 fun _ _ z => ⟨z.1, z.2.phan hp⟩⟩
  | inst c vs => obtain ⟨kc, dx, xs, h1, h2⟩ := b; exact ⟨kc, dx, xs, e.trans h1, Paired.mapP h2 fun _ _ z => ⟨z.1, z.2.phan hp⟩⟩
mutual
theorem Rep.dropP {qs : List Addr} (hq : ∀ a ∈ qs, a ∈ m.ph) : ∀ {v : Val} {u : V}, Rep K m H v u → Rep K ⟨m.bx, qs⟩ H v u
  | _, _, .non => .non
  | _, _, .bool b => .bool b
  | _, _, .int i => .int i
  | _, _, .str s => .str s
  | _, _, .tup h n r => .tup h (fun z => n (z.imp id (hq _))) (Reps.dropP hq r)
  | _, _, .lst h n r => .lst h (fun z => n (z.imp id (hq _))) (Reps.dropP hq r)
  | _, _, .scr h n => .scr h (fun z => n (z.imp id (hq _)))
  | _, _, .scrK h => .scrK h
  | _, _, .loc h => .loc h
theorem Reps.dropP {qs : List Addr} (hq : ∀ a ∈ qs, a ∈ m.ph) : ∀ {vs : List Val} {us : List V}, Reps K m H vs us → Reps K ⟨m.bx, qs⟩ H vs us
  | _, _, .nil => .nil
  | _, _, .cons r t => .cons (Rep.dropP hq r) (Reps.dropP hq t)
end
theorem SRel.dropP {qs : List Addr} (hq : ∀ a ∈ qs, a ∈ m.ph) (h : SRel K rw m H S) : SRel K rw ⟨m.bx, qs⟩ H S := by
  refine ⟨h.len, h.nd, fun n a o e1 e2 => ?_, h.nof, fun a ha => h.phs a (hq a ha), fun a ha => h.phb a (hq a ha), fun a ha => h.pht a (hq a ha)⟩
  have b := h.box n a o e1 e2
  cases o with
  | list vs => obtain ⟨xs, h1, h2⟩ := b; exact ⟨xs, h1, h2.dropP hq⟩
  | dictK vs => obtain ⟨xs, h1, h2⟩ := b; exact ⟨xs, h1, Paired.mapP h2 fun _ _ z => ⟨z.1, z.2.dropP hq⟩⟩
  | dictT vs => obtain ⟨xs, h1, h2⟩ := b; exact ⟨xs, h1, Paired.mapP h2 fun _ _ z => ⟨z.1, z.2.dropP hq⟩⟩
  | inst c vs => obtain ⟨kc, dx, xs, h1, h2⟩ := b; exact ⟨kc, dx, xs, h1, Paired.mapP h2 fun _ _ z => ⟨z.1, z.2.dropP hq⟩⟩
def EXC : List String := ["HoldError", "BadRooms", "BadMark", "BadDeed", "NoHold", "NoKey", "BadErrand", "BadKnown", "BadRow", "BadRoad", "NoErrand", "Stopped", "BadText"]
structure KExc (K : PySem.W.Frag) (c : Str) : Prop where
  glo : (He.Fa.glo c).ok K = true
  exm : ∀ h ∈ EXC, (He.Fa.glo (Str.ofString h)).ok K = true → PySem.W.exmOne K (.ref (He.ga K c)) (.ref (He.ga K (Str.ofString h))) = some (catches c (Str.ofString h))
def Out {α β : Type} (K : PySem.W.Frag) (rw : Bool) (m : MM) (H : Hp) (σ : L2.St) (W : WX) (R : MM → Hp → α → β → Prop) (r : Res α) (Q : β → Hp → Prop) : Prop := match r with
  | .ok v S' => ∀ m' H' u, Ext rw m H m' H' → SRel K rw m' H' S' → R m' H' v u → Q u H'
  | .exc c S' => KExc K c → ∀ m' H', Ext rw m H m' H' → SRel K rw m' H' S' → W (.ref (He.ga K c)) none σ H'
  | .stuck => False
variable {α β α' β' : Type} {W : WX} {R : MM → Hp → α → β → Prop} {R' : MM → Hp → α' → β' → Prop} {Q : β → Hp → Prop} {Q' : β' → Hp → Prop}
theorem Out.ext {r : Res α} (h : Out K rw m H σ W R r Q) (x : Ext rw m H m1 H1) : Out K rw m1 H1 σ W R r Q := by
  cases r with
  | ok v S' => exact fun m' H' u y s q => h m' H' u (x.trans y) s q
  | exc c S' => exact fun kx m' H' y s => h kx m' H' (x.trans y) s
  | stuck => exact h
theorem Out.bind {r : Res α'} {f : α' → Store → Res α} (h : Out K rw m H σ W R (r.bind f) Q)
    (k : ∀ v S1 m1 H1 u, Ext rw m H m1 H1 → SRel K rw m1 H1 S1 → R' m1 H1 v u → Out K rw m1 H1 σ W R (f v S1) Q → Q' u H1) : Out K rw m H σ W R' r Q' := by
  cases r with
  | ok v S' => exact fun m1 H1 u x s q => k v S' m1 H1 u x s q (Out.ext (r := f v S') h x)
  | exc c S' => exact h
  | stuck => exact h
theorem Out.fin {v : α} {u : β} (h : Out K rw m H σ W R (.ok v S) Q) (s : SRel K rw m H S) (q : R m H v u) : Q u H := h m H u Ext.refl s q
theorem Out.fin' {v : α} {u : β} (h : Out K rw m H σ W R (.ok v S) Q) (x : Ext rw m H m' H') (s : SRel K rw m' H' S) (q : R m' H' v u) : Q u H' := h m' H' u x s q
end
end HI
set_option Elab.async false
set_option linter.all false
set_option maxRecDepth 100000
set_option maxHeartbeats 4000000
namespace HI
open PySem PySem.Spec PyProof.Rows L2
theorem tuple_once (l : Addr) (its : Array Value) (n : Nat) (dd : Option Addr) (sl : Array (Option Value)) (u : Tok) :
    Meets (Builtin.«tuple.__mul__» ⟨[.ref l, .int 1 u], []⟩) (fun _ R s => s.heap.get? l = some { cls := .type "tuple", dict := dd, data := .seq its n, slots := sl } ∧ R (.ok (.ret (Value.ref l))) s) :=
  .of_wp fun prog w A R s h => by
    obtain ⟨hp, g, d, tk, os⟩ := s
    obtain ⟨hl, h⟩ := h
    have f1 := AutoSeq1.idx_int
    wp_walk using wpAny_loadPart' hl
    exact ⟨_, rfl, h⟩
def rOnce (K : PySem.W.Frag) : R2 := fun x y H Q => ∃ l xs, x = .ref l ∧ y = .int 1 ∧ SqT K H l xs ∧ Q (.ref l) H
theorem op_once {X : Cx} : OpR X (binaryOp .Mult) (rOnce X.K) := by
  intro pins s σ H x y v u Q I rx ry h
  obtain ⟨l, xs, rfl, rfl, hT, q⟩ := h
  cases rx
  obtain ⟨t, rfl⟩ := ry
  obtain ⟨its, r, ⟨⟨cls, dd, data, sl⟩, ho, hc, n, hd⟩, hs⟩ := I.tuple hT
  simp only at hc hd
  subst hc hd
  refine wpAny_binaryOp_repeat_ref (T := "tuple") (U := "int") (by decide) ⟨_, ho, rfl⟩ (fun s' => typeIs_int s' 1 t) noFill_tuple_mul F.fills_int_mul F.slot_int_rmul repeat_tuple F.slot_int_index.lookup
    (call_meets F.slot_int_rmul (typeIs_int s 1 t) F.entry_int_rmul (F.args_int_rmul_2 _ _) (int_rmul_tuple 1 t l its.toArray n dd sl)
      ⟨ho, rfl, ⟨_, ho, rfl⟩, call_meets F.slot_tuple_mul ⟨_, ho, rfl⟩ F.entry_tuple_mul (F.args_tuple_mul_2 _ _) (tuple_once l its.toArray n dd sl t) ⟨ho, ?_⟩⟩)
  exact ⟨.ref l, H, I, rfl, q⟩
def CPowB (i j : Int) : Prop := 0 ≤ j ∧ (Builtin.Int.intBits i : Int) * j ≤ 2 ^ 27
theorem op_powB {X : Cx} : OpR X (binaryOp .Pow) (rI CPowB fun i j => .int (i ^ j.toNat)) := opI fun _ _ _ _ _ _ _ hc q => pow_int hc.1 hc.2 q
end HI
set_option Elab.async false
set_option linter.all false
set_option maxRecDepth 100000
namespace HI
open PySem PySem.Spec PyProof.Rows L2
section
variable {X : Cx} {C : CallT} {W : WX} {rw : Bool}
def rdE (K : PySem.W.Frag) (rw : Bool) (C : CallT) (W : WX) (e : E) : TE := fun σ H Q => ∃ m S ρ, SRel K rw m H S ∧ ERel K m H ρ σ ∧ Out K rw m H σ W (Rep K) (ev C e ρ S) Q
def rdT (K : PySem.W.Frag) (rw : Bool) (C : CallT) (W : WX) (e : E) : TT := fun σ H Q => ∃ m S ρ, SRel K rw m H S ∧ ERel K m H ρ σ ∧ Out K rw m H σ W (fun _ _ (b c : Bool) => b = c) (evT C e ρ S) Q
def rdA (K : PySem.W.Frag) (rw : Bool) (C : CallT) (W : WX) (es : List E) : TA := fun σ H Q => ∃ m S ρ, SRel K rw m H S ∧ ERel K m H ρ σ ∧ Out K rw m H σ W (Reps K) (evs C es ρ S) Q
abbrev SE (X : Cx) (rw : Bool) (C : CallT) (W : WX) (e : Expr) (e' : E) : Prop := PE X e (rdE X.K rw C W e')
abbrev ST (X : Cx) (rw : Bool) (C : CallT) (W : WX) (e : Expr) (e' : E) : Prop := PT X e (rdT X.K rw C W e')
abbrev SA (X : Cx) (rw : Bool) (C : CallT) (W : WX) (es : List Expr) (es' : List E) : Prop := PA X es (rdA X.K rw C W es')
theorem PE.wk {e : Expr} {t t' : TE} (h : PE X e t) (k : ∀ σ H Q, t' σ H Q → t σ H Q) : PE X e t' := ⟨fun pins s σ H Q I hw => h.run pins s σ H Q I (k σ H Q hw)⟩
theorem PT.wk {e : Expr} {t t' : TT} (h : PT X e t) (k : ∀ σ H Q, t' σ H Q → t σ H Q) : PT X e t' := ⟨fun pins s σ H Q I hw => h.run pins s σ H Q I (k σ H Q hw)⟩
theorem PA.wk {e : List Expr} {t t' : TA} (h : PA X e t) (k : ∀ σ H Q, t' σ H Q → t σ H Q) : PA X e t' := ⟨fun pos pins s σ H Q I hw => h.run pos pins s σ H Q I (k σ H Q hw)⟩
theorem PS.wk {e : Stmt} {t t' : TS} (h : PS X e t) (k : ∀ D σ H, t' D σ H → t D σ H) : PS X e t' := ⟨fun pins s σ H D I hw => h.run pins s σ H D I (k D σ H hw)⟩
theorem PSs.wk {e : List Stmt} {t t' : TS} (h : PSs X e t) (k : ∀ D σ H, t' D σ H → t D σ H) : PSs X e t' := ⟨fun pins s σ H D I hw => h.run pins s σ H D I (k D σ H hw)⟩
theorem PE.or {e : Expr} {t t' : TE} (h : PE X e t) (h' : PE X e t') : PE X e (fun σ H Q => t σ H Q ∨ t' σ H Q) := ⟨fun pins s σ H Q I hw => hw.elim (h.run pins s σ H Q I) (h'.run pins s σ H Q I)⟩
theorem PE.ex {ι : Type} {p : ι → Prop} {e : Expr} {t : ι → TE} (h : ∀ i, p i → PE X e (t i)) : PE X e (fun σ H Q => ∃ i, p i ∧ t i σ H Q) := ⟨fun pins s σ H Q I ⟨i, hp, hw⟩ => (h i hp).run pins s σ H Q I hw⟩
theorem s_var {i : Nat} {x : Str} {pos : Pos} (hN : X.N[i]? = some x) (hv : Vis X.env.scope x) (hd : (x == ("__debug__" : Str)) = false) (hcd : (x == ("__classdict__" : Str)) = false) : SE X rw C W (.Name x pos) (.var i) := by
  refine PE.wk (pe_var hN hv hd hcd) fun σ H Q ⟨m, S, ρ, hS, hE, h⟩ => ?_
  cases e : ρ[i]? with
  | none => simp only [ev, e] at h; exact h.elim
  | some o => cases o with
    | none => simp only [ev, e] at h; exact h.elim
    | some v =>
      simp only [ev, e] at h
      obtain ⟨u, h1, h2⟩ := hE.val i v e
      exact ⟨u, h1, h.fin hS h2⟩
theorem s_lit {e : Expr} {v : Val} {u : V} (h : PE X e (tC u)) (r : ∀ m H, Rep X.K m H v u) : SE X rw C W e (.lit v) :=
  PE.wk h fun σ H Q ⟨m, S, ρ, hS, hE, h⟩ => Out.fin (by simpa only [ev] using h) hS (r m H)
theorem s_bin {e a b : Expr} {a' b' : E} {r : R2} {op : B2} (h : ∀ {ta tb : TE}, PE X a ta → PE X b tb → PE X e (tOp r ta tb)) (ha : SE X rw C W a a') (hb : SE X rw C W b b')
    (k : ∀ m H S x y u w Q σ, SRel X.K rw m H S → Rep X.K m H x u → Rep X.K m H y w → Out X.K rw m H σ W (Rep X.K) (ofO (op2 S op x y) S) Q → r u w H Q) : SE X rw C W e (.bin op a' b') := by
  refine PE.wk (h ha hb) fun σ H Q ⟨m, S, ρ, hS, hE, h⟩ => ?_
  simp only [ev] at h
  refine ⟨m, S, ρ, hS, hE, Out.bind h fun x S1 m1 H1 u x1 s1 r1 h1 => ⟨m1, S1, ρ, s1, hE.ext x1, Out.bind h1 fun y S2 m2 H2 w x2 s2 r2 h2 => ?_⟩⟩
  exact k m2 H2 S2 x y u w Q σ s2 (r1.ext x2) r2 h2
theorem Out.some {α β : Type} {K : PySem.W.Frag} {m : MM} {H : Hp} {σ : L2.St} {W : WX} {S : Store} {R : MM → Hp → α → β → Prop} {Q : β → Hp → Prop} {o : Option α} (h : Out K rw m H σ W R (ofO o S) Q) : ∃ z, o = Option.some z ∧ Out K rw m H σ W R (.ok z S) Q := by
  cases o with
  | none => exact h.elim
  | some z => exact ⟨z, rfl, h⟩
section
variable {K : PySem.W.Frag} {m : MM} {H : Hp} {S : Store} {x y z : Val} {u w : V}
theorem unl_lst (hS : SRel K rw m H S) (r : Rep K m H x u) {xs : List Val} (e : unl S x = .lst xs) : ∃ a us, u = .ref a ∧ H a = some (.lst us) ∧ Reps K m H xs us := by
  cases r with
  | lst h n q => simp only [unl, Val.lst.injEq] at e; subst e; exact ⟨_, _, rfl, h, q⟩
  | @loc n a h =>
    simp only [unl] at e
    cases q : S[n]? with
    | none => rw [q] at e; cases e
    | some o => rw [q] at e; cases o with
      | list vs =>
        simp only [Val.lst.injEq] at e; subst e
        obtain ⟨us, h1, h2⟩ := hS.atA h q
        exact ⟨_, us, rfl, h1, h2⟩
      | _ => cases e
  | _ => simp only [unl] at e; cases e
theorem op2_add_inv (h : op2 S .add x y = some z) : (∃ i j, x = .int i ∧ y = .int j ∧ z = .int (i + j)) ∨ (∃ a b, x = .str a ∧ y = .str b ∧ a.length + b.length ≤ LIM ∧ z = .str (a ++ b)) ∨
    (∃ a b, x = .tup a ∧ y = .tup b ∧ a.length + b.length ≤ LIM ∧ z = .tup (a ++ b)) ∨ ∃ xs ys, unl S x = .lst xs ∧ unl S y = .lst ys ∧ xs.length + ys.length ≤ LIM ∧ z = .lst (xs ++ ys) := by
  unfold op2 at h
  split at h <;> try (first | contradiction | (rename_i e _; cases e))
  all_goals first
    | (refine .inl ⟨_, _, rfl, rfl, ?_⟩; injection h with h; exact h.symm)
    | (split at h
       · injection h with h; first | exact .inr (.inl ⟨_, _, rfl, rfl, by assumption, h.symm⟩) | exact .inr (.inr (.inl ⟨_, _, rfl, rfl, by assumption, h.symm⟩))
       · cases h)
    | (split at h
       · split at h
         · injection h with h; exact .inr (.inr (.inr ⟨_, _, by assumption, by assumption, by assumption, h.symm⟩))
         · cases h
       · cases h)
    | (cases h)
end
theorem rep_int {K : PySem.W.Frag} {m : MM} {H : Hp} {i : Int} {u : V} (r : Rep K m H (.int i) u) : u = .int i := by cases r; rfl
theorem rep_str {K : PySem.W.Frag} {m : MM} {H : Hp} {i : Str} {u : V} (r : Rep K m H (.str i) u) : u = .str i := by cases r; rfl
theorem rep_bool {K : PySem.W.Frag} {m : MM} {H : Hp} {i : Bool} {u : V} (r : Rep K m H (.bool i) u) : u = .bl i := by cases r; rfl
theorem rep_tup {K : PySem.W.Frag} {m : MM} {H : Hp} {vs : List Val} {u : V} (r : Rep K m H (.tup vs) u) : ∃ a us, u = .ref a ∧ H a = some (.tup us) ∧ a ∉ m ∧ Reps K m H vs us := by cases r with | tup h n q => exact ⟨_, _, rfl, h, n, q⟩
theorem rep_lst {K : PySem.W.Frag} {m : MM} {H : Hp} {vs : List Val} {u : V} (r : Rep K m H (.lst vs) u) : ∃ a us, u = .ref a ∧ H a = some (.lst us) ∧ a ∉ m ∧ Reps K m H vs us := by cases r with | lst h n q => exact ⟨_, _, rfl, h, n, q⟩
theorem rep_loc {K : PySem.W.Frag} {m : MM} {H : Hp} {n : Nat} {u : V} (r : Rep K m H (.loc n) u) : ∃ a, u = .ref a ∧ m[n]? = some a := by cases r with | loc h => exact ⟨_, rfl, h⟩
theorem not_box {K : PySem.W.Frag} {m : MM} {H : Hp} {S : Store} (hS : SRel K rw m H S) {p : Addr} (hp : H p = none) : p ∉ m := fun hm => by
  rcases hm with hm | hm
  · exact hS.free hp hm
  · have := hS.phs p hm
    rw [hp] at this; cases this
theorem fin_tup {K : PySem.W.Frag} {m : MM} {H : Hp} {S : Store} {σ : L2.St} {W : WX} {Q : VK} {vs : List Val} {us : List V} (h : Out K rw m H σ W (Rep K) (.ok (.tup vs) S) Q) (hS : SRel K rw m H S) (q : Reps K m H vs us) {p : Addr} (hp : H p = none) : Q (.ref p) (upd H p (.tup us)) :=
  h.fin' (Ext.new hp) (hS.new hp) (.tup upd_same (not_box hS hp) (q.ext (Ext.new (rw := rw) hp)))
theorem fin_lst {K : PySem.W.Frag} {m : MM} {H : Hp} {S : Store} {σ : L2.St} {W : WX} {Q : VK} {vs : List Val} {us : List V} (h : Out K rw m H σ W (Rep K) (.ok (.lst vs) S) Q) (hS : SRel K rw m H S) (q : Reps K m H vs us) {p : Addr} (hp : H p = none) : Q (.ref p) (upd H p (.lst us)) :=
  h.fin' (Ext.new hp) (hS.new hp) (.lst upd_same (not_box hS hp) (q.ext (Ext.new (rw := rw) hp)))
theorem lim_eq : (LIM : Nat) = sizeLine := by rw [sizeLine_eq]
def opAll (X : Cx) (op : CmpOp) (r : R2) : Prop := OpR X (compareOp op) r
theorem s_add {a b : Expr} {a' b' : E} {pos : Pos} (ha : SE X rw C W a a') (hb : SE X rw C W b b') : SE X rw C W (.BinOp a .Add b pos) (.bin .add a' b') := by
  refine s_bin (fun h1 h2 => pe_op (OpR.or op_add (OpR.or op_add_str (OpR.or op_catA op_cat))) h1 h2) ha hb fun m H S x y u w Q σ hS rx ry h => ?_
  obtain ⟨z, e, h⟩ := h.some
  rcases op2_add_inv e with ⟨i, j, rfl, rfl, rfl⟩ | ⟨i, j, rfl, rfl, hl, rfl⟩ | ⟨i, j, rfl, rfl, hl, rfl⟩ | ⟨xs, ys, e1, e2, hl, rfl⟩
  · cases rep_int rx; cases rep_int ry; exact .inl ⟨i, j, rfl, rfl, h.fin hS (.int _)⟩
  · cases rep_str rx; cases rep_str ry; exact .inr (.inl ⟨i, j, rfl, rfl, by rw [← lim_eq]; exact hl, h.fin hS (.str _)⟩)
  · obtain ⟨a, us, rfl, h1, n1, q1⟩ := rep_tup rx
    obtain ⟨b, ws, rfl, h2, n2, q2⟩ := rep_tup ry
    refine .inr (.inr (.inl ⟨a, b, us, ws, rfl, rfl, SqT.of h1, SqT.of h2, by rw [← q1.length, ← q2.length, ← lim_eq]; exact hl, fun e => ?_, fun e1 e2 => ?_, fun e1 e2 p hp => ?_⟩))
    · subst e; cases q1; exact h.fin hS (.tup h2 n2 q2)
    · subst e2; cases q2; exact h.fin hS (.tup h1 n1 (by simpa using q1))
    · exact fin_tup h hS (q1.append q2) hp
  · obtain ⟨a, us, rfl, h1, q1⟩ := unl_lst hS rx e1
    obtain ⟨b, ws, rfl, h2, q2⟩ := unl_lst hS ry e2
    exact .inr (.inr (.inr ⟨a, b, us, ws, rfl, rfl, h1, h2, by rw [← q1.length, ← q2.length, ← lim_eq]; exact hl, fun p hp => fin_lst h hS (q1.append q2) hp⟩))
theorem s_sub {a b : Expr} {a' b' : E} {pos : Pos} (ha : SE X rw C W a a') (hb : SE X rw C W b b') : SE X rw C W (.BinOp a .Sub b pos) (.bin .sub a' b') := by
  refine s_bin (fun h1 h2 => pe_op op_sub h1 h2) ha hb fun m H S x y u w Q σ hS rx ry h => ?_
  obtain ⟨z, e, h⟩ := h.some
  cases x <;> cases y <;> simp only [op2] at e <;> try cases e
  cases rep_int rx; cases rep_int ry
  exact ⟨_, _, rfl, rfl, h.fin hS (.int _)⟩
theorem small64_ok {i : Int} (h : small64 i = true) : -(2 ^ 64) < i ∧ i < 2 ^ 64 := by
  unfold small64 at h
  rw [Bool.and_eq_true, decide_eq_true_eq, decide_eq_true_eq] at h
  exact h
theorem s_mul {a b : Expr} {a' b' : E} {pos : Pos} (ha : SE X rw C W a a') (hb : SE X rw C W b b') : SE X rw C W (.BinOp a .Mult b pos) (.bin .mul a' b') := by
  refine s_bin (fun h1 h2 => pe_op (OpR.or op_mul (OpR.or (OpR.or op_repT op_once) op_rep)) h1 h2) ha hb fun m H S x y u w Q σ hS rx ry h => ?_
  obtain ⟨z, e, h⟩ := h.some
  cases x <;> cases y <;> simp only [op2] at e <;> try cases e
  · split at e
    · rename_i hc
      cases e
      cases rep_int rx; cases rep_int ry
      refine .inl ⟨_, _, rfl, rfl, ?_, h.fin hS (.int _)⟩
      rw [Bool.or_eq_true] at hc
      rcases hc with hc | hc
      · exact .inl (small64_ok hc)
      · exact .inr (small64_ok hc)
    · cases e
  · split at e
    · rename_i hc
      cases e
      cases rep_int ry
      obtain ⟨a, us, rfl, h1, n1, q1⟩ := rep_tup rx
      simp only [Bool.and_eq_true, decide_eq_true_eq, Bool.not_eq_true'] at hc
      obtain ⟨⟨⟨c1, c2⟩, c3⟩, c4⟩ := hc
      have hl := q1.length
      rename_i vs k _
      by_cases k1 : k = (1 : Int)
      · subst k1
        refine .inr (.inl (.inr ⟨a, us, rfl, rfl, SqT.of h1, h.fin hS ?_⟩))
        rw [show repL 1 vs = vs from by simp [repL]]
        exact .tup h1 n1 q1
      · refine .inr (.inl (.inl ⟨a, _, us, rfl, rfl, SqT.of h1, ?_, Int.lt_iff_le_and_ne.mpr ⟨c1, Ne.symm k1⟩, c2, by omega, fun p hp => fin_tup h hS (q1.rep _) hp⟩))
        intro z; subst z
        cases q1; simp at c4
    · cases e
  · split at e
    · rename_i hc
      cases e
      cases rep_int ry
      obtain ⟨a, us, rfl, h1, n1, q1⟩ := rep_lst rx
      simp only [Bool.and_eq_true, decide_eq_true_eq] at hc
      obtain ⟨⟨c1, c2⟩, c3⟩ := hc
      have hl := q1.length
      have hm : ∀ k : Nat, k ≤ 1000 → us.length * k ≤ sizeLine := fun k hk => by
        have : us.length * k ≤ 1000 * 1000 := Nat.mul_le_mul (by omega) hk
        rw [sizeLine_eq]; omega
      exact .inr (.inr ⟨a, _, us, rfl, rfl, h1, by omega, by omega, hm _ (by omega), fun p hp => fin_lst h hS (q1.rep _) hp⟩)
    · cases e
theorem s_fdiv {a b : Expr} {a' b' : E} {pos : Pos} (ha : SE X rw C W a a') (hb : SE X rw C W b b') : SE X rw C W (.BinOp a .FloorDiv b pos) (.bin .fdiv a' b') := by
  refine s_bin (fun h1 h2 => pe_op op_fdiv h1 h2) ha hb fun m H S x y u w Q σ hS rx ry h => ?_
  obtain ⟨z, e, h⟩ := h.some
  cases x <;> cases y <;> simp only [op2] at e <;> try cases e
  split at e
  · rename_i hc
    cases e
    cases rep_int rx; cases rep_int ry
    simp only [Bool.and_eq_true, decide_eq_true_eq] at hc
    exact ⟨_, _, rfl, rfl, hc, h.fin hS (.int _)⟩
  · cases e
theorem s_mod {a b : Expr} {a' b' : E} {pos : Pos} (ha : SE X rw C W a a') (hb : SE X rw C W b b') : SE X rw C W (.BinOp a .Mod b pos) (.bin .mod a' b') := by
  refine s_bin (fun h1 h2 => pe_op op_mod h1 h2) ha hb fun m H S x y u w Q σ hS rx ry h => ?_
  obtain ⟨z, e, h⟩ := h.some
  cases x <;> cases y <;> simp only [op2] at e <;> try cases e
  split at e
  · rename_i hc
    cases e
    cases rep_int rx; cases rep_int ry
    simp only [decide_eq_true_eq] at hc
    exact ⟨_, _, rfl, rfl, hc, h.fin hS (.int _)⟩
  · cases e
theorem s_pow {a b : Expr} {a' b' : E} {pos : Pos} (ha : SE X rw C W a a') (hb : SE X rw C W b b') : SE X rw C W (.BinOp a .Pow b pos) (.bin .pow a' b') := by
  refine s_bin (fun h1 h2 => pe_op op_powB h1 h2) ha hb fun m H S x y u w Q σ hS rx ry h => ?_
  obtain ⟨z, e, h⟩ := h.some
  cases x <;> cases y <;> simp only [op2] at e <;> try cases e
  split at e
  · rename_i hc
    cases e
    cases rep_int rx; cases rep_int ry
    simp only [Bool.and_eq_true, decide_eq_true_eq] at hc
    exact ⟨_, _, rfl, rfl, ⟨hc.1, hc.2⟩, h.fin hS (.int _)⟩
  · cases e
theorem s_neg {a : Expr} {a' : E} {pos : Pos} (ha : SE X rw C W a a') : SE X rw C W (.UnaryOp .USub a pos) (.un .neg a') := by
  refine PE.wk (pe_un un_neg ha) fun σ H Q ⟨m, S, ρ, hS, hE, h⟩ => ?_
  simp only [ev] at h
  refine ⟨m, S, ρ, hS, hE, Out.bind h fun x S1 m1 H1 u x1 s1 r1 h1 => ?_⟩
  obtain ⟨z, e, h⟩ := h1.some
  cases x <;> simp only [op1] at e <;> try cases e
  cases rep_int r1
  exact ⟨_, rfl, h.fin s1 (.int _)⟩
mutual
def toD : Val → PyData
  | .non => .none
  | .bool b => .bool b
  | .int i => .int i
  | .str s => .str s
  | .tup vs => .tuple (toDs vs)
  | .lst vs => .list (toDs vs)
  | .scr _ => .none
  | .loc _ => .none
def toDs : List Val → List PyData
  | [] => []
  | v :: vs => toD v :: toDs vs
end
mutual
theorem fine_lay : ∀ (n : Nat) (v : Val), fine n v = true → (toD v).canLay0 = true ∧ (toD v).depth ≤ n
  | 0, v, h => by simp [fine] at h
  | n + 1, .non, _ => ⟨rfl, by simp [toD, PyData.depth]⟩
  | n + 1, .bool _, _ => ⟨rfl, by simp [toD, PyData.depth]⟩
  | n + 1, .int _, _ => ⟨rfl, by simp [toD, PyData.depth]⟩
  | n + 1, .str s, h => ⟨by simp only [toD, PyData.canLay0]; simp only [fine] at h; exact h, by simp [toD, PyData.depth]⟩
  | n + 1, .tup vs, h => by
    have q := fines_lay n vs (by simpa only [fine] using h)
    exact ⟨by simp only [toD, PyData.canLay0]; exact q.1, by simp only [toD, PyData.depth]; have := q.2; omega⟩
  | n + 1, .lst vs, h => by
    have q := fines_lay n vs (by simpa only [fine] using h)
    exact ⟨by simp only [toD, PyData.canLay0]; exact q.1, by simp only [toD, PyData.depth]; have := q.2; omega⟩
  | n + 1, .scr _, h => by simp [fine] at h
  | n + 1, .loc _, h => by simp [fine] at h
theorem fines_lay : ∀ (n : Nat) (vs : List Val), fines n vs = true → PyData.canLayAll0 (toDs vs) = true ∧ PyData.depthAll (toDs vs) ≤ n
  | n, [], _ => ⟨rfl, by simp [toDs, PyData.depthAll]⟩
  | n, v :: vs, h => by
    simp only [fines, Bool.and_eq_true] at h
    have q1 := fine_lay n v h.1
    have q2 := fines_lay n vs h.2
    refine ⟨by simp only [toDs, PyData.canLayAll0, q1.1, q2.1]; rfl, ?_⟩
    simp only [toDs, PyData.depthAll]
    have := q1.2; have := q2.2; omega
end
theorem cmp_order {op : CmpOp} {o : B2} {f : Int → Int → Bool} {g : Str → Str → Bool} (hi : OpR X (compareOp op) (rI0 fun i j => .bl (f i j)))
    (hs : OpR X (compareOp op) (fun x y H Q => ∃ i j, x = .str i ∧ y = .str j ∧ Q (.bl (g i j)) H))
    (e : ∀ S x y z, op2 S o x y = some z → (∃ i j, x = .int i ∧ y = .int j ∧ z = .bool (f i j)) ∨ ∃ i j, x = .str i ∧ y = .str j ∧ z = .bool (g i j)) :
    ∃ r, OpR X (compareOp op) r ∧ ∀ m H S x y u w Q σ, SRel X.K rw m H S → Rep X.K m H x u → Rep X.K m H y w → Out X.K rw m H σ W (Rep X.K) (ofO (op2 S o x y) S) Q → r u w H Q := by
  refine ⟨_, OpR.or hi hs, fun m H S x y u w Q σ hS rx ry h => ?_⟩
  obtain ⟨z, q, h⟩ := h.some
  rcases e S x y z q with ⟨i, j, rfl, rfl, rfl⟩ | ⟨i, j, rfl, rfl, rfl⟩
  · cases rep_int rx; cases rep_int ry; exact .inl ⟨i, j, rfl, rfl, h.fin hS (.bool _)⟩
  · cases rep_str rx; cases rep_str ry; exact .inr ⟨i, j, rfl, rfl, h.fin hS (.bool _)⟩
def CmpOk (X : Cx) (rw : Bool) (W : WX) (op : CmpOp) (o : B2) : Prop := ∃ r, OpR X (compareOp op) r ∧ ∀ m H S x y u w Q σ, SRel X.K rw m H S → Rep X.K m H x u → Rep X.K m H y w → Out X.K rw m H σ W (Rep X.K) (ofO (op2 S o x y) S) Q → r u w H Q
theorem c_lt : CmpOk X rw W .Lt .lt := cmp_order op_lt op_lt_str fun S x y z h => by
  cases x <;> cases y <;> simp only [op2] at h <;> cases h <;> first | exact .inl ⟨_, _, rfl, rfl, rfl⟩ | exact .inr ⟨_, _, rfl, rfl, rfl⟩
theorem c_le : CmpOk X rw W .LtE .le := cmp_order op_le op_le_str fun S x y z h => by
  cases x <;> cases y <;> simp only [op2] at h <;> cases h <;> first | exact .inl ⟨_, _, rfl, rfl, rfl⟩ | exact .inr ⟨_, _, rfl, rfl, rfl⟩
theorem c_gt : CmpOk X rw W .Gt .gt := cmp_order op_gt op_gt_str fun S x y z h => by
  cases x <;> cases y <;> simp only [op2] at h <;> cases h <;> first | exact .inl ⟨_, _, rfl, rfl, rfl⟩ | exact .inr ⟨_, _, rfl, rfl, rfl⟩
theorem c_ge : CmpOk X rw W .GtE .ge := cmp_order op_ge op_ge_str fun S x y z h => by
  cases x <;> cases y <;> simp only [op2] at h <;> cases h <;> first | exact .inl ⟨_, _, rfl, rfl, rfl⟩ | exact .inr ⟨_, _, rfl, rfl, rfl⟩
mutual
theorem rep_dp {K : PySem.W.Frag} {m : MM} {H : Hp} : ∀ {v : Val} {u : V} {n : Nat}, Rep K m H v u → fine n v = true → Dp K H u (toD v)
  | _, _, _, .non, _ => .non
  | _, _, _, .bool b, _ => .bl b
  | _, _, _, .int b, _ => .int b
  | _, _, _, .str b, _ => .str b
  | _, _, 0, .tup _ _ _, h => by simp [fine] at h
  | _, _, n + 1, .tup h _ q, hf => .tup (SqT.of h) (reps_dp (n := n) q (by simpa only [fine] using hf))
  | _, _, 0, .lst _ _ _, h => by simp [fine] at h
  | _, _, n + 1, .lst h _ q, hf => .lst (SqL.of h) (reps_dp (n := n) q (by simpa only [fine] using hf))
  | _, _, n, .scr _ _, hf => by cases n <;> simp [fine] at hf
  | _, _, n, .scrK _, hf => by cases n <;> simp [fine] at hf
  | _, _, n, .loc _, hf => by cases n <;> simp [fine] at hf
theorem reps_dp {K : PySem.W.Frag} {m : MM} {H : Hp} : ∀ {vs : List Val} {us : List V} {n : Nat}, Reps K m H vs us → fines n vs = true → DpAll K H us (toDs vs)
  | _, _, _, .nil, _ => .nil
  | _, _, n, .cons r q, hf => by
    simp only [fines, Bool.and_eq_true] at hf
    exact .cons (rep_dp r hf.1) (reps_dp q hf.2)
end
mutual
theorem eqv_d : ∀ (n k : Nat) (v w : Val), fine n v = true → fine k w = true → PyData.eqv (toD v) (toD w) = eqv v w
  | 0, _, v, _, h, _ => by simp [fine] at h
  | _, 0, _, w, _, h => by simp [fine] at h
  | n + 1, k + 1, v, w, h, h' => by
    cases v <;> cases w <;> first
      | (simp only [fine, Bool.false_eq_true] at h; done)
      | (simp only [fine, Bool.false_eq_true] at h'; done)
      | (simp only [toD, PyData.eqv, eqv]; done)
      | (simp only [toD, PyData.eqv, eqv]; exact eqvs_d n k _ _ (by simpa only [fine] using h) (by simpa only [fine] using h'))
theorem eqvs_d : ∀ (n k : Nat) (v w : List Val), fines n v = true → fines k w = true → PyData.eqvAll (toDs v) (toDs w) = eqvs v w
  | _, _, [], [], _, _ => rfl
  | _, _, [], _ :: _, _, _ => rfl
  | _, _, _ :: _, [], _, _ => rfl
  | n, k, a :: v, b :: w, h, h' => by
    simp only [fines, Bool.and_eq_true] at h h'
    simp only [toDs, PyData.eqvAll, eqvs, eqv_d n k a b h.1 h'.1, eqvs_d n k v w h.2 h'.2]
end
theorem fine_shaped {v : Val} (h : fine 60 v = true) : SeqAt.shaped (toD v) = true := by
  have q := fine_lay 60 v h
  unfold SeqAt.shaped
  rw [q.1, Bool.true_and, decide_eq_true_eq]
  exact Nat.le_trans q.2 (by decide)
theorem unl_rep {K : PySem.W.Frag} {m : MM} {H : Hp} {S : Store} {x : Val} {u : V} (hS : SRel K rw m H S) (r : Rep K m H x u) (h : fine 60 (unl S x) = true) : Dp K H u (toD (unl S x)) := by
  cases x with
  | loc n =>
    have h' := h
    simp only [unl] at h' ⊢
    cases q : S[n]? with
    | none => rw [q] at h'; simp [fine] at h'
    | some o => rw [q] at h'; cases o with
      | list vs =>
        have e : unl S (.loc n) = .lst vs := by simp only [unl, q]
        obtain ⟨a, us, rfl, h1, q1⟩ := unl_lst hS r e
        exact .lst (SqL.of h1) (reps_dp (n := 59) q1 (by simpa only [fine] using h'))
      | _ => simp [fine] at h'
  | _ => exact rep_dp r h
theorem scal_rep {K : PySem.W.Frag} {m : MM} {H : Hp} {x y : Val} {u w : V} (rx : Rep K m H x u) (ry : Rep K m H y w) (h : sameScal x y = true) : scal u w = true ∧ decide (u = w) = eqv x y := by
  cases rx <;> cases ry <;> first
    | (simp only [sameScal, Bool.false_eq_true] at h; done)
    | (refine ⟨rfl, ?_⟩; first | rfl | (simp only [eqv]; first | exact dec_int | exact dec_bl | exact dec_str | rfl))
theorem c_eq (hu : X.A.units + 64 < cLine) : CmpOk X rw W .Eq .eq := by
  refine ⟨_, OpR.or op_eq (op_eqD hu), fun m H S x y u w Q σ hS rx ry h => ?_⟩
  obtain ⟨z, e, h⟩ := h.some
  simp only [op2, eqS] at e
  split at e
  · rename_i hs
    cases e
    obtain ⟨h1, h2⟩ := scal_rep rx ry hs
    refine .inl ⟨h1, ?_⟩
    rw [h2]; exact h.fin hS (.bool _)
  · split at e
    · rename_i hf
      cases e
      rw [Bool.and_eq_true] at hf
      refine .inr ⟨_, _, unl_rep hS rx hf.1, unl_rep hS ry hf.2, fine_shaped hf.1, fine_shaped hf.2, ?_⟩
      rw [eqv_d 60 60 _ _ hf.1 hf.2]
      exact h.fin hS (.bool _)
    · cases e
theorem c_ne (hu : X.A.units + 64 < cLine) : CmpOk X rw W .NotEq .ne := by
  refine ⟨_, OpR.or op_ne (op_neD hu), fun m H S x y u w Q σ hS rx ry h => ?_⟩
  obtain ⟨z, e, h⟩ := h.some
  simp only [op2, eqS] at e
  split at e
  · rename_i hs
    cases e
    obtain ⟨h1, h2⟩ := scal_rep rx ry hs
    refine .inl ⟨h1, ?_⟩
    rw [h2]; exact h.fin hS (.bool _)
  · split at e
    · rename_i hf
      cases e
      rw [Bool.and_eq_true] at hf
      refine .inr ⟨_, _, unl_rep hS rx hf.1, unl_rep hS ry hf.2, fine_shaped hf.1, fine_shaped hf.2, ?_⟩
      rw [eqv_d 60 60 _ _ hf.1 hf.2]
      exact h.fin hS (.bool _)
    · cases e
theorem s_cmp {op : CmpOp} {o : B2} (c : CmpOk X rw W op o) {a b : Expr} {a' b' : E} {pos : Pos} (hm : behindInMarks op b = false) (ha : SE X rw C W a a') (hb : SE X rw C W b b') : SE X rw C W (.Compare a [op] [b] pos) (.bin o a' b') := by
  obtain ⟨r, ho, k⟩ := c
  exact s_bin (fun h1 h2 => pe_cmpR ho h1 h2 hm) ha hb k
theorem op_din (hu : X.A.units + 1 < cLine) : OpR X (compareOp .In) (fun y x H Q => ∃ a o, x = .ref a ∧ DGet H a y o ∧ Q (.bl o.isSome) H) := by
  intro pins s σ H y x v u Q I ry rx ⟨a, o, ex, g, q⟩
  subst ex; cases rx
  exact d_in hu I g ry fun s3 I3 => ⟨.bl _, H, I3, rfl, q⟩
theorem op_dnotin (hu : X.A.units + 1 < cLine) : OpR X (compareOp .NotIn) (fun y x H Q => ∃ a o, x = .ref a ∧ DGet H a y o ∧ Q (.bl (!o.isSome)) H) := by
  intro pins s σ H y x v u Q I ry rx ⟨a, o, ex, g, q⟩
  subst ex; cases rx
  exact d_notIn hu I g ry fun s3 I3 => ⟨.bl _, H, I3, rfl, q⟩
theorem op_inDT (hu : X.A.units + 65 < cLine) : OpR X (compareOp .In) (fun x y H Q => ∃ d ds, Dp X.K H x d ∧ Dp X.K H y (.tuple ds) ∧ SeqAt.shaped d = true ∧ SeqAt.shaped (.tuple ds) = true ∧ Q (.bl (ds.any fun z => PyData.eqv z d)) H) := by
  intro pins s σ H x y v u Q I rx ry h
  obtain ⟨d, ds, hd, he, sd, se, q⟩ := h
  obtain ⟨as, r1⟩ := Dp.reads I d x v hd rx
  obtain ⟨bs, r2⟩ := Dp.reads I (.tuple ds) y u he ry
  exact SeqAt.in_tuple_reads r2 r1 (SeqAt.canLay_of_shaped se) (SeqAt.canLay_of_shaped sd) (room_in_shaped sd hu) ⟨.bl _, H, I, rfl, q⟩
theorem op_notInDT (hu : X.A.units + 65 < cLine) : OpR X (compareOp .NotIn) (fun x y H Q => ∃ d ds, Dp X.K H x d ∧ Dp X.K H y (.tuple ds) ∧ SeqAt.shaped d = true ∧ SeqAt.shaped (.tuple ds) = true ∧ Q (.bl (!ds.any fun z => PyData.eqv z d)) H) := by
  intro pins s σ H x y v u Q I rx ry h
  obtain ⟨d, ds, hd, he, sd, se, q⟩ := h
  obtain ⟨as, r1⟩ := Dp.reads I d x v hd rx
  obtain ⟨bs, r2⟩ := Dp.reads I (.tuple ds) y u he ry
  exact SeqAt.notIn_tuple_reads r2 r1 (SeqAt.canLay_of_shaped se) (SeqAt.canLay_of_shaped sd) (room_in_shaped sd hu) ⟨.bl _, H, I, rfl, q⟩
section
variable {K : PySem.W.Frag} {m : MM} {H : Hp} {S : Store}
theorem RepP.get {κ : Type} [DecidableEq κ] {kvs : List (κ × Val)} {us : List (κ × V)} (r : RepP K m H kvs us) (k : κ) :
    (getK kvs k = none ∧ valV us k = none) ∨ ∃ v u, getK kvs k = some v ∧ valV us k = some u ∧ Rep K m H v u := by
  induction r with
  | nil => exact .inl ⟨rfl, rfl⟩
  | @cons p q ps qs h t ih =>
    by_cases e : p.1 = k
    · refine .inr ⟨p.2, q.2, by simp [getK, List.find?_cons, e], by simp [valV, List.find?_cons, ← h.1, e], h.2⟩
    · have e2 : ¬ q.1 = k := by rw [← h.1]; exact e
      have h1 : getK (p :: ps) k = getK ps k := by simp [getK, List.find?_cons, e]
      have h2 : valV (q :: qs) k = valV qs k := by simp [valV, List.find?_cons, e2]
      rw [h1, h2]; exact ih
theorem RepP.put {κ : Type} [DecidableEq κ] {kvs : List (κ × Val)} {us : List (κ × V)} (r : RepP K m H kvs us) (k : κ) {v : Val} {u : V} (q : Rep K m H v u) : RepP K m H (putK kvs k v) (L2.putK us k u) := by
  have ha : (kvs.any fun kv => decide (kv.1 = k)) = us.any fun kv => decide (kv.1 = k) := by
    induction r with
    | nil => rfl
    | cons h t ih => simp only [List.any_cons, h.1, ih]
  unfold putK L2.putK
  rw [ha]
  split
  · rename_i hc
    clear ha hc
    induction r with
    | nil => exact .nil
    | @cons p w ps qs h t ih =>
      refine .cons ?_ ih
      by_cases e : p.1 = k
      · have e2 : w.1 = k := by rw [← h.1]; exact e
        simp only [e, e2, if_true]; exact ⟨trivial, q⟩
      · have e2 : ¬ w.1 = k := by rw [← h.1]; exact e
        simp only [e, e2, if_false]; exact h
  · rename_i hc
    clear ha hc
    induction r with
    | nil => exact .cons ⟨rfl, q⟩ .nil
    | cons h t ih => exact .cons h ih
theorem RepP.drop {κ : Type} [DecidableEq κ] {kvs : List (κ × Val)} {us : List (κ × V)} (r : RepP K m H kvs us) (k : κ) : RepP K m H (dropK kvs k) (L2.dropK us k) := by
  unfold dropK L2.dropK
  induction r with
  | nil => exact .nil
  | @cons p w ps qs h t ih =>
    by_cases e : p.1 = k
    · have e2 : w.1 = k := by rw [← h.1]; exact e
      simp only [List.filter_cons, e, e2, ne_eq, not_true_eq_false, decide_false, Bool.false_eq_true, if_false]; exact ih
    · have e2 : ¬ w.1 = k := by rw [← h.1]; exact e
      simp only [List.filter_cons, e, e2, ne_eq, not_false_eq_true, decide_true, if_true]; exact .cons h ih
theorem RepP.length {κ : Type} {kvs : List (κ × Val)} {us : List (κ × V)} (r : RepP K m H kvs us) : kvs.length = us.length := Paired.length r
theorem key_rep {y : Val} {w : V} {k : Key} (r : Rep K m H y w) (e : keyOf y = some k) : w = kV k := by
  cases r <;> simp only [keyOf] at e <;> cases e <;> rfl
theorem keys_rep : ∀ {ks : List Val} {us : List V} {k : List Key}, Reps K m H ks us → keysOf ks = some k → us = k.map kV
  | [], _, k, .nil, e => by simp only [keysOf] at e; cases e; rfl
  | v :: vs, _, k, .cons r q, e => by
    simp only [keysOf] at e
    cases e1 : keyOf v with
    | none => rw [e1] at e; simp at e
    | some a => cases e2 : keysOf vs with
      | none => rw [e1, e2] at e; simp at e
      | some b =>
        rw [e1, e2] at e
        cases e
        rw [key_rep r e1, keys_rep q e2]; rfl
def dAsk (S : Store) (n : Nat) (y : Val) : Option (Option Val) := match S[n]? with
  | some (.dictK kvs) => (match keyOf y with | some k => some (getK kvs k) | none => none)
  | some (.dictT kvs) => (match y with | .tup ks => (match keysOf ks with | some k => some (getK kvs k) | none => none) | _ => none)
  | _ => none
theorem dget_rep (hS : SRel K rw m H S) {n : Nat} {y : Val} {a : Addr} {w : V} (ha : m[n]? = some a) (ry : Rep K m H y w) {r : Option Val}
    (e : dAsk S n y = some r) : ∃ o, DGet H a w o ∧ ((r = none ∧ o = none) ∨ ∃ v u, r = some v ∧ o = some u ∧ Rep K m H v u) := by
  unfold dAsk at e
  cases q : S[n]? with
  | none => rw [q] at e; cases e
  | some ob =>
    rw [q] at e
    have b := hS.atA ha q
    cases ob with
    | dictK kvs =>
      obtain ⟨us, h1, h2⟩ := b
      simp only at e
      cases e1 : keyOf y with
      | none => rw [e1] at e; cases e
      | some k =>
        rw [e1] at e; cases e
        rw [key_rep ry e1]
        exact ⟨valV us k, .inl ⟨us, k, h1, rfl, rfl⟩, RepP.get h2 k⟩
    | dictT kvs =>
      obtain ⟨us, h1, h2⟩ := b
      simp only at e
      cases ry <;> simp only at e <;> try cases e
      rename_i b xs vs hb hn hr
      cases e1 : keysOf vs with
      | none => rw [e1] at e; cases e
      | some k =>
        rw [e1] at e; cases e
        rw [keys_rep hr e1] at hb
        exact ⟨valV us k, .inr ⟨us, k, _, h1, rfl, hb, rfl⟩, RepP.get h2 k⟩
    | _ => cases e
end
theorem memV_d : ∀ (n k : Nat) (vs : List Val) (x : Val), fines n vs = true → fine k x = true → ((toDs vs).any fun z => PyData.eqv z (toD x)) = memV vs x
  | _, _, [], _, _, _ => rfl
  | n, k, v :: vs, x, h, h' => by
    simp only [fines, Bool.and_eq_true] at h
    have ih := memV_d n k vs x h.2 h'
    unfold memV at ih ⊢
    simp only [toDs, List.any_cons, eqv_d n k v x h.1 h', ih]
theorem fines_shaped {vs : List Val} (h : fines 59 vs = true) : SeqAt.shaped (.list (toDs vs)) = true ∧ SeqAt.shaped (.tuple (toDs vs)) = true :=
  ⟨fine_shaped (v := .lst vs) (by simpa only [fine] using h), fine_shaped (v := .tup vs) (by simpa only [fine] using h)⟩
theorem isIn_inv {K : PySem.W.Frag} {m : MM} {H : Hp} {S : Store} {x y : Val} {u w : V} {b : Bool} (hS : SRel K rw m H S) (rx : Rep K m H x u) (ry : Rep K m H y w) (e : isIn S x y = some b) :
    (∃ (c : Nat) (z : Str), u = .str ⟨#[c]⟩ ∧ w = .str z ∧ b = decide (c ∈ z.cps.toList)) ∨
    (∃ d ds, Dp K H u d ∧ Dp K H w (.list ds) ∧ SeqAt.shaped d = true ∧ SeqAt.shaped (.list ds) = true ∧ b = ds.any fun z => PyData.eqv z d) ∨
    (∃ d ds, Dp K H u d ∧ Dp K H w (.tuple ds) ∧ SeqAt.shaped d = true ∧ SeqAt.shaped (.tuple ds) = true ∧ b = ds.any fun z => PyData.eqv z d) ∨
    ∃ a o, w = .ref a ∧ DGet H a u o ∧ b = o.isSome := by
  cases y with
  | str z =>
    simp only [isIn] at e
    cases x with
    | str t =>
      simp only at e
      split at e
      · rename_i c hc
        cases e
        cases rep_str rx; cases rep_str ry
        refine .inl ⟨c, z, ?_, rfl, rfl⟩
        obtain ⟨⟨l⟩⟩ := t
        simp only at hc; subst hc; rfl
      · cases e
    | _ => cases e
  | tup vs =>
    simp only [isIn] at e
    split at e
    · rename_i hc
      cases e
      rw [Bool.and_eq_true] at hc
      obtain ⟨a, us, rfl, h1, n1, q1⟩ := rep_tup ry
      exact .inr (.inr (.inl ⟨_, _, rep_dp rx hc.1, .tup (SqT.of h1) (reps_dp q1 hc.2), fine_shaped hc.1, (fines_shaped hc.2).2, (memV_d _ _ _ _ hc.2 hc.1).symm⟩))
    · cases e
  | lst vs =>
    simp only [isIn] at e
    split at e
    · rename_i hc
      cases e
      rw [Bool.and_eq_true] at hc
      obtain ⟨a, us, rfl, h1, n1, q1⟩ := rep_lst ry
      exact .inr (.inl ⟨_, _, rep_dp rx hc.1, .lst (SqL.of h1) (reps_dp q1 hc.2), fine_shaped hc.1, (fines_shaped hc.2).1, (memV_d _ _ _ _ hc.2 hc.1).symm⟩)
    · cases e
  | loc n =>
    obtain ⟨a, rfl, ha⟩ := rep_loc ry
    simp only [isIn] at e
    cases q : S[n]? with
    | none => rw [q] at e; cases e
    | some ob =>
      rw [q] at e
      cases ob with
      | list vs =>
        simp only at e
        split at e
        · rename_i hc
          cases e
          rw [Bool.and_eq_true] at hc
          obtain ⟨us, h1, q1⟩ := hS.atA ha q
          exact .inr (.inl ⟨_, _, rep_dp rx hc.1, .lst (SqL.of h1) (reps_dp q1 hc.2), fine_shaped hc.1, (fines_shaped hc.2).1, (memV_d _ _ _ _ hc.2 hc.1).symm⟩)
        · cases e
      | dictK kvs =>
        simp only at e
        cases e1 : keyOf x with
        | none => rw [e1] at e; cases e
        | some k =>
          rw [e1] at e; cases e
          obtain ⟨o, g, ho⟩ := dget_rep hS ha rx (r := getK kvs k) (by unfold dAsk; rw [q]; simp only [e1])
          refine .inr (.inr (.inr ⟨a, o, rfl, g, ?_⟩))
          rcases ho with ⟨h1, h2⟩ | ⟨v, u', h1, h2, _⟩ <;> rw [h1, h2] <;> rfl
      | dictT kvs =>
        simp only at e
        cases x with
        | tup ks =>
          simp only at e
          cases e1 : keysOf ks with
          | none => rw [e1] at e; cases e
          | some k =>
            rw [e1] at e; cases e
            obtain ⟨o, g, ho⟩ := dget_rep hS ha rx (r := getK kvs k) (by unfold dAsk; rw [q]; simp only [e1])
            refine .inr (.inr (.inr ⟨a, o, rfl, g, ?_⟩))
            rcases ho with ⟨h1, h2⟩ | ⟨v, u', h1, h2, _⟩ <;> rw [h1, h2] <;> rfl
        | _ => cases e
      | _ => cases e
  | _ => simp only [isIn] at e; cases e
theorem c_in (hu : X.A.units + 65 < cLine) : CmpOk X rw W .In .isin := by
  refine ⟨_, OpR.or op_in_sign (OpR.or (op_inD hu) (OpR.or (op_inDT hu) (op_din (by omega)))), fun m H S x y u w Q σ hS rx ry h => ?_⟩
  obtain ⟨z, e, h⟩ := h.some
  simp only [op2] at e
  cases e1 : isIn S x y with
  | none => rw [e1] at e; cases e
  | some b =>
    rw [e1] at e; cases e
    have q := h.fin hS (.bool b)
    rcases isIn_inv hS rx ry e1 with ⟨c, z, h1, h2, rfl⟩ | ⟨d, ds, h1, h2, h3, h4, rfl⟩ | ⟨d, ds, h1, h2, h3, h4, rfl⟩ | ⟨a, o, h1, h2, rfl⟩
    · exact .inl ⟨c, z, h1, h2, q⟩
    · exact .inr (.inl ⟨d, ds, h1, h2, h3, h4, q⟩)
    · exact .inr (.inr (.inl ⟨d, ds, h1, h2, h3, h4, q⟩))
    · exact .inr (.inr (.inr ⟨a, o, h1, h2, q⟩))
theorem c_notin (hu : X.A.units + 65 < cLine) : CmpOk X rw W .NotIn .notin := by
  refine ⟨_, OpR.or op_notIn_sign (OpR.or (op_notInD hu) (OpR.or (op_notInDT hu) (op_dnotin (by omega)))), fun m H S x y u w Q σ hS rx ry h => ?_⟩
  obtain ⟨z, e, h⟩ := h.some
  simp only [op2] at e
  cases e1 : isIn S x y with
  | none => rw [e1] at e; cases e
  | some b =>
    rw [e1] at e; cases e
    have q := h.fin hS (.bool (!b))
    rcases isIn_inv hS rx ry e1 with ⟨c, z, h1, h2, rfl⟩ | ⟨d, ds, h1, h2, h3, h4, rfl⟩ | ⟨d, ds, h1, h2, h3, h4, rfl⟩ | ⟨a, o, h1, h2, rfl⟩
    · exact .inl ⟨c, z, h1, h2, q⟩
    · exact .inr (.inl ⟨d, ds, h1, h2, h3, h4, q⟩)
    · exact .inr (.inr (.inl ⟨d, ds, h1, h2, h3, h4, q⟩))
    · exact .inr (.inr (.inr ⟨a, o, h1, h2, q⟩))
end
end HI
set_option Elab.async false
set_option linter.all false
set_option maxRecDepth 100000
namespace HI
open PySem PySem.Spec PyProof.Rows L2
section
variable {X : Cx} {C : CallT} {W : WX} {rw : Bool}
theorem Out.bindE {α β α' β' : Type} {K : PySem.W.Frag} {m : MM} {H : Hp} {σ : L2.St} {R : MM → Hp → α → β → Prop} {R' : MM → Hp → α' → β' → Prop} {Q : β → Hp → Prop} {Q' : β' → Hp → Prop}
    {r : Res α'} {f : α' → Store → Res α} (h : Out K rw m H σ W R (r.bind f) Q)
    (k : ∀ v S1 m1 H1 u, r = .ok v S1 → Ext rw m H m1 H1 → SRel K rw m1 H1 S1 → R' m1 H1 v u → Out K rw m1 H1 σ W R (f v S1) Q → Q' u H1) : Out K rw m H σ W R' r Q' := by
  cases r with
  | ok v S' => exact fun m1 H1 u x s q => k v S' m1 H1 u rfl x s q (Out.ext (r := f v S') h x)
  | exc c S' => exact h
  | stuck => exact h
theorem s_bin2 {e : Expr} {a' b' : E} {r1 r2 : R2} {op : B2} (h1 : PE X e (tOp r1 (rdE X.K rw C W a') (rdE X.K rw C W b'))) (h2 : PE X e (tOp r2 (rdE X.K rw C W a') (rdE X.K rw C W b'))) (P : Store → Val → Val → Prop)
    (k1 : ∀ m H S x y u w Q σ, P S x y → SRel X.K rw m H S → Rep X.K m H x u → Rep X.K m H y w → Out X.K rw m H σ W (Rep X.K) (ofO (op2 S op x y) S) Q → r1 u w H Q)
    (k2 : ∀ m H S x y u w Q σ, ¬ P S x y → SRel X.K rw m H S → Rep X.K m H x u → Rep X.K m H y w → Out X.K rw m H σ W (Rep X.K) (ofO (op2 S op x y) S) Q → r2 u w H Q) : SE X rw C W e (.bin op a' b') := by
  refine PE.wk (PE.or h1 h2) fun σ H Q ⟨m, S, ρ, hS, hE, h⟩ => ?_
  simp only [ev] at h
  by_cases hp : ∀ x S1 y S2, ev C a' ρ S = .ok x S1 → ev C b' ρ S1 = .ok y S2 → P S2 x y
  · refine .inl ⟨m, S, ρ, hS, hE, Out.bindE h fun x S1 m1 H1 u e1 x1 s1 r1 h1 => ⟨m1, S1, ρ, s1, hE.ext x1, Out.bindE h1 fun y S2 m2 H2 w e2 x2 s2 r2 h2 => ?_⟩⟩
    exact k1 m2 H2 S2 x y u w Q σ (hp x S1 y S2 e1 e2) s2 (r1.ext x2) r2 h2
  · refine .inr ⟨m, S, ρ, hS, hE, Out.bindE h fun x S1 m1 H1 u e1 x1 s1 r1 h1 => ⟨m1, S1, ρ, s1, hE.ext x1, Out.bindE h1 fun y S2 m2 H2 w e2 x2 s2 r2 h2 => ?_⟩⟩
    refine k2 m2 H2 S2 x y u w Q σ (fun z => hp fun x' S1' y' S2' e1' e2' => ?_) s2 (r1.ext x2) r2 h2
    rw [e1] at e1'; cases e1'
    rw [e2] at e2'; cases e2'
    exact z
def isDict (S : Store) : Val → Prop
  | .loc n => match S[n]? with
    | some (.dictK _) => True
    | some (.dictT _) => True
    | _ => False
  | _ => False
theorem Reps.atI {K : PySem.W.Frag} {m : MM} {H : Hp} {vs : List Val} {us : List V} (r : Reps K m H vs us) {i : Int} {v : Val} (h : L2.atI vs i = some v) : ∃ u, L2.atI us i = some u ∧ Rep K m H v u := by
  unfold L2.atI at h ⊢
  rw [← r.length]
  cases e : L2.ixN vs.length i with
  | none => rw [e] at h; cases h
  | some j => rw [e] at h; exact r.get h
theorem atI_map {α β : Type} (f : α → β) (xs : List α) (i : Int) : L2.atI (xs.map f) i = (L2.atI xs i).map f := by
  unfold L2.atI
  rw [List.length_map]
  cases L2.ixN xs.length i with
  | none => rfl
  | some j => simp
theorem s_item (hu : X.A.units + 1 < cLine) {a b : Expr} {a' b' : E} {pos : Pos} (hs : PlainIx b) (hn : NoSl b) (ha : SE X rw C W a a') (hb : SE X rw C W b b') : SE X rw C W (.Subscript a b pos) (.bin .item a' b') := by
  refine s_bin2 (pe_dget hu ha hb hn) (pe_ix ix_seq ha hb hs) (fun S x _ => isDict S x) (fun m H S x y u w Q σ hd hS rx ry h => ?_) (fun m H S x y u w Q σ hd hS rx ry h => ?_)
  · obtain ⟨z, e, hf⟩ := h.some
    clear h
    simp only [op2] at e
    cases x <;> try exact hd.elim
    rename_i n
    obtain ⟨a, rfl, ha⟩ := rep_loc rx
    simp only [isDict] at hd
    simp only [getItem] at e
    have e2 : dAsk S n y = some (some z) := by
      unfold dAsk
      cases q : S[n]? with
      | none => rw [q] at hd; exact hd.elim
      | some ob =>
        rw [q] at hd e
        cases ob with
        | dictK kvs =>
          simp only at e ⊢
          cases e1 : keyOf y with
          | none => rw [e1] at e; cases e
          | some k => rw [e1] at e; simp only at e ⊢; rw [e]
        | dictT kvs =>
          simp only at e ⊢
          cases y <;> simp only at e <;> try cases e
          rename_i ks
          simp only
          cases e1 : keysOf ks with
          | none => rw [e1] at e; cases e
          | some k => rw [e1] at e; simp only at e ⊢; rw [e]
        | _ => exact hd.elim
    obtain ⟨o, g, ho⟩ := dget_rep hS ha ry e2
    rcases ho with ⟨h1, h2⟩ | ⟨v, u', h1, h2, h3⟩
    · cases h1
    · cases h1; subst h2
      exact ⟨a, u', rfl, g, hf.fin hS h3⟩
  · obtain ⟨z, e, hf⟩ := h.some
    clear h
    simp only [op2] at e
    have lists : ∀ {vs : List Val} {us : List V} {a : Addr}, u = .ref a → H a = some (.lst us) → Reps X.K m H vs us → atV vs y = some z → rIx X.K u w H Q := by
      intro vs us a e1 e2 q e3
      cases y <;> simp only [atV] at e3 <;> try cases e3
      cases rep_int ry
      obtain ⟨u', h1, h2⟩ := q.atI e3
      exact .inl ⟨a, us, _, u', e1, rfl, SqL.of e2, h1, hf.fin hS h2⟩
    cases x with
    | tup vs =>
      obtain ⟨a, us, rfl, h1, n1, q1⟩ := rep_tup rx
      simp only [getItem] at e
      cases y <;> simp only [atV] at e <;> try cases e
      cases rep_int ry
      obtain ⟨u', h3, h4⟩ := q1.atI e
      exact .inr (.inl ⟨a, us, _, u', rfl, rfl, SqT.of h1, h3, hf.fin hS h4⟩)
    | lst vs =>
      obtain ⟨a, us, rfl, h1, n1, q1⟩ := rep_lst rx
      exact lists rfl h1 q1 e
    | scr ns =>
      simp only [getItem] at e
      cases y <;> simp only at e <;> try cases e
      cases rep_int ry
      rename_i k
      cases e1 : L2.atI ns k with
      | none => rw [show atI ns k = none from e1] at e; cases e
      | some i =>
        rw [show atI ns k = some i from e1] at e; cases e
        cases rx with
        | scr h1 n1 => exact .inl ⟨_, _, k, .int i, rfl, rfl, .inl h1, by rw [atI_map, e1]; rfl, hf.fin hS (.int i)⟩
        | scrK h1 => exact .inl ⟨_, _, k, .int i, rfl, rfl, h1 H, by rw [atI_map, e1]; rfl, hf.fin hS (.int i)⟩
    | str s =>
      cases rep_str rx
      simp only [getItem] at e
      cases y <;> simp only at e <;> try cases e
      cases rep_int ry
      rename_i k
      split at e
      · rename_i hl
        cases e1 : L2.atI s.cps.toList k with
        | none => rw [show atI s.cps.toList k = none from e1] at e; cases e
        | some i =>
          rw [show atI s.cps.toList k = some i from e1] at e; cases e
          exact .inr (.inr ⟨s, k, i, rfl, rfl, by rw [← lim_eq]; exact hl, e1, hf.fin hS (.str _)⟩)
      · cases e
    | loc n =>
      obtain ⟨a, rfl, ha⟩ := rep_loc rx
      simp only [getItem] at e
      simp only [isDict] at hd
      cases q : S[n]? with
      | none => rw [q] at e; cases e
      | some ob =>
        rw [q] at e hd
        cases ob with
        | list vs =>
          obtain ⟨us, h1, q1⟩ := hS.atA ha q
          exact lists rfl h1 q1 e
        | dictK kvs => exact (hd trivial).elim
        | dictT kvs => exact (hd trivial).elim
        | _ => cases e
    | _ => simp only [getItem] at e; cases e
theorem s_un {e a : Expr} {a' : E} {r : List V → Hp → VK → Prop} {op : U1} (h : PE X e (tCB r (tCons (rdE X.K rw C W a') tNil)))
    (k : ∀ m H S x u Q σ, SRel X.K rw m H S → Rep X.K m H x u → Out X.K rw m H σ W (Rep X.K) (ofO (op1 S op x) S) Q → r [u] H Q) : SE X rw C W e (.un op a') := by
  refine PE.wk h fun σ H Q ⟨m, S, ρ, hS, hE, h⟩ => ?_
  simp only [ev] at h
  exact ⟨m, S, ρ, hS, hE, Out.bind h fun x S1 m1 H1 u x1 s1 r1 h1 => k m1 H1 S1 x u Q σ s1 r1 h1⟩
theorem k_len {m : MM} {H : Hp} {S : Store} {x : Val} {u : V} {Q : VK} {σ : L2.St} (hS : SRel X.K rw m H S) (rx : Rep X.K m H x u) (h : Out X.K rw m H σ W (Rep X.K) (ofO (op1 S .len x) S) Q) :
    ∃ x n, [u] = [x] ∧ LenV X.K x H n ∧ Q (.int n) H := by
  obtain ⟨z, e, h⟩ := h.some
  cases x with
  | str s =>
    cases rep_str rx
    simp only [op1] at e
    split at e
    · rename_i hl
      cases e
      exact ⟨_, s.length, rfl, ⟨by rw [← lim_eq]; exact hl, rfl⟩, h.fin hS (.int _)⟩
    · cases e
  | tup vs =>
    obtain ⟨a, us, rfl, h1, n1, q1⟩ := rep_tup rx
    simp only [op1] at e; cases e
    exact ⟨_, us.length, rfl, .inr ⟨us, SqT.of h1, rfl⟩, by rw [← q1.length]; exact h.fin hS (.int _)⟩
  | lst vs =>
    obtain ⟨a, us, rfl, h1, n1, q1⟩ := rep_lst rx
    simp only [op1] at e; cases e
    exact ⟨_, us.length, rfl, .inl ⟨us, SqL.of h1, rfl⟩, by rw [← q1.length]; exact h.fin hS (.int _)⟩
  | scr ns =>
    simp only [op1] at e; cases e
    have q := h.fin hS (.int (ns.length : Int))
    cases rx with
    | scr h1 n1 => exact ⟨_, ns.length, rfl, .inl ⟨_, .inl h1, by rw [List.length_map]⟩, q⟩
    | scrK h1 => exact ⟨_, ns.length, rfl, .inl ⟨_, h1 H, by rw [List.length_map]⟩, q⟩
  | loc n =>
    obtain ⟨a, rfl, ha⟩ := rep_loc rx
    simp only [op1] at e
    cases q : S[n]? with
    | none => rw [q] at e; cases e
    | some ob =>
      rw [q] at e
      cases ob with
      | list vs =>
        cases e
        obtain ⟨us, h1, q1⟩ := hS.atA ha q
        exact ⟨_, us.length, rfl, .inl ⟨us, SqL.of h1, rfl⟩, by rw [← q1.length]; exact h.fin hS (.int _)⟩
      | _ => cases e
  | _ => simp only [op1] at e; cases e
end
end HI
set_option Elab.async false
set_option linter.all false
set_option maxRecDepth 100000
namespace HI
open PySem PySem.Spec PyProof.Rows L2
section
variable {X : Cx} {C : CallT} {W : WX} {rw : Bool}
def NoStar (e : Expr) : Prop := ∀ (es : List Expr) (env : PySem.Env), starEach (e :: es) env = (false, eval e env) :: starEach es env
def notStarred : Expr → Bool
  | .Starred _ _ => false
  | _ => true
theorem noStar_of {e : Expr} (h : notStarred e = true) : NoStar e := by
  intro es env
  cases e <;> first | rfl | (simp [notStarred] at h)
theorem backTo_nil (pos : Pos) (env : PySem.Env) : (backTo pos (starEach [] env)).any (·.1) = false := rfl
theorem backTo_of {es : List Expr} (h : es.all notStarred = true) (pos : Pos) (env : PySem.Env) : (backTo pos (starEach es env)).any (·.1) = false := by
  induction es with
  | nil => rfl
  | cons e es ih =>
    simp only [List.all_cons, Bool.and_eq_true] at h
    rw [noStar_of h.1 es env]
    show ((false, _) :: backTo pos (starEach es env)).any (·.1) = false
    rw [List.any_cons, ih h.2]; rfl
theorem s_un1 {op : U1} {id : String} {x : Str} {r : List V → Hp → VK → Prop} {a : Expr} {a' : E} {p pos : Pos} (hc : CallR X (.builtin id) r) (hg : Gl X x) (hm : X.mg x = none) (hv : bootBuiltins x = some (.builtin id)) (ns : notStarred a = true) (ha : SE X rw C W a a')
    (k : ∀ m H S x u Q σ, SRel X.K rw m H S → Rep X.K m H x u → Out X.K rw m H σ W (Rep X.K) (ofO (op1 S op x) S) Q → r [u] H Q) (hn : x ≠ "__name__") (hdb : (x == ("__debug__" : Str)) = false) : SE X rw C W (.Call (.Name x p) [a] [] pos) (.un op a') :=
  s_un (a := a) (pe_callB hc hg hm hv (pa_cons ha pa_nil (noStar_of ns _ _)) hn hdb (noStar_of ns _ _) (backTo_nil _ _)) k
theorem s_unT {op : U1} {T : String} {x : Str} {r : List V → Hp → VK → Prop} {a : Expr} {a' : E} {p pos : Pos} (hc : CallR X (.type T) r) (hg : Gl X x) (hm : X.mg x = none) (hv : bootBuiltins x = some (.type T)) (ns : notStarred a = true) (ha : SE X rw C W a a')
    (k : ∀ m H S x u Q σ, SRel X.K rw m H S → Rep X.K m H x u → Out X.K rw m H σ W (Rep X.K) (ofO (op1 S op x) S) Q → r [u] H Q) (hn : x ≠ "__name__") (hdb : (x == ("__debug__" : Str)) = false) : SE X rw C W (.Call (.Name x p) [a] [] pos) (.un op a') :=
  s_un (a := a) (pe_callTy hc hg hm hv (pa_cons ha pa_nil (noStar_of ns _ _)) hn hdb (noStar_of ns _ _) (backTo_nil _ _)) k
section
variable {m : MM} {H : Hp} {S : Store} {x : Val} {u : V} {Q : VK} {σ : L2.St} {K : PySem.W.Frag}
theorem lstOf_rep (hS : SRel K rw m H S) (rx : Rep K m H x u) {vs : List Val} (e : lstOf S x = some vs) : ∃ a us, u = .ref a ∧ H a = some (.lst us) ∧ Reps K m H vs us := by
  cases x with
  | lst ws =>
    simp only [lstOf] at e; cases e
    obtain ⟨a, us, h1, h2, _, h3⟩ := rep_lst rx
    exact ⟨a, us, h1, h2, h3⟩
  | loc n =>
    simp only [lstOf] at e
    obtain ⟨a, rfl, ha⟩ := rep_loc rx
    cases q : S[n]? with
    | none => rw [q] at e; cases e
    | some ob =>
      rw [q] at e
      cases ob with
      | list ws =>
        cases e
        obtain ⟨us, h1, q1⟩ := hS.atA ha q
        exact ⟨a, us, rfl, h1, q1⟩
      | _ => cases e
  | _ => simp only [lstOf] at e; cases e
theorem k_tuple (hS : SRel X.K rw m H S) (rx : Rep X.K m H x u) (h : Out X.K rw m H σ W (Rep X.K) (ofO (op1 S .tuple x) S) Q) :
    ∃ p ys, [u] = [V.ref p] ∧ ((SqL X.K H p ys ∧ ∀ l, H l = none → Q (.ref l) (upd H l (.tup ys))) ∨ (SqT X.K H p ys ∧ Q (.ref p) H)) := by
  obtain ⟨z, e, hf⟩ := h.some
  have lists : ∀ {vs}, lstOf S x = some vs → z = .tup vs → ∃ p ys, [u] = [V.ref p] ∧ ((SqL X.K H p ys ∧ ∀ l, H l = none → Q (.ref l) (upd H l (.tup ys))) ∨ (SqT X.K H p ys ∧ Q (.ref p) H)) := by
    intro vs e1 e2
    subst e2
    obtain ⟨a, us, rfl, h1, q1⟩ := lstOf_rep hS rx e1
    exact ⟨a, us, rfl, .inl ⟨SqL.of h1, fun l hl => fin_tup hf hS q1 hl⟩⟩
  cases x with
  | tup vs =>
    simp only [op1] at e; cases e
    obtain ⟨a, us, rfl, h1, n1, q1⟩ := rep_tup rx
    exact ⟨a, us, rfl, .inr ⟨SqT.of h1, hf.fin hS rx⟩⟩
  | lst vs => simp only [op1] at e; cases e; exact lists rfl rfl
  | loc n =>
    simp only [op1] at e
    cases q : S[n]? with
    | none => rw [q] at e; cases e
    | some ob =>
      rw [q] at e
      cases ob with
      | list ws => cases e; exact lists (by simp only [lstOf, q]) rfl
      | _ => cases e
  | _ => simp only [op1] at e; cases e
theorem k_list (hS : SRel X.K rw m H S) (rx : Rep X.K m H x u) (h : Out X.K rw m H σ W (Rep X.K) (ofO (op1 S .list x) S) Q) :
    ∃ p ys, [u] = [V.ref p] ∧ (SqL X.K H p ys ∨ SqT X.K H p ys) ∧ ∀ l, H l = none → Q (.ref l) (upd H l (.lst ys)) := by
  obtain ⟨z, e, hf⟩ := h.some
  have lists : ∀ {vs}, lstOf S x = some vs → z = .lst vs → ∃ p ys, [u] = [V.ref p] ∧ (SqL X.K H p ys ∨ SqT X.K H p ys) ∧ ∀ l, H l = none → Q (.ref l) (upd H l (.lst ys)) := by
    intro vs e1 e2
    subst e2
    obtain ⟨a, us, rfl, h1, q1⟩ := lstOf_rep hS rx e1
    exact ⟨a, us, rfl, .inl (SqL.of h1), fun l hl => fin_lst hf hS q1 hl⟩
  cases x with
  | tup vs =>
    simp only [op1] at e; cases e
    obtain ⟨a, us, rfl, h1, n1, q1⟩ := rep_tup rx
    exact ⟨a, us, rfl, .inr (SqT.of h1), fun l hl => fin_lst hf hS q1 hl⟩
  | lst vs => simp only [op1] at e; cases e; exact lists rfl rfl
  | loc n =>
    simp only [op1] at e
    cases q : S[n]? with
    | none => rw [q] at e; cases e
    | some ob =>
      rw [q] at e
      cases ob with
      | list ws => cases e; exact lists (by simp only [lstOf, q]) rfl
      | _ => cases e
  | _ => simp only [op1] at e; cases e
theorem intsOf_eq : ∀ {vs : List Val} {ns : List Int}, intsOf vs = some ns → vs = ns.map .int
  | [], ns, h => by simp only [intsOf] at h; cases h; rfl
  | v :: vs, ns, h => by
    cases v <;> simp only [intsOf] at h <;> try cases h
    cases e : intsOf vs with
    | none => rw [e] at h; cases h
    | some ms => rw [e] at h; cases h; rw [intsOf_eq e]; rfl
theorem strsOf_eq : ∀ {vs : List Val} {ns : List Str}, strsOf vs = some ns → vs = ns.map .str
  | [], ns, h => by simp only [strsOf] at h; cases h; rfl
  | v :: vs, ns, h => by
    cases v <;> simp only [strsOf] at h <;> try cases h
    cases e : strsOf vs with
    | none => rw [e] at h; cases h
    | some ms => rw [e] at h; cases h; rw [strsOf_eq e]; rfl
theorem k_sum (hS : SRel X.K rw m H S) (rx : Rep X.K m H x u) (h : Out X.K rw m H σ W (Rep X.K) (ofO (op1 S .sum x) S) Q) : rSum X.K [u] H Q := by
  obtain ⟨z, e, hf⟩ := h.some
  cases x <;> simp only [op1] at e <;> try cases e
  rename_i vs
  cases e1 : intsOf vs with
  | none => rw [e1] at e; cases e
  | some ns =>
    rw [e1] at e; cases e
    obtain ⟨a, us, rfl, h1, n1, q1⟩ := rep_lst rx
    rw [intsOf_eq e1] at q1
    rw [q1.ints] at h1
    exact ⟨a, ns, rfl, SqL.of h1, hf.fin hS (.int _)⟩
theorem k_str (hS : SRel X.K rw m H S) (rx : Rep X.K m H x u) (h : Out X.K rw m H σ W (Rep X.K) (ofO (op1 S .str x) S) Q) :
    (∃ i, [u] = [V.int i] ∧ i.natAbs.log2 < 1920 ∧ Q (.str (toString i)) H) ∨ ∃ a, [u] = [V.str a] ∧ Q (.str a) H := by
  obtain ⟨z, e, hf⟩ := h.some
  cases x <;> simp only [op1] at e <;> try cases e
  · split at e
    · cases e
      cases rep_int rx
      exact .inl ⟨_, rfl, by assumption, hf.fin hS (.str _)⟩
    · cases e
  · cases rep_str rx
    exact .inr ⟨_, rfl, hf.fin hS (.str _)⟩
theorem k_int (hS : SRel X.K rw m H S) (rx : Rep X.K m H x u) (h : Out X.K rw m H σ W (Rep X.K) (ofO (op1 S .int x) S) Q) :
    ((∃ i, [u] = [V.int i] ∧ Q (.int i) H) ∨ ∃ k, [u] = [V.bl k] ∧ Q (.int (if k then 1 else 0)) H) ∨ ∃ a n, [u] = [V.str a] ∧ PySem.intText? a = some n ∧ a.length ≤ 640 ∧ Q (.int n) H := by
  obtain ⟨z, e, hf⟩ := h.some
  cases x <;> simp only [op1] at e <;> try cases e
  · cases rep_bool rx
    exact .inl (.inr ⟨_, rfl, hf.fin hS (.int _)⟩)
  · cases rep_int rx
    exact .inl (.inl ⟨_, rfl, hf.fin hS (.int _)⟩)
  · rename_i s
    cases e1 : PySem.intText? s with
    | none => rw [e1] at e; cases e
    | some n =>
      rw [e1] at e
      simp only at e
      split at e
      · cases e
        cases rep_str rx
        exact .inr ⟨s, n, rfl, e1, by assumption, hf.fin hS (.int _)⟩
      · cases e
end
theorem s_is {op : CmpOp} {o : U1} {r : R2} {a b : Expr} {a' : E} {w : V} {pos : Pos} (ho : OpR X (compareOp op) r) (ha : SE X rw C W a a') (hb : PE X b (tC w)) (hm : behindInMarks op b = false)
    (k : ∀ m H S x u Q σ, SRel X.K rw m H S → Rep X.K m H x u → Out X.K rw m H σ W (Rep X.K) (ofO (op1 S o x) S) Q → r u w H Q) : SE X rw C W (.Compare a [op] [b] pos) (.un o a') := by
  refine PE.wk (pe_cmpR ho ha hb hm) fun σ H Q ⟨m, S, ρ, hS, hE, h⟩ => ?_
  simp only [ev] at h
  exact ⟨m, S, ρ, hS, hE, Out.bind h fun x S1 m1 H1 u x1 s1 r1 h1 => k m1 H1 S1 x u Q σ s1 r1 h1⟩
theorem s_isNone {a : Expr} {a' : E} {j : Nat} {pos p2 : Pos} (ha : SE X rw C W a a') : SE X rw C W (.Compare a [.Is] [.Constant .none j p2] pos) (.un .isNone a') :=
  s_is op_isN ha pe_non rfl fun m H S x u Q σ hS rx h => by
    obtain ⟨z, e, hf⟩ := h.some
    refine ⟨rfl, ?_⟩
    cases rx <;> simp only [op1] at e <;> cases e <;> exact hf.fin hS (.bool _)
theorem s_notNone {a : Expr} {a' : E} {j : Nat} {pos p2 : Pos} (ha : SE X rw C W a a') : SE X rw C W (.Compare a [.IsNot] [.Constant .none j p2] pos) (.un .notNone a') :=
  s_is op_notN ha pe_non rfl fun m H S x u Q σ hS rx h => by
    obtain ⟨z, e, hf⟩ := h.some
    refine ⟨rfl, ?_⟩
    cases rx <;> simp only [op1] at e <;> cases e <;> exact hf.fin hS (.bool _)
theorem s_isB {a : Expr} {a' : E} {b : Bool} {j : Nat} {pos p2 : Pos} (ha : SE X rw C W a a') : SE X rw C W (.Compare a [.Is] [.Constant (.bool b) j p2] pos) (.un (.isB b) a') :=
  s_is op_isBl ha pe_bl rfl fun m H S x u Q σ hS rx h => by
    obtain ⟨z, e, hf⟩ := h.some
    cases x <;> simp only [op1] at e <;> try cases e
    cases rep_bool rx
    exact ⟨_, _, rfl, rfl, hf.fin hS (.bool _)⟩
theorem s_notB {a : Expr} {a' : E} {b : Bool} {j : Nat} {pos p2 : Pos} (ha : SE X rw C W a a') : SE X rw C W (.Compare a [.IsNot] [.Constant (.bool b) j p2] pos) (.un (.notB b) a') :=
  s_is op_notBl ha pe_bl rfl fun m H S x u Q σ hS rx h => by
    obtain ⟨z, e, hf⟩ := h.some
    cases x <;> simp only [op1] at e <;> try cases e
    cases rep_bool rx
    exact ⟨_, _, rfl, rfl, hf.fin hS (.bool _)⟩
theorem tru_rep {K : PySem.W.Frag} {m : MM} {H : Hp} {S : Store} {x : Val} {u : V} {b : Bool} (hS : SRel K rw m H S) (rx : Rep K m H x u) (e : truthy S x = some b) : TruV K u H b := by
  cases x with
  | non => cases rx; simp only [truthy] at e; cases e; exact (rfl : false = false)
  | bool c => cases rx; simp only [truthy] at e; cases e; exact Eq.refl b
  | int i => cases rx; simp only [truthy] at e; cases e; exact (rfl : (i != 0) = (i != 0))
  | str s =>
    cases rx
    simp only [truthy] at e
    split at e
    · rename_i hl
      cases e
      refine ⟨by rw [← lim_eq]; exact hl, ?_⟩
      cases q : s.length with
      | zero => rfl
      | succ n => simp; omega
    · cases e
  | tup vs =>
    obtain ⟨a, us, rfl, h1, n1, q1⟩ := rep_tup rx
    simp only [truthy] at e; cases e
    refine .inr (.inl ⟨us, SqT.of h1, ?_⟩)
    cases q1 <;> rfl
  | lst vs =>
    obtain ⟨a, us, rfl, h1, n1, q1⟩ := rep_lst rx
    simp only [truthy] at e; cases e
    refine .inl ⟨us, SqL.of h1, ?_⟩
    cases q1 <;> rfl
  | scr ns => simp only [truthy] at e; cases e
  | loc n =>
    obtain ⟨a, rfl, ha⟩ := rep_loc rx
    simp only [truthy] at e
    cases q : S[n]? with
    | none => rw [q] at e; cases e
    | some ob =>
      rw [q] at e
      cases ob with
      | list ws =>
        cases e
        obtain ⟨us, h1, q1⟩ := hS.atA ha q
        refine .inl ⟨us, SqL.of h1, ?_⟩
        cases q1 <;> rfl
      | _ => cases e
def plainTest : E → Bool
  | .and _ _ => false
  | .or _ _ => false
  | .not _ => false
  | _ => true
theorem evT_plain {e : E} (h : plainTest e = true) (ρ : Env) (S : Store) : evT C e ρ S = (ev C e ρ S).bind fun x S1 => ofO (truthy S1 x) S1 := by
  cases e <;> first | (simp [plainTest] at h; done) | (simp only [evT]; done)
theorem t_val {a : Expr} {a' : E} (hp : plainTest a' = true) (he : ∀ whole, isTrue a X.env whole = (do let v ← whole; standAt a.pos; holding [v] (PySem.truthy v))) (ha : SE X rw C W a a') : ST X rw C W a a' := by
  refine PT.wk (pt_truth ha he) fun σ H Q ⟨m, S, ρ, hS, hE, h⟩ => ?_
  rw [evT_plain hp] at h
  refine ⟨m, S, ρ, hS, hE, Out.bind h fun x S1 m1 H1 u x1 s1 r1 h1 => ?_⟩
  obtain ⟨b, e, hf⟩ := h1.some
  exact ⟨b, tru_rep s1 r1 e, hf.fin s1 rfl⟩
theorem t_not {a : Expr} {a' : E} {pos : Pos} (ha : ST X rw C W a a') : ST X rw C W (.UnaryOp .Not a pos) (.not a') := by
  refine PT.wk (pt_not ha) fun σ H Q ⟨m, S, ρ, hS, hE, h⟩ => ?_
  simp only [evT] at h
  refine ⟨m, S, ρ, hS, hE, Out.bind h fun x S1 m1 H1 u x1 s1 r1 h1 => ?_⟩
  subst r1
  exact h1.fin s1 rfl
theorem Res.bind_assoc {α β γ : Type} (r : Res α) (f : α → Store → Res β) (g : β → Store → Res γ) : (r.bind f).bind g = r.bind fun v S => (f v S).bind g := by cases r <;> rfl
def cmpB : B2 → Bool
  | .eq | .ne | .lt | .le | .gt | .ge | .isin | .notin | .eqD | .neD => true
  | _ => false
theorem op2_bool {S : Store} {o : B2} {x y z : Val} (h : cmpB o = true) (e : op2 S o x y = some z) : ∃ b, z = .bool b := by
  cases o <;> simp only [cmpB, Bool.false_eq_true] at h
  case eq => simp only [op2, Option.map_eq_some_iff] at e; obtain ⟨b, _, rfl⟩ := e; exact ⟨_, rfl⟩
  case ne => simp only [op2, Option.map_eq_some_iff] at e; obtain ⟨b, _, rfl⟩ := e; exact ⟨_, rfl⟩
  case isin => simp only [op2, Option.map_eq_some_iff] at e; obtain ⟨b, _, rfl⟩ := e; exact ⟨_, rfl⟩
  case notin => simp only [op2, Option.map_eq_some_iff] at e; obtain ⟨b, _, rfl⟩ := e; exact ⟨_, rfl⟩
  case eqD => simp only [op2, Option.map_eq_some_iff] at e; obtain ⟨b, _, rfl⟩ := e; exact ⟨_, rfl⟩
  case neD => simp only [op2, Option.map_eq_some_iff] at e; obtain ⟨b, _, rfl⟩ := e; exact ⟨_, rfl⟩
  all_goals (cases x <;> cases y <;> simp only [op2] at e <;> cases e <;> exact ⟨_, rfl⟩)
theorem ofO_ok {α : Type} {o : Option α} {S S' : Store} {z : α} (h : ofO o S = .ok z S') : o = some z ∧ S' = S := by
  cases o with
  | none => cases h
  | some a => cases h; exact ⟨rfl, rfl⟩
theorem t_cmp {op : CmpOp} {o : B2} (c : CmpOk X rw W op o) (hc : cmpB o = true) {a b : Expr} {a' b' : E} {pos : Pos} (hm : behindInMarks op b = false) (ha : SE X rw C W a a') (hb : SE X rw C W b b') : ST X rw C W (.Compare a [op] [b] pos) (.bin o a' b') := by
  obtain ⟨r, ho, k⟩ := c
  refine PT.wk (pt_cmpR ho ha hb hm) fun σ H Q ⟨m, S, ρ, hS, hE, h⟩ => ?_
  simp only [evT, ev, Res.bind_assoc] at h
  refine ⟨m, S, ρ, hS, hE, Out.bind h fun x S1 m1 H1 u x1 s1 r1 h1 => ⟨m1, S1, ρ, s1, hE.ext x1, Out.bind h1 fun y S2 m2 H2 w x2 s2 r2 h2 => ?_⟩⟩
  refine k m2 H2 S2 x y u w _ σ s2 (r1.ext x2) r2 (Out.bindE h2 fun z S3 m3 H3 u3 e3 x3 s3 r3 h3 => ?_)
  obtain ⟨e4, _⟩ := ofO_ok e3
  obtain ⟨b, rfl⟩ := op2_bool hc e4
  cases rep_bool r3
  obtain ⟨b', e5, hf⟩ := h3.some
  simp only [truthy] at e5; cases e5
  exact ⟨b, rfl, hf.fin s3 rfl⟩
theorem t_is {op : CmpOp} {o : U1} {r : R2} {a b : Expr} {a' : E} {w : V} {pos : Pos} (ho : OpR X (compareOp op) r) (ha : SE X rw C W a a') (hb : PE X b (tC w)) (hm : behindInMarks op b = false)
    (k : ∀ m H S x u Q σ, SRel X.K rw m H S → Rep X.K m H x u → Out X.K rw m H σ W (Rep X.K) (ofO (op1 S o x) S) Q → r u w H Q) (hz : ∀ S x z, op1 S o x = some z → ∃ b, z = .bool b) : ST X rw C W (.Compare a [op] [b] pos) (.un o a') := by
  refine PT.wk (pt_cmpR ho ha hb hm) fun σ H Q ⟨m, S, ρ, hS, hE, h⟩ => ?_
  simp only [evT, ev, Res.bind_assoc] at h
  refine ⟨m, S, ρ, hS, hE, Out.bind h fun x S1 m1 H1 u x1 s1 r1 h1 => ?_⟩
  refine k m1 H1 S1 x u _ σ s1 r1 (Out.bindE h1 fun z S3 m3 H3 u3 e3 x3 s3 r3 h3 => ?_)
  obtain ⟨e4, _⟩ := ofO_ok e3
  obtain ⟨b, rfl⟩ := hz _ _ _ e4
  cases rep_bool r3
  obtain ⟨b', e5, hf⟩ := h3.some
  simp only [truthy] at e5; cases e5
  exact ⟨b, rfl, hf.fin s3 rfl⟩
theorem t_isNone {a : Expr} {a' : E} {j : Nat} {pos p2 : Pos} (ha : SE X rw C W a a') : ST X rw C W (.Compare a [.Is] [.Constant .none j p2] pos) (.un .isNone a') :=
  t_is op_isN ha pe_non rfl (fun m H S x u Q σ hS rx h => by
    obtain ⟨z, e, hf⟩ := h.some
    refine ⟨rfl, ?_⟩
    cases rx <;> simp only [op1] at e <;> cases e <;> exact hf.fin hS (.bool _)) fun S x z h => by
    cases x <;> simp only [op1] at h <;> cases h <;> exact ⟨_, rfl⟩
theorem t_notNone {a : Expr} {a' : E} {j : Nat} {pos p2 : Pos} (ha : SE X rw C W a a') : ST X rw C W (.Compare a [.IsNot] [.Constant .none j p2] pos) (.un .notNone a') :=
  t_is op_notN ha pe_non rfl (fun m H S x u Q σ hS rx h => by
    obtain ⟨z, e, hf⟩ := h.some
    refine ⟨rfl, ?_⟩
    cases rx <;> simp only [op1] at e <;> cases e <;> exact hf.fin hS (.bool _)) fun S x z h => by
    cases x <;> simp only [op1] at h <;> cases h <;> exact ⟨_, rfl⟩
theorem t_isB {a : Expr} {a' : E} {b : Bool} {j : Nat} {pos p2 : Pos} (ha : SE X rw C W a a') : ST X rw C W (.Compare a [.Is] [.Constant (.bool b) j p2] pos) (.un (.isB b) a') :=
  t_is op_isBl ha pe_bl rfl (fun m H S x u Q σ hS rx h => by
    obtain ⟨z, e, hf⟩ := h.some
    cases x <;> simp only [op1] at e <;> try cases e
    cases rep_bool rx
    exact ⟨_, _, rfl, rfl, hf.fin hS (.bool _)⟩) fun S x z h => by
    cases x <;> simp only [op1] at h <;> cases h <;> exact ⟨_, rfl⟩
theorem t_notB {a : Expr} {a' : E} {b : Bool} {j : Nat} {pos p2 : Pos} (ha : SE X rw C W a a') : ST X rw C W (.Compare a [.IsNot] [.Constant (.bool b) j p2] pos) (.un (.notB b) a') :=
  t_is op_notBl ha pe_bl rfl (fun m H S x u Q σ hS rx h => by
    obtain ⟨z, e, hf⟩ := h.some
    cases x <;> simp only [op1] at e <;> try cases e
    cases rep_bool rx
    exact ⟨_, _, rfl, rfl, hf.fin hS (.bool _)⟩) fun S x z h => by
    cases x <;> simp only [op1] at h <;> cases h <;> exact ⟨_, rfl⟩
theorem s_chain {op op' : CmpOp} {o o' : B2} (c : CmpOk X rw W op o) (c' : CmpOk X rw W op' o') (hc : cmpB o = true) {a b d : Expr} {a' b' d' : E} {pos : Pos} (hm : lastMarks [op, op'] [b, d] = false)
    (ha : SE X rw C W a a') (hb : SE X rw C W b b') (hd : SE X rw C W d d') (pc : ∀ {r r' : R2} {ta tb tc : TE}, OpR X (compareOp op) r → OpR X (compareOp op') r' → PE X a ta → PE X b tb → PE X d tc → PE X (.Compare a [op, op'] [b, d] pos) (tChain r r' ta tb tc)) : SE X rw C W (.Compare a [op, op'] [b, d] pos) (.chain o o' a' b' d') := by
  obtain ⟨r, ho, k⟩ := c
  obtain ⟨r', ho', k'⟩ := c'
  refine PE.wk (pc ho ho' ha hb hd) fun σ H Q ⟨m, S, ρ, hS, hE, h⟩ => ?_
  simp only [ev] at h
  refine ⟨m, S, ρ, hS, hE, Out.bind h fun x S1 m1 H1 u x1 s1 r1 h1 => ⟨m1, S1, ρ, s1, hE.ext x1, Out.bind h1 fun y S2 m2 H2 w x2 s2 r2 h2 => ?_⟩⟩
  cases e : op2 S2 o x y with
  | none => rw [e] at h2; exact h2.elim
  | some z =>
    obtain ⟨b, rfl⟩ := op2_bool hc e
    refine k m2 H2 S2 x y u w _ σ s2 (r1.ext x2) r2 ?_
    rw [e]
    rw [e] at h2
    intro m3 H3 u3 x3 s3 r3
    cases rep_bool r3
    refine ⟨b, rfl, ?_⟩
    cases b with
    | true =>
      refine ⟨m3, S2, ρ, s3, (hE.ext (x1.trans x2)).ext x3, Out.bind (h2.ext x3) fun z S4 m4 H4 u4 x4 s4 r4 h4 => ?_⟩
      exact k' m4 H4 S4 y z w u4 Q σ s4 ((r2.ext x3).ext x4) r4 h4
    | false => exact h2.fin' x3 s3 (.bool false)
end
end HI
set_option Elab.async false
set_option linter.all false
set_option maxRecDepth 100000
namespace HI
open PySem PySem.Spec PyProof.Rows L2
section
variable {X : Cx} {C : CallT} {W : WX} {rw : Bool}
theorem s_chain' {op op' : CmpOp} {o o' : B2} (c : CmpOk X rw W op o) (c' : CmpOk X rw W op' o') (hc : cmpB o = true) {a b d : Expr} {a' b' d' : E} {pos : Pos} (hm : lastMarks [op, op'] [b, d] = false)
    (ha : SE X rw C W a a') (hb : SE X rw C W b b') (hd : SE X rw C W d d') : SE X rw C W (.Compare a [op, op'] [b, d] pos) (.chain o o' a' b' d') :=
  s_chain c c' hc hm ha hb hd fun h1 h2 h3 h4 h5 => pe_chain h1 h2 h3 h4 h5 hm
theorem t_chain {op op' : CmpOp} {o o' : B2} (c : CmpOk X rw W op o) (c' : CmpOk X rw W op' o') (hc : cmpB o = true) (hc' : cmpB o' = true) {a b d : Expr} {a' b' d' : E} {pos : Pos} (hm : lastMarks [op, op'] [b, d] = false)
    (ha : SE X rw C W a a') (hb : SE X rw C W b b') (hd : SE X rw C W d d') : ST X rw C W (.Compare a [op, op'] [b, d] pos) (.chain o o' a' b' d') := by
  obtain ⟨r, ho, k⟩ := c
  obtain ⟨r', ho', k'⟩ := c'
  refine PT.wk (pt_chain ho ho' ha hb hd hm) fun σ H Q ⟨m, S, ρ, hS, hE, h⟩ => ?_
  simp only [evT, ev, Res.bind_assoc] at h
  refine ⟨m, S, ρ, hS, hE, Out.bind h fun x S1 m1 H1 u x1 s1 r1 h1 => ⟨m1, S1, ρ, s1, hE.ext x1, Out.bind h1 fun y S2 m2 H2 w x2 s2 r2 h2 => ?_⟩⟩
  cases e : op2 S2 o x y with
  | none => rw [e] at h2; exact h2.elim
  | some z =>
    obtain ⟨b, rfl⟩ := op2_bool hc e
    refine k m2 H2 S2 x y u w _ σ s2 (r1.ext x2) r2 ?_
    rw [e]
    rw [e] at h2
    intro m3 H3 u3 x3 s3 r3
    cases rep_bool r3
    refine ⟨b, rfl, ?_⟩
    cases b with
    | true =>
      simp only [Res.bind_assoc] at h2
      refine ⟨m3, S2, ρ, s3, (hE.ext (x1.trans x2)).ext x3, Out.bind (h2.ext x3) fun z S4 m4 H4 u4 x4 s4 r4 h4 => ?_⟩
      refine k' m4 H4 S4 y z w u4 _ σ s4 ((r2.ext x3).ext x4) r4 (Out.bindE h4 fun q S5 m5 H5 u5 e5 x5 s5 r5 h5 => ?_)
      obtain ⟨e6, _⟩ := ofO_ok e5
      obtain ⟨b, rfl⟩ := op2_bool hc' e6
      cases rep_bool r5
      obtain ⟨b', e7, hf⟩ := h5.some
      simp only [truthy] at e7; cases e7
      exact ⟨b, rfl, hf.fin s5 rfl⟩
    | false =>
      simp only [Res.bind_ok] at h2
      obtain ⟨b', e7, hf⟩ := h2.some
      simp only [truthy] at e7; cases e7
      exact ⟨false, rfl, hf.fin' x3 s3 rfl⟩
theorem s_one {op : BoolOp} {a : Expr} {a' : E} {pos : Pos} (ha : SE X rw C W a a') : SE X rw C W (.BoolOp op [a] pos) a' := pe_one ha
theorem s_and {a b : Expr} {rest : List Expr} {a' b' : E} {pos : Pos} (ha : SE X rw C W a a') (hb : SE X rw C W (.BoolOp .And (b :: rest) pos) b') : SE X rw C W (.BoolOp .And (a :: b :: rest) pos) (.and a' b') := by
  refine PE.wk (pe_and ha hb) fun σ H Q ⟨m, S, ρ, hS, hE, h⟩ => ?_
  simp only [ev] at h
  refine ⟨m, S, ρ, hS, hE, Out.bind h fun x S1 m1 H1 u x1 s1 r1 h1 => ?_⟩
  cases x <;> try exact h1.elim
  rename_i b
  cases rep_bool r1
  refine ⟨b, rfl, ?_⟩
  cases b with
  | true => exact ⟨m1, S1, ρ, s1, hE.ext x1, h1⟩
  | false => exact h1.fin s1 (.bool false)
theorem s_or {a b : Expr} {rest : List Expr} {a' b' : E} {pos : Pos} (ha : SE X rw C W a a') (hb : SE X rw C W (.BoolOp .Or (b :: rest) pos) b') : SE X rw C W (.BoolOp .Or (a :: b :: rest) pos) (.or a' b') := by
  refine PE.wk (pe_orT ha hb) fun σ H Q ⟨m, S, ρ, hS, hE, h⟩ => ?_
  simp only [ev] at h
  refine ⟨m, S, ρ, hS, hE, Out.bind h fun x S1 m1 H1 u x1 s1 r1 h1 => ?_⟩
  cases e : truthy S1 x with
  | none => rw [e] at h1; exact h1.elim
  | some b =>
    rw [e] at h1
    refine ⟨b, tru_rep s1 r1 e, ?_⟩
    cases b with
    | true => exact h1.fin s1 r1
    | false => exact ⟨m1, S1, ρ, s1, hE.ext x1, h1⟩
theorem s_not {a : Expr} {a' : E} {pos : Pos} (ha : SE X rw C W a a') : SE X rw C W (.UnaryOp .Not a pos) (.not a') := by
  refine PE.wk (pe_notT ha) fun σ H Q ⟨m, S, ρ, hS, hE, h⟩ => ?_
  simp only [ev] at h
  refine ⟨m, S, ρ, hS, hE, Out.bind h fun x S1 m1 H1 u x1 s1 r1 h1 => ?_⟩
  cases e : truthy S1 x with
  | none => rw [e] at h1; exact h1.elim
  | some b =>
    rw [e] at h1
    exact ⟨b, tru_rep s1 r1 e, h1.fin s1 (.bool _)⟩
theorem s_ite {c a b : Expr} {c' a' b' : E} {pos : Pos} (hc : ST X rw C W c c') (ha : SE X rw C W a a') (hb : SE X rw C W b b') : SE X rw C W (.IfExp c a b pos) (.ite c' a' b') := by
  refine PE.wk (pe_ifExp hc ha hb) fun σ H Q ⟨m, S, ρ, hS, hE, h⟩ => ?_
  simp only [ev] at h
  refine ⟨m, S, ρ, hS, hE, Out.bind h fun x S1 m1 H1 u x1 s1 r1 h1 => ?_⟩
  subst r1
  cases x with
  | true => exact ⟨m1, S1, ρ, s1, hE.ext x1, h1⟩
  | false => exact ⟨m1, S1, ρ, s1, hE.ext x1, h1⟩
abbrev SW (X : Cx) (rw : Bool) (C : CallT) (W : WX) (e : Expr) (e' : E) : Prop := PW X e (rdT X.K rw C W e')
theorem PW.wk {e : Expr} {t t' : TT} (h : PW X e t) (k : ∀ σ H Q, t' σ H Q → t σ H Q) : PW X e t' := ⟨fun whole pins s σ H Q I hw => h.run whole pins s σ H Q I (k σ H Q hw)⟩
theorem w_and1 {a : Expr} {a' : E} {pos : Pos} (ha : ST X rw C W a a') : SW X rw C W (.BoolOp .And [a] pos) a' := pw_and1 ha
theorem w_or1 {a : Expr} {a' : E} {pos : Pos} (ha : ST X rw C W a a') : SW X rw C W (.BoolOp .Or [a] pos) a' := pw_or1 ha
theorem w_and {a b : Expr} {rest : List Expr} {a' b' : E} {pos : Pos} (ha : ST X rw C W a a') (hb : SW X rw C W (.BoolOp .And (b :: rest) pos) b') : SW X rw C W (.BoolOp .And (a :: b :: rest) pos) (.and a' b') := by
  refine PW.wk (pw_and ha hb) fun σ H Q ⟨m, S, ρ, hS, hE, h⟩ => ?_
  simp only [evT] at h
  refine ⟨m, S, ρ, hS, hE, Out.bind h fun x S1 m1 H1 u x1 s1 r1 h1 => ?_⟩
  subst r1
  cases x with
  | true => exact ⟨m1, S1, ρ, s1, hE.ext x1, h1⟩
  | false => exact h1.fin s1 rfl
theorem w_or {a b : Expr} {rest : List Expr} {a' b' : E} {pos : Pos} (ha : ST X rw C W a a') (hb : SW X rw C W (.BoolOp .Or (b :: rest) pos) b') : SW X rw C W (.BoolOp .Or (a :: b :: rest) pos) (.or a' b') := by
  refine PW.wk (pw_or ha hb) fun σ H Q ⟨m, S, ρ, hS, hE, h⟩ => ?_
  simp only [evT] at h
  refine ⟨m, S, ρ, hS, hE, Out.bind h fun x S1 m1 H1 u x1 s1 r1 h1 => ?_⟩
  subst r1
  cases x with
  | true => exact h1.fin s1 rfl
  | false => exact ⟨m1, S1, ρ, s1, hE.ext x1, h1⟩
theorem a_nil : SA X rw C W [] [] := by
  refine PA.wk pa_nil fun σ H Q ⟨m, S, ρ, hS, hE, h⟩ => ?_
  simp only [evs] at h
  exact h.fin hS .nil
theorem a_cons {e : Expr} {es : List Expr} {e' : E} {es' : List E} (ns : notStarred e = true) (he : SE X rw C W e e') (hr : SA X rw C W es es') : SA X rw C W (e :: es) (e' :: es') := by
  refine PA.wk (pa_cons he hr (noStar_of ns _ _)) fun σ H Q ⟨m, S, ρ, hS, hE, h⟩ => ?_
  simp only [evs] at h
  refine ⟨m, S, ρ, hS, hE, Out.bind h fun x S1 m1 H1 u x1 s1 r1 h1 => ⟨m1, S1, ρ, s1, hE.ext x1, Out.bind h1 fun xs S2 m2 H2 us x2 s2 r2 h2 => ?_⟩⟩
  exact h2.fin s2 (.cons (r1.ext x2) r2)
theorem s_tup {es : List Expr} {es' : List E} {k : Nat} {pos : Pos} (hl : es'.length ≤ 1000) (h : SA X rw C W es es') : SE X rw C W (.Tuple es k pos) (.tup es') := by
  refine PE.wk (pe_tup h) fun σ H Q ⟨m, S, ρ, hS, hE, h⟩ => ?_
  simp only [ev] at h
  refine ⟨m, S, ρ, hS, hE, Out.bindE h fun xs S1 m1 H1 us e1 x1 s1 r1 h1 => ⟨?_, fun p hp => fin_tup h1 s1 r1 hp⟩⟩
  rw [← r1.length]
  have : ∀ (es : List E) (S : Store) (xs : List Val) (S1 : Store), evs C es ρ S = .ok xs S1 → xs.length = es.length := by
    intro es
    induction es with
    | nil => intro S xs S1 h; simp only [evs] at h; cases h; rfl
    | cons e es ih =>
      intro S xs S1 h
      simp only [evs] at h
      cases q : ev C e ρ S with
      | ok v S2 =>
        rw [q] at h
        simp only [Res.bind_ok] at h
        cases q2 : evs C es ρ S2 with
        | ok vs S3 => rw [q2] at h; simp only [Res.bind_ok] at h; cases h; simp [ih S2 vs _ q2]
        | exc c S3 => rw [q2] at h; cases h
        | stuck => rw [q2] at h; cases h
      | exc c S2 => rw [q] at h; cases h
      | stuck => rw [q] at h; cases h
  rw [this es' S xs S1 e1, sizeLine_eq]; omega
theorem evs_len {es : List E} {ρ : Env} : ∀ {S : Store} {xs : List Val} {S1 : Store}, evs C es ρ S = .ok xs S1 → xs.length = es.length := by
  induction es with
  | nil => intro S xs S1 h; simp only [evs] at h; cases h; rfl
  | cons e es ih =>
    intro S xs S1 h
    simp only [evs] at h
    cases q : ev C e ρ S with
    | ok v S2 =>
      rw [q] at h
      simp only [Res.bind_ok] at h
      cases q2 : evs C es ρ S2 with
      | ok vs S3 => rw [q2] at h; simp only [Res.bind_ok] at h; cases h; simp [ih q2]
      | exc c S3 => rw [q2] at h; cases h
      | stuck => rw [q2] at h; cases h
    | exc c S2 => rw [q] at h; cases h
    | stuck => rw [q] at h; cases h
theorem s_lst {es : List Expr} {es' : List E} {pos : Pos} (hl : es'.length ≤ 1000) (h : SA X rw C W es es') : SE X rw C W (.List es pos) (.lst es') := by
  refine PE.wk (pe_lst h) fun σ H Q ⟨m, S, ρ, hS, hE, h⟩ => ?_
  simp only [ev] at h
  refine ⟨m, S, ρ, hS, hE, Out.bindE h fun xs S1 m1 H1 us e1 x1 s1 r1 h1 => ⟨?_, fun p hp => fin_lst h1 s1 r1 hp⟩⟩
  rw [← r1.length, evs_len e1, sizeLine_eq]; omega
theorem m_len {K : PySem.W.Frag} {m : MM} {H : Hp} {S : Store} (hS : SRel K rw m H S) (p : Addr) : (m ++ [p])[S.length]? = some p := by
  show (m.bx ++ [p])[S.length]? = some p
  rw [← hS.len]; simp
theorem s_box {es : List Expr} {es' : List E} {pos : Pos} (hl : es'.length ≤ 1000) (h : SA X rw C W es es') : SE X rw C W (.List es pos) (.box es') := by
  refine PE.wk (pe_lst h) fun σ H Q ⟨m, S, ρ, hS, hE, h⟩ => ?_
  simp only [ev] at h
  refine ⟨m, S, ρ, hS, hE, Out.bindE h fun xs S1 m1 H1 us e1 x1 s1 r1 h1 => ⟨?_, fun p hp => ?_⟩⟩
  · rw [← r1.length, evs_len e1, sizeLine_eq]; omega
  · exact h1.fin' (Ext.box hp) (s1.push hp ⟨us, upd_same, r1.ext (Ext.box (rw := rw) hp)⟩) (.loc (m_len s1 p))
theorem s_newK {pos : Pos} : SE X rw C W (.Dict [] [] pos) .newK := by
  refine PE.wk pe_dnewK fun σ H Q ⟨m, S, ρ, hS, hE, h⟩ p hp => ?_
  simp only [ev] at h
  exact h.fin' (Ext.box hp) (hS.push hp ⟨[], .inl upd_same, .nil⟩) (.loc (m_len hS p))
theorem s_newT {pos : Pos} : SE X rw C W (.Dict [] [] pos) .newT := by
  refine PE.wk pe_dnewT fun σ H Q ⟨m, S, ρ, hS, hE, h⟩ p hp => ?_
  simp only [ev] at h
  exact h.fin' (Ext.box hp) (hS.push hp ⟨[], .inl upd_same, .nil⟩) (.loc (m_len hS p))
def rdO (K : PySem.W.Frag) (rw : Bool) (C : CallT) (W : WX) (e : Option E) : TO := fun σ H Q => ∃ m S ρ, SRel K rw m H S ∧ ERel K m H ρ σ ∧ Out K rw m H σ W (fun _ _ (o : Option Val) (i : Option Int) => bnd o = some i) (evO C e ρ S) Q
abbrev SO (X : Cx) (rw : Bool) (C : CallT) (W : WX) (e : Option Expr) (e' : Option E) : Prop := PO X e (rdO X.K rw C W e')
theorem PO.wk {e : Option Expr} {t t' : TO} (h : PO X e t) (k : ∀ σ H Q, t' σ H Q → t σ H Q) : PO X e t' := ⟨fun pins s σ H Q I hw => h.run pins s σ H Q I (k σ H Q hw)⟩
def rdP (K : PySem.W.Frag) (rw : Bool) (C : CallT) (W : WX) (e : Option E) : TO := fun σ H Q => ∃ m S ρ, SRel K rw m H S ∧ ERel K m H ρ σ ∧ Out K rw m H σ W (fun _ _ (o : Option Val) (i : Option Int) => bnd o = some i) (evO C e ρ S) Q ∧ ∀ v S1, evO C e ρ S = .ok v S1 → (bnd v).isSome = true
theorem o_none : PO X none (rdP X.K rw C W none) := by
  refine PO.wk po_none fun σ H Q ⟨m, S, ρ, hS, hE, h, _⟩ => ?_
  simp only [evO] at h
  exact h.fin hS rfl
theorem o_some {e : Expr} {e' : E} (he : SE X rw C W e e') : PO X (some e) (rdP X.K rw C W (some e')) := by
  refine PO.wk (po_some he) fun σ H Q ⟨m, S, ρ, hS, hE, h, hb⟩ => ?_
  simp only [evO] at h hb
  refine ⟨m, S, ρ, hS, hE, Out.bindE h fun x S1 m1 H1 u e1 x1 s1 r1 h1 => ?_⟩
  have q := hb (some x) S1 (by rw [e1]; rfl)
  cases x <;> simp only [bnd, Option.isSome_none, Bool.false_eq_true] at q
  cases rep_int r1
  exact ⟨_, rfl, h1.fin s1 rfl⟩
theorem s_slice {a : Expr} {a' : E} {lo hi : Option Expr} {lo' hi' : Option E} {p2 pos : Pos} (ha : SE X rw C W a a') (hl : PO X lo (rdP X.K rw C W lo')) (hh : PO X hi (rdP X.K rw C W hi')) : SE X rw C W (.Subscript a (.Slice lo hi none p2) pos) (.slice a' lo' hi') := by
  refine PE.wk (pe_slice (SlR.or sl_list (SlR.or sl_tupA sl_str)) ha hl hh) fun σ H Q ⟨m, S, ρ, hS, hE, h⟩ => ?_
  simp only [ev] at h
  refine ⟨m, S, ρ, hS, hE, Out.bind h fun x S1 m1 H1 u x1 s1 r1 h1 => ⟨m1, S1, ρ, s1, hE.ext x1, Out.bind h1 fun l S2 m2 H2 i x2 s2 r2 h2 => ⟨m2, S2, ρ, s2, (hE.ext x1).ext x2, Out.bind (by rw [r2] at h2; exact h2) fun g S3 m3 H3 j x3 s3 r3 h3 => ?_, fun v S3 e3 => ?_⟩, fun v S2 e2 => ?_⟩⟩
  · rw [r3] at h3
    obtain ⟨z, e, hf⟩ := Out.some h3
    have r1' := (r1.ext x2).ext x3
    unfold sliceV at e
    cases q : unl S3 x with
    | lst vs =>
      rw [q] at e; cases e
      obtain ⟨a, us, rfl, k1, q1⟩ := unl_lst s3 r1' q
      refine .inl ⟨a, us, rfl, SqL.of k1, fun p hp => ?_⟩
      unfold cutV
      rw [← q1.length]
      exact fin_lst hf s3 ((q1.drop _).take _) hp
    | tup vs =>
      rw [q] at e; cases e
      have ex : x = .tup vs := by
        cases x <;> simp only [unl] at q <;> try cases q
        · rfl
        · split at q <;> cases q
      subst ex
      obtain ⟨a, us, rfl, k1, n1, q1⟩ := rep_tup r1'
      refine .inr (.inl ⟨a, us, rfl, SqT.of k1, fun e => ?_, fun _ p hp => ?_⟩)
      · have ec : cut vs i j = vs := by
          unfold cut
          rw [← q1.length] at e
          show (vs.drop (HT.sIx vs.length 0 i)).take (HT.sIx vs.length vs.length j - HT.sIx vs.length 0 i) = vs
          rw [e.1, e.2]; simp
        rw [ec] at hf
        exact hf.fin s3 (.tup k1 n1 q1)
      · unfold cutV
        rw [← q1.length]
        exact fin_tup hf s3 ((q1.drop _).take _) hp
    | str s =>
      rw [q] at e
      simp only at e
      split at e
      · rename_i hl
        cases e
        have ex : x = .str s := by
          cases x <;> simp only [unl] at q <;> try cases q
          · rfl
          · split at q <;> cases q
        subst ex
        cases rep_str r1'
        refine .inr (.inr ⟨s, rfl, by rw [← lim_eq]; exact hl, ?_⟩)
        have := hf.fin s3 (.str _)
        unfold cut at this
        rw [show s.cps.toList.length = s.length by simp [Str.length]] at this
        exact this
      · cases e
    | _ => rw [q] at e; cases e
  · rw [r2] at h2
    simp only [e3, Res.bind_ok] at h2
    cases q : bnd v with
    | none => rw [q] at h2; exact h2.elim
    | some _ => rfl
  · rw [e2] at h1
    simp only [Res.bind_ok] at h1
    cases q : bnd v with
    | some _ => rfl
    | none => rw [q] at h1; exact h1.elim
end
end HI
set_option Elab.async false
set_option linter.all false
set_option maxRecDepth 100000
namespace HI
open PySem PySem.Spec PyProof.Rows L2
section
variable {X : Cx} {C : CallT} {W : WX} {rw : Bool}
structure IsiK (K : PySem.W.Frag) (t : Str) (u : Value) : Prop where
  non : PySem.W.kitOne K (.type "NoneType") u = some false
  bool : PySem.W.kitOne K (.type "bool") u = some (isTy t ["int", "bool"])
  int : PySem.W.kitOne K (.type "int") u = some (isTy t ["int"])
  str : PySem.W.kitOne K (.type "str") u = some (isTy t ["str"])
  tup : PySem.W.kitOne K (.type "tuple") u = some (isTy t ["tuple"])
  lst : PySem.W.kitOne K (.type "list") u = some (isTy t ["list"])
  ins : (u = .ref (He.ga K t) ∧ isTy t ["int", "bool", "str", "tuple", "list"] = false) ∨ ∃ T ∈ ["int", "bool", "str", "tuple", "list"], t = Str.ofString T ∧ u = .type T
theorem isInst_rep {K : PySem.W.Frag} {m : MM} {H : Hp} {S : Store} {x : Val} {w : V} {b : Bool} {t : Str} {u : Value} (k : IsiK K t u) (hc : ∀ c, KCls K c → c = t → u = .ref (He.ga K t)) (hS : SRel K rw m H S) (rx : Rep K m H x w) (e : isInst S t x = some b) :
    ∃ ty, TyX K H w ty ∧ PySem.W.kitOne K ty u = some b := by
  cases x with
  | non => cases rx; simp only [isInst] at e; cases e; exact ⟨_, .base .non, k.non⟩
  | bool c => cases rx; simp only [isInst] at e; cases e; exact ⟨_, .base (.bl _), k.bool⟩
  | int c => cases rx; simp only [isInst] at e; cases e; exact ⟨_, .base (.int _), k.int⟩
  | str c => cases rx; simp only [isInst] at e; cases e; exact ⟨_, .base (.str _), k.str⟩
  | tup vs =>
    obtain ⟨a, us, rfl, h1, n1, q1⟩ := rep_tup rx
    simp only [isInst] at e; cases e; exact ⟨_, .base (.tup h1), k.tup⟩
  | lst vs =>
    obtain ⟨a, us, rfl, h1, n1, q1⟩ := rep_lst rx
    simp only [isInst] at e; cases e; exact ⟨_, .base (.lst h1), k.lst⟩
  | scr ns => simp only [isInst] at e; cases e
  | loc n =>
    obtain ⟨a, rfl, ha⟩ := rep_loc rx
    simp only [isInst] at e
    cases q : S[n]? with
    | none => rw [q] at e; cases e
    | some ob =>
      rw [q] at e
      cases ob with
      | list ws =>
        cases e
        obtain ⟨us, h1, q1⟩ := hS.atA ha q
        exact ⟨_, .base (.lst h1), k.lst⟩
      | inst c fs =>
        obtain ⟨kc, dx, us, h1, q1⟩ := hS.atA ha q
        have ty : TyX K H (.ref a) (.ref (He.ga K c)) := .base (.ins h1 kc.cl kc.ha kc.hn kc.htk kc.hm)
        simp only at e
        split at e
        · rename_i hct
          cases e
          have eu := hc c kc hct
          subst hct
          rw [eu]
          exact ⟨_, ty, kc.same⟩
        · split at e
          · rename_i hty
            cases e
            rcases k.ins with ⟨_, h2⟩ | ⟨T, hT, e1, e2⟩
            · rw [h2] at hty; cases hty
            · rw [e2]; exact ⟨_, ty, kc.blt T hT⟩
          · cases e
      | _ => cases e
theorem s_isI {a b : Expr} {a' : E} {t : Str} {u : Value} {w : V} {p pos : Pos} (hg : Gl X "isinstance") (hm : X.mg "isinstance" = none) (ns : notStarred a = true) (nb : notStarred b = true) (ha : SE X rw C W a a') (hb : PE X b (tC w)) (cw : ClsV w u)
    (k : IsiK X.K t u) (hc : ∀ c, KCls X.K c → c = t → u = .ref (He.ga X.K t)) (hv : bootBuiltins "isinstance" = some (.builtin "isinstance")) : SE X rw C W (.Call (.Name "isinstance" p) [a, b] [] pos) (.isI a' t) := by
  refine PE.wk (pe_callB call_isi hg hm hv (pa_cons ha (pa_cons hb pa_nil (noStar_of nb _ _)) (noStar_of ns _ _)) (by decide) (by decide) (noStar_of ns _ _) (backTo_of (es := [b]) (by simp [nb]) _ _)) fun σ H Q ⟨m, S, ρ, hS, hE, h⟩ => ?_
  simp only [ev] at h
  refine ⟨m, S, ρ, hS, hE, Out.bind h fun x S1 m1 H1 u1 x1 s1 r1 h1 => ?_⟩
  cases e : isInst S1 t x with
  | none => rw [e] at h1; exact h1.elim
  | some b =>
    rw [e] at h1
    obtain ⟨ty, q1, q2⟩ := isInst_rep k hc s1 r1 e
    exact ⟨u1, w, ty, u, b, rfl, cw, q1, q2, h1.fin s1 (.bool b)⟩
theorem RepP.look {K : PySem.W.Frag} {m : MM} {H : Hp} {fs : List (Str × Val)} {us : List (Str × V)} (r : RepP K m H fs us) (f : Str) :
    (fs.lookup f = none ∧ us.lookup f = none) ∨ ∃ v u, fs.lookup f = some v ∧ us.lookup f = some u ∧ Rep K m H v u := by
  induction r with
  | nil => exact .inl ⟨rfl, rfl⟩
  | @cons p q ps qs h t ih =>
    obtain ⟨g, v⟩ := p
    obtain ⟨g', u⟩ := q
    obtain ⟨h1, h2⟩ := h
    simp only at h1 h2
    subst h1
    cases e : f == g with
    | true => exact .inr ⟨v, u, by simp [List.lookup_cons, e], by simp [List.lookup_cons, e], h2⟩
    | false => simp only [List.lookup_cons, e]; exact ih
theorem RepP.putF {K : PySem.W.Frag} {m : MM} {H : Hp} {fs : List (Str × Val)} {us : List (Str × V)} (r : RepP K m H fs us) (f : Str) {v : Val} {u : V} (q : Rep K m H v u) : RepP K m H (fldPut fs f v) (L2.putF f u us) := by
  induction r with
  | nil => exact .cons ⟨rfl, q⟩ .nil
  | @cons p w ps qs h t ih =>
    obtain ⟨g, v0⟩ := p
    obtain ⟨g', u0⟩ := w
    obtain ⟨h1, h2⟩ := h
    simp only at h1 h2
    subst h1
    simp only [fldPut, L2.putF]
    split
    · exact .cons ⟨rfl, q⟩ t
    · exact .cons ⟨rfl, h2⟩ ih
def NoF (K : PySem.W.Frag) (f : Str) : Prop := ∀ c, KCls K c → NoAttr K (He.ga K c) f
theorem s_fld {a : Expr} {a' : E} {f : Str} {pos : Pos} (hb : attributeBase a f X.env (eval a X.env) = eval a X.env) (hf : NoF X.K f) (ha : SE X rw C W a a') : SE X rw C W (.Attribute a f pos) (.fld a' f) := by
  refine PE.wk (pe_fld ha hb) fun σ H Q ⟨m, S, ρ, hS, hE, h⟩ => ?_
  simp only [ev] at h
  refine ⟨m, S, ρ, hS, hE, Out.bind h fun x S1 m1 H1 u x1 s1 r1 h1 => ?_⟩
  cases x <;> try exact h1.elim
  rename_i n
  obtain ⟨a, rfl, ha⟩ := rep_loc r1
  simp only at h1
  cases q : S1[n]? with
  | none => rw [q] at h1; exact h1.elim
  | some ob =>
    rw [q] at h1
    cases ob <;> try exact h1.elim
    rename_i c fs
    obtain ⟨kc, dx, us, k1, q1⟩ := s1.atA ha q
    obtain ⟨z, e, hq⟩ := Out.some h1
    rcases RepP.look q1 f with ⟨e1, _⟩ | ⟨v, w, e1, e2, e3⟩
    · rw [show fldGet fs f = none from e1] at e; cases e
    · rw [show fldGet fs f = some v from e1] at e; cases e
      exact ⟨a, _, dx, us, w, rfl, k1, kc.cl, hf c kc, e2, hq.fin s1 e3⟩
def spC (K : PySem.W.Frag) (rw : Bool) (C : CallT) (f : Str) : Sp := fun vs H Q E => ∃ m S avs, SRel K rw m H S ∧ Reps K m H avs vs ∧ Out K rw m H [] (fun c d _ H' => E c d H') (Rep K) (C f avs S) Q
theorem Out.sig {α β : Type} {K : PySem.W.Frag} {m : MM} {H : Hp} {σ τ : L2.St} {W W' : WX} {R : MM → Hp → α → β → Prop} {r : Res α} {Q : β → Hp → Prop} (h : Out K rw m H σ W R r Q) (k : ∀ c d H', W c d σ H' → W' c d τ H') : Out K rw m H τ W' R r Q := by
  cases r with
  | ok v S => exact h
  | exc c S => exact fun kx m' H' x s => k _ _ _ (h kx m' H' x s)
  | stuck => exact h
theorem s_call {k : Nat} {f : Addr} {fd : FuncData} {ps : List Str} {x : Str} {e : Expr} {es : List Expr} {es' : List E} {p pos : Pos} (F : FnOk X.prog X.w X.K X.mg X.base (L2.CX X.prog X.w) k f fd ps (spC X.K rw C x)) (hr : Room k X.A) (hg : Gl X x) (hm : X.mg x = some (.ref f))
    (hk : PySem.W.keepIn X.K (.ref f) = true) (hb : Binds X.K fd ps []) (tk : Takes X W) (ns : (e :: es).all notStarred = true) (ha : SA X rw C W (e :: es) es') (hdb : (x == ("__debug__" : Str)) = false) : SE X rw C W (.Call (.Name x p) (e :: es) [] pos) (.call x es') := by
  have ns' := ns
  simp only [List.all_cons, Bool.and_eq_true] at ns'
  refine PE.wk (pe_callS (E := WE W) F hr hg hm hk hb (fun σ => passAt tk σ) ha hdb (noStar_of ns'.1 _ _) (backTo_of ns'.2 _ _)) fun σ H Q ⟨m, S, ρ, hS, hE, h⟩ => ?_
  simp only [ev] at h
  refine ⟨m, S, ρ, hS, hE, Out.bind h fun xs S1 m1 H1 us x1 s1 r1 h1 => ?_⟩
  exact ⟨m1, S1, xs, s1, r1, h1.sig fun _ _ _ z => z⟩
theorem pe_methS2 {k : Nat} {f C0 : Addr} {fd : FuncData} {ps : List Str} {sp : Sp} {m : Str} {o e : Expr} {es : List Expr} {ta : TE} {t : TA} {apos pos : Pos} {CX : CXT} {E : L2.St → XK} {pl : Sem Bool} (he : PE X o ta) (c : Cls X.K C0) (hm : Meth X.K C0 m f) (F : FnOk X.prog X.w X.K X.mg X.base CX k f fd ps sp)
    (hr : Room k X.A) (hb : Binds X.K fd ps []) (hx : ∀ σ, PassesAt CX X σ (E σ)) (ha : PA X (e :: es) t)
    (hst : starEach (e :: es) X.env = (false, eval e X.env) :: starEach es X.env) (hpl : (backTo pos (starEach es X.env)).any (·.1) = false)
    (ht : eval (.Call (.Attribute o m apos) (e :: es) [] pos) X.env = (do
      let ov ← eval o X.env
      standAt apos.atName
      let (f, first) ← holding [ov] (getMethod ov m pl)
      callWith pos f first (backTo pos (starEach (e :: es) X.env)) (backToKw pos (keywordEach [] X.env)))) :
    PE X (.Call (.Attribute o m apos) (e :: es) [] pos) (fun σ H Q => ta σ H fun x H1 => ∃ a dx fs, x = .ref a ∧ H1 a = some (.ins C0 dx fs) ∧ fs.lookup m = none ∧ t σ H1 fun vs H2 => sp (x :: vs) H2 Q (E σ)) := by
  refine ⟨fun pins s σ H Q I h => ?_⟩
  refine PySem.W.methodCall_KW (pl := pl) (thn (he.run pins s σ H _ I h) fun u s1 ⟨x, H1, I1, rx, a, dx, fs, ex, ea, l, q⟩ => ?_) ht
  subst ex
  obtain rfl : u = Value.ref a := rx
  refine getmeth_ok I1 ea c hm l ?_
  refine PySem.W.callWith_K (first := [.ref a]) (h₀ := X.base) I.ok.mod.kin hm.kp (thn (ha.run pos pins s1 σ H1 _ I1 q) fun us s2 ⟨vs, H2, I2, r, q2⟩ => ⟨I2.kIn, ?_⟩) hst hpl
  exact run_fnS (us := .ref a :: us) (vs := .ref a :: vs) F hr hb (hx σ) I2 (.cons rfl r) q2
theorem pe_methS0 {k : Nat} {f C0 : Addr} {fd : FuncData} {ps : List Str} {sp : Sp} {m : Str} {o : Expr} {ta : TE} {apos pos : Pos} {CX : CXT} {E : L2.St → XK} {pl : Sem Bool} (he : PE X o ta) (c : Cls X.K C0) (hm : Meth X.K C0 m f) (F : FnOk X.prog X.w X.K X.mg X.base CX k f fd ps sp)
    (hr : Room k X.A) (hb : Binds X.K fd ps []) (hx : ∀ σ, PassesAt CX X σ (E σ))
    (ht : eval (.Call (.Attribute o m apos) [] [] pos) X.env = (do
      let ov ← eval o X.env
      standAt apos.atName
      let (f, first) ← holding [ov] (getMethod ov m pl)
      callWith pos f first (backTo pos (starEach [] X.env)) (backToKw pos (keywordEach [] X.env)))) :
    PE X (.Call (.Attribute o m apos) [] [] pos) (fun σ H Q => ta σ H fun x H1 => ∃ a dx fs, x = .ref a ∧ H1 a = some (.ins C0 dx fs) ∧ fs.lookup m = none ∧ sp [x] H1 Q (E σ)) := by
  refine ⟨fun pins s σ H Q I h => ?_⟩
  refine PySem.W.methodCall_KW (pl := pl) (thn (he.run pins s σ H _ I h) fun u s1 ⟨x, H1, I1, rx, a, dx, fs, ex, ea, l, q⟩ => ?_) ht
  subst ex
  obtain rfl : u = Value.ref a := rx
  refine getmeth_ok I1 ea c hm l ?_
  exact PySem.W.callWith_K0 (first := [.ref a]) I1.kIn hm.kp (run_fnS (us := [.ref a]) (vs := [.ref a]) F hr hb (hx σ) I1 (.cons rfl .nil) q)
def NoSuper (o : Expr) (f : Str) (env : PySem.Env) : Prop := attributeBase o f env (eval o env) = eval o env
def notCall0 : Expr → Bool
  | .Call (.Name _ _) [] [] _ => false
  | _ => true
theorem noSuper_of {o : Expr} (h : notCall0 o = true) (f : Str) (env : PySem.Env) : NoSuper o f env := by
  unfold NoSuper attributeBase
  cases o <;> first
    | rfl
    | (rename_i g es kws p
       cases g <;> first
         | rfl
         | (cases es <;> first
              | rfl
              | (cases kws <;> first | rfl | (simp [notCall0] at h))))
theorem all_back {es : List Expr} (h : es.all notStarred = true) (pos : Pos) (env : PySem.Env) : (backTo pos (starEach es env)).all (fun x => !x.1) = true := by
  induction es with
  | nil => rfl
  | cons e es ih =>
    simp only [List.all_cons, Bool.and_eq_true] at h
    rw [noStar_of h.1 es env]
    show ((false, _) :: backTo pos (starEach es env)).all (fun x => !x.1) = true
    rw [List.all_cons, ih h.2]; rfl
theorem form_of {es : List Expr} (h : es.all notStarred = true) (hl : es.length < 30) (pos : Pos) (env : PySem.Env) : ((backTo pos (starEach es env)).all (fun x => !x.1) && (backToKw pos (keywordEach [] env)).all (fun x => x.1.isSome)
      && decide (es.length + ([] : List Keyword).length + (if ([] : List Keyword).isEmpty then 0 else 1) < 30)) = true := by
  rw [all_back h]
  show (true && true && decide _) = true
  simp; exact hl
theorem eval_meth {o : Expr} {m : Str} {apos pos : Pos} {es : List Expr} {env : PySem.Env} (hb : NoSuper o m env) (h : es.all notStarred = true) (hl : es.length < 30) (hline : (apos.endLine == pos.line) = true) : ∃ pl, eval (.Call (.Attribute o m apos) es [] pos) env = (do
      let ov ← eval o env
      standAt apos.atName
      let (f, first) ← holding [ov] (getMethod ov m pl)
      callWith pos f first (backTo pos (starEach es env)) (backToKw pos (keywordEach [] env))) := by
  have hform : methodCallForm (es.length + ([] : List Keyword).length) (backTo pos (starEach es env)) (backToKw pos (keywordEach [] env)) = true := form_of h hl pos env
  have hpos : methodCallPos true o env apos pos = pure pos := by unfold methodCallPos; simp [hline]
  refine ⟨(do return (← importBound o env).getD true), ?_⟩
  rw [arm_eval_Call, hb]
  unfold methodCall
  rw [hform]
  unfold calleeOf
  simp only [if_true, hpos]
  rfl
structure MethOk (X : Cx) (rw : Bool) (C : CallT) (m : Str) (k : Nat) (c : Str) : Prop where
  cl : Cls X.K (He.ga X.K c)
  me : Meth X.K (He.ga X.K c) m (He.ma X.K (He.ga X.K c) m)
  fn : ∃ fd ps, FnOk X.prog X.w X.K X.mg X.base (L2.CX X.prog X.w) k (He.ma X.K (He.ga X.K c) m) fd ps (spC X.K rw C (dot c m)) ∧ Binds X.K fd ps []
theorem isOf_inv {S : Store} {c m : Str} {x : Val} (h : isOf S c m x = true) : ∃ n fs, x = .loc n ∧ S[n]? = some (.inst c fs) ∧ fs.lookup m = none := by
  cases x <;> simp only [isOf, Bool.false_eq_true] at h
  rename_i n
  cases q : S[n]? with
  | none => rw [q] at h; cases h
  | some ob =>
    rw [q] at h
    cases ob <;> try cases h
    rename_i d fs
    simp only [Bool.and_eq_true, decide_eq_true_eq, Option.isNone_iff_eq_none] at h
    obtain ⟨rfl, h2⟩ := h
    exact ⟨n, fs, rfl, q, h2⟩
theorem s_meth {k : Nat} {o : Expr} {c m : Str} {es : List Expr} {o' : E} {es' : List E} {apos pos : Pos} (hb : notCall0 o = true) (ns : es.all notStarred = true) (hl : es.length < 30) (hline : (apos.endLine == pos.line) = true) (hr : Room k X.A) (tk : Takes X W)
    (M : MethOk X rw C m k c) (ho : SE X rw C W o o') (ha : SA X rw C W es es') (hlen : es.length = es'.length) : SE X rw C W (.Call (.Attribute o m apos) es [] pos) (.meth o' c m es') := by
  obtain ⟨pl, ht⟩ := eval_meth (noSuper_of hb m X.env) ns hl hline (pos := pos)
  obtain ⟨fd, ps, F, b⟩ := M.fn
  have look : ∀ {m1 H1 S1 x u}, SRel X.K rw m1 H1 S1 → Rep X.K m1 H1 x u → isOf S1 c m x = true → ∃ a dx us, u = .ref a ∧ H1 a = some (.ins (He.ga X.K c) dx us) ∧ us.lookup m = none := by
    intro m1 H1 S1 x u s1 r1 hq
    obtain ⟨n, fs, rfl, q, l⟩ := isOf_inv hq
    obtain ⟨a, rfl, ha⟩ := rep_loc r1
    obtain ⟨kc, dx, us, k1, p1⟩ := s1.atA ha q
    refine ⟨a, dx, us, rfl, k1, ?_⟩
    rcases RepP.look p1 m with ⟨_, e2⟩ | ⟨v, w, e1, _⟩
    · exact e2
    · rw [e1] at l; cases l
  cases es with
  | nil =>
    cases es' with
    | cons _ _ => simp at hlen
    | nil =>
      refine PE.wk (pe_methS0 (E := WE W) ho M.cl M.me F hr b (fun σ => passAt tk σ) ht) fun σ H Q ⟨mm, S, ρ, hS, hE, h⟩ => ?_
      simp only [ev] at h
      refine ⟨mm, S, ρ, hS, hE, Out.bind h fun x S1 m1 H1 u x1 s1 r1 h1 => ?_⟩
      split at h1
      · rename_i hq
        obtain ⟨a, dx, us, e1, e2, e3⟩ := look s1 r1 hq
        simp only [evs, Res.bind_ok] at h1
        exact ⟨a, dx, us, e1, e2, e3, m1, S1, [x], s1, .cons r1 .nil, h1.sig fun _ _ _ z => z⟩
      · exact h1.elim
  | cons e es =>
    simp only [List.all_cons, Bool.and_eq_true] at ns
    refine PE.wk (pe_methS2 (E := WE W) ho M.cl M.me F hr b (fun σ => passAt tk σ) ha (noStar_of ns.1 _ _) (backTo_of ns.2 _ _) ht) fun σ H Q ⟨mm, S, ρ, hS, hE, h⟩ => ?_
    simp only [ev] at h
    refine ⟨mm, S, ρ, hS, hE, Out.bind h fun x S1 m1 H1 u x1 s1 r1 h1 => ?_⟩
    split at h1
    · rename_i hq
      obtain ⟨a, dx, us, e1, e2, e3⟩ := look s1 r1 hq
      refine ⟨a, dx, us, e1, e2, e3, m1, S1, ρ, s1, hE.ext x1, Out.bind h1 fun xs S2 m2 H2 ws x2 s2 r2 h2 => ?_⟩
      exact ⟨m2, S2, x :: xs, s2, .cons (r1.ext x2) r2, h2.sig fun _ _ _ z => z⟩
    · exact h1.elim
theorem run_makeS {pins : List (Addr × PySem.Obj)} {σ : L2.St} {H : Hp} {s : Shared} {Q : VK} {us : List Value} {vs : List V} {f C0 : Addr} {fd : FuncData} {ps : List Str} {sp : Sp} {k : Nat} {CX : CXT} {E : XK} (M : Mk X.K C0 f) (F : FnOk X.prog X.w X.K X.mg X.base CX k f fd ps sp) (hr : Room (k + 1) X.A) (hb : Binds X.K fd ps [])
    (hx : PassesAt CX X σ E) (I : Inv X pins σ H s) (r : Vals vs us)
    (h : ∀ x dx, H x = none → H dx = none → dx ≠ x → sp (.ref x :: vs) (upd (upd H dx (.own x)) x (.ins C0 dx [])) (fun v H2 => v = .non ∧ Q (.ref x) H2) E) :
    wpAny (model X.prog X.w) X.A (call (.ref C0) us) (EP X pins σ Q) X.xe s := by
  have hq := h (s.heap.objs.size + 1) s.heap.objs.size (I.hok.fresh (Nat.le_succ _)) (I.hok.fresh (Nat.le_refl _)) (Nat.ne_of_lt (Nat.lt_succ_self _))
  have I2 := Inv.made (C := C0) I
  have r2 : Vals (V.ref (s.heap.objs.size + 1) :: vs) (Value.ref (s.heap.objs.size + 1) :: us) := .cons rfl r
  have hl : (Value.ref (s.heap.objs.size + 1) :: us).length = ps.length := by
    have e := r2.length
    rw [F.len _ _ _ _ hq] at e
    exact e.symm
  have b := hb _ (Value.ref (s.heap.objs.size + 1) :: us) I2.kIn (by rw [List.append_nil]; exact hl)
  rw [List.append_nil] at b
  refine wpAny_call (make_map (f := f) I.kIn M.makes M.init (beq_iff_eq.mp M.fn) (codeAny_mono (F.run _ X.stack _ _ ⟨Value.ref (s.heap.objs.size + 1) :: us, []⟩ (Value.ref (s.heap.objs.size + 1) :: us) _ _ E (hr.make C0 us [])
    (I2.env0.make C0 us []) b r2 hq) fun r s' hq' => ?_))
  cases r with
  | error e => exact hx pins _ _ e s' I2 hq'
  | ok fl =>
    cases fl with
    | ret u =>
      obtain ⟨v, H', I3, rv, ev, q3⟩ := I2.after hq'
      subst ev
      exact ⟨rv, ⟨V.ref (s.heap.objs.size + 1), H', I3, rfl, q3⟩⟩
    | next => exact False.elim hq'
    | brk => exact False.elim hq'
    | cont => exact False.elim hq'
structure MakeOk (X : Cx) (rw : Bool) (C : CallT) (k : Nat) (c : Str) : Prop where
  kc : KCls X.K c
  mkr : Mk X.K (He.ga X.K c) (He.ma X.K (He.ga X.K c) "__init__")
  mg : X.mg c = some (.ref (He.ga X.K c))
  fn : ∃ fd ps, FnOk X.prog X.w X.K X.mg X.base (L2.CX X.prog X.w) k (He.ma X.K (He.ga X.K c) "__init__") fd ps (spC X.K rw C (dot c (Str.ofString "__init__"))) ∧ Binds X.K fd ps []
theorem s_make {k : Nat} {c : Str} {e : Expr} {es : List Expr} {es' : List E} {p pos : Pos} (ns : (e :: es).all notStarred = true) (hr : Room (k + 1) X.A) (tk : Takes X W) (M : MakeOk X rw C k c) (hg : Gl X c) (hdb : (c == ("__debug__" : Str)) = false) (ha : SA X rw C W (e :: es) es') :
    SE X rw C W (.Call (.Name c p) (e :: es) [] pos) (.make c es') := by
  have ns' := ns
  simp only [List.all_cons, Bool.and_eq_true] at ns'
  obtain ⟨fd, ps, F, b⟩ := M.fn
  refine ⟨fun pins s σ H Q I ⟨m, S, ρ, hS, hE, h⟩ => ?_⟩
  refine wpAny_Call_Name_kw (ld_glob I hg M.mg ?_ hdb)
  simp only [ev] at h
  refine PySem.W.callWith_K (h₀ := X.base) I.ok.mod.kin M.mkr.kp (thn (ha.run pos pins s σ H (fun vs H1 => ∃ m1 S1 avs, SRel X.K rw m1 H1 S1 ∧ Ext rw m H m1 H1 ∧ Reps X.K m1 H1 avs vs ∧ Out X.K rw m1 H1 σ W (Rep X.K) ((C (dot c (Str.ofString "__init__")) (.loc S1.length :: avs) (S1 ++ [.inst c []])).bind fun v S2 => (match v with
        | .non => .ok (.loc S1.length) S2
        | _ => .stuck)) Q) I ⟨m, S, ρ, hS, hE, Out.bind h fun xs S1 m1 H1 us x1 s1 r1 h1 => ⟨m1, S1, xs, s1, x1, r1, h1⟩⟩) fun us s1 ⟨vs, H1, I1, r, m1, S1, avs, sr, x1, ra, h1⟩ => ⟨I1.kIn, ?_⟩) (noStar_of ns'.1 _ _) (backTo_of ns'.2 _ _)
  refine run_makeS (E := WE W σ) M.mkr F hr b (passAt tk σ) I1 r fun x dx nx ndx nex => ?_
  have xa : Ext rw m1 H1 m1 (upd H1 dx (.own x)) := Ext.new ndx
  have sa : SRel X.K rw m1 (upd H1 dx (.own x)) S1 := sr.new ndx
  have nx' : upd H1 dx (.own x) x = none := by rw [upd_ne (Ne.symm nex)]; exact nx
  have xb : Ext rw m1 (upd H1 dx (.own x)) (m1 ++ [x]) (upd (upd H1 dx (.own x)) x (.ins (He.ga X.K c) dx [])) := Ext.box nx'
  have sb : SRel X.K rw (m1 ++ [x]) (upd (upd H1 dx (.own x)) x (.ins (He.ga X.K c) dx [])) (S1 ++ [.inst c []]) := sa.push nx' ⟨M.kc, dx, [], upd_same, .nil⟩
  refine ⟨m1 ++ [x], S1 ++ [.inst c []], .loc S1.length :: avs, sb, .cons (.loc (m_len sr x)) (ra.ext (xa.trans xb)), ?_⟩
  refine Out.sig (Out.bind (h1.ext (xa.trans xb)) fun v S2 m2 H2 u x2 s2 r2 h2 => ?_) fun _ _ _ z => z
  cases v <;> try exact h2.elim
  cases r2
  exact ⟨rfl, h2.fin s2 (.loc (x2.get (m_len sr x)))⟩
end
end HI
set_option Elab.async false
set_option linter.all false
set_option maxRecDepth 100000
namespace HI
open PySem PySem.Spec PyProof.Rows L2
def JRel (K : PySem.W.Frag) (rw : Bool) (m1 : MM) (H1 : Hp) (p : List Val × Src) (J : L2.It) : Prop :=
  ∀ m H S, Ext rw m1 H1 m H → SRel K rw m H S → still p.2 S → ∀ i : Nat, (p.1.length ≤ i → J.stop i H) ∧
    ∀ v, p.1[i]? = some v → J.go i H ∧ ∀ x H', J.yld i H x H' → Ext rw m H m H' ∧ SRel K rw m H' S ∧ Rep K m H' v x
def rdI (K : PySem.W.Frag) (rw : Bool) (C : CallT) (W : WX) (it : It) : TI := fun σ H R => ∃ m S ρ, SRel K rw m H S ∧ ERel K m H ρ σ ∧ Out K rw m H σ W (JRel K rw) (evIt C it ρ S) R
abbrev SI (X : Cx) (rw : Bool) (C : CallT) (W : WX) (tg iter : Expr) (it : It) : Prop := PI X tg iter (rdI X.K rw C W it)
section
variable {X : Cx} {C : CallT} {W : WX} {rw : Bool}
theorem PI.wk {tg e : Expr} {t t' : TI} (h : PI X tg e t) (k : ∀ σ H Q, t' σ H Q → t σ H Q) : PI X tg e t' := ⟨fun pins s σ H Q I hw => h.run pins s σ H Q I (k σ H Q hw)⟩
theorem PI.or {tg e : Expr} {t t' : TI} (h : PI X tg e t) (h' : PI X tg e t') : PI X tg e (fun σ H Q => t σ H Q ∨ t' σ H Q) := ⟨fun pins s σ H Q I hw => hw.elim (h.run pins s σ H Q I) (h'.run pins s σ H Q I)⟩
theorem J_list {K : PySem.W.Frag} {m1 : MM} {H1 : Hp} {S1 : Store} {x : Val} {a : Addr} {vs : List Val} (s1 : SRel K rw m1 H1 S1) (rx : Rep K m1 H1 x (.ref a)) (e : lstOf S1 x = some vs) : JRel K rw m1 H1 (vs, srcOf S1 x) (Itl K a) := by
  intro m H S xt hS hst i
  have at_ : ∃ us, H a = some (.lst us) ∧ Reps K m H vs us := by
    cases x with
    | lst ws =>
      simp only [lstOf] at e; cases e
      obtain ⟨a', us, h1, h2, h3, h4⟩ := rep_lst rx
      cases h1
      exact ⟨us, xt.keep _ _ h2 (.inl h3), h4.ext xt⟩
    | loc n =>
      simp only [lstOf] at e
      obtain ⟨a', h1, ha⟩ := rep_loc rx
      cases h1
      cases q : S1[n]? with
      | none => rw [q] at e; cases e
      | some ob =>
        rw [q] at e
        cases ob <;> try cases e
        simp only [srcOf, q, still] at hst
        exact hS.atA (xt.get ha) hst.1
    | _ => simp only [lstOf] at e; cases e
  obtain ⟨us, h1, h2⟩ := at_
  refine ⟨fun hl => ⟨us, SqL.of h1, by rw [← h2.length]; exact hl⟩, fun v hv => ?_⟩
  obtain ⟨u, hu, ru⟩ := h2.get hv
  refine ⟨⟨us, u, SqL.of h1, hu⟩, fun y H' hy => ?_⟩
  obtain ⟨rfl, hy⟩ := hy
  have := hy us (SqL.of h1)
  rw [hu] at this; cases this
  exact ⟨Ext.refl, hS, ru⟩
theorem J_tup {K : PySem.W.Frag} {m1 : MM} {H1 : Hp} {S1 : Store} {a : Addr} {vs : List Val} (rx : Rep K m1 H1 (.tup vs) (.ref a)) : JRel K rw m1 H1 (vs, []) (Itt K a) := by
  intro m H S xt hS hst i
  obtain ⟨a', us, h1, h2, h3, h4⟩ := rep_tup rx
  cases h1
  have k1 := xt.keep _ _ h2 (.inl h3)
  have k2 := h4.ext xt
  refine ⟨fun hl => ⟨us, SqT.of k1, by rw [← k2.length]; exact hl⟩, fun v hv => ?_⟩
  obtain ⟨u, hu, ru⟩ := k2.get hv
  refine ⟨⟨us, u, SqT.of k1, hu⟩, fun y H' hy => ?_⟩
  obtain ⟨rfl, hy⟩ := hy
  have := hy us (SqT.of k1)
  rw [hu] at this; cases this
  exact ⟨Ext.refl, hS, ru⟩
theorem J_str {K : PySem.W.Frag} {m1 : MM} {H1 : Hp} {s : Str} : JRel K rw m1 H1 (charsOf s, []) (Its s) := by
  intro m H S xt hS hst i
  refine ⟨fun hl => (show s.cps.size ≤ i by simpa [charsOf] using hl), fun v hv => ?_⟩
  simp only [charsOf, List.getElem?_map] at hv
  cases q : s.cps.toList[i]? with
  | none => rw [q] at hv; cases hv
  | some c =>
    rw [q] at hv; cases hv
    have q' : s.cps[i]? = some c := by simpa using q
    refine ⟨(Array.getElem?_eq_some_iff.mp q').1, fun y H' hy => ?_⟩
    obtain ⟨rfl, c', h1, rfl⟩ := hy
    rw [q'] at h1; cases h1
    exact ⟨Ext.refl, hS, .str _⟩
theorem J_range {K : PySem.W.Frag} {m1 : MM} {H1 : Hp} {lo : Int} {n : Nat} : JRel K rw m1 H1 (rangeV lo n, []) (Itr lo n) := by
  intro m H S xt hS hst i
  refine ⟨fun hl => (show n ≤ i by simpa [rangeV] using hl), fun v hv => ?_⟩
  simp only [rangeV, List.getElem?_map] at hv
  cases q : (List.range n)[i]? with
  | none => rw [q] at hv; cases hv
  | some c =>
    rw [q] at hv; cases hv
    obtain ⟨h1, h2⟩ := List.getElem?_eq_some_iff.mp q
    simp at h1 h2; subst h2
    refine ⟨h1, fun y H' hy => ?_⟩
    obtain ⟨rfl, rfl⟩ := hy
    exact ⟨Ext.refl, hS, .int _⟩
theorem i_seq {tg a : Expr} {a' : E} (ha : SE X rw C W a a') : SI X rw C W tg a (.seq a') := by
  refine PI.wk (PI.or (pi_list ha) (PI.or (pi_tup ha) (pi_str ha))) fun σ H R ⟨m, S, ρ, hS, hE, h⟩ => ?_
  simp only [evIt] at h
  have gen : ∀ (P : Val → Prop) (F : V → Hp → Prop), (∀ x S1, ev C a' ρ S = .ok x S1 → P x) →
      (∀ x S1 m1 H1 u vs, ev C a' ρ S = .ok x S1 → P x → itemsOf S1 x = some vs → SRel X.K rw m1 H1 S1 → Rep X.K m1 H1 x u → Out X.K rw m1 H1 σ W (JRel X.K rw) (.ok (vs, srcOf S1 x) S1) R → F u H1) → rdE X.K rw C W a' σ H F := by
    intro P F hP hF
    refine ⟨m, S, ρ, hS, hE, Out.bindE h fun x S1 m1 H1 u e1 x1 s1 r1 h1 => ?_⟩
    cases q : itemsOf S1 x with
    | none => rw [q] at h1; exact h1.elim
    | some vs => rw [q] at h1; exact hF x S1 m1 H1 u vs e1 (hP x S1 e1) q s1 r1 h1
  by_cases c1 : ∀ x S1, ev C a' ρ S = .ok x S1 → (match x with | .tup _ => True | _ => False)
  · refine .inr (.inl (gen _ _ c1 fun x S1 m1 H1 u vs e1 hp hi s1 r1 h1 => ?_))
    cases x <;> try exact hp.elim
    obtain ⟨a, us, rfl, k1, k2, k3⟩ := rep_tup r1
    simp only [itemsOf] at hi; cases hi
    exact ⟨a, rfl, ⟨us, SqT.of k1⟩, h1.fin s1 (J_tup (S1 := S1) r1)⟩
  · by_cases c2 : ∀ x S1, ev C a' ρ S = .ok x S1 → (match x with | .str _ => True | _ => False)
    · refine .inr (.inr (gen _ _ c2 fun x S1 m1 H1 u vs e1 hp hi s1 r1 h1 => ?_))
      cases x <;> try exact hp.elim
      cases rep_str r1
      simp only [itemsOf] at hi; cases hi
      exact ⟨_, rfl, h1.fin s1 J_str⟩
    · refine .inl (gen (fun x => (match x with | .tup _ => False | .str _ => False | _ => True)) _ (fun x S1 e => ?_) fun x S1 m1 H1 u vs e1 hp hi s1 r1 h1 => ?_)
      · cases x <;> try trivial
        · exact c2 fun y S2 e2 => by rw [e] at e2; cases e2; trivial
        · exact c1 fun y S2 e2 => by rw [e] at e2; cases e2; trivial
      · have el : lstOf S1 x = some vs := by
          cases x with
          | lst ws => simp only [itemsOf] at hi; cases hi; rfl
          | loc n =>
            simp only [itemsOf] at hi
            simp only [lstOf]
            cases q : S1[n]? with
            | none => rw [q] at hi; cases hi
            | some ob => rw [q] at hi; cases ob <;> first | exact hi | cases hi
          | tup _ => exact hp.elim
          | str _ => exact hp.elim
          | _ => simp only [itemsOf] at hi; cases hi
        obtain ⟨a, us, rfl, k1, k2⟩ := lstOf_rep s1 r1 el
        exact ⟨a, rfl, ⟨us, SqL.of k1⟩, h1.fin s1 (J_list s1 r1 el)⟩
theorem okR_ok {i : Int} (h : okR i = true) : -(2 ^ 62) ≤ i ∧ i < 2 ^ 62 := by
  unfold okR at h
  rw [Bool.and_eq_true, decide_eq_true_eq, decide_eq_true_eq] at h
  exact h
theorem i_range1 {tg a : Expr} {a' : E} {p pos : Pos} (hg : Gl X "range") (hm : X.mg "range" = none) (ns : notStarred a = true) (ha : SE X rw C W a a') : SI X rw C W tg (.Call (.Name "range" p) [a] [] pos) (.range1 a') := by
  refine PI.wk (pi_range1 hg hm (pa_cons ha pa_nil (noStar_of ns _ _)) (noStar_of ns _ _)) fun σ H R ⟨m, S, ρ, hS, hE, h⟩ => ?_
  simp only [evIt] at h
  refine ⟨m, S, ρ, hS, hE, Out.bind h fun x S1 m1 H1 u x1 s1 r1 h1 => ?_⟩
  cases x <;> try exact h1.elim
  cases rep_int r1
  simp only at h1
  split at h1
  · rename_i hr
    have := okR_ok hr
    exact ⟨_, rfl, this.1, this.2, h1.fin s1 J_range⟩
  · exact h1.elim
theorem i_range2 {tg a b : Expr} {a' b' : E} {p pos : Pos} (hg : Gl X "range") (hm : X.mg "range" = none) (na : notStarred a = true) (nb : notStarred b = true) (ha : SE X rw C W a a') (hb : SE X rw C W b b') : SI X rw C W tg (.Call (.Name "range" p) [a, b] [] pos) (.range2 a' b') := by
  have e1 : starEach [b] X.env = [(false, eval b X.env)] := noStar_of nb _ _
  have e2 : starEach [a, b] X.env = [(false, eval a X.env), (false, eval b X.env)] := by rw [noStar_of na [b] X.env, e1]
  refine PI.wk (pi_range2 hg hm (pa_cons ha (pa_cons hb pa_nil (noStar_of nb _ _)) (noStar_of na _ _)) e2 e1) fun σ H R ⟨m, S, ρ, hS, hE, h⟩ => ?_
  simp only [evIt] at h
  refine ⟨m, S, ρ, hS, hE, Out.bind h fun x S1 m1 H1 u x1 s1 r1 h1 => ⟨m1, S1, ρ, s1, hE.ext x1, Out.bind h1 fun y S2 m2 H2 w x2 s2 r2 h2 => ?_⟩⟩
  cases x <;> try exact h2.elim
  cases y <;> try exact h2.elim
  cases rep_int r1; cases rep_int r2
  simp only at h2
  split at h2
  · rename_i hr
    rw [Bool.and_eq_true] at hr
    have k1 := okR_ok hr.1
    have k2 := okR_ok hr.2
    exact ⟨_, _, rfl, ⟨k1.1, k1.2, k2.1, k2.2⟩, h2.fin s2 J_range⟩
  · exact h2.elim
mutual
def tgS : Tg → List Nat
  | .one i => [i]
  | .tup ts => tgSs ts
def tgSs : List Tg → List Nat
  | [] => []
  | t :: ts => tgS t ++ tgSs ts
end
def rdG (K : PySem.W.Frag) (rw : Bool) (tg : Tg) : TG := fun v σ H Q => ∃ m S ρ x, SRel K rw m H S ∧ ERel K m H ρ σ ∧ Rep K m H x v ∧ ∃ ρ', asgT tg x ρ = some ρ' ∧ ∀ σ', ERel K m H ρ' σ' → (∀ j, j ∉ tgS tg → σ'[j]? = σ[j]?) → Q σ' H
def rdGs (K : PySem.W.Frag) (rw : Bool) (tg : List Tg) : TGs := fun v σ H Q => ∃ m S ρ x, SRel K rw m H S ∧ ERel K m H ρ σ ∧ Reps K m H x v ∧ ∃ ρ', asgTs tg x ρ = some ρ' ∧ ∀ σ', ERel K m H ρ' σ' → (∀ j, j ∉ tgSs tg → σ'[j]? = σ[j]?) → Q σ' H
theorem PG.wk {tg : Expr} {t t' : TG} (h : PG X tg t) (k : ∀ v σ H Q, t' v σ H Q → t v σ H Q) : PG X tg t' := ⟨fun pins s σ H v u Q I r hw => h.run pins s σ H v u Q I r (k v σ H Q hw)⟩
theorem PGs.wk {tg : List Expr} {t t' : TGs} (h : PGs X tg t) (k : ∀ v σ H Q, t' v σ H Q → t v σ H Q) : PGs X tg t' := ⟨fun pins s σ H v u Q I r hw => h.run pins s σ H v u Q I r (k v σ H Q hw)⟩
theorem ERel.set {K : PySem.W.Frag} {m : MM} {H : Hp} {ρ : Env} {σ : L2.St} {i : Nat} {v : Val} {u : V} (h : ERel K m H ρ σ) (r : Rep K m H v u) : ERel K m H (ρ.set i (some v)) (σ.set i (some u)) := by
  refine ⟨by simp [h.len], fun j w e => ?_⟩
  by_cases hj : i = j
  · subst hj
    have hl : i < ρ.length := by
      have := (List.getElem?_eq_some_iff.mp e).1
      simpa using this
    rw [List.getElem?_set_self hl] at e; cases e
    exact ⟨u, by rw [List.getElem?_set_self (by rw [← h.len]; exact hl)], r⟩
  · rw [List.getElem?_set_ne hj] at e
    obtain ⟨u', h1, h2⟩ := h.val j w e
    exact ⟨u', by rw [List.getElem?_set_ne hj]; exact h1, h2⟩
theorem g_one {x : Str} {i : Nat} {pos : Pos} (hN : X.N.Nodup) (hi : X.N[i]? = some x) (hx : Loc X.env.scope x) (hf : X.fn x = true ∨ X.env.scope.names.lookup x = some .local) : PG X (.Name x pos) (rdG X.K rw (.one i)) := by
  refine PG.wk (pg_name hN hi hx hf) fun v σ H Q ⟨m, S, ρ, w, hS, hE, hr, ρ', e, k⟩ => ?_
  simp only [asgT] at e; cases e
  refine k _ (hE.set hr) fun j hj => ?_
  simp [tgS] at hj
  rw [List.getElem?_set_ne (Ne.symm hj)]
theorem gs_nil : PGs X [] (rdGs X.K rw []) := by
  refine PGs.wk pgs_nil fun v σ H Q ⟨m, S, ρ, w, hS, hE, hr, ρ', e, k⟩ => ?_
  cases w with
  | nil => cases hr; simp only [asgTs] at e; cases e; exact ⟨rfl, k σ hE fun _ _ => rfl⟩
  | cons _ _ => simp only [asgTs] at e; cases e
theorem gs_cons {e : Expr} {es : List Expr} {t : Tg} {ts : List Tg} (h1 : PG X e (rdG X.K rw t)) (h2 : PGs X es (rdGs X.K rw ts)) (hs : (assignEach (e :: es) X.env).map (·.2) = assign e X.env :: (assignEach es X.env).map (·.2)) : PGs X (e :: es) (rdGs X.K rw (t :: ts)) := by
  refine PGs.wk (pgs_cons h1 h2 hs) fun v σ H Q ⟨m, S, ρ, w, hS, hE, hr, ρ', e, k⟩ => ?_
  cases w with
  | nil => simp only [asgTs] at e; cases e
  | cons a w =>
    cases hr with
    | cons r q =>
      simp only [asgTs] at e
      cases e1 : asgT t a ρ with
      | none => rw [e1] at e; cases e
      | some ρ1 =>
        rw [e1] at e
        refine ⟨_, _, rfl, m, S, ρ, a, hS, hE, r, ρ1, e1, fun σ1 hE1 k1 => ⟨m, S, ρ1, w, hS, hE1, q, ρ', e, fun σ2 hE2 k2 => k σ2 hE2 fun j hj => ?_⟩⟩
        simp only [tgSs, List.mem_append, not_or] at hj
        rw [k2 j hj.2, k1 j hj.1]
theorem g_tup {es : List Expr} {ts : List Tg} {k : Nat} {pos : Pos} (hc : X.calm = true) (h : PGs X es (rdGs X.K rw ts)) (hn : (assignEach es X.env).length = ts.length) (hst : (assignEach es X.env).findIdx? (·.1) = none) : PG X (.Tuple es k pos) (rdG X.K rw (.tup ts)) := by
  refine PG.wk (pg_tup (n := ts.length) hc h hn hst) fun v σ H Q ⟨m, S, ρ, w, hS, hE, hr, ρ', e, k⟩ => ?_
  cases w <;> simp only [asgT] at e <;> try cases e
  rename_i vs
  obtain ⟨a, us, rfl, h1, h2, h3⟩ := rep_tup hr
  refine ⟨a, us, rfl, SqT.of h1, ?_, m, S, ρ, vs, hS, hE, h3, ρ', e, fun σ' q1 q2 => k σ' q1 (by simpa only [tgS] using q2)⟩
  rw [← h3.length]
  have : ∀ (ts : List Tg) (vs : List Val) (ρ ρ' : Env), asgTs ts vs ρ = some ρ' → vs.length = ts.length := by
    intro ts
    induction ts with
    | nil => intro vs ρ ρ' h; cases vs <;> simp only [asgTs] at h <;> first | rfl | cases h
    | cons t ts ih =>
      intro vs ρ ρ' h
      cases vs with
      | nil => simp only [asgTs] at h; cases h
      | cons v vs =>
        simp only [asgTs] at h
        cases q : asgT t v ρ with
        | none => rw [q] at h; cases h
        | some ρ1 => rw [q] at h; simp [ih vs ρ1 ρ' h]
  exact this ts vs ρ ρ' e
end
end HI
set_option Elab.async false
set_option linter.all false
set_option maxRecDepth 100000
namespace HI
open PySem PySem.Spec PyProof.Rows L2
abbrev WF : WX := fun _ _ _ _ => False
def rdC (K : PySem.W.Frag) (rw : Bool) (C : CallT) : Option E → TT
  | none => tYes
  | some e => rdT K rw C WF e
mutual
theorem asgT_out {i : Nat} : ∀ (t : Tg) (v : Val) (ρ : Env), i ∉ tgS t → asgT t v (ρ.set i none) = (asgT t v ρ).map (·.set i none)
  | .one j, v, ρ, h => by
    simp only [tgS, List.mem_singleton] at h
    simp only [asgT, Option.map_some, Option.some.injEq]
    exact List.set_comm _ _ h
  | .tup ts, v, ρ, h => by
    cases v <;> simp only [asgT, Option.map_none]
    exact asgTs_out ts _ ρ (by simpa only [tgS] using h)
theorem asgTs_out {i : Nat} : ∀ (ts : List Tg) (vs : List Val) (ρ : Env), i ∉ tgSs ts → asgTs ts vs (ρ.set i none) = (asgTs ts vs ρ).map (·.set i none)
  | [], [], ρ, h => by simp only [asgTs, Option.map_some]
  | [], _ :: _, ρ, h => by simp only [asgTs, Option.map_none]
  | _ :: _, [], ρ, h => by simp only [asgTs, Option.map_none]
  | t :: ts, v :: vs, ρ, h => by
    simp only [tgSs, List.mem_append, not_or] at h
    simp only [asgTs]
    rw [asgT_out t v ρ h.1]
    cases asgT t v ρ with
    | none => rfl
    | some ρ1 => exact asgTs_out ts vs ρ1 h.2
end
mutual
theorem asgT_in {i : Nat} : ∀ (t : Tg) (v : Val) (ρ : Env), i ∈ tgS t → asgT t v (ρ.set i none) = asgT t v ρ
  | .one j, v, ρ, h => by
    simp only [tgS, List.mem_singleton] at h
    subst h
    simp only [asgT, List.set_set]
  | .tup ts, v, ρ, h => by
    cases v <;> simp only [asgT]
    exact asgTs_in ts _ ρ (by simpa only [tgS] using h)
theorem asgTs_in {i : Nat} : ∀ (ts : List Tg) (vs : List Val) (ρ : Env), i ∈ tgSs ts → asgTs ts vs (ρ.set i none) = asgTs ts vs ρ
  | [], _, ρ, h => by simp [tgSs] at h
  | _ :: _, [], ρ, h => by simp only [asgTs]
  | t :: ts, v :: vs, ρ, h => by
    simp only [asgTs]
    by_cases ht : i ∈ tgS t
    · rw [asgT_in t v ρ ht]
    · have h2 : i ∈ tgSs ts := by
        simp only [tgSs, List.mem_append] at h
        exact h.resolve_left ht
      rw [asgT_out t v ρ ht]
      cases asgT t v ρ with
      | none => rfl
      | some ρ1 => exact asgTs_in ts vs ρ1 h2
end
def wipeE (ρ : Env) : List Nat → Env
  | [] => ρ
  | v :: vs => (wipeE ρ vs).set v none
theorem asg_wipe {t : Tg} {v : Val} {ρ : Env} : ∀ (vs : List Nat), (∀ i ∈ vs, i ∈ tgS t) → asgT t v (wipeE ρ vs) = asgT t v ρ
  | [], _ => rfl
  | i :: vs, h => by
    simp only [wipeE]
    rw [asgT_in t v _ (h i (by simp)), asg_wipe vs fun j hj => h j (by simp [hj])]
theorem wipe_get {σ : L2.St} {j : Nat} : ∀ (vs : List Nat), j ∉ vs → (wipe σ vs)[j]? = σ[j]?
  | [], _ => rfl
  | i :: vs, h => by
    simp only [List.mem_cons, not_or] at h
    simp only [wipe]
    rw [List.getElem?_set_ne (Ne.symm h.1), wipe_get vs h.2]
theorem wipe_in {σ : L2.St} {j : Nat} : ∀ (vs : List Nat), j ∈ vs → (wipe σ vs)[j]? = if j < σ.length then some none else none
  | [], h => by simp at h
  | i :: vs, h => by
    simp only [wipe]
    by_cases e : i = j
    · subst e
      split
      · rw [List.getElem?_set_self (by rw [wipe_length]; assumption)]
      · rw [List.getElem?_eq_none (by simp [wipe_length]; omega)]
    · rw [List.getElem?_set_ne e]
      exact wipe_in vs (by simpa [Ne.symm e] using h)
theorem wipe_same {σ τ : L2.St} {vs : List Nat} (hl : τ.length = σ.length) (h : ∀ j, j ∉ vs → τ[j]? = (wipe σ vs)[j]?) : wipe τ vs = wipe σ vs := by
  apply List.ext_getElem?
  intro j
  by_cases hj : j ∈ vs
  · rw [wipe_in vs hj, wipe_in vs hj, hl]
  · rw [wipe_get vs hj, h j hj]
theorem ERel.wipe {K : PySem.W.Frag} {m : MM} {H : Hp} {ρ : Env} {σ : L2.St} (h : ERel K m H ρ σ) : ∀ vs : List Nat, ERel K m H (wipeE ρ vs) (L2.wipe σ vs)
  | [] => h
  | i :: vs => by
    have ih := ERel.wipe h vs
    simp only [wipeE, L2.wipe]
    refine ⟨by simp [ih.len], fun j w e => ?_⟩
    by_cases hj : i = j
    · subst hj
      have hl : i < (wipeE ρ vs).length := by
        have := (List.getElem?_eq_some_iff.mp e).1
        simpa using this
      rw [List.getElem?_set_self hl] at e; cases e
    · rw [List.getElem?_set_ne hj] at e
      obtain ⟨u, h1, h2⟩ := ih.val j w e
      exact ⟨u, by rw [List.getElem?_set_ne hj]; exact h1, h2⟩
section
variable {X : Cx} {C : CallT} {W : WX} {rw : Bool}
noncomputable def compF (C : CallT) (tg : Tg) (cond : Option E) (elt : E) (ρ : Env) : Val → Store → Res (Option Val) := fun x S2 => match asgT tg x ρ with
  | some ρ' => (evC C cond ρ' S2).bind fun t S3 => if t = true then (noExc (ev C elt ρ' S3)).bind fun v S4 => .ok (some v) S4 else .ok none S3
  | none => .stuck
theorem noExc_ok {α : Type} {r : Res α} {v : α} {S : Store} (h : noExc r = .ok v S) : r = .ok v S := by
  cases r <;> simp only [noExc] at h <;> first | exact h | cases h
theorem c_in_turn {cond : Option E} {m : MM} {H : Hp} {S : Store} {ρ' : Env} {σ : L2.St} {Q : Bool → Hp → Prop} (hS : SRel X.K rw m H S) (hE : ERel X.K m H ρ' σ)
    (h : ∀ t S1, evC C cond ρ' S = .ok t S1 → ∀ m1 H1, Ext rw m H m1 H1 → SRel X.K rw m1 H1 S1 → Q t H1) (ne : ∀ c S1, evC C cond ρ' S ≠ .exc c S1) (ns : evC C cond ρ' S ≠ .stuck) : rdC X.K rw C cond σ H Q := by
  cases cond with
  | none => exact h true S (by simp only [evC]) m H Ext.refl hS
  | some e =>
    refine ⟨m, S, ρ', hS, hE, ?_⟩
    simp only [evC] at h ne ns
    cases q : evT C e ρ' S with
    | ok t S1 =>
      rw [q] at h
      exact fun m1 H1 u x s r => by subst r; exact h t S1 rfl m1 H1 x s
    | exc c S1 => rw [q] at ns; exact absurd rfl ns
    | stuck => rw [q] at ns; exact absurd rfl ns
theorem comp_loop {J : L2.It} {tg : Tg} {cond : Option E} {elt : E} {vs : List Nat} {σ : L2.St} {ρ : Env} {m1 : MM} {H1 : Hp} {D : Addr} {xs : List Val} {src : Src} {S1 : Store} {Qd : Hp → Prop}
    (h1 : ∀ i ∈ vs, i ∈ tgS tg) (h2 : ∀ i ∈ tgS tg, i ∈ vs) (s1 : SRel X.K rw m1 H1 S1) (hE : ERel X.K m1 H1 ρ σ) (hJ : JRel X.K rw m1 H1 (xs, src) J) (hD : H1 D = none)
    (hF : compGo src (compF C tg cond elt ρ) xs [] S1 ≠ .stuck) (nex : ∀ c S', compGo src (compF C tg cond elt ρ) xs [] S1 ≠ .exc c S')
    (hend : ∀ ws S' m H us, compGo src (compF C tg cond elt ρ) xs [] S1 = .ok ws S' → Ext rw m1 H1 m H → SRel X.K rw m H S' → D ∈ m.ph → H D = some (.lst us) → Reps X.K m H ws us → Qd H) :
    ∃ Wt : Nat → Nat → Hp → Prop, (∃ k, Wt 0 k (upd H1 D (.lst []))) ∧ ∀ i k H, Wt i k H → (J.stop i H ∧ Qd H) ∨ (J.go i H ∧ ∃ Nx : Hp → Prop, (∀ H', Nx H' → ∃ k', k' < k ∧ Wt (i + 1) k' H') ∧
      ∀ x H', J.yld i H x H' → rdG X.K rw tg x (L2.wipe σ vs) H' fun σ2 H2 => L2.wipe σ2 vs = L2.wipe σ vs ∧ rdC X.K rw C cond σ2 H2 fun b H3 =>
        if b = true then rdE X.K rw C WF elt σ2 H3 fun y H4 => ∃ acc, H4 D = some (.lst acc) ∧ acc.length < sizeLine ∧ Nx (upd H4 D (.lst (acc ++ [y]))) else Nx H3) := by
  -- the state at turn i
  refine ⟨fun i k H => k = xs.length - i ∧ i ≤ xs.length ∧ ∃ m S acc us, Ext rw m1 H1 m H ∧ SRel X.K rw m H S ∧ D ∈ m.ph ∧ H D = some (.lst us) ∧ Reps X.K m H acc us ∧ compGo src (compF C tg cond elt ρ) xs [] S1 = compGo src (compF C tg cond elt ρ) (xs.drop i) acc S,
    ⟨xs.length, by simp, Nat.zero_le _, m1.addP D, S1, [], [], Ext.newP hD, s1.newP hD, by simp [MM.addP], upd_same, .nil, rfl⟩, ?_⟩
  rintro i k H ⟨rfl, hi, m, S, acc, us, x, hS, hp, hd, hr, e⟩
  have st : still src S := by
    apply Classical.byContradiction
    intro hn
    apply hF
    rw [e]
    cases xs.drop i <;> simp only [compGo, guardS, hn, if_false]
  obtain ⟨j1, j2⟩ := hJ m H S x hS st i
  by_cases hl : i < xs.length
  · right
    obtain ⟨v, hv⟩ : ∃ v, xs[i]? = some v := ⟨xs[i], List.getElem?_eq_getElem hl⟩
    obtain ⟨jg, jy⟩ := j2 v hv
    have ed : xs.drop i = v :: xs.drop (i + 1) := by
      rw [List.drop_eq_getElem_cons hl]
      congr 1
      exact (List.getElem?_eq_some_iff.mp hv).2
    rw [ed] at e
    simp only [compGo, guardS_pos st] at e
    refine ⟨jg, fun H' => i + 1 ≤ xs.length ∧ ∃ m S acc us, Ext rw m1 H1 m H' ∧ SRel X.K rw m H' S ∧ D ∈ m.ph ∧ H' D = some (.lst us) ∧ Reps X.K m H' acc us ∧ compGo src (compF C tg cond elt ρ) xs [] S1 = compGo src (compF C tg cond elt ρ) (xs.drop (i + 1)) acc S, fun H' ⟨q1, q2⟩ => ⟨xs.length - (i + 1), by omega, rfl, q1, q2⟩, fun y H' hy => ?_⟩
    obtain ⟨x2, s2, r2⟩ := jy y H' hy
    -- the target
    cases ea : asgT tg v ρ with
    | none => exact absurd (by rw [e]; simp only [compF, ea, Res.bind_stuck]) hF
    | some ρ' =>
      refine ⟨m, S, wipeE ρ vs, v, s2, (((hE.ext x).ext x2).wipe vs), r2, ρ', by rw [asg_wipe vs h1]; exact ea, fun σ2 hE2 k2 => ⟨wipe_same ?_ fun j hj => k2 j fun z => hj (h2 j z), ?_⟩⟩
      · rw [← hE2.len]
        have : ∀ (t : Tg) (v : Val) (ρ ρ' : Env), asgT t v ρ = some ρ' → ρ'.length = ρ.length := by
          have both : ∀ n, (∀ (t : Tg), sizeOf t ≤ n → ∀ (v : Val) (ρ ρ' : Env), asgT t v ρ = some ρ' → ρ'.length = ρ.length) ∧ (∀ (ts : List Tg), sizeOf ts ≤ n → ∀ (vs : List Val) (ρ ρ' : Env), asgTs ts vs ρ = some ρ' → ρ'.length = ρ.length) := by
            intro n
            induction n with
            | zero => exact ⟨fun t h => by cases t <;> simp at h, fun ts h => by cases ts <;> simp at h⟩
            | succ n ih =>
              refine ⟨fun t h v ρ ρ' e => ?_, fun ts h vs ρ ρ' e => ?_⟩
              · cases t with
                | one i => simp only [asgT] at e; cases e; simp
                | tup ts =>
                  cases v <;> simp only [asgT] at e <;> try cases e
                  exact ih.2 ts (by simp at h; omega) _ _ _ e
              · cases ts with
                | nil => cases vs <;> simp only [asgTs] at e <;> cases e; rfl
                | cons t ts =>
                  cases vs with
                  | nil => simp only [asgTs] at e; cases e
                  | cons v vs =>
                    simp only [asgTs] at e
                    cases q : asgT t v ρ with
                    | none => rw [q] at e; cases e
                    | some ρ1 =>
                      rw [q] at e
                      simp at h
                      rw [ih.2 ts (by omega) _ _ _ e, ih.1 t (by omega) _ _ _ q]
          intro t v ρ ρ' e
          exact (both (sizeOf t)).1 t (Nat.le_refl _) v ρ ρ' e
        rw [this tg v ρ ρ' ea, hE.len]
      · -- the test
        have ne : ∀ c S', evC C cond ρ' S ≠ .exc c S' := by
          intro c S'
          cases cond with
          | none => simp [evC]
          | some ce => simp only [evC]; cases evT C ce ρ' S <;> simp [noExc]
        refine c_in_turn s2 hE2 (fun t S3 e3 m3 H3 x3 s3 => ?_) ne fun z => ?_
        · cases t with
          | false =>
            have e4 : compF C tg cond elt ρ v S = .ok none S3 := by simp only [compF, ea, e3, Res.bind_ok]; rfl
            rw [e4] at e
            exact ⟨hl, m3, S3, acc, us, (x.trans x2).trans x3, s3, x3.ph_sub _ hp, x3.kph _ hp _ (x2.kph _ hp _ hd), (hr.ext x2).ext x3, e⟩
          | true =>
            have e4 : compF C tg cond elt ρ v S = (noExc (ev C elt ρ' S3)).bind fun v S4 => .ok (some v) S4 := by simp only [compF, ea, e3, Res.bind_ok]; rfl
            rw [e4] at e
            refine ⟨m3, S3, ρ', s3, hE2.ext x3, ?_⟩
            cases q : ev C elt ρ' S3 with
            | exc c S4 => exact (hF (by rw [e, q]; rfl)).elim
            | stuck => exact (hF (by rw [e, q]; rfl)).elim
            | ok w S4 =>
              intro m4 H4 u4 x4 s4 r4
              rw [q] at e
              simp only [noExc, Res.bind_ok] at e
              have hp4 := x4.ph_sub _ (x3.ph_sub _ hp)
              have hd4 := x4.kph _ (x3.ph_sub _ hp) _ (x3.kph _ hp _ (x2.kph _ hp _ hd))
              have hr4 := ((hr.ext x2).ext x3).ext x4
              split at e
              · rename_i hlim
                refine ⟨us, hd4, by rw [← hr4.length, ← lim_eq]; exact hlim, hl, m4, S4, acc ++ [w], us ++ [u4], (((x.trans x2).trans x3).trans x4).phan hD, s4.phan hp4, hp4, upd_same, (hr4.append (.cons r4 .nil)).phan hp4, e⟩
              · exact (hF e).elim
        · apply hF
          rw [e]
          simp only [compF, ea, z, Res.bind_stuck]
  · left
    have ei : i = xs.length := by omega
    subst ei
    refine ⟨j1 (Nat.le_refl _), ?_⟩
    rw [List.drop_length] at e
    simp only [compGo, guardS_pos st] at e
    exact hend acc S m H us e x hS hp hd hr
theorem compF_noexc {tg : Tg} {cond : Option E} {elt : E} {ρ : Env} {x : Val} {S : Store} {c : Str} {S' : Store} : compF C tg cond elt ρ x S ≠ .exc c S' := by
  unfold compF
  cases asgT tg x ρ with
  | none => simp
  | some ρ' =>
    simp only
    cases cond with
    | none =>
      simp only [evC, Res.bind_ok, if_true]
      cases ev C elt ρ' S <;> simp [noExc]
    | some e =>
      simp only [evC]
      cases evT C e ρ' S with
      | ok t S1 =>
        simp only [noExc, Res.bind_ok]
        split
        · cases ev C elt ρ' S1 <;> simp [noExc]
        · simp
      | exc _ _ => simp [noExc]
      | stuck => simp [noExc]
theorem compGo_noexc {src : Src} {f : Val → Store → Res (Option Val)} (hf : ∀ x S c S', f x S ≠ .exc c S') : ∀ (xs : List Val) (acc : List Val) (S : Store) (c : Str) (S' : Store), compGo src f xs acc S ≠ .exc c S'
  | [], acc, S, c, S' => by simp only [compGo, guardS]; split <;> simp
  | x :: xs, acc, S, c, S' => by
    simp only [compGo, guardS]
    split
    · cases q : f x S with
      | ok o S1 =>
        simp only [Res.bind_ok]
        cases o with
        | none => exact compGo_noexc hf xs acc S1 c S'
        | some v =>
          simp only
          split
          · exact compGo_noexc hf xs _ S1 c S'
          · simp
      | exc c1 S1 => exact absurd q (hf x S c1 S1)
      | stuck => simp
    · simp
theorem Out.ne_stuck {α β γ : Type} {K : PySem.W.Frag} {m : MM} {H : Hp} {σ : L2.St} {R : MM → Hp → α → β → Prop} {Q : β → Hp → Prop} {r : Res γ} {f : γ → Store → Res α} (h : Out K rw m H σ W R (r.bind f) Q) : r ≠ .stuck := fun e => by
  rw [e] at h; exact h
theorem comp_reads {tg' : Tg} {it : It} {cond : Option E} {elt' : E} {vs : List Nat} (h1 : ∀ i ∈ vs, i ∈ tgS tg') (h2 : ∀ i ∈ tgS tg', i ∈ vs) (σ : L2.St) (H : Hp) (Q : VK) : rdE X.K rw C W (.comp tg' it cond elt') σ H Q → tLc (rdI X.K rw C W it) (rdG X.K rw tg') (rdC X.K rw C cond) (rdE X.K rw C WF elt') vs σ H Q := by
  rintro ⟨m, S, ρ, hS, hE, h⟩
  simp only [ev] at h
  have h' : Out X.K rw m H σ W (Rep X.K) ((evIt C it ρ S).bind fun xs S1 => (compGo xs.2 (compF C tg' cond elt' ρ) xs.1 [] S1).bind fun vs S2 => .ok (.lst vs) S2) Q := h
  refine ⟨m, S, ρ, hS, hE, Out.bind h' fun p S1 m1 H1 J x1 s1 hJ h1' => fun D hD => ?_⟩
  refine comp_loop (Qd := fun H => Q (.ref D) H) h1 h2 s1 (hE.ext x1) (by cases p; exact hJ) hD h1'.ne_stuck (fun c S' => compGo_noexc (fun x S c S' => compF_noexc) _ _ _ c S') fun ws S' m2 H2 us e x2 s2 hp hd hr => ?_
  rw [e] at h1'
  have sub := x2.ph_sub
  refine Out.fin' (m' := ⟨m2.bx, m1.ph⟩) h1' x2.dropP (s2.dropP sub) (.lst hd ?_ (hr.dropP sub))
  rintro (z | z)
  · exact s2.phb D hp z
  · have := s1.phs D z
    rw [hD] at this; cases this
theorem s_comp {tg iter elt : Expr} {ifs : List Expr} {scope : Scope} {own : List (Str × Nat)} {pos : Pos} {tg' : Tg} {it : It} {cond : Option E} {elt' : E} (hc : X.calm = true) (hN : X.N.Nodup) (hi : SI X rw C W tg iter it) (ok : BlkOk X.N X.env.scope scope own)
    (hg : ∀ (s : Shared) (H : Hp) (c : Addr) (cl : List (Str × Addr)) (fp : List Addr), PG (X.blk s H scope (compEnvC scope cl c X.env) fp) tg (rdG X.K rw tg'))
    (ht : ∀ (s : Shared) (H : Hp) (c : Addr) (cl : List (Str × Addr)) (fp : List Addr), PTs (X.blk s H scope (compEnvC scope cl c X.env) fp) ifs (rdC X.K rw C cond))
    (he : ∀ (s : Shared) (H : Hp) (c : Addr) (cl : List (Str × Addr)) (fp : List Addr), PE (X.blk s H scope (compEnvC scope cl c X.env) fp) elt (rdE X.K rw C WF elt'))
    (h1 : ∀ i ∈ own.map (·.2), i ∈ tgS tg') (h2 : ∀ i ∈ tgS tg', i ∈ own.map (·.2)) (hs : ∀ x, foldedSetIterable iter X.env x = pure x) :
    SE X rw C W (.ListComp elt [⟨tg, iter, ifs, 0⟩] scope pos) (.comp tg' it cond elt') := PE.wk (pe_lc (own := own) hc hN hi ok hg ht he hs) fun σ H Q h => comp_reads h1 h2 σ H Q h
theorem boxc_reads {tg' : Tg} {it : It} {cond : Option E} {elt' : E} {vs : List Nat} (h1 : ∀ i ∈ vs, i ∈ tgS tg') (h2 : ∀ i ∈ tgS tg', i ∈ vs) (σ : L2.St) (H : Hp) (Q : VK) : rdE X.K rw C W (.boxc tg' it cond elt') σ H Q → tLc (rdI X.K rw C W it) (rdG X.K rw tg') (rdC X.K rw C cond) (rdE X.K rw C WF elt') vs σ H Q := by
  rintro ⟨m, S, ρ, hS, hE, h⟩
  simp only [ev] at h
  have h' : Out X.K rw m H σ W (Rep X.K) ((evIt C it ρ S).bind fun xs S1 => (compGo xs.2 (compF C tg' cond elt' ρ) xs.1 [] S1).bind fun vs S2 => .ok (.loc S2.length) (S2 ++ [.list vs])) Q := h
  refine ⟨m, S, ρ, hS, hE, Out.bind h' fun p S1 m1 H1 J x1 s1 hJ h1' => fun D hD => ?_⟩
  refine comp_loop (Qd := fun H => Q (.ref D) H) h1 h2 s1 (hE.ext x1) (by cases p; exact hJ) hD h1'.ne_stuck (fun c S' => compGo_noexc (fun x S c S' => compF_noexc) _ _ _ c S') fun ws S' m2 H2 us e x2 s2 hp hd hr => ?_
  rw [e] at h1'
  have sub := x2.ph_sub
  have nD : D ∉ m1.ph := fun z => by
    have := s1.phs D z
    rw [hD] at this; cases this
  have nb : D ∉ m2.bx := s2.phb D hp
  -- the phantom becomes a box
  have tr : ∀ {v : Val} {u : V}, Rep X.K m2 H2 v u → Rep X.K ⟨m2.bx ++ [D], m1.ph⟩ H2 v u := by
    have both : ∀ n : Nat, (∀ (v : Val), sizeOf v ≤ n → ∀ u, Rep X.K m2 H2 v u → Rep X.K ⟨m2.bx ++ [D], m1.ph⟩ H2 v u) ∧ (∀ (vs : List Val), sizeOf vs ≤ n → ∀ us, Reps X.K m2 H2 vs us → Reps X.K ⟨m2.bx ++ [D], m1.ph⟩ H2 vs us) := by
      have nn : ∀ a : Addr, a ∉ m2 → a ∉ (⟨m2.bx ++ [D], m1.ph⟩ : MM) := by
        rintro a ha (z | z)
        · rcases List.mem_append.mp z with z | z
          · exact ha (.inl z)
          · simp at z; subst z; exact ha (.inr hp)
        · exact ha (.inr (sub a z))
      intro n
      induction n with
      | zero => exact ⟨fun v h => by cases v <;> simp at h, fun vs h => by cases vs <;> simp at h⟩
      | succ n ih =>
        refine ⟨fun v hv u r => ?_, fun vs hv us r => ?_⟩
        · cases r with
          | non => exact .non
          | bool b => exact .bool b
          | int i => exact .int i
          | str s => exact .str s
          | tup k1 k2 k3 => exact .tup k1 (nn _ k2) (ih.2 _ (by simp at hv; omega) _ k3)
          | lst k1 k2 k3 => exact .lst k1 (nn _ k2) (ih.2 _ (by simp at hv; omega) _ k3)
          | scr k1 k2 => exact .scr k1 (nn _ k2)
          | scrK k1 => exact .scrK k1
          | @loc n a k1 =>
            refine .loc ?_
            have hl := (List.getElem?_eq_some_iff.mp (show m2.bx[n]? = some a from k1)).1
            show (m2.bx ++ [D])[n]? = some a
            rw [List.getElem?_append_left hl]; exact k1
        · cases r with
          | nil => exact .nil
          | cons k1 k2 => exact .cons (ih.1 _ (by simp at hv; omega) _ k1) (ih.2 _ (by simp at hv; omega) _ k2)
    exact fun {v u} r => (both (sizeOf v)).1 v (Nat.le_refl _) u r
  have trs : ∀ {vs : List Val} {us : List V}, Reps X.K m2 H2 vs us → Reps X.K ⟨m2.bx ++ [D], m1.ph⟩ H2 vs us := by
    intro vs
    induction vs with
    | nil => intro us r; cases r; exact .nil
    | cons v vs ih => intro us r; cases r with | cons a b => exact .cons (tr a) (ih b)
  obtain ⟨ms, ps, em, f1, f2⟩ := x2.more
  refine Out.fin' (m' := ⟨m2.bx ++ [D], m1.ph⟩) h1' ⟨⟨ms ++ [D], [], by rw [em]; simp, fun a ha => ?_, by simp⟩, x2.keep, x2.there, x2.kph⟩ ⟨?_, ?_, fun n a o e1 e2 => ?_, fun hr' a ha => ?_, fun a ha => s2.phs a (sub a ha), fun a ha hb => ?_, fun a ha => s2.pht a (sub a ha)⟩ (.loc ?_)
  · rcases List.mem_append.mp ha with z | z
    · exact f1 a z
    · simp at z; rw [z]; exact hD
  · simp [s2.len]
  · show (m2.bx ++ [D]).Nodup
    rw [List.nodup_append]
    exact ⟨s2.nd, by simp, fun a ha b hb => by simp at hb; subst hb; exact fun e => nb (e ▸ ha)⟩
  · have e1' : (m2.bx ++ [D])[n]? = some a := e1
    by_cases hn : n < m2.bx.length
    · rw [List.getElem?_append_left hn] at e1'
      rw [List.getElem?_append_left (by rw [← s2.len]; exact hn)] at e2
      have b := s2.box n a o e1' e2
      cases o with
      | list vs => obtain ⟨xs, k1, k2⟩ := b; exact ⟨xs, k1, trs k2⟩
      | dictK vs => obtain ⟨xs, k1, k2⟩ := b; exact ⟨xs, k1, Paired.mapP k2 fun _ _ z => ⟨z.1, tr z.2⟩⟩
      | dictT vs => obtain ⟨xs, k1, k2⟩ := b; exact ⟨xs, k1, Paired.mapP k2 fun _ _ z => ⟨z.1, tr z.2⟩⟩
      | inst c vs => obtain ⟨kc, dx, xs, k1, k2⟩ := b; exact ⟨kc, dx, xs, k1, Paired.mapP k2 fun _ _ z => ⟨z.1, tr z.2⟩⟩
    · have hn' : n = m2.bx.length := by
        have := (List.getElem?_eq_some_iff.mp e1').1
        simp at this; omega
      subst hn'
      simp at e1'; subst e1'
      rw [s2.len] at e2; simp at e2; subst e2
      exact ⟨us, hd, trs hr⟩
  · rcases List.mem_append.mp (show a ∈ m2.bx ++ [D] from ha) with z | z
    · exact s2.nof hr' a z
    · simp at z; subst z; intro o u q; rw [hd] at q; cases q
  · rcases List.mem_append.mp (show a ∈ m2.bx ++ [D] from hb) with z | z
    · exact s2.phb a (sub a ha) z
    · simp at z; subst z; exact nD ha
  · show (m2.bx ++ [D])[S'.length]? = some D
    rw [← s2.len]; simp
theorem s_boxc {tg iter elt : Expr} {ifs : List Expr} {scope : Scope} {own : List (Str × Nat)} {pos : Pos} {tg' : Tg} {it : It} {cond : Option E} {elt' : E} (hc : X.calm = true) (hN : X.N.Nodup) (hi : SI X rw C W tg iter it) (ok : BlkOk X.N X.env.scope scope own)
    (hg : ∀ (s : Shared) (H : Hp) (c : Addr) (cl : List (Str × Addr)) (fp : List Addr), PG (X.blk s H scope (compEnvC scope cl c X.env) fp) tg (rdG X.K rw tg'))
    (ht : ∀ (s : Shared) (H : Hp) (c : Addr) (cl : List (Str × Addr)) (fp : List Addr), PTs (X.blk s H scope (compEnvC scope cl c X.env) fp) ifs (rdC X.K rw C cond))
    (he : ∀ (s : Shared) (H : Hp) (c : Addr) (cl : List (Str × Addr)) (fp : List Addr), PE (X.blk s H scope (compEnvC scope cl c X.env) fp) elt (rdE X.K rw C WF elt'))
    (h1 : ∀ i ∈ own.map (·.2), i ∈ tgS tg') (h2 : ∀ i ∈ tgS tg', i ∈ own.map (·.2)) (hs : ∀ x, foldedSetIterable iter X.env x = pure x) :
    SE X rw C W (.ListComp elt [⟨tg, iter, ifs, 0⟩] scope pos) (.boxc tg' it cond elt') := PE.wk (pe_lc (own := own) hc hN hi ok hg ht he hs) fun σ H Q h => boxc_reads h1 h2 σ H Q h
theorem tc_nil : PTs X [] (rdC X.K rw C none) := pts_nil
theorem tc_one {c : Expr} {c' : E} (h : ST X rw C WF c c') : PTs X [c] (rdC X.K rw C (some c')) := pts_one h
end
end HI
set_option Elab.async false
set_option linter.all false
set_option maxRecDepth 100000
namespace HI
open PySem PySem.Spec PyProof.Rows L2
def OutS (K : PySem.W.Frag) (rw : Bool) (m : MM) (H : Hp) (W : WX) (r : SR) (D : Ends) : Prop := match r with
  | .next ρ' S' => ∀ m' H' σ', Ext rw m H m' H' → SRel K rw m' H' S' → ERel K m' H' ρ' σ' → D.nx σ' H'
  | .ret v S' => ∀ m' H' u, Ext rw m H m' H' → SRel K rw m' H' S' → Rep K m' H' v u → D.rt u H'
  | .brk ρ' S' => ∀ m' H' σ', Ext rw m H m' H' → SRel K rw m' H' S' → ERel K m' H' ρ' σ' → D.bk σ' H'
  | .exc c ρ' S' => KExc K c → ∀ m' H' σ', Ext rw m H m' H' → SRel K rw m' H' S' → ERel K m' H' ρ' σ' → W (.ref (He.ga K c)) none σ' H'
  | .stuck => False
def rdS (K : PySem.W.Frag) (rw : Bool) (L : Nat) (C : CallT) (W : WX) (s : S) : TS := fun D σ H => ∃ m S ρ, SRel K rw m H S ∧ ERel K m H ρ σ ∧ OutS K rw m H W (exS L C s ρ S) D
def rdB (K : PySem.W.Frag) (rw : Bool) (L : Nat) (C : CallT) (W : WX) (s : List S) : TS := fun D σ H => ∃ m S ρ, SRel K rw m H S ∧ ERel K m H ρ σ ∧ OutS K rw m H W (exs L C s ρ S) D
abbrev SS (X : Cx) (rw : Bool) (L : Nat) (C : CallT) (W : WX) (st : Stmt) (s : S) : Prop := PS X st (rdS X.K rw L C W s)
abbrev SB (X : Cx) (rw : Bool) (L : Nat) (C : CallT) (W : WX) (st : List Stmt) (s : List S) : Prop := PSs X st (rdB X.K rw L C W s)
section
variable {K : PySem.W.Frag} {rw : Bool} {m m1 : MM} {H H1 : Hp} {W : WX} {D : Ends} {S : Store} {ρ : Env} {σ : L2.St}
theorem OutS.ext {r : SR} (h : OutS K rw m H W r D) (x : Ext rw m H m1 H1) : OutS K rw m1 H1 W r D := by
  cases r with
  | next ρ' S' => exact fun m' H' σ' y s q => h m' H' σ' (x.trans y) s q
  | ret v S' => exact fun m' H' σ' y s q => h m' H' σ' (x.trans y) s q
  | brk ρ' S' => exact fun m' H' σ' y s q => h m' H' σ' (x.trans y) s q
  | exc c ρ' S' => exact fun kx m' H' σ' y s q => h kx m' H' σ' (x.trans y) s q
  | stuck => exact h
theorem OutS.to {α β : Type} {R : MM → Hp → α → β → Prop} {Q : β → Hp → Prop} {r : Res α} {f : α → Store → SR} (h : OutS K rw m H W (r.to ρ f) D) (hE : ERel K m H ρ σ)
    (k : ∀ v S1 m1 H1 u, r = .ok v S1 → Ext rw m H m1 H1 → SRel K rw m1 H1 S1 → R m1 H1 v u → OutS K rw m1 H1 W (f v S1) D → Q u H1) : Out K rw m H σ W R r Q := by
  cases r with
  | ok v S' => exact fun m1 H1 u x s q => k v S' m1 H1 u rfl x s q (OutS.ext (r := f v S') h x)
  | exc c S' => exact fun kx m' H' x s => h kx m' H' σ x s (hE.ext x)
  | stuck => exact h
end
section
variable {X : Cx} {C : CallT} {W : WX} {rw : Bool} {L : Nat}
theorem ss_pass {pos : Pos} : SS X rw L C W (.Pass pos) .pass := PS.wk ps_pass fun D σ H ⟨m, S, ρ, hS, hE, h⟩ => by
  simp only [exS] at h
  exact h m H σ Ext.refl hS hE
theorem ss_brk {pos : Pos} : SS X rw L C W (.Break pos) .brk := PS.wk ps_break fun D σ H ⟨m, S, ρ, hS, hE, h⟩ => by
  simp only [exS] at h
  exact h m H σ Ext.refl hS hE
theorem ss_expr {e : Expr} {e' : E} {pos : Pos} (he : SE X rw C W e e') (hs : swapsWith e none pos.line X.env = pure false) : SS X rw L C W (.Expr e pos) (.expr e') := by
  refine PS.wk (ps_expr he hs) fun D σ H ⟨m, S, ρ, hS, hE, h⟩ => ?_
  simp only [exS] at h
  exact ⟨m, S, ρ, hS, hE, OutS.to h hE fun v S1 m1 H1 u _ x s r h1 => h1 m1 H1 σ Ext.refl s (hE.ext x)⟩
theorem ss_ret {e : Expr} {e' : E} {pos : Pos} (he : SE X rw C W e e') : SS X rw L C W (.Return (some e) pos) (.ret e') := by
  refine PS.wk (ps_ret he) fun D σ H ⟨m, S, ρ, hS, hE, h⟩ => ?_
  simp only [exS] at h
  exact ⟨m, S, ρ, hS, hE, OutS.to h hE fun v S1 m1 H1 u _ x s r h1 => h1 m1 H1 u Ext.refl s r⟩
theorem ss_retN {pos : Pos} : SS X rw L C W (.Return none pos) .retN := PS.wk ps_retN fun D σ H ⟨m, S, ρ, hS, hE, h⟩ => by
  simp only [exS] at h
  exact h m H .non Ext.refl hS .non
theorem sb_nil : SB X rw L C W [] [] := PSs.wk pss_nil fun D σ H ⟨m, S, ρ, hS, hE, h⟩ => by
  simp only [exs] at h
  exact h m H σ Ext.refl hS hE
theorem sb_cons {st : Stmt} {sts : List Stmt} {s : S} {ss : List S} (h1 : SS X rw L C W st s) (h2 : SB X rw L C W sts ss) : SB X rw L C W (st :: sts) (s :: ss) := by
  refine PSs.wk (pss_cons h1 h2) fun D σ H ⟨m, S, ρ, hS, hE, h⟩ => ?_
  simp only [exs] at h
  refine ⟨m, S, ρ, hS, hE, ?_⟩
  cases q : exS L C s ρ S with
  | next ρ' S' =>
    rw [q] at h
    exact fun m' H' σ' x s r => ⟨m', S', ρ', s, r, OutS.ext (r := exs L C ss ρ' S') h x⟩
  | ret v S' => rw [q] at h; exact h
  | brk ρ' S' => rw [q] at h; exact h
  | exc c ρ' S' => rw [q] at h; exact h
  | stuck => rw [q] at h; exact h
theorem ss_if {c : Expr} {a b : List Stmt} {c' : E} {a' b' : List S} {pos : Pos} (hc : ST X rw C W c c') (ha : SB X rw L C W a a') (hb : SB X rw L C W b b') : SS X rw L C W (.If c a b pos) (.ifS c' a' b') := by
  refine PS.wk (ps_if hc ha hb) fun D σ H ⟨m, S, ρ, hS, hE, h⟩ => ?_
  simp only [exS] at h
  refine ⟨m, S, ρ, hS, hE, OutS.to h hE fun t S1 m1 H1 u _ x s r h1 => ?_⟩
  subst r
  cases t with
  | true => exact ⟨m1, S1, ρ, s, hE.ext x, h1⟩
  | false => exact ⟨m1, S1, ρ, s, hE.ext x, h1⟩
theorem ss_set {tg e : Expr} {tg' : Tg} {e' : E} {pos : Pos} (he : SE X rw C W e e') (hg : PG X tg (rdG X.K rw tg')) (hs : swapsWithSole [tg] e pos.line X.env = pure false) (hw : swappedStores [tg] e X.env = pure none)
    (h1 : (assignEach [tg] X.env).map (·.2) = [assign tg X.env]) : SS X rw L C W (.Assign [tg] e pos) (.set tg' e') := by
  refine PS.wk (ps_asg he hg hs hw h1) fun D σ H ⟨m, S, ρ, hS, hE, h⟩ => ?_
  simp only [exS] at h
  refine ⟨m, S, ρ, hS, hE, OutS.to h hE fun v S1 m1 H1 u _ x s r h1 => ?_⟩
  cases q : asgT tg' v ρ with
  | none => rw [q] at h1; exact h1.elim
  | some ρ' =>
    rw [q] at h1
    exact ⟨m1, S1, ρ, v, s, hE.ext x, r, ρ', q, fun σ' hE' _ => h1 m1 H1 σ' Ext.refl s hE'⟩
theorem ss_setLc {i : Nat} {y : Str} {py : Pos} {tg iter elt : Expr} {ifs : List Expr} {scope : Scope} {own : List (Str × Nat)} {pos spos : Pos} {e' : E} {wi : TI} {g : TG} {tt : TT} {te : TE} (hc : X.calm = true) (hN : X.N.Nodup) (hy : X.N[i]? = some y) (hyl : X.env.scope.names.lookup y = some .local)
    (hsw : swapsWith (.ListComp elt [⟨tg, iter, ifs, 0⟩] scope pos) (some (.Name y py)) spos.line X.env = pure true) (hi : PI X tg iter wi) (ok : BlkOk X.N X.env.scope scope own)
    (hg : ∀ (s : Shared) (H : Hp) (C : Addr) (cl : List (Str × Addr)) (fp : List Addr), PG (X.blk s H scope (compEnvC scope cl C X.env) fp) tg g) (ht : ∀ (s : Shared) (H : Hp) (C : Addr) (cl : List (Str × Addr)) (fp : List Addr), PTs (X.blk s H scope (compEnvC scope cl C X.env) fp) ifs tt)
    (he : ∀ (s : Shared) (H : Hp) (C : Addr) (cl : List (Str × Addr)) (fp : List Addr), PE (X.blk s H scope (compEnvC scope cl C X.env) fp) elt te) (hs : ∀ x, foldedSetIterable iter X.env x = pure x)
    (hr : ∀ σ H Q, rdE X.K rw C W e' σ H Q → tLc wi g tt te (own.map (·.2)) σ H Q) : SS X rw L C W (.Assign [.Name y py] (.ListComp elt [⟨tg, iter, ifs, 0⟩] scope pos) spos) (.set (.one i) e') := by
  refine PS.wk (ps_setLc (own := own) hc hN hy hyl hsw hi ok hg ht he hs) fun D σ H ⟨m, S, ρ, hS, hE, h⟩ => ?_
  simp only [exS] at h
  refine hr σ H _ ⟨m, S, ρ, hS, hE, OutS.to h hE fun v S1 m1 H1 u _ x s r h1 => ?_⟩
  simp only [asgT] at h1
  exact h1 m1 H1 _ Ext.refl s ((hE.ext x).set r)
theorem ss_setF {a e : Expr} {a' e' : E} {f : Str} {p1 pos : Pos} (hrw : rw = true) (ha : SE X rw C W a a') (he : SE X rw C W e e') (hf : NoF X.K f) (hs : swapsWith e (some (.Attribute a f p1)) pos.line X.env = pure false) : SS X rw L C W (.Assign [.Attribute a f p1] e pos) (.setF a' f e') := by
  subst hrw
  refine PS.wk (ps_fld ha he hs) fun D σ H ⟨m, S, ρ, hS, hE, h⟩ => ?_
  simp only [exS] at h
  refine ⟨m, S, ρ, hS, hE, OutS.to h hE fun v S1 m1 H1 u _ x s r h1 => ⟨m1, S1, ρ, s, hE.ext x, OutS.to h1 (hE.ext x) fun y S2 m2 H2 w _ x2 s2 r2 h2 => ?_⟩⟩
  cases y <;> simp only [putFld] at h2 <;> try exact h2.elim
  rename_i n _
  obtain ⟨ad, rfl, hn⟩ := rep_loc r2
  cases q : S2[n]? with
  | none => rw [q] at h2; exact h2.elim
  | some ob =>
    rw [q] at h2
    cases ob <;> try exact h2.elim
    rename_i c fs
    obtain ⟨kc, dx, us, k1, p1⟩ := s2.atA hn q
    simp only at h2
    by_cases hl : fs.length < 1000
    · simp only [hl, if_true] at h2
      have hw := Ext.write (H := H2) (o := .ins (He.ga X.K c) dx (L2.putF f u us)) (mem_bx hn) (fun z => s2.phb ad z (mem_bx hn))
      refine ⟨ad, _, dx, us, rfl, k1, kc.cl, hf c kc, by rw [← p1.length]; exact hl, h2 m2 _ σ hw (s2.write hn ⟨kc, dx, _, upd_same, RepP.ext hw (RepP.putF p1 f (r.ext x2))⟩) ((hE.ext x).ext (x2.trans hw))⟩
    · simp only [hl, if_false] at h2; exact h2.elim
theorem PSet.or {t t' : TSet} (h : PSet X t) (h' : PSet X t') : PSet X (fun o i v H Q => t o i v H Q ∨ t' o i v H Q) := by
  intro pins s σ H o i v ov iv u Q I ro ri rv hw
  rcases hw with hw | hw
  · exact h pins s σ H o i v ov iv u Q I ro ri rv hw
  · exact h' pins s σ H o i v ov iv u Q I ro ri rv hw
theorem putItem_rep {K : PySem.W.Frag} {m : MM} {H : Hp} {S S' : Store} {x y v : Val} {a b u : V} (s2 : SRel K true m H S) (rx : Rep K m H x a) (ry : Rep K m H y b) (rv : Rep K m H v u) (e : putItem S x y v = some S') :
    ∃ p o, Ext true m H m (upd H p o) ∧ SRel K true m (upd H p o) S' ∧ ((∃ xs k j, a = .ref p ∧ b = .int k ∧ H p = some (.lst xs) ∧ ixN xs.length k = some j ∧ o = .lst (xs.set j u)) ∨ (a = .ref p ∧ DPut H p b u (upd H p o))) := by
  cases x <;> simp only [putItem] at e <;> try cases e
  rename_i n
  obtain ⟨ad, rfl, hn⟩ := rep_loc rx
  cases q : S[n]? with
  | none => rw [q] at e; cases e
  | some ob =>
    rw [q] at e
    have bx := s2.atA hn q
    have hw : ∀ o, Ext true m H m (upd H ad o) := fun o => Ext.write (mem_bx hn) (fun z => s2.phb ad z (mem_bx hn))
    cases ob with
    | list vs =>
      obtain ⟨us, k1, k2⟩ := bx
      cases y <;> simp only at e <;> try cases e
      rename_i k
      cases rep_int ry
      cases ej : L2.ixN vs.length k with
      | none => rw [ej] at e; cases e
      | some j =>
        rw [ej] at e; cases e
        refine ⟨ad, .lst (us.set j u), hw _, s2.write hn ⟨us.set j u, upd_same, (k2.set j rv).ext (hw _)⟩, .inl ⟨us, k, j, rfl, rfl, k1, by rw [← k2.length]; exact ej, rfl⟩⟩
    | dictK kvs =>
      obtain ⟨us, k1, k2⟩ := bx
      have k1' := s2.plain (mem_bx hn) k1
      simp only at e
      cases ek : keyOf y with
      | none => rw [ek] at e; cases e
      | some k =>
        rw [ek] at e
        simp only at e
        by_cases hl : kvs.length < LIM
        · simp only [hl, if_true] at e; cases e
          rw [key_rep ry ek]
          refine ⟨ad, .dK (L2.putK us k u), hw _, s2.write hn ⟨_, .inl upd_same, RepP.ext (hw _) (RepP.put k2 k rv)⟩, .inr ⟨rfl, DPut.k k1' (by rw [← k2.length, ← lim_eq]; exact hl)⟩⟩
        · simp only [hl, if_false] at e; cases e
    | dictT kvs =>
      obtain ⟨us, k1, k2⟩ := bx
      have k1' := s2.plain (mem_bx hn) k1
      cases y <;> simp only at e <;> try cases e
      rename_i ks
      obtain ⟨b', ws, rfl, hb, nb, rb⟩ := rep_tup ry
      cases ek : keysOf ks with
      | none => rw [ek] at e; cases e
      | some k =>
        rw [ek] at e
        simp only at e
        by_cases hl : kvs.length < LIM
        · simp only [hl, if_true] at e; cases e
          rw [keys_rep rb ek] at hb
          refine ⟨ad, .dT (L2.putK us k u), hw _, s2.write hn ⟨_, .inl upd_same, RepP.ext (hw _) (RepP.put k2 k rv)⟩, .inr ⟨rfl, DPut.t k1' hb (by rw [← k2.length, ← lim_eq]; exact hl)⟩⟩
        · simp only [hl, if_false] at e; cases e
    | inst c fs => cases e
theorem ss_setI {a k e : Expr} {a' k' e' : E} {p1 pos : Pos} (hrw : rw = true) (hu : X.A.units + 1 < cLine) (ha : SE X rw C W a a') (hk : SE X rw C W k k') (he : SE X rw C W e e') (hs : swapsWithSole [.Subscript a k p1] e pos.line X.env = pure false) (hw : swappedStores [.Subscript a k p1] e X.env = pure none)
    (has : ∀ v, assign (.Subscript a k p1) X.env v = (do
      let ov ← holding [v] (eval a X.env)
      let iv ← holding [v, ov] (eval k X.env)
      standAt p1
      holding [v, ov, iv] (setItem ov iv v)
      release [v, ov, iv] [])) (h1 : (assignEach [.Subscript a k p1] X.env).map (·.2) = [assign (.Subscript a k p1) X.env]) : SS X rw L C W (.Assign [.Subscript a k p1] e pos) (.setI a' k' e') := by
  subst hrw
  refine PS.wk (ps_asg he (pg_sub ha hk (PSet.or set_list (set_dict hu)) has) hs hw h1) fun D σ H ⟨m, S, ρ, hS, hE, h⟩ => ?_
  simp only [exS] at h
  refine ⟨m, S, ρ, hS, hE, OutS.to h hE fun v S1 m1 H1 u _ x s r h1 => ⟨m1, S1, ρ, s, hE.ext x, OutS.to h1 (hE.ext x) fun y S2 m2 H2 w _ x2 s2 r2 h2 => ⟨m2, S2, ρ, s2, (hE.ext x).ext x2, OutS.to h2 ((hE.ext x).ext x2) fun z S3 m3 H3 t _ x3 s3 r3 h3 => ?_⟩⟩⟩
  cases q : putItem S3 y z v with
  | none => rw [q] at h3; exact h3.elim
  | some S4 =>
    rw [q] at h3
    obtain ⟨p, o, xt, st, alt⟩ := putItem_rep s3 (r2.ext x3) r3 ((r.ext x2).ext x3) q
    have fin := h3 m3 _ σ xt st ((((hE.ext x).ext x2).ext x3).ext xt)
    rcases alt with ⟨xs, k, j, e1, e2, e3, e4, e5⟩ | ⟨e1, e2⟩
    · subst e5; exact .inl ⟨p, xs, k, j, e1, e2, e3, e4, fin⟩
    · exact .inr ⟨p, _, e1, e2, fin⟩
end
end HI
set_option Elab.async false
set_option linter.all false
set_option maxRecDepth 100000
namespace HI
open PySem PySem.Spec PyProof.Rows L2
section
variable {X : Cx} {C : CallT} {W : WX} {rw : Bool} {L : Nat}
def AugOk (X : Cx) (op : Operator) (o : B2) : Prop := PIp X op (fun x y H Q => ∃ i j k, x = .int i ∧ y = .int j ∧ aug2 [] o (.int i) (.int j) = some (.int k) ∧ Q (.int k) H)
theorem aug_add : AugOk X .Add .add := by
  intro pins s σ H x y v u Q I r1 r2 ⟨i, j, k, e1, e2, e3, q⟩
  simp only [aug2] at e3; cases e3
  exact ip_add pins s σ H x y v u Q I r1 r2 ⟨i, j, e1, e2, q⟩
theorem aug_sub : AugOk X .Sub .sub := by
  intro pins s σ H x y v u Q I r1 r2 ⟨i, j, k, e1, e2, e3, q⟩
  simp only [aug2] at e3; cases e3
  exact ip_sub pins s σ H x y v u Q I r1 r2 ⟨i, j, e1, e2, q⟩
theorem aug2_inv {S : Store} {o : B2} {x y z : Val} (h : aug2 S o x y = some z) : ∃ i j k, x = .int i ∧ y = .int j ∧ z = .int k ∧ aug2 [] o (.int i) (.int j) = some (.int k) := by
  unfold aug2 at h
  split at h
  · cases h; exact ⟨_, _, _, rfl, rfl, rfl, rfl⟩
  · cases h; exact ⟨_, _, _, rfl, rfl, rfl, rfl⟩
  · cases h
theorem ss_augV {x : Str} {i : Nat} {op : Operator} {o : B2} {e : Expr} {e' : E} {p1 pos : Pos} (ao : AugOk X op o) (hN : X.N.Nodup) (hi : X.N[i]? = some x) (hx : Loc X.env.scope x) (hf : X.fn x = true ∨ X.env.scope.names.lookup x = some .local) (he : SE X rw C W e e') :
    SS X rw L C W (.AugAssign (.Name x p1) op e pos) (.augV i o e') := by
  refine PS.wk (ps_aug hN hi hx he ao hf) fun D σ H ⟨m, S, ρ, hS, hE, h⟩ => ?_
  simp only [exS] at h
  cases q : ρ[i]? with
  | none => rw [q] at h; exact h.elim
  | some ov =>
    rw [q] at h
    cases ov with
    | none => exact h.elim
    | some v =>
      obtain ⟨u, h1, h2⟩ := hE.val i v q
      refine ⟨u, h1, m, S, ρ, hS, hE, OutS.to h hE fun y S1 m1 H1 w _ x1 s1 r1 k1 => ?_⟩
      cases q2 : aug2 S1 o v y with
      | none => rw [q2] at k1; exact k1.elim
      | some z =>
        rw [q2] at k1
        obtain ⟨a, b, c, rfl, rfl, rfl, e3⟩ := aug2_inv q2
        cases rep_int h2; cases rep_int r1
        exact ⟨a, b, c, rfl, rfl, e3, k1 m1 H1 _ Ext.refl s1 ((hE.ext x1).set (.int c))⟩
theorem ss_augF {a e : Expr} {a' : E} {i : Int} {f : Str} {op : Operator} {o : B2} {p1 pos : Pos} (hrw : rw = true) (ao : AugOk X op o) (hf : NoF X.K f) (ha : SE X rw C W a a') (he : PE X e (tC (.int i))) : SS X rw L C W (.AugAssign (.Attribute a f p1) op e pos) (.augF a' f o i) := by
  subst hrw
  refine PS.wk (ps_fldaug ha he ao) fun D σ H ⟨m, S, ρ, hS, hE, h⟩ => ?_
  simp only [exS] at h
  refine ⟨m, S, ρ, hS, hE, OutS.to h hE fun y S1 m1 H1 w _ x1 s1 r1 k1 => ?_⟩
  cases y <;> simp only [getFld, putFld] at k1 <;> try exact k1.elim
  rename_i n _
  obtain ⟨ad, rfl, hn⟩ := rep_loc r1
  cases q : S1[n]? with
  | none => rw [q] at k1; exact k1.elim
  | some ob =>
    rw [q] at k1
    cases ob <;> try exact k1.elim
    rename_i c fs
    simp only at k1
    obtain ⟨kc, dx, us, b1, b2⟩ := s1.atA hn q
    rcases RepP.look b2 f with ⟨e1, _⟩ | ⟨v, u, e1, e2, e3⟩
    · rw [show fldGet fs f = none from e1] at k1; exact k1.elim
    · rw [show fldGet fs f = some v from e1] at k1
      simp only at k1
      cases q2 : aug2 S1 o v (.int i) with
      | none => rw [q2] at k1; exact k1.elim
      | some z =>
        rw [q2] at k1
        obtain ⟨a, b, d, rfl, eb, rfl, e4⟩ := aug2_inv q2
        cases eb
        cases rep_int e3
        simp only at k1
        by_cases hl : fs.length < 1000
        · simp only [hl, if_true] at k1
          have hw := Ext.write (H := H1) (o := .ins (He.ga X.K c) dx (L2.putF f (.int d) us)) (mem_bx hn) (fun z => s1.phb ad z (mem_bx hn))
          exact ⟨ad, _, dx, us, .int a, rfl, b1, kc.cl, hf c kc, e2, a, i, d, rfl, rfl, e4, dx, us, b1, by rw [← b2.length]; exact hl, k1 m1 _ σ hw (s1.write hn ⟨kc, dx, _, upd_same, RepP.ext hw (RepP.putF b2 f (.int d))⟩) ((hE.ext x1).ext hw)⟩
        · simp only [hl, if_false] at k1; exact k1.elim
theorem get_dict (hu : X.A.units + 1 < cLine) : PGet X (fun o i H Q => ∃ a v, o = .ref a ∧ DGet H a i (some v) ∧ Q v H) := by
  intro pins s σ H o i ov iv Q I ro ri ⟨a, v, e, g, q⟩
  subst e; cases ro
  exact d_getItem hu I g ri fun w' s' I' r => ⟨v, H, I', r, q⟩
theorem get_both (hu : X.A.units + 1 < cLine) : PGet X (fun o i H Q => ∃ a v, o = .ref a ∧ (DGet H a i (some v) ∨ ∃ xs k, i = .int k ∧ H a = some (.lst xs) ∧ L2.atI xs k = some v) ∧ Q v H) := by
  intro pins s σ H o i ov iv Q I ro ri ⟨a, v, e, g, q⟩
  rcases g with g | ⟨xs, k, rfl, hl, he⟩
  · exact get_dict hu pins s σ H o i ov iv Q I ro ri ⟨a, v, e, g, q⟩
  · subst e; cases ro
    obtain ⟨t, rfl⟩ := ri
    obtain ⟨its, r, pl, hz⟩ := I.list (SqL.of hl)
    obtain ⟨j, h1, h2, h3, h4, h5⟩ := atI_get he
    obtain ⟨w, ew, rw'⟩ := r.get h2
    have hlen := r.length
    have hn := line63
    by_cases h0 : 0 ≤ k
    · have hj : k.toNat = j := by rw [seqIndex_of h0 h5] at h1; exact Option.some.inj h1
      exact wpAny_getItem_list pl.isList h0 (by omega) (by rw [hj]; simpa using ew) ⟨v, H, I, rw', q⟩
    · have hj : (k + (its.toArray.size : Int)).toNat = j := by
        rw [seqIndex_neg (by omega) h4] at h1
        rw [List.size_toArray, ← hlen]; exact Option.some.inj h1
      exact wpAny_getItem_list_neg pl.isList (by omega) (by rw [List.size_toArray] <;> omega) (by omega) (by rw [hj]; simpa using ew) ⟨v, H, I, rw', q⟩
theorem ss_augI {a k e : Expr} {a' k' e' : E} {op : Operator} {o : B2} {p1 pos : Pos} (hrw : rw = true) (hu : X.A.units + 1 < cLine) (ao : AugOk X op o) (ha : SE X rw C W a a') (hk : SE X rw C W k k') (he : SE X rw C W e e')
    (hst : ∀ ov iv new, augStore k ov iv new = (do holding [new, ov, iv] (setItem ov iv new); release [new, ov, iv] []; pure .next)) : SS X rw L C W (.AugAssign (.Subscript a k p1) op e pos) (.augI a' k' o e') := by
  subst hrw
  refine PS.wk (ps_augS ha hk (get_both hu) he ao (PSet.or set_list (set_dict hu)) hst) fun D σ H ⟨m, S, ρ, hS, hE, h⟩ => ?_
  simp only [exS] at h
  refine ⟨m, S, ρ, hS, hE, OutS.to h hE fun y S1 m1 H1 w ea x1 s1 r1 k1 => ⟨m1, S1, ρ, s1, hE.ext x1, OutS.to k1 (hE.ext x1) fun z S2 m2 H2 t eb x2 s2 r2 k2 => ?_⟩⟩
  clear ea eb h
  cases q : askD S2 y z with
  | none => rw [q] at k2; exact k2.elim
  | some u0 =>
    rw [q] at k2
    simp only at k2
    clear k1
    cases y <;> simp only [askD] at q <;> try cases q
    · rename_i n
      obtain ⟨ad, rfl, hn⟩ := rep_loc (r1.ext x2)
      have hget : ∃ u', (DGet H2 ad t (some u') ∨ ∃ xs k, t = .int k ∧ H2 ad = some (.lst xs) ∧ L2.atI xs k = some u') ∧ Rep X.K m2 H2 u0 u' := by
        cases q3 : S2[n]? with
        | none => rw [q3] at q; cases q
        | some ob =>
          rw [q3] at q
          cases ob with
          | list vs =>
            simp only at q
            clear k2
            cases z <;> simp only [atV] at q <;> try cases q
            rename_i kz
            cases rep_int r2
            obtain ⟨us, b1, b2⟩ := s2.atA hn q3
            obtain ⟨j, h1, h2, h3, h4, h5⟩ := atI_get q
            obtain ⟨w', ew, rw'⟩ := b2.get h2
            refine ⟨w', .inr ⟨us, kz, rfl, b1, ?_⟩, rw'⟩
            show (ixN us.length kz).bind _ = _
            have q' : (ixN vs.length kz).bind (fun j => vs[j]?) = some u0 := q
            rw [← b2.length]
            cases e0 : ixN vs.length kz with
            | none => rw [e0] at q'; cases q'
            | some j' =>
              have hs := (ixN_seq e0).1
              rw [h1] at hs; cases hs
              simpa using ew
          | dictK kvs =>
            have e2 : dAsk S2 n z = some (some u0) := by
              unfold dAsk
              rw [q3]
              simp only at q ⊢
              cases e1 : keyOf z with
              | none => rw [e1] at q; cases q
              | some k => rw [e1] at q; simp only at q ⊢; rw [q]
            obtain ⟨ov, g, ho⟩ := dget_rep s2 hn r2 e2
            rcases ho with ⟨h1, h2⟩ | ⟨v, u', h1, h2, h3⟩
            · cases h1
            · cases h1; subst h2; exact ⟨u', .inl g, h3⟩
          | dictT kvs =>
            have e2 : dAsk S2 n z = some (some u0) := by
              unfold dAsk
              rw [q3]
              simp only at q ⊢
              clear k2 r2
              cases z <;> simp only at q <;> try cases q
              rename_i ks
              simp only
              cases e1 : keysOf ks with
              | none => rw [e1] at q; cases q
              | some k => rw [e1] at q; simp only at q ⊢; rw [q]
            obtain ⟨ov, g, ho⟩ := dget_rep s2 hn r2 e2
            rcases ho with ⟨h1, h2⟩ | ⟨v, u', h1, h2, h3⟩
            · cases h1
            · cases h1; subst h2; exact ⟨u', .inl g, h3⟩
          | _ => cases q
      obtain ⟨u', g, h3⟩ := hget
      refine ⟨ad, u', rfl, g, m2, S2, ρ, s2, (hE.ext x1).ext x2, OutS.to k2 ((hE.ext x1).ext x2) fun yy S3 m3 H3 t3 _ x3 s3 r3 k3 => ?_⟩
      cases q4 : aug2 S3 o u0 yy with
      | none => rw [q4] at k3; exact k3.elim
      | some zz =>
        rw [q4] at k3
        simp only at k3
        obtain ⟨a, b, d, rfl, rfl, rfl, e4⟩ := aug2_inv q4
        cases rep_int h3; cases rep_int r3
        refine ⟨a, b, d, rfl, rfl, e4, ?_⟩
        cases q5 : putItem S3 (.loc n) z (.int d) with
        | none => rw [q5] at k3; exact k3.elim
        | some S4 =>
          rw [q5] at k3
          obtain ⟨p, o, xt, st, alt⟩ := putItem_rep s3 ((r1.ext x2).ext x3) (r2.ext x3) (.int d) q5
          have fin := k3 m3 _ σ xt st ((((hE.ext x1).ext x2).ext x3).ext xt)
          rcases alt with ⟨xs, k, j, e1, e2, e3, e4, e5⟩ | ⟨e1, e2⟩
          · subst e5; exact .inl ⟨p, xs, k, j, e1, e2, e3, e4, fin⟩
          · exact .inr ⟨p, _, e1, e2, fin⟩
theorem isLB_inv {S : Store} {x : Val} (h : isLB S x = true) : ∃ n vs, x = .loc n ∧ S[n]? = some (.list vs) := by
  cases x <;> simp only [isLB, Bool.false_eq_true] at h
  rename_i n
  cases q : S[n]? with
  | none => rw [q] at h; cases h
  | some ob => rw [q] at h; cases ob <;> first | exact ⟨n, _, rfl, q⟩ | cases h
theorem addL_inv {S S' : Store} {n : Nat} {us : List Val} (h : addL S (.loc n) us = some S') : ∃ vs, S[n]? = some (.list vs) ∧ vs.length + us.length ≤ LIM ∧ S' = S.set n (.list (vs ++ us)) := by
  simp only [addL] at h
  cases q : S[n]? with
  | none => rw [q] at h; cases h
  | some ob =>
    rw [q] at h
    cases ob <;> try cases h
    rename_i vs
    simp only at h
    split at h
    · cases h; exact ⟨vs, rfl, by assumption, rfl⟩
    · cases h
theorem ss_append {a e : Expr} {a' e' : E} {apos cpos pos : Pos} (hrw : rw = true) (hb : notCall0 a = true) (ns : notStarred e = true) (hline : (apos.endLine == cpos.line) = true) (ha : SE X rw C W a a') (he : SE X rw C W e e') :
    SS X rw L C W (.Expr (.Call (.Attribute a "append" apos) [e] [] cpos) pos) (.append a' e') := by
  subst hrw
  refine PS.wk (ps_expr (pe_bm PySem.F.plainAttrs_list PySem.F.slot_list_append PySem.F.type_list_append mt_append ha (pa_cons he pa_nil (noStar_of ns _ _)) (noSuper_of hb _ _) (form_of (es := [e]) (by simp [ns]) (by simp) _ _) hline (noStar_of ns _ _) (backTo_nil _ _)) rfl) fun D σ H ⟨m, S, ρ, hS, hE, h⟩ => ?_
  simp only [exS] at h
  refine ⟨m, S, ρ, hS, hE, OutS.to h hE fun y S1 m1 H1 w e1 x1 s1 r1 k1 => ?_⟩
  by_cases hl : isLB S1 y = true
  · simp only [hl, if_true] at k1
    obtain ⟨n, vs, rfl, q⟩ := isLB_inv hl
    obtain ⟨ad, rfl, hn⟩ := rep_loc r1
    obtain ⟨us, b1, b2⟩ := s1.atA hn q
    refine ⟨.inl ⟨rfl, us, SqL.of b1⟩, m1, S1, ρ, s1, hE.ext x1, OutS.to k1 (hE.ext x1) fun v S2 m2 H2 t _ x2 s2 r2 k2 => ?_⟩
    cases q2 : addL S2 (.loc n) [v] with
    | none => rw [q2] at k2; exact k2.elim
    | some S3 =>
      rw [q2] at k2
      obtain ⟨ws, c1, c2, c3⟩ := addL_inv q2
      obtain ⟨us2, b3, b4⟩ := s2.atA (x2.get hn) c1
      have hw := Ext.write (H := H2) (o := .lst (us2 ++ [t])) (mem_bx (x2.get hn)) (fun z => s2.phb ad z (mem_bx (x2.get hn)))
      refine ⟨ad, us2, t, rfl, rfl, b3, ?_, k2 m2 _ σ hw ?_ (((hE.ext x1).ext x2).ext hw)⟩
      · rw [← b4.length, ← lim_eq]; simp at c2; omega
      · rw [c3]; exact s2.write (x2.get hn) ⟨_, upd_same, (b4.append (.cons r2 .nil)).ext hw⟩
  · simp only [hl, if_false] at k1; exact k1.elim
theorem ss_extend {a e : Expr} {a' e' : E} {apos cpos pos : Pos} (hrw : rw = true) (hb : notCall0 a = true) (ns : notStarred e = true) (hline : (apos.endLine == cpos.line) = true) (ha : SE X rw C W a a') (he : SE X rw C W e e') :
    SS X rw L C W (.Expr (.Call (.Attribute a "extend" apos) [e] [] cpos) pos) (.extend a' e') := by
  subst hrw
  refine PS.wk (ps_expr (pe_bm PySem.F.plainAttrs_list PySem.F.slot_list_extend PySem.F.type_list_extend mt_extend ha (pa_cons he pa_nil (noStar_of ns _ _)) (noSuper_of hb _ _) (form_of (es := [e]) (by simp [ns]) (by simp) _ _) hline (noStar_of ns _ _) (backTo_nil _ _)) rfl) fun D σ H ⟨m, S, ρ, hS, hE, h⟩ => ?_
  simp only [exS] at h
  refine ⟨m, S, ρ, hS, hE, OutS.to h hE fun y S1 m1 H1 w e1 x1 s1 r1 k1 => ?_⟩
  by_cases hl : isLB S1 y = true
  · simp only [hl, if_true] at k1
    obtain ⟨n, vs, rfl, q⟩ := isLB_inv hl
    obtain ⟨ad, rfl, hn⟩ := rep_loc r1
    obtain ⟨us, b1, b2⟩ := s1.atA hn q
    refine ⟨.inl ⟨rfl, us, SqL.of b1⟩, m1, S1, ρ, s1, hE.ext x1, OutS.to k1 (hE.ext x1) fun v S2 m2 H2 t _ x2 s2 r2 k2 => ?_⟩
    cases q1 : unl S2 v <;> (rw [q1] at k2; try exact k2.elim)
    rename_i zs
    obtain ⟨b, ts, rfl, d1, d2⟩ := unl_lst s2 r2 q1
    simp only at k2
    cases q2 : addL S2 (.loc n) zs with
    | none => rw [q2] at k2; exact k2.elim
    | some S3 =>
      rw [q2] at k2
      obtain ⟨ws, c1, c2, c3⟩ := addL_inv q2
      obtain ⟨us2, b3, b4⟩ := s2.atA (x2.get hn) c1
      have hw := Ext.write (H := H2) (o := .lst (us2 ++ ts)) (mem_bx (x2.get hn)) (fun z => s2.phb ad z (mem_bx (x2.get hn)))
      refine ⟨ad, b, us2, ts, rfl, rfl, b3, d1, ?_, k2 m2 _ σ hw ?_ (((hE.ext x1).ext x2).ext hw)⟩
      · rw [← b4.length, ← d2.length, ← lim_eq]; exact c2
      · rw [c3]; exact s2.write (x2.get hn) ⟨_, upd_same, (b4.append d2).ext hw⟩
  · simp only [hl, if_false] at k1; exact k1.elim
end
end HI
set_option Elab.async false
set_option linter.all false
set_option maxRecDepth 100000
namespace HI
open PySem PySem.Spec PyProof.Rows L2
section
variable {X : Cx} {C : CallT} {W : WX} {rw : Bool} {L : Nat}
theorem for_reads {tg : Tg} {it : It} {b : List S} {D : Ends} {σ : L2.St} {H : Hp} (h : rdS X.K rw L C W (.forS tg it b) D σ H) : tFor (rdI X.K rw C W it) (rdG X.K rw tg) (rdB X.K rw L C W b) D σ H := by
  obtain ⟨m, S, ρ, hS, hE, h⟩ := h
  simp only [exS] at h
  refine ⟨m, S, ρ, hS, hE, OutS.to h hE fun p S1 m1 H1 J _ x1 s1 hJ k1 => ?_⟩
  obtain ⟨xs, src⟩ := p
  simp only at k1
  refine ⟨fun i k σ H => k = xs.length - i ∧ i ≤ xs.length ∧ ∃ m S ρ, Ext rw m1 H1 m H ∧ SRel X.K rw m H S ∧ ERel X.K m H ρ σ ∧ OutS X.K rw m1 H1 W (forGo src tg (fun ρ' S' => exs L C b ρ' S') (xs.drop i) ρ S) D,
    ⟨xs.length, by simp, Nat.zero_le _, m1, S1, ρ, Ext.refl, s1, hE.ext x1, k1⟩, ?_⟩
  rintro i k σ H ⟨rfl, hi, m, S, ρ, x, hS, hE, h⟩
  have st : still src S := by
    apply Classical.byContradiction
    intro hn
    cases q : xs.drop i <;> (rw [q] at h; simp only [forGo, guardS, hn, if_false] at h; exact h)
  obtain ⟨j1, j2⟩ := hJ m H S x hS st i
  by_cases hl : i < xs.length
  · right
    obtain ⟨v, hv⟩ : ∃ v, xs[i]? = some v := ⟨xs[i], List.getElem?_eq_getElem hl⟩
    obtain ⟨jg, jy⟩ := j2 v hv
    have ed : xs.drop i = v :: xs.drop (i + 1) := by
      rw [List.drop_eq_getElem_cons hl]
      congr 1
      exact (List.getElem?_eq_some_iff.mp hv).2
    rw [ed] at h
    simp only [forGo, guardS_pos st] at h
    refine ⟨jg, fun σ' H' => i + 1 ≤ xs.length ∧ ∃ m S ρ, Ext rw m1 H1 m H' ∧ SRel X.K rw m H' S ∧ ERel X.K m H' ρ σ' ∧ OutS X.K rw m1 H1 W (forGo src tg (fun ρ' S' => exs L C b ρ' S') (xs.drop (i + 1)) ρ S) D, fun σ' H' ⟨q1, q2⟩ => ⟨xs.length - (i + 1), by omega, rfl, q1, q2⟩, fun y H' hy => ?_⟩
    obtain ⟨x2, s2, r2⟩ := jy y H' hy
    cases ea : asgT tg v ρ with
    | none => rw [ea] at h; exact h.elim
    | some ρ' =>
      rw [ea] at h
      simp only at h
      refine ⟨m, S, ρ, v, s2, hE.ext x2, r2, ρ', ea, fun σ2 hE2 _ => ⟨m, S, ρ', s2, hE2, ?_⟩⟩
      have xx := x.trans x2
      cases q : exs L C b ρ' S with
      | next ρ3 S3 =>
        rw [q] at h
        exact fun m3 H3 σ3 x3 s3 e3 => ⟨hl, m3, S3, ρ3, xx.trans x3, s3, e3, h⟩
      | ret w S3 => rw [q] at h; exact fun m3 H3 u3 x3 s3 r3 => h m3 H3 u3 (xx.trans x3) s3 r3
      | brk ρ3 S3 => rw [q] at h; exact fun m3 H3 σ3 x3 s3 e3 => h m3 H3 σ3 (xx.trans x3) s3 e3
      | exc c ρ3 S3 => rw [q] at h; exact fun kx m3 H3 σ3 x3 s3 e3 => h kx m3 H3 σ3 (xx.trans x3) s3 e3
      | stuck => rw [q] at h; exact h
  · left
    have ei : i = xs.length := by omega
    subst ei
    refine ⟨j1 (Nat.le_refl _), ?_⟩
    rw [List.drop_length] at h
    simp only [forGo, guardS_pos st] at h
    exact h m H σ x hS hE
theorem ss_for {tg iter : Expr} {body : List Stmt} {tg' : Tg} {it : It} {b : List S} {pos : Pos} (hp : PassesOwn (model X.prog X.w) X.A X.env X.xe) (hc : X.calm = true) (hi : SI X rw C W tg iter it) (hg : PG X tg (rdG X.K rw tg')) (hb : SB X rw L C W body b)
    (hs : ∀ x, foldedSetIterable iter X.env x = pure x) : SS X rw L C W (.For tg iter body [] pos) (.forS tg' it b) :=
  PS.wk (ps_for hp hc hi hg hb hs) fun D σ H h => for_reads h
theorem ss_while {c : Expr} {body : List Stmt} {c' : E} {b : List S} {pos : Pos} (hp : PassesOwn (model X.prog X.w) X.A X.env X.xe) (hc : ST X rw C W c c') (hb : SB X rw L C W body b) : SS X rw L C W (.While c body [] pos) (.whileS c' b) := by
  refine PS.wk (ps_while hp hc hb) fun D σ H ⟨m1, S1, ρ1, hS1, hE1, h1⟩ => ?_
  simp only [exS] at h1
  refine ⟨fun k σ H' => ∃ m S ρ, Ext rw m1 H m H' ∧ SRel X.K rw m H' S ∧ ERel X.K m H' ρ σ ∧ OutS X.K rw m1 H W (whileGo (fun ρ' S' => evT C c' ρ' S') (fun ρ' S' => exs L C b ρ' S') k ρ S) D, ⟨L, m1, S1, ρ1, Ext.refl, hS1, hE1, h1⟩, ?_⟩
  rintro k σ H' ⟨m, S, ρ, x, hS, hE, h⟩
  cases k with
  | zero => exact h.elim
  | succ k =>
    simp only [whileGo] at h
    refine ⟨m, S, ρ, hS, hE, OutS.to (h.ext x) hE fun t S2 m2 H2 u e2 x2 s2 r2 k2 => ?_⟩
    rw [e2] at h
    subst r2
    cases t with
    | false => exact k2 m2 H2 σ Ext.refl s2 (hE.ext x2)
    | true =>
      simp only [Res.to_ok, if_true] at h
      refine ⟨fun σ' H' => ∃ m S ρ, Ext rw m1 H m H' ∧ SRel X.K rw m H' S ∧ ERel X.K m H' ρ σ' ∧ OutS X.K rw m1 H W (whileGo (fun ρ' S' => evT C c' ρ' S') (fun ρ' S' => exs L C b ρ' S') k ρ S) D, fun σ' H' q => ⟨k, Nat.lt_succ_self _, q⟩, m2, S2, ρ, s2, hE.ext x2, ?_⟩
      have xx := x.trans x2
      cases q : exs L C b ρ S2 with
      | next ρ3 S3 =>
        rw [q] at h
        exact fun m3 H3 σ3 x3 s3 e3 => ⟨m3, S3, ρ3, xx.trans x3, s3, e3, h⟩
      | ret w S3 => rw [q] at h; exact fun m3 H3 u3 x3 s3 r3 => h m3 H3 u3 (xx.trans x3) s3 r3
      | brk ρ3 S3 => rw [q] at h; exact fun m3 H3 σ3 x3 s3 e3 => h m3 H3 σ3 (xx.trans x3) s3 e3
      | exc c ρ3 S3 => rw [q] at h; exact fun kx m3 H3 σ3 x3 s3 e3 => h kx m3 H3 σ3 (xx.trans x3) s3 e3
      | stuck => rw [q] at h; exact h
structure ExcOk (X : Cx) (c : Str) : Prop where
  kx : KExc X.K c
  mg : X.mg c = some (.ref (He.ga X.K c))
  ex : PySem.W.excIn X.K (He.ga X.K c) He.veBase "ValueError.__new__" = true
  kp : PySem.W.keepIn X.K (.ref (He.ga X.K c)) = true
  sb : PySem.W.subIn X.K (.ref (He.ga X.K c)) (.type "BaseException") = some true
  ty : PySem.W.typeIn X.K (.ref (He.ga X.K c)) = some (.type "type")
theorem ss_raise {c msg : Str} {j : Nat} {p p2 p3 pos : Pos} (hc : X.calm = true) (tk : Takes X W) (k : ExcOk X c) (hg : Gl X c) (hdb : (c == ("__debug__" : Str)) = false) : SS X rw L C W (.Raise (some (.Call (.Name c p) [.Constant (.str msg) j p2] [] p3)) none pos) (.raise c) := by
  refine PS.wk (ps_raise hc tk (pmk_own PySem.F.excBase_ValueError k.ex k.mg k.kp (raises_own k.sb k.ty) hg hdb)) fun D σ H ⟨m, S, ρ, hS, hE, h⟩ => ?_
  simp only [exS] at h
  exact h k.kx m H σ Ext.refl hS hE
inductive HsOk (X : Cx) (rw : Bool) (L : Nat) (C : CallT) : List ExceptHandler → List Str → List (List S) → Prop
  | nil : HsOk X rw L C [] [] []
  | cons {h : String} {b0 : Stmt} {suite : List Stmt} {np pos : Pos} {hds : List ExceptHandler} {s0 : List S} {hs : List Str} {bs : List (List S)} (hm : h ∈ EXC) (k : (He.Fa.glo (Str.ofString h)).ok X.K = true) (hn : Names X (Str.ofString h) (.ref (He.ga X.K (Str.ofString h))))
      (hsu : ∀ (a : Addr) (oe : PySem.Obj) (cls : Value) (d : Option Addr) (pn : List (Addr × PySem.Obj)), Zc cls d oe → (∃ vs, oe.data = .fields vs) → SB (X.suite a ((a, oe) :: pn)) rw L C WF (b0 :: suite) s0) (r : HsOk X rw L C hds hs bs) :
      HsOk X rw L C (.ExceptHandler (some (.Name (Str.ofString h) np)) none (b0 :: suite) pos :: hds) (Str.ofString h :: hs) (s0 :: bs)
theorem HsOk.hds {l : List ExceptHandler} {hs : List Str} {bs : List (List S)} (h : HsOk X rw L C l hs bs) : ∃ ts, HdsOk X l ts ∧ ∀ (D : Ends) (c : Str) (m : MM) (H : Hp) (S : Store) (ρ : Env) (σ : L2.St), KExc X.K c → SRel X.K rw m H S → ERel X.K m H ρ σ → OutS X.K rw m H W (exH L C hs bs c ρ S) D → wMany X.K W D ts (.ref (He.ga X.K c)) none σ H := by
  induction h with
  | nil => exact ⟨[], .nil, fun D c m H S ρ σ kx hS hE h => by simp only [exH] at h; exact h kx m H σ Ext.refl hS hE⟩
  | @cons h b0 suite np pos hds s0 hs bs hm k hn hsu r ih =>
    obtain ⟨ts, t1, t2⟩ := ih
    refine ⟨(.ref (He.ga X.K (Str.ofString h)), fun a cls d => rdB X.K rw L C WF s0) :: ts, .cons hn hsu t1, fun D c m H S ρ σ kx hS hE ho => ?_⟩
    simp only [exH] at ho
    refine ⟨catches c (Str.ofString h), kx.exm h hm k, fun e a ha => ?_, fun e => ?_⟩
    · rw [e] at ho
      simp only [if_true] at ho
      refine ⟨m, S, ρ, hS, hE, ?_⟩
      cases q : exs L C s0 ρ S <;> (rw [q] at ho; first | exact ho | exact ho.elim)
    · rw [e] at ho
      exact t2 D c m H S ρ σ kx hS hE ho
theorem ss_try {body : List Stmt} {h0 : ExceptHandler} {hds : List ExceptHandler} {b : List S} {hs : List Str} {bs : List (List S)} {pos : Pos} (hst : X.stack = X.env :: X.outer) (hf : X.env.frame = some X.env.locals) (tk : Takes X W)
    (hb : ∀ (W : WX) (pn : List (Addr × PySem.Obj)) (xe : Value → Shared → Prop), Takes (X.tr pn xe) W → PassesOwn (model X.prog X.w) X.A X.env xe → SB (X.tr pn xe) rw L C W body b) (hh : HsOk X rw L C (h0 :: hds) hs bs) : SS X rw L C W (.Try body (h0 :: hds) [] [] pos) (.tryS b hs bs) := by
  obtain ⟨ts, t1, t2⟩ := hh.hds (W := W)
  refine PS.wk (ps_try_many (tb := fun W => rdB X.K rw L C W b) hst hf tk hb t1) fun D σ H ⟨m, S, ρ, hS, hE, h⟩ => ?_
  simp only [exS] at h
  refine ⟨m, S, ρ, hS, hE, ?_⟩
  cases q : exs L C b ρ S with
  | next ρ3 S3 => rw [q] at h; exact h
  | ret w S3 => rw [q] at h; exact h
  | brk ρ3 S3 => rw [q] at h; exact h
  | stuck => rw [q] at h; exact h
  | exc c ρ3 S3 =>
    rw [q] at h
    exact fun kx m3 H3 σ3 x3 s3 e3 => t2 D c m3 H3 S3 ρ3 σ3 kx s3 e3 (OutS.ext (r := exH L C hs bs c ρ3 S3) h x3)
end
end HI
set_option Elab.async false
set_option linter.all false
set_option maxRecDepth 100000
namespace HI
open PySem PySem.Spec PyProof.Rows L2
section
variable {K : PySem.W.Frag} {rw : Bool} {m m' : MM} {H H' : Hp} {S S' : Store}
mutual
theorem rep_below : ∀ {v : Val} {u : V}, Rep K m H v u → below m.bx.length v = true
  | _, _, .non => rfl
  | _, _, .bool _ => rfl
  | _, _, .int _ => rfl
  | _, _, .str _ => rfl
  | _, _, .tup _ _ r => by simp only [below]; exact reps_below r
  | _, _, .lst _ _ r => by simp only [below]; exact reps_below r
  | _, _, .scr _ _ => rfl
  | _, _, .scrK _ => rfl
  | _, _, .loc (n := n) (a := a) h => by
    simp only [below, decide_eq_true_eq]
    exact (List.getElem?_eq_some_iff.mp (show m.bx[n]? = some a from h)).1
theorem reps_below : ∀ {vs : List Val} {us : List V}, Reps K m H vs us → belows m.bx.length vs = true
  | _, _, .nil => rfl
  | _, _, .cons r t => by simp only [belows, Bool.and_eq_true]; exact ⟨rep_below r, reps_below t⟩
end
structure Cut (m m' : MM) : Prop where
  bx : ∃ ms, m'.bx = m.bx ++ ms
  ph : ∀ a ∈ m.ph, a ∈ m'.ph
theorem Cut.sub (c : Cut m m') {a : Addr} (h : a ∉ m') : a ∉ m := by
  rintro (z | z)
  · obtain ⟨ms, e⟩ := c.bx
    exact h (.inl (by rw [e]; exact List.mem_append_left _ z))
  · exact h (.inr (c.ph a z))
mutual
theorem Rep.cut (c : Cut m m') : ∀ {v : Val} {u : V}, Rep K m' H v u → below m.bx.length v = true → Rep K m H v u
  | _, _, .non, _ => .non
  | _, _, .bool b, _ => .bool b
  | _, _, .int b, _ => .int b
  | _, _, .str b, _ => .str b
  | _, _, .tup h n r, hb => .tup h (c.sub n) (Reps.cut c r (by simpa only [below] using hb))
  | _, _, .lst h n r, hb => .lst h (c.sub n) (Reps.cut c r (by simpa only [below] using hb))
  | _, _, .scr h n, _ => .scr h (c.sub n)
  | _, _, .scrK h, _ => .scrK h
  | _, _, .loc (n := n) (a := a) h, hb => .loc (by
    simp only [below, decide_eq_true_eq] at hb
    obtain ⟨ms, e⟩ := c.bx
    have h' : m'.bx[n]? = some a := h
    rw [e, List.getElem?_append_left hb] at h'
    exact h')
theorem Reps.cut (c : Cut m m') : ∀ {vs : List Val} {us : List V}, Reps K m' H vs us → belows m.bx.length vs = true → Reps K m H vs us
  | _, _, .nil, _ => .nil
  | _, _, .cons r t, hb => by
    simp only [belows, Bool.and_eq_true] at hb
    exact .cons (Rep.cut c r hb.1) (Reps.cut c t hb.2)
end
theorem RepP.cut {κ : Type} (c : Cut m m') {l : List (κ × Val)} {r : List (κ × V)} (h : RepP K m' H' l r) {r0 : List (κ × V)} (h0 : RepP K m H l r0) : RepP K m H' l r := by
  induction h generalizing r0 with
  | nil => exact .nil
  | cons q t ih => cases h0 with | cons q0 t0 => exact .cons ⟨q.1, q.2.cut c (rep_below q0.2)⟩ (ih t0)
theorem Ext.cutM (x : Ext rw m H m' H') : Cut m m' := by
  obtain ⟨ms, ps, rfl, _, _⟩ := x.more
  exact ⟨⟨ms, rfl⟩, fun a h => List.mem_append_right _ h⟩
theorem Ext.back (x : Ext rw m H m' H') : Ext rw m H m H' := ⟨⟨[], [], m.same, by simp, by simp⟩, x.keep, x.there, x.kph⟩
theorem SRel.cut (x : Ext rw m H m' H') (h : SRel K rw m H S) (h' : SRel K rw m' H' S') (e : S'.take S.length = S) : SRel K rw m H' S := by
  have c := x.cutM
  refine ⟨h.len, h.nd, fun n a o e1 e2 => ?_, fun hr a ha => ?_, fun a ha => x.there a (h.phs a ha), h.phb, fun a ha xs z => by
    cases q : H a with
    | none => have := h.phs a ha; rw [q] at this; cases this
    | some o =>
      rw [x.kph a ha o q] at z; cases z
      exact h.pht a ha xs q⟩
  · have hl : n < S.length := (List.getElem?_eq_some_iff.mp e2).1
    have e3 : S'[n]? = some o := by
      have q : (S'.take S.length)[n]? = some o := by rw [e]; exact e2
      rw [List.getElem?_take, if_pos hl] at q
      exact q
    have e4 : m'[n]? = some a := x.get e1
    have b' := h'.box n a o e4 e3
    have b := h.box n a o e1 e2
    cases o with
    | list vs =>
      obtain ⟨xs, h1, h2⟩ := b'
      obtain ⟨xs0, _, h3⟩ := b
      exact ⟨xs, h1, h2.cut c (reps_below h3)⟩
    | dictK vs =>
      obtain ⟨xs, h1, h2⟩ := b'
      obtain ⟨xs0, _, h3⟩ := b
      exact ⟨xs, h1, RepP.cut c h2 h3⟩
    | dictT vs =>
      obtain ⟨xs, h1, h2⟩ := b'
      obtain ⟨xs0, _, h3⟩ := b
      exact ⟨xs, h1, RepP.cut c h2 h3⟩
    | inst cc vs =>
      obtain ⟨kc, dx, xs, h1, h2⟩ := b'
      obtain ⟨_, dx0, xs0, _, h3⟩ := b
      exact ⟨kc, dx, xs, h1, RepP.cut c h2 h3⟩
  · obtain ⟨ms, e⟩ := c.bx
    exact h'.nof hr a (by rw [e]; exact List.mem_append_left _ ha)
theorem unbox_rep (x : Ext rw m H m' H') (h : SRel K rw m H S) (h' : SRel K rw m' H' S') {v w : Val} {u : V} (r : Rep K m' H' v u) (e : unbox S.length S' v = some w) : Rep K m H' w u := by
  have c := x.cutM
  rw [← h.len] at e
  have other : ∀ v, (if below m.bx.length v = true then some v else none) = some w → Rep K m' H' v u → Rep K m H' w u := by
    intro v e r
    split at e
    · cases e; exact r.cut c (by assumption)
    · cases e
  cases v with
  | loc n =>
    simp only [unbox] at e
    split at e
    · rename_i hl
      cases e
      exact r.cut c (by simp only [below, decide_eq_true_eq]; exact hl)
    · rename_i hl
      obtain ⟨a, rfl, ha⟩ := rep_loc r
      cases q : S'[n]? with
      | none => rw [q] at e; cases e
      | some ob =>
        rw [q] at e
        cases ob <;> try cases e
        rename_i vs
        simp only at e
        split at e
        · rename_i hb
          cases e
          obtain ⟨us, h1, h2⟩ := h'.atA ha q
          refine .lst h1 ?_ (h2.cut c hb)
          rintro (z | z)
          · obtain ⟨j, hj⟩ := List.getElem?_of_mem z
            have hj' : m'.bx[j]? = some a := x.get (show m[j]? = some a from hj)
            obtain ⟨a1, a2⟩ := List.getElem?_eq_some_iff.mp hj'
            obtain ⟨b1, b2⟩ := List.getElem?_eq_some_iff.mp (show m'.bx[n]? = some a from ha)
            have ej : j = n := (List.getElem_inj h'.nd).mp (a2.trans b2.symm)
            have hl' := (List.getElem?_eq_some_iff.mp hj).1
            omega
          · exact h'.phb a (c.ph a z) (mem_bx ha)
        · cases e
  | _ => exact other _ (by simpa only [unbox] using e) r
end
section
variable {P : Program} {w : World} {K : PySem.W.Frag} {mg : Str → Option Value} {base : Heap} {C C' : CallT} {rw : Bool} {L : Nat}
structure CxOk (X : Cx) (W : WX) (k : Nat) : Prop where
  room : Room k X.A
  calm : X.calm = true
  tk : Takes X W
  own : PassesOwn (model X.prog X.w) X.A X.env X.xe
  stk : X.stack = X.env :: X.outer
  frm : X.env.frame = some X.env.locals
theorem fn_sound {x qual key : Str} {params : Arguments} {body : List Stmt} {scope : Scope} {f : Addr} {fd : FuncData} {N ps : List Str} {k : Nat} {fn : Fn} (F : FunD K x qual params body scope [] [] f fd) (Sc : FnScope N ps scope)
    (hnp : fn.np = ps.length) (hns : fn.ns = N.length) (hC : ∀ avs S, C' key avs S = runFn L C fn avs S)
    (hb : ∀ (X : Cx) (W : WX), X.prog = P → X.w = w → X.K = K → X.mg = mg → X.base = base → X.N = N → X.env.scope = scope → X.fn = (fun _ => true) → CxOk X W k → SB X rw L C W body fn.body) :
    FnOk P w K mg base (L2.CX P w) (k + 1) f fd ps (spC K rw C' key) := by
  have hlen : ∀ vs H Q E, spC K rw C' key vs H Q E → vs.length = ps.length := by
    rintro vs H Q E ⟨m, S, avs, hS, hr, h⟩
    rw [hC] at h
    unfold runFn at h
    split at h
    · rename_i e
      rw [← hr.length, e, hnp]
    · exact h.elim
  refine F.ok Sc hlen fun cdv A outer s H vs Q E hr hsp => ?_
  have hvl := hlen _ _ _ _ hsp
  obtain ⟨m, S, avs, hS, hv, h⟩ := hsp
  rw [hC] at h
  unfold runFn at h
  have hal : avs.length = fn.np := by rw [hv.length, hvl, hnp]
  rw [if_pos hal] at h
  let X := cxOf (L2.CX P w) P w K mg base N qual scope f cdv A outer s H E
  have tk : Takes X (fun cls d _ H => E cls d H) := takes_of rfl rfl rfl rfl
  refine ⟨rdB K rw L C (fun cls d _ H => E cls d H) fn.body, hb X _ rfl rfl rfl rfl rfl rfl rfl rfl ⟨hr, rfl, tk, passes_of rfl, rfl, rfl⟩, m, S, avs.map some ++ List.replicate (fn.ns - fn.np) none, hS, ?_, ?_⟩
  · refine ⟨?_, fun i v e => ?_⟩
    · unfold L2.start
      simp only [List.length_append, List.length_map, List.length_replicate]
      rw [hal, hvl, hns, hnp]
    · by_cases hi : i < avs.length
      · rw [List.getElem?_append_left (by simpa using hi), List.getElem?_map] at e
        cases q : avs[i]? with
        | none => rw [q] at e; cases e
        | some v' =>
          rw [q] at e; cases e
          obtain ⟨u, h1, h2⟩ := hv.get q
          refine ⟨u, ?_, h2⟩
          unfold L2.start
          rw [List.getElem?_append_left (by simp; rw [← hv.length]; exact hi), List.getElem?_map, h1]; rfl
      · rw [List.getElem?_append_right (by simpa using hi)] at e
        have := List.mem_of_getElem? e
        rw [List.mem_replicate] at this
        cases this.2
  · have fin : ∀ v S1, Out K rw m H [] (fun c d _ H' => E c d H') (Rep K) (finish fn S v S1) Q → ∀ m' H' u, Ext rw m H m' H' → SRel K rw m' H' S1 → Rep K m' H' v u → Q u H' := by
      intro v S1 ho m' H' u x' s' r'
      unfold finish at ho
      split at ho
      · split at ho
        · rename_i et
          cases q : unbox S.length S1 v with
          | none => rw [q] at ho; exact ho.elim
          | some u' =>
            rw [q] at ho
            exact ho m H' u x'.back (hS.cut x' s' et) (unbox_rep x' hS s' r' q)
        · exact ho.elim
      · exact ho m' H' u x' s' r'
    cases q : exs L C fn.body (avs.map some ++ List.replicate (fn.ns - fn.np) none) S with
    | ret v S1 =>
      rw [q] at h
      exact fin v S1 h
    | next ρ1 S1 =>
      rw [q] at h
      exact fun m' H' σ' x' s' _ => fin .non S1 h m' H' .non x' s' .non
    | brk ρ1 S1 => rw [q] at h; exact h.elim
    | stuck => rw [q] at h; exact h.elim
    | exc c ρ1 S1 =>
      rw [q] at h
      intro kx m' H' σ' x' s' _
      simp only at h
      unfold finishX at h
      split at h
      · split at h
        · rename_i et
          exact h kx m H' x'.back (hS.cut x' s' et)
        · exact h.elim
      · exact h kx m' H' x' s'
end
end HI
set_option Elab.async false
set_option linter.all false
set_option maxRecDepth 100000
namespace HI
open PySem PySem.Spec PyProof.Rows L2
theorem enumV_get {vs : List Val} : ∀ {k i : Nat} {v : Val}, (enumV vs k)[i]? = some v → ∃ x, vs[i]? = some x ∧ v = .tup [.int ((k + i : Nat) : Int), x] := by
  induction vs with
  | nil => intro k i v h; simp [enumV] at h
  | cons w vs ih =>
    intro k i v h
    cases i with
    | zero => simp [enumV] at h; exact ⟨w, by simp, h.symm⟩
    | succ i =>
      simp only [enumV, List.getElem?_cons_succ] at h
      obtain ⟨x, h1, h2⟩ := ih h
      exact ⟨x, by simpa using h1, by rw [h2]; congr 3; omega⟩
theorem enumV_len (vs : List Val) : ∀ k, (enumV vs k).length = vs.length := by
  induction vs with
  | nil => intro k; rfl
  | cons w vs ih => intro k; simp [enumV, ih]
section
variable {X : Cx} {C : CallT} {W : WX} {rw : Bool}
theorem lst_still {K : PySem.W.Frag} {m1 m : MM} {H1 H : Hp} {S1 S : Store} {x : Val} {a : Addr} {vs : List Val} (rx : Rep K m1 H1 x (.ref a)) (e : lstOf S1 x = some vs) (xt : Ext rw m1 H1 m H) (hS : SRel K rw m H S) (hst : still (srcOf S1 x) S) : ∃ us, H a = some (.lst us) ∧ Reps K m H vs us := by
  cases x with
  | lst ws =>
    simp only [lstOf] at e; cases e
    obtain ⟨a', us, h1, h2, h3, h4⟩ := rep_lst rx
    cases h1
    exact ⟨us, xt.keep _ _ h2 (.inl h3), h4.ext xt⟩
  | loc n =>
    simp only [lstOf] at e
    obtain ⟨a', h1, ha⟩ := rep_loc rx
    cases h1
    cases q : S1[n]? with
    | none => rw [q] at e; cases e
    | some ob =>
      rw [q] at e
      cases ob <;> try cases e
      simp only [srcOf, q, still] at hst
      exact hS.atA (xt.get ha) hst.1
  | _ => simp only [lstOf] at e; cases e
theorem pair_new {K : PySem.W.Frag} {m : MM} {H : Hp} {S : Store} {T : Addr} {v1 v2 : Val} {u1 u2 : V} (hS : SRel K rw m H S) (hT : H T = none) (r1 : Rep K m H v1 u1) (r2 : Rep K m H v2 u2) :
    Ext rw m H m (upd H T (.tup [u1, u2])) ∧ SRel K rw m (upd H T (.tup [u1, u2])) S ∧ Rep K m (upd H T (.tup [u1, u2])) (.tup [v1, v2]) (.ref T) :=
  ⟨Ext.new hT, hS.new hT, .tup upd_same (not_box hS hT) (.cons (r1.ext (Ext.new (rw := rw) hT)) (.cons (r2.ext (Ext.new (rw := rw) hT)) .nil))⟩
theorem J_enum {K : PySem.W.Frag} {m1 : MM} {H1 : Hp} {S1 : Store} {x : Val} {a : Addr} {vs : List Val} (s1 : SRel K rw m1 H1 S1) (rx : Rep K m1 H1 x (.ref a)) (e : lstOf S1 x = some vs) : JRel K rw m1 H1 (enumV vs 0, srcOf S1 x) (Ite K a) := by
  intro m H S xt hS hst i
  obtain ⟨us, h1, h2⟩ := lst_still rx e xt hS hst
  refine ⟨fun hl => ⟨us, SqL.of h1, by rw [← h2.length, ← enumV_len vs 0]; exact hl⟩, fun v hv => ?_⟩
  obtain ⟨y, hy, rfl⟩ := enumV_get hv
  obtain ⟨u, hu, ru⟩ := h2.get hy
  refine ⟨⟨us, u, SqL.of h1, hu⟩, fun z H' hz => ?_⟩
  obtain ⟨T, w, rfl, hT, rfl, hw⟩ := hz
  have := hw us (SqL.of h1)
  rw [hu] at this; cases this
  rw [Nat.zero_add]
  exact pair_new hS hT (.int _) ru
end
end HI
namespace HI
open PySem PySem.Spec PyProof.Rows
set_option maxHeartbeats 1000000 in
theorem meets_enum1 {v : Value} {o : PySem.Obj} {H : Heap → Prop} (B : PySem.Begins v o H) :
    Meets (Builtin.«enumerate.__new__» ⟨[.type "enumerate", v], []⟩) (fun _ R s => H s.heap ∧
      R (.ok (.ret (.ref (s.heap.push o).objs.size))) { s with heap := (s.heap.push o).push { cls := .type "enumerate", data := .fields #[.none, .bool false, .ref s.heap.objs.size, rawInt 0, .none, .none] } }) :=
  .of_wp fun prog w A R s h => by
    obtain ⟨hp, g, d, tk, os⟩ := s; obtain ⟨h1, h⟩ := h
    have hsub := sub_enumerate
    have q1 : ∀ {A' : Around} {E : Value → Shared → Prop} {Q : Value → Shared → Prop}, Q (.ref hp.objs.size) ⟨hp.push o, g, d, tk, os⟩ → wpAny (model prog w) A' (pyIter v) Q E ⟨hp, g, d, tk, os⟩ :=
      fun q => B.iter prog w _ _ ⟨hp, g, d, tk, os⟩ _ h1 q
    wp_walk using q1
    refine wpAny_stack_any fun st => wpAny_pure ?_
    split
    · rename_i c _ _ _ _ _
      cases (c == Value.type "enumerate")
      · wp_walk using q1
        exact ⟨_, rfl, h⟩
      · wp_walk using q1
        exact ⟨_, rfl, h⟩
    · wp_walk using q1
      exact ⟨_, rfl, h⟩
theorem call_enum1 {prog : Program} {w : World} {A : Around} {E : Value → Shared → Prop} {s : Shared} {v : Value} {o : PySem.Obj} {H : Heap → Prop} {Q : Value → Shared → Prop} (B : PySem.Begins v o H) (h1 : H s.heap)
    (h : ∀ h', IsEnum h' (s.heap.objs.size + 1) s.heap.objs.size 0 .none → h'.get? s.heap.objs.size = some o → h'.objs.size = s.heap.objs.size + 2 →
      (∀ b o, s.heap.get? b = some o → h'.get? b = some o) → Q (.ref (s.heap.objs.size + 1)) { s with heap := h' }) :
    wpAny (model prog w) A (call (.type "enumerate") [v]) Q E s := by
  refine callType_new F.called_enumerate (by decide) (F.typeCall_enumerate_1 _) (F.newCall_enumerate_1 _) (fun obj => F.args_object_init_2 obj _) F.entry_enumerate_new
    (meets_enum1 B) ⟨h1, ?_⟩
  have hz : (s.heap.push o).objs.size = s.heap.objs.size + 1 := Heap.size_push ..
  show _ ∧ _
  rw [hz]
  have he : IsEnum ((s.heap.push o).push { cls := .type "enumerate", data := .fields #[.none, .bool false, .ref s.heap.objs.size, rawInt 0, .none, .none] }) (s.heap.objs.size + 1) s.heap.objs.size 0 .none := by
    have := Heap.get?_push_size (s.heap.push o) (o := { cls := .type "enumerate", data := .fields #[.none, .bool false, .ref s.heap.objs.size, rawInt 0, .none, .none] }) rfl
    rw [hz] at this; exact this
  refine ⟨⟨_, he, rfl⟩, h _ he (Heap.get?_push_of_some _ (Heap.get?_push_size _ B.free)) (by rw [Heap.size_push, hz]) fun b o x => Heap.get?_push_of_some _ (Heap.get?_push_of_some _ x)⟩
end HI
namespace HI
open PySem PySem.Spec PyProof.Rows L2
def IteT (K : PySem.W.Frag) (a : Addr) : L2.It :=
  ⟨fun i H => ∃ (xs : List V) (x : V), SqT K H a xs ∧ xs[i]? = some x, fun i H v H' => ∃ T x, v = .ref T ∧ H T = none ∧ H' = upd H T (.tup [.int (i : Nat), x]) ∧ ∀ xs, SqT K H a xs → xs[i]? = some x, fun i H => ∃ xs : List V, SqT K H a xs ∧ xs.length ≤ i⟩
theorem turn_enumT {P : Program} {w : World} {K : PySem.W.Frag} {elts : List Expr} {kk : Nat} {tpos : Pos} (a e it : Addr) :
    Turn P w K (.Tuple elts kk tpos) (IteT K a) [e, it] e (fun i h => (∃ old, IsEnum h e it ((i : Nat) : Int) old) ∧ h.IsTupleIter it a i ∧ e ≠ it) where
  mem := by simp
  obj := fun i h st b hb => by
    obtain ⟨⟨old, he⟩, ⟨o, ho, hc, hd⟩, _⟩ := st
    have e' : b = e ∨ b = it := by simpa using hb
    rcases e' with z | z
    · rw [z]; exact ⟨_, he, fun v q => nomatch q⟩
    · rw [z]; exact ⟨o, ho, fun v q => by rw [hd] at q; cases q⟩
  keep := fun i h h' st k => let ⟨⟨old, he⟩, hi, hne⟩ := st; ⟨⟨old, k e (by simp) _ he⟩, hi.at fun o q => k it (by simp) o q, hne⟩
  item := by
    intro X hP hw hK hc i pins s σ H E I hf st hg
    subst hP hw hK
    obtain ⟨⟨old, he⟩, hit, hne⟩ := st
    obtain ⟨xs, x, hq, hx⟩ := hg
    obtain ⟨its, rv, p, hz⟩ := I.tuple hq
    obtain ⟨u, hu, ru⟩ := rv.get hx
    have ht : s.heap.IsTuple a its.toArray := p
    have hel : e < s.heap.objs.size := Heap.lt_size he
    have hil : it < s.heap.objs.size := by obtain ⟨_, q, _⟩ := hit; exact Heap.lt_size q
    have hai : a ≠ it := by
      rintro rfl
      obtain ⟨o1, e1, c1, d1⟩ := hit
      obtain ⟨o2, e2, c2, n2, d2⟩ := ht
      rw [e1] at e2; cases e2
      rw [d1] at d2; cases d2
    have hae : a ≠ e := by
      rintro rfl
      obtain ⟨o2, e2, c2, n2, d2⟩ := ht
      rw [show s.heap.get? a = _ from he] at e2; cases e2
      cases d2
    have D : Draws X.prog X.w X.A.in1 it [it, a] its.toArray.size _ _ := Draws.tuple (A := X.A.in1) (show X.A.in1.handled = none from I.ok.hd hc) it a hai its.toArray
    have hil2 : i < its.toArray.size := by
      have := (List.getElem?_eq_some_iff.mp hu).1
      simpa using this
    refine wpAny_pyNext_enum_itemD D he ⟨hit, ht⟩ hil2 hne (by simp [hne, Ne.symm hae]) fun x' h' tk hP ho hst' hT hsz hk => ?_
    have hxu : x' = u := by
      have : its.toArray[i]? = some u := by simpa using hu
      rw [this] at hP; cases hP; rfl
    subst hxu
    obtain ⟨hit', ht'⟩ := hst'
    refine ⟨_, rfl, wpAny_letOwnedTupleGo_enum (s := { s with heap := h', toks := tk + 1 }) ho fun h'' he' sb => ?_⟩
    have hT2 : h''.get? s.heap.objs.size = some { cls := .type "tuple", data := .seq #[.int i tk, x'] } := (sb.2 _ (Nat.ne_of_gt hel)).trans hT
    have new : ObjOk X.prog X.w (upd H s.heap.objs.size (.tup [.int (i : Nat), x])) h'' s.heap.objs.size (.tup [.int (i : Nat), x]) :=
      ⟨by show 2 ≤ sizeLine; decide, [.int i tk, x'], .cons ⟨_, rfl⟩ (.cons ru .nil), ⟨_, hT2, rfl, _, rfl⟩⟩
    have I1 : Inv X pins σ (upd H s.heap.objs.size (.tup [.int (i : Nat), x])) { s with heap := h'', toks := tk + 1 } :=
      I.turnedNew (ch := [e, it]) (fun b ob hb q => (sb.2 b (fun z => hb (by simp [z]))).trans (hk b ob (fun z => hb (by simp [z])) (fun z => hb (by simp [z])) q)) hf (Nat.le_refl _) new
    refine ⟨.ref s.heap.objs.size, _, I1, rfl, ⟨_, x, rfl, I.hok.fresh (Nat.le_refl _), rfl, fun ys hy => by rw [I.tuple_inj hy hq]; exact hx⟩, ⟨⟨x', ?_⟩, hit'.at fun o q => (sb.2 it (Ne.symm hne)).trans q, hne⟩, fun b hb => ?_⟩
    · have e1 : ((i + 1 : Nat) : Int) = (i : Int) + 1 := by omega
      rw [e1]; exact he'
    · have hb' : b < s.heap.objs.size := by
        have e' : b = e ∨ b = it := by simpa using hb
        rcases e' with z | z
        · rw [z]; exact hel
        · rw [z]; exact hil
      rw [upd_ne (Nat.ne_of_lt hb')]
      exact (hf b hb).1
  done := by
    intro X hP hw hK hc i pins s σ H E I hf st hg
    subst hP hw hK
    obtain ⟨⟨old, he⟩, hit, hne⟩ := st
    obtain ⟨xs, hq, hx⟩ := hg
    obtain ⟨its, rv, p, hz⟩ := I.tuple hq
    have ht : s.heap.IsTuple a its.toArray := p
    obtain ⟨f0, f1, f2, f3, f4, f5⟩ := hf it (by simp)
    have hl := rv.length
    have hai : a ≠ it := by
      rintro rfl
      obtain ⟨o1, e1, c1, d1⟩ := hit
      obtain ⟨o2, e2, c2, n2, d2⟩ := ht
      rw [e1] at e2; cases e2
      rw [d1] at d2; cases d2
    have fin : ∀ h', Heap.ExtBut it s.heap h' → Inv X pins σ H { s with heap := h' } := fun h' eb => I.turned (t' := s.toks) (fun b o hb q => eb b o hb q) f0 f1 f3 f4 f5
    have hT : s.TypeIs (.ref e) "enumerate" := ⟨_, he, rfl⟩
    unfold pyNext
    refine wpAny_bind (wpAny_attempt (wpAny_callSpecial?_slot (name := Str.ofString "__next__") hT F.slot_enumerate_next
      (wpAny_call_entry F.slot_enumerate_next hT F.entry_enumerate_next ?_ (F.args_enumerate_next_1 _))))
    show wpAny _ _ (field (.ref e) 2 >>= _) _ _ _
    refine wpAny_bind (wpAny_field he rfl (x := .ref it) rfl ?_)
    refine wpAny_bind (wpAny_nextOf_tuple_end (show X.A.in1.handled = none from I.ok.hd hc) hit ht (by simp; omega) fun h' x he' hx' => ?_)
    obtain ⟨o, ho, hc'⟩ := hx'
    refine wpAny_bind (wpAny_isInstance (T := "StopIteration") (b := true) ⟨o, ho, hc'⟩ isSubtype_stop ?_)
    exact wpAny_pure ⟨rfl, fin _ he'⟩
  self := fun A i s Q E st h => let ⟨⟨_, he⟩, _⟩ := st; wpAny_pyIter_enum he h
def iEnumT (K : PySem.W.Frag) (ta : TA) : TI := fun σ H R => ta σ H fun vs H1 => ∃ a xs, vs = [.ref a] ∧ SqT K H1 a xs ∧ R (IteT K a) H1
theorem pi_enumT {X : Cx} {e : Expr} {ta : TA} {p pos tpos : Pos} {elts : List Expr} {kk : Nat} (hg : Gl X "enumerate") (hm : X.mg "enumerate" = none) (ha : PA X [e] ta) (hs : starEach [e] X.env = [(false, eval e X.env)]) :
    PI X (.Tuple elts kk tpos) (.Call (.Name "enumerate" p) [e] [] pos) (iEnumT X.K ta) := by
  refine ⟨fun pins s σ H R I h => ?_⟩
  refine Call_ (ld_blt I hg hm boot_enumerate (PyProof.Rows.callWith_type1 (thn (ha.run pos pins s σ H _ I h) fun us s1 ⟨vs, H1, I1, r1, q1⟩ => ?_) hs rfl))
  obtain ⟨a, xs, ex, hq, q⟩ := q1
  subst ex
  cases r1 with
  | cons r rr =>
    cases rr
    cases r
    obtain ⟨its, rv, p', hz⟩ := I1.tuple hq
    refine call_enum1 (begins_tuple a its.toArray) p' fun h' he hit hsz hk => wpAny_pyIter_enum he ?_
    have I2 : Inv X pins σ H1 { s1 with heap := h' } := I1.kept (t' := s1.toks) hk
    refine ⟨s1.heap.objs.size + 1, [s1.heap.objs.size + 1, s1.heap.objs.size], _, _, H1, rfl, I2, turn_enumT a (s1.heap.objs.size + 1) s1.heap.objs.size, ⟨⟨.none, he⟩, ⟨_, hit, rfl, rfl⟩, Nat.succ_ne_self _⟩, fun b hb => ?_, q⟩
    have e' : b = s1.heap.objs.size + 1 ∨ b = s1.heap.objs.size := by simpa using hb
    have hle : s1.heap.objs.size ≤ b := by
      rcases e' with z | z
      · rw [z]; exact Nat.le_add_right _ _
      · rw [z]; exact Nat.le_refl _
    exact I1.fpOk hle (I1.hok.fresh hle)
section
variable {X : Cx} {C : CallT} {W : WX} {rw : Bool}
theorem J_enumT {K : PySem.W.Frag} {m1 : MM} {H1 : Hp} {a : Addr} {vs : List Val} (rx : Rep K m1 H1 (.tup vs) (.ref a)) : JRel K rw m1 H1 (enumV vs 0, []) (IteT K a) := by
  intro m H S xt hS hst i
  obtain ⟨a', us, e1, h1, h3, h2⟩ := rep_tup (rx.ext xt)
  cases e1
  refine ⟨fun hl => ⟨us, SqT.of h1, by rw [← h2.length, ← enumV_len vs 0]; exact hl⟩, fun v hv => ?_⟩
  obtain ⟨y, hy, rfl⟩ := enumV_get hv
  obtain ⟨u, hu, ru⟩ := h2.get hy
  refine ⟨⟨us, u, SqT.of h1, hu⟩, fun z H' hz => ?_⟩
  obtain ⟨T, w, rfl, hT, rfl, hw⟩ := hz
  have := hw us (SqT.of h1)
  rw [hu] at this; cases this
  rw [Nat.zero_add]
  exact pair_new hS hT (.int _) ru
def isTupV : Val → Bool
  | .tup _ => true
  | _ => false
theorem i_enum {elts : List Expr} {kk : Nat} {tpos : Pos} {a : Expr} {a' : E} {p pos : Pos} (hg : Gl X "enumerate") (hm : X.mg "enumerate" = none) (ns : notStarred a = true) (ha : SE X rw C W a a') : SI X rw C W (.Tuple elts kk tpos) (.Call (.Name "enumerate" p) [a] [] pos) (.enum a') := by
  have sn : starEach [a] X.env = [(false, eval a X.env)] := noStar_of ns _ _
  refine PI.wk (PI.or (pi_enum hg hm (pa_cons ha pa_nil (noStar_of ns _ _)) sn) (pi_enumT hg hm (pa_cons ha pa_nil (noStar_of ns _ _)) sn)) fun σ H R ⟨m, S, ρ, hS, hE, h⟩ => ?_
  simp only [evIt] at h
  by_cases c1 : ∀ x S1, ev C a' ρ S = .ok x S1 → isTupV x = true
  · refine .inr ⟨m, S, ρ, hS, hE, Out.bindE h fun x S1 m1 H1 u e1 x1 s1 r1 h1 => ?_⟩
    have hp := c1 x S1 e1
    cases x <;> try cases hp
    obtain ⟨a, us, rfl, k1, k2, k3⟩ := rep_tup r1
    exact ⟨a, us, rfl, SqT.of k1, h1.fin s1 (J_enumT r1)⟩
  · refine .inl ⟨m, S, ρ, hS, hE, Out.bindE h fun x S1 m1 H1 u e1 x1 s1 r1 h1 => ?_⟩
    have hp : isTupV x = false := by
      cases q : isTupV x with
      | false => rfl
      | true => exact absurd (fun y S2 e2 => by rw [e1] at e2; cases e2; exact q) c1
    cases q : lstOf S1 x with
    | none =>
      cases x <;> simp only [seqOf, q] at h1 <;> first | exact h1.elim | cases hp
    | some vs =>
      have h1' : Out X.K rw m1 H1 σ W (JRel X.K rw) (.ok (enumV vs 0, srcOf S1 x) S1) R := by
        cases x <;> simp only [seqOf, q] at h1 <;> first | exact h1 | cases hp
      obtain ⟨a, us, rfl, k1, k2⟩ := lstOf_rep s1 r1 q
      exact ⟨a, us, rfl, SqL.of k1, h1'.fin s1 (J_enum s1 r1 q)⟩
def isBad : E → Bool
  | .split _ _ => true
  | _ => false
theorem s_bad {e : Expr} {e' : E} (h : isBad e' = true) : SE X rw C W e e' := ⟨fun pins s σ H Q I ⟨m, S, ρ, hS, hE, ho⟩ => by
  cases e' <;> first | cases h | skip
  simp only [ev] at ho
  exact ho.elim⟩
theorem t_bad {e : Expr} {e' : E} (h : isBad e' = true) : ST X rw C W e e' := ⟨fun pins s σ H Q I ⟨m, S, ρ, hS, hE, ho⟩ => by
  cases e' <;> first | cases h | skip
  simp only [evT, ev] at ho
  exact ho.elim⟩
def isBadS : S → Bool
  | .expr e => isBad e
  | _ => false
theorem isBadS_eq {s : S} (h : isBadS s = true) : ∃ a b, s = .expr (.split a b) := by
  unfold isBadS isBad at h
  split at h
  · split at h
    · exact ⟨_, _, rfl⟩
    · cases h
  · cases h
theorem ss_bad {L : Nat} {st : Stmt} {s : S} (h : isBadS s = true) : SS X rw L C W st s := ⟨fun pins s' σ H D I ⟨m, S, ρ, hS, hE, ho⟩ => by
  obtain ⟨a, b, rfl⟩ := isBadS_eq h
  simp only [exS, ev] at ho
  exact ho.elim⟩
theorem s_boxa {a b : Expr} {a' b' : E} {pos : Pos} (ha : SE X rw C W a a') (hb : SE X rw C W b b') : SE X rw C W (.BinOp a .Add b pos) (.boxa a' b') := by
  refine PE.wk (pe_op op_cat ha hb) fun σ H Q ⟨m, S, ρ, hS, hE, h⟩ => ?_
  simp only [ev] at h
  refine ⟨m, S, ρ, hS, hE, Out.bind h fun x S1 m1 H1 u x1 s1 r1 h1 => ⟨m1, S1, ρ, s1, hE.ext x1, Out.bind h1 fun y S2 m2 H2 w x2 s2 r2 h2 => ?_⟩⟩
  have r1' := r1.ext x2
  cases q1 : lstOf S2 x with
  | none => rw [q1] at h2; exact h2.elim
  | some xs =>
    cases q2 : lstOf S2 y with
    | none => rw [q1, q2] at h2; exact h2.elim
    | some ys =>
      rw [q1, q2] at h2
      simp only at h2
      split at h2
      · rename_i hl
        obtain ⟨a, us, rfl, k1, k2⟩ := lstOf_rep s2 r1' q1
        obtain ⟨b, ws, rfl, k3, k4⟩ := lstOf_rep s2 r2 q2
        refine ⟨a, b, us, ws, rfl, rfl, k1, k3, by rw [← k2.length, ← k4.length, ← lim_eq]; exact hl, fun p hp => ?_⟩
        exact h2.fin' (Ext.box hp) (s2.push hp ⟨us ++ ws, upd_same, (k2.append k4).ext (Ext.box (rw := rw) hp)⟩) (.loc (m_len s2 p))
      · exact h2.elim
theorem pairsK_rep {K : PySem.W.Frag} {m : MM} {H : Hp} : ∀ {vs : List Val} {us : List V} {kvs : List (Key × Val)}, Reps K m H vs us → pairsK vs = some kvs → ∃ (ps : List Addr) (ws : List (Key × V)), us = ps.map V.ref ∧ Paired (fun p kv => SqT K H p [kV kv.1, kv.2]) ps ws ∧ RepP K m H kvs ws
  | [], _, kvs, .nil, e => by simp only [pairsK] at e; cases e; exact ⟨[], [], rfl, .nil, .nil⟩
  | v :: vs, _, kvs, .cons (us := us) r q, e => by
    unfold pairsK at e
    split at e
    · rename_i h; cases h
    · rename_i k w r' h
      cases h
      cases e1 : keyOf k with
      | none => rw [e1] at e; simp at e
      | some k0 =>
        cases e2 : pairsK vs with
        | none => rw [e1, e2] at e; simp at e
        | some r2 =>
          rw [e1, e2] at e
          simp at e; subst e
          obtain ⟨ps, ws, h1, h2, h3⟩ := pairsK_rep q e2
          obtain ⟨a, xs, rfl, g1, g2, g3⟩ := rep_tup r
          cases g3 with
          | cons ra g3 => cases g3 with
            | cons rb g3 =>
              cases g3
              cases key_rep ra e1
              rename_i ub
              exact ⟨a :: ps, (k0, ub) :: ws, by rw [h1]; rfl, .cons (SqT.of g1) h2, .cons ⟨rfl, rb⟩ h3⟩
    · cases e
theorem merge_rep {K : PySem.W.Frag} {m : MM} {H : Hp} : ∀ {kvs : List (Key × Val)} {ws : List (Key × V)} {acc : List (Key × Val)} {acc' : List (Key × V)}, RepP K m H acc acc' → RepP K m H kvs ws → RepP K m H (mergeK acc kvs) (L2.mergeK acc' ws)
  | [], _, acc, acc', h, .nil => h
  | kv :: kvs, _, acc, acc', h, .cons (b := b) ⟨e, r⟩ q => by
    have := RepP.put h kv.1 r
    obtain ⟨k, v⟩ := kv
    obtain ⟨k', u⟩ := b
    cases e
    exact merge_rep (acc := putK acc k v) (acc' := L2.putK acc' k u) this q
theorem s_dictOf {a : Expr} {a' : E} {p pos : Pos} (hc : X.calm = true) (hg : Gl X "dict") (hm : X.mg "dict" = none) (ns : notStarred a = true) (ha : SE X rw C W a a') : SE X rw C W (.Call (.Name "dict" p) [a] [] pos) (.dictOf a') := by
  refine PE.wk (pe_callTy (T := "dict") (call_dictP hc) hg hm rfl (pa_cons ha pa_nil (noStar_of ns _ _)) (by decide) (by decide) (noStar_of ns _ _) (backTo_nil _ _)) fun σ H Q ⟨m, S, ρ, hS, hE, h⟩ => ?_
  simp only [ev] at h
  refine ⟨m, S, ρ, hS, hE, Out.bind h fun x S1 m1 H1 u x1 s1 r1 h1 => ?_⟩
  cases q : lstOf S1 x with
  | none => rw [q] at h1; exact h1.elim
  | some vs =>
    rw [q] at h1
    cases q2 : pairsK vs with
    | none => simp only [q2] at h1; exact h1.elim
    | some kvs =>
      simp only [q2] at h1
      obtain ⟨a, us, rfl, k1, k2⟩ := lstOf_rep s1 r1 q
      obtain ⟨ps, ws, rfl, h3, h4⟩ := pairsK_rep k2 q2
      refine ⟨a, ps, ws, rfl, SqL.of k1, h3, fun p hp => ?_⟩
      have mr := merge_rep (acc := []) (acc' := []) .nil h4
      refine h1.fin' (Ext.box hp) (s1.push hp ⟨_, .inl upd_same, RepP.ext (Ext.box (rw := rw) hp) mr⟩) (.loc ?_)
      exact m_len s1 p
end
end HI
set_option Elab.async false
set_option linter.all false
set_option maxRecDepth 100000
namespace HI
open PySem PySem.Spec PyProof.Rows L2
section
variable {K : PySem.W.Frag} {rw : Bool} {m1 m2 : MM} {H1 H2 : Hp} {S1 S2 : Store} {p : Addr} {o0 o : HO}
theorem Rep.shift {m m' : MM} {H : Hp} (hb : ∀ (n : Nat) a, m[n]? = some a → m'[n]? = some a) (hn : ∀ a, a ∉ m → a ∉ m') : ∀ n : Nat, (∀ (v : Val), sizeOf v ≤ n → ∀ u, Rep K m H v u → Rep K m' H v u) ∧ (∀ (vs : List Val), sizeOf vs ≤ n → ∀ us, Reps K m H vs us → Reps K m' H vs us) := by
  intro n
  induction n with
  | zero => exact ⟨fun v h => by cases v <;> simp at h, fun vs h => by cases vs <;> simp at h⟩
  | succ n ih =>
    refine ⟨fun v hv u r => ?_, fun vs hv us r => ?_⟩
    · cases r with
      | non => exact .non
      | bool b => exact .bool b
      | int i => exact .int i
      | str s => exact .str s
      | tup k1 k2 k3 => exact .tup k1 (hn _ k2) (ih.2 _ (by simp at hv; omega) _ k3)
      | lst k1 k2 k3 => exact .lst k1 (hn _ k2) (ih.2 _ (by simp at hv; omega) _ k3)
      | scr k1 k2 => exact .scr k1 (hn _ k2)
      | scrK k1 => exact .scrK k1
      | loc k1 => exact .loc (hb _ _ k1)
    · cases r with
      | nil => exact .nil
      | cons k1 k2 => exact .cons (ih.1 _ (by simp at hv; omega) _ k1) (ih.2 _ (by simp at hv; omega) _ k2)
theorem promote (s1 : SRel K rw m1 H1 S1) (hp : H1 p = none) (x2 : Ext rw (m1.addP p) (upd H1 p o0) m2 H2) (s2 : SRel K rw m2 H2 S2) (o : HO) :
    Ext rw m1 H1 ⟨m2.bx ++ [p], m1.ph⟩ (upd H2 p o) ∧ (∀ v u, Rep K m2 H2 v u → Rep K ⟨m2.bx ++ [p], m1.ph⟩ (upd H2 p o) v u) ∧
      ∀ ob, BoxOk K ⟨m2.bx ++ [p], m1.ph⟩ (upd H2 p o) p ob → (∀ o' u', o ≠ .frz o' u') → SRel K rw ⟨m2.bx ++ [p], m1.ph⟩ (upd H2 p o) (S2 ++ [ob]) := by
  have hpm : p ∈ m2.ph := x2.ph_sub p (List.mem_cons_self ..)
  have np : p ∉ m2.bx := s2.phb p hpm
  have np1 : p ∉ m1.ph := fun z => by
    have := s1.phs p z
    rw [hp] at this; cases this
  have sub : ∀ a ∈ m1.ph, a ∈ m2.ph := fun a z => x2.ph_sub a (List.mem_cons_of_mem _ z)
  have ne : ∀ {a o'}, H1 a = some o' → a ≠ p := fun {a o'} h e => by rw [e, hp] at h; cases h
  have hb : ∀ (n : Nat) a, m2[n]? = some a → (⟨m2.bx ++ [p], m1.ph⟩ : MM)[n]? = some a := fun n a k1 => by
    have hl := (List.getElem?_eq_some_iff.mp (show m2.bx[n]? = some a from k1)).1
    show (m2.bx ++ [p])[n]? = some a
    rw [List.getElem?_append_left hl]; exact k1
  have nn : ∀ a : Addr, a ∉ m2 → a ∉ (⟨m2.bx ++ [p], m1.ph⟩ : MM) := by
    rintro a ha (z | z)
    · rcases List.mem_append.mp z with z | z
      · exact ha (.inl z)
      · simp at z; subst z; exact ha (.inr hpm)
    · exact ha (.inr (sub a z))
  have tr : ∀ v u, Rep K m2 H2 v u → Rep K ⟨m2.bx ++ [p], m1.ph⟩ (upd H2 p o) v u := fun v u r => (Rep.shift hb nn (sizeOf v)).1 v (Nat.le_refl _) u (r.phan hpm)
  have trs : ∀ vs us, Reps K m2 H2 vs us → Reps K ⟨m2.bx ++ [p], m1.ph⟩ (upd H2 p o) vs us := fun v u r => (Rep.shift hb nn (sizeOf v)).2 v (Nat.le_refl _) u (r.phan hpm)
  obtain ⟨ms, ps, em, f1, f2⟩ := x2.more
  refine ⟨⟨⟨ms ++ [p], [], by rw [em]; simp [MM.addP], fun a ha => ?_, by simp⟩, fun a o' h c => ?_, fun a h => ?_, fun a ha o' h => ?_⟩, tr, fun ob b nf => ⟨?_, ?_, fun n a o' e1 e2 => ?_, fun hr' a ha => ?_, fun a ha => there_upd a (s2.phs a (sub a ha)), fun a ha hb => ?_, fun a ha xs => by
    rw [upd_ne (fun e => by subst e; exact np1 ha)]; exact s2.pht a (sub a ha) xs⟩⟩
  · rcases List.mem_append.mp ha with z | z
    · have := f1 a z
      by_cases e : a = p
      · rw [e]; exact hp
      · rw [upd_ne e] at this; exact this
    · simp at z; rw [z]; exact hp
  · rw [upd_ne (ne h)]
    refine x2.keep a o' (by rw [upd_ne (ne h)]; exact h) ?_
    rcases c with c | c
    · refine .inl ?_
      rintro (z | z)
      · exact c (.inl z)
      · rcases List.mem_cons.mp z with z | z
        · exact ne h z
        · exact c (.inr z)
    · refine .inr ⟨c.1, fun z => ?_⟩
      rcases List.mem_cons.mp z with z | z
      · exact ne h z
      · exact c.2 z
  · exact there_upd a (x2.there a (there_upd a h))
  · rw [upd_ne (ne h)]
    exact x2.kph a (List.mem_cons_of_mem _ ha) o' (by rw [upd_ne (ne h)]; exact h)
  · simp [s2.len]
  · show (m2.bx ++ [p]).Nodup
    rw [List.nodup_append]
    exact ⟨s2.nd, by simp, fun a ha b hb => by simp at hb; subst hb; exact fun e => np (e ▸ ha)⟩
  · have e1' : (m2.bx ++ [p])[n]? = some a := e1
    by_cases hn : n < m2.bx.length
    · rw [List.getElem?_append_left hn] at e1'
      rw [List.getElem?_append_left (by rw [← s2.len]; exact hn)] at e2
      have bb := s2.box n a o' e1' e2
      have ea : upd H2 p o a = H2 a := upd_ne fun e => np (by rw [← e]; exact List.mem_of_getElem? e1')
      cases o' with
      | list vs => obtain ⟨xs, k1, k2⟩ := bb; exact ⟨xs, ea.trans k1, trs _ _ k2⟩
      | dictK vs => obtain ⟨xs, k1, k2⟩ := bb; exact ⟨xs, Rd.eq ea k1, Paired.mapP k2 fun _ _ z => ⟨z.1, tr _ _ z.2⟩⟩
      | dictT vs => obtain ⟨xs, k1, k2⟩ := bb; exact ⟨xs, Rd.eq ea k1, Paired.mapP k2 fun _ _ z => ⟨z.1, tr _ _ z.2⟩⟩
      | inst c vs => obtain ⟨kc, dx, xs, k1, k2⟩ := bb; exact ⟨kc, dx, xs, ea.trans k1, Paired.mapP k2 fun _ _ z => ⟨z.1, tr _ _ z.2⟩⟩
    · have hn' : n = m2.bx.length := by
        have := (List.getElem?_eq_some_iff.mp e1').1
        simp at this; omega
      subst hn'
      simp at e1'; subst e1'
      rw [s2.len] at e2; simp at e2; subst e2
      exact b
  · intro o' u q
    rcases List.mem_append.mp (show a ∈ m2.bx ++ [p] from ha) with z | z
    · rw [upd_ne (fun e => np (by rw [← e]; exact z))] at q
      exact s2.nof hr' a z o' u q
    · simp at z; subst z; rw [upd_same] at q; cases q; exact nf _ _ rfl
  · rcases List.mem_append.mp (show a ∈ m2.bx ++ [p] from hb) with z | z
    · exact s2.phb a (sub a ha) z
    · simp at z; subst z; exact np1 ha
end
section
variable {X : Cx} {C : CallT} {W : WX} {rw : Bool}
def trsOf (K : PySem.W.Frag) (rw : Bool) (C : CallT) (W : WX) : List Str → List E → List (TE × TE)
  | k :: ks, v :: vs => (tC (.str k), rdE K rw C W v) :: trsOf K rw C W ks vs
  | _, _ => []
theorem pairs_reads {ρ : Env} {σ : L2.St} : ∀ (vs : List E) (ks : List Str) (m : MM) (H : Hp) (S : Store) (Q : List V → Hp → Prop) (Q' : List (V × V) → Hp → Prop), ks.length = vs.length → SRel X.K rw m H S → ERel X.K m H ρ σ → Out X.K rw m H σ W (Reps X.K) (evs C vs ρ S) Q →
    (∀ us H2, Q us H2 → Q' ((ks.zip us).map fun q => (.str q.1, q.2)) H2) → tPairs (trsOf X.K rw C W ks vs) σ H Q'
  | [], ks, m, H, S, Q, Q', hl, hS, hE, h, k => by
    have : ks = [] := List.eq_nil_of_length_eq_zero hl
    subst this
    simp only [evs] at h
    exact k [] _ (h.fin hS .nil)
  | v :: vs, [], m, H, S, Q, Q', hl, hS, hE, h, k => by simp at hl
  | v :: vs, k0 :: ks, m, H, S, Q, Q', hl, hS, hE, h, k => by
    simp only [evs] at h
    refine ⟨m, S, ρ, hS, hE, Out.bind h fun x S1 m1 H1 u x1 s1 r1 h1 => ?_⟩
    exact pairs_reads vs ks m1 H1 S1 (fun us H2 => Q (u :: us) H2) _ (by simpa using hl) s1 (hE.ext x1) (Out.bind h1 fun xs S2 m2 H2 us x2 s2 r2 h2 => h2.fin s2 (.cons (r1.ext x2) r2)) fun us H2 q => k (u :: us) H2 q
theorem zip_rep {K : PySem.W.Frag} {m : MM} {H : Hp} : ∀ {ks : List Str} {vs : List Val} {us : List V}, Reps K m H vs us → RepP K m H (((ks.map Sum.inr).zip vs : List (Key × Val))) ((ks.map Sum.inr).zip us)
  | [], _, _, _ => by simpa using .nil
  | k :: ks, _, _, .nil => by simpa using .nil
  | k :: ks, _, _, .cons r q => .cons ⟨rfl, r⟩ (zip_rep q)
def keysL : List (Option Expr) → List Str → Bool
  | [], [] => true
  | some (.Constant (.str s) _ _) :: r, k :: ks => decide (s = k) && keysL r ks
  | _, _ => false
theorem pps_of {pos : Pos} : ∀ {keys : List (Option Expr)} {ks : List Str} {values : List Expr} {vs : List E}, keysL keys ks = true → Paired (fun e e' => SE X rw C W e e') values vs → ks.length = vs.length → PPs X pos keys values (trsOf X.K rw C W ks vs) ∧ keys.length = values.length ∧ keys.all (·.isSome) = true ∧ keys.length = ks.length
  | [], [], [], _, _, .nil, _ => ⟨pps_nil, rfl, rfl, rfl⟩
  | [], [], _ :: _, _, _, .cons _ _, hl => by simp at hl
  | [], _ :: _, _, _, h, _, _ => by simp [keysL] at h
  | k :: keys, [], _, _, h, _, _ => by
    unfold keysL at h
    split at h <;> simp_all
  | k :: keys, k0 :: ks, [], _, _, .nil, hl => by simp at hl
  | k :: keys, k0 :: ks, v :: values, _, h, .cons hv hr, hl => by
    unfold keysL at h
    split at h
    · rename_i e _; cases e
    · rename_i s j p r k' ks' e1 e2
      cases e1; cases e2
      simp only [Bool.and_eq_true, decide_eq_true_eq] at h
      obtain ⟨rfl, h⟩ := h
      obtain ⟨a, b, c, d⟩ := pps_of (pos := pos) h hr (by simpa using hl)
      exact ⟨pps_cons pe_str hv a, by simp [b], by simp [c], by simp [d]⟩
    · cases h
theorem s_newD {keys : List (Option Expr)} {ks : List Str} {values : List Expr} {vs : List E} {pos : Pos} (hk : keysL keys ks = true) (hv : Paired (fun e e' => SE X rw C W e e') values vs) (hl : ks.length = vs.length) (h0 : ks ≠ []) (h15 : ks.length ≤ 15) : SE X rw C W (.Dict keys values pos) (.newD ks vs) := by
  obtain ⟨pp, l1, l2, l3⟩ := pps_of (pos := pos) hk hv hl
  refine PE.wk (pe_disp pp l2 l1 (by intro z; rw [z] at l3; exact h0 (List.eq_nil_of_length_eq_zero l3.symm)) (by rw [l3]; exact h15)) fun σ H Q ⟨m, S, ρ, hS, hE, h⟩ => fun p hp => ?_
  simp only [ev] at h
  have main : Out X.K rw (m.addP p) (upd H p (.dK [])) σ W (Reps X.K) (evs C vs ρ S) (fun us H2 => us.length = vs.length ∧ H2 p = some (.dK []) ∧ Q (.ref p) (upd H2 p (.dK (L2.mergeK [] ((ks.map Sum.inr).zip us))))) := by
    cases q : evs C vs ρ S with
    | ok us S1 =>
      rw [q] at h
      simp only [Res.bind_ok] at h
      intro m2 H2 uv x2 s2 r2
      refine ⟨by rw [← r2.length, evs_len q], x2.kph p (List.mem_cons_self ..) _ upd_same, ?_⟩
      obtain ⟨p1, p2, p3⟩ := promote hS hp x2 s2 (.dK (L2.mergeK [] ((ks.map Sum.inr).zip uv)))
      refine h.fin' p1 (p3 _ ⟨_, .inl upd_same, ?_⟩ (by intro _ _ z; cases z)) (.loc ?_)
      · refine merge_rep (acc := []) (acc' := []) .nil ?_
        exact Paired.mapP (zip_rep r2) fun _ _ z => ⟨z.1, p2 _ _ z.2⟩
      · show (m2.bx ++ [p])[S1.length]? = some p
        rw [← s2.len]; simp
    | exc c S1 =>
      rw [q] at h
      exact fun kx m2 H2 x2 s2 => h kx m2 H2 ((Ext.newP hp).trans x2) s2
    | stuck => rw [q] at h; exact h
  refine pairs_reads vs ks (m.addP p) _ S _ _ hl (hS.newP hp) (hE.ext (Ext.newP (rw := rw) hp)) main fun us H2 ⟨lu, e2, hq⟩ => ⟨e2, (ks.map Sum.inr).zip us, ?_, ?_, hq⟩
  · rw [List.zip_map_left, List.map_map]; rfl
  · simp; omega
theorem m2_of {o e f : Expr} {m : Str} {apos cpos : Pos} (hb : notCall0 o = true) (ne : notStarred e = true) (nf : notStarred f = true) (hline : (apos.endLine == cpos.line) = true) : M2 X o m apos e f cpos := by
  have h2 : starEach [e, f] X.env = [(false, eval e X.env), (false, eval f X.env)] := by
    rw [noStar_of ne, noStar_of nf]; rfl
  refine ⟨noSuper_of hb _ _, form_of (by simp [ne, nf]) (by simp) _ _, hline, ?_⟩
  rw [h2]; rfl
theorem isDK_inv {S : Store} {x : Val} (h : isDK S x = true) : ∃ n, x = .loc n ∧ ((∃ kvs, S[n]? = some (.dictK kvs)) ∨ ∃ kvs, S[n]? = some (.dictT kvs)) := by
  cases x <;> simp only [isDK] at h <;> try cases h
  rename_i n
  refine ⟨n, rfl, ?_⟩
  split at h
  · rename_i kvs e; exact .inl ⟨kvs, e⟩
  · rename_i kvs e; exact .inr ⟨kvs, e⟩
  · cases h
theorem isDK_at {K : PySem.W.Frag} {m : MM} {H : Hp} {S : Store} {n : Nat} {a : Addr} (s : SRel K rw m H S) (ha : m[n]? = some a) (k : (∃ kvs, S[n]? = some (.dictK kvs)) ∨ ∃ kvs, S[n]? = some (.dictT kvs)) : IsD H a := by
  rcases k with ⟨kvs, e⟩ | ⟨kvs, e⟩
  · obtain ⟨us, h1, h2⟩ := s.atA ha e; exact .inl ⟨us, h1⟩
  · obtain ⟨us, h1, h2⟩ := s.atA ha e; exact .inr ⟨us, h1⟩
theorem s_get2 {o e f : Expr} {o' e' f' : E} {apos cpos : Pos} (hu : X.A.units + 1 < cLine) (hb : notCall0 o = true) (ne : notStarred e = true) (nf : notStarred f = true) (hline : (apos.endLine == cpos.line) = true)
    (ho : SE X rw C W o o') (he : SE X rw C W e e') (hf : SE X rw C W f f') : SE X rw C W (.Call (.Attribute o "get" apos) [e, f] [] cpos) (.get2 o' e' f') := by
  refine PE.wk (pe_dget2 hu ho he hf (m2_of hb ne nf hline)) fun σ H Q ⟨m, S, ρ, hS, hE, h⟩ => ?_
  simp only [ev] at h
  refine ⟨m, S, ρ, hS, hE, Out.bind h fun x S1 m1 H1 u x1 s1 r1 h1 => ?_⟩
  split at h1
  · rename_i hd
    obtain ⟨n, rfl, kk⟩ := isDK_inv hd
    obtain ⟨a, rfl, ha⟩ := rep_loc r1
    refine ⟨a, rfl, isDK_at s1 ha kk, m1, S1, ρ, s1, hE.ext x1, Out.bind h1 fun y S2 m2 H2 w x2 s2 r2 h2 => ⟨m2, S2, ρ, s2, (hE.ext x1).ext x2, Out.bind h2 fun z S3 m3 H3 v x3 s3 r3 h3 => ?_⟩⟩
    have ha3 : m3[n]? = some a := x3.get (x2.get ha)
    simp only at h3
    cases q : S3[n]? with
    | none => rw [q] at h3; exact h3.elim
    | some ob =>
      rw [q] at h3
      cases ob <;> try exact h3.elim
      rename_i kvs
      simp only at h3
      cases q2 : keyOf y with
      | none => rw [q2] at h3; exact h3.elim
      | some k =>
        rw [q2] at h3
        simp only at h3
        obtain ⟨o, hg, hr⟩ := dget_rep s3 (n := n) (y := y) ha3 (r2.ext x3) (r := getK kvs k) (by unfold dAsk; rw [q]; simp only [q2])
        refine ⟨o, hg, ?_⟩
        rcases hr with ⟨e1, e2⟩ | ⟨v', u', e1, e2, rr⟩
        · rw [e1] at h3; subst e2; exact h3.fin s3 r3
        · rw [e1] at h3; subst e2; exact h3.fin s3 rr
  · exact h1.elim
end
end HI
set_option Elab.async false
set_option linter.all false
set_option maxRecDepth 100000
namespace HI
open PySem PySem.Spec PyProof.Rows L2
section
variable {X : Cx} {C : CallT} {W : WX} {rw : Bool}
theorem strs_dp {K : PySem.W.Frag} {H : Hp} : ∀ (vs : List Str), DpAll K H (vs.map V.str) (vs.map PyData.str)
  | [] => .nil
  | v :: vs => .cons (.str v) (strs_dp vs)
theorem strs_any (vs : List Str) (s : Str) : ((vs.map PyData.str).any fun z => PyData.eqv z (.str s)) = vs.contains s := by
  induction vs with
  | nil => rfl
  | cons v vs ih =>
    rw [List.map_cons, List.any_cons, ih, List.contains_cons]
    congr 1
    simp only [PyData.eqv]
    exact Bool.beq_comm
theorem toDs_strs : ∀ vs : List Str, toDs (vs.map Val.str) = vs.map PyData.str
  | [] => rfl
  | v :: vs => by simp only [List.map_cons, toDs, toD, toDs_strs vs]
def opIn (neg : Bool) : CmpOp := if neg then .NotIn else .In
theorem op_inG (neg : Bool) (hu : X.A.units + 65 < cLine) : OpR X (compareOp (opIn neg)) (fun x y H Q => ∃ d ds, Dp X.K H x d ∧ Dp X.K H y (.tuple ds) ∧ SeqAt.shaped d = true ∧ SeqAt.shaped (.tuple ds) = true ∧ Q (.bl (neg != ds.any fun z => PyData.eqv z d)) H) := by
  cases neg
  · exact fun pins s σ H x y v u Q I rx ry ⟨d, ds, h1, h2, h3, h4, q⟩ => op_inDT hu pins s σ H x y v u Q I rx ry ⟨d, ds, h1, h2, h3, h4, by simpa using q⟩
  · exact fun pins s σ H x y v u Q I rx ry ⟨d, ds, h1, h2, h3, h4, q⟩ => op_notInDT hu pins s σ H x y v u Q I rx ry ⟨d, ds, h1, h2, h3, h4, by simpa using q⟩
theorem k_inG {neg : Bool} {g : Str} {vs : List Str} {m : MM} {H : Hp} {S : Store} {s : Str} {Q : VK} (sq : ∀ H, SqT X.K H (He.ga X.K g) (vs.map V.str)) (hf : fines 59 (vs.map Val.str) = true) (hs : fine 60 (.str s) = true) (q : Q (.bl (neg != vs.contains s)) H) :
    ∃ d ds, Dp X.K H (.str s) d ∧ Dp X.K H (.ref (He.ga X.K g)) (.tuple ds) ∧ SeqAt.shaped d = true ∧ SeqAt.shaped (.tuple ds) = true ∧ Q (.bl (neg != ds.any fun z => PyData.eqv z d)) H := by
  refine ⟨.str s, vs.map PyData.str, .str s, .tup (sq H) (strs_dp vs), fine_shaped (v := .str s) hs, ?_, by rw [strs_any]; exact q⟩
  have := (fines_shaped hf).2
  rw [toDs_strs] at this
  exact this
theorem s_inG {neg : Bool} {a : Expr} {a' : E} {g : Str} {vs : List Str} {p pos : Pos} (hu : X.A.units + 65 < cLine) (hg : Gl X g) (hd : (g == ("__debug__" : Str)) = false) (hm : X.mg g = some (.ref (He.ga X.K g))) (sq : ∀ H, SqT X.K H (He.ga X.K g) (vs.map V.str)) (hf : fines 59 (vs.map Val.str) = true)
    (ha : SE X rw C W a a') : SE X rw C W (.Compare a [opIn neg] [.Name g p] pos) (.inG neg a' g vs) := by
  refine PE.wk (pe_cmpR (op_inG neg hu) ha (pe_glob (v := .ref (He.ga X.K g)) hg hm rfl hd) rfl) fun σ H Q ⟨m, S, ρ, hS, hE, h⟩ => ?_
  simp only [ev] at h
  refine ⟨m, S, ρ, hS, hE, Out.bind h fun x S1 m1 H1 u x1 s1 r1 h1 => ?_⟩
  cases x <;> try exact h1.elim
  cases rep_str r1
  simp only at h1
  split at h1
  · rename_i hs
    exact k_inG (S := S1) (m := m1) sq hf hs (h1.fin s1 (.bool _))
  · exact h1.elim
theorem t_inG {neg : Bool} {a : Expr} {a' : E} {g : Str} {vs : List Str} {p pos : Pos} (hu : X.A.units + 65 < cLine) (hg : Gl X g) (hd : (g == ("__debug__" : Str)) = false) (hm : X.mg g = some (.ref (He.ga X.K g))) (sq : ∀ H, SqT X.K H (He.ga X.K g) (vs.map V.str)) (hf : fines 59 (vs.map Val.str) = true)
    (ha : SE X rw C W a a') : ST X rw C W (.Compare a [opIn neg] [.Name g p] pos) (.inG neg a' g vs) := by
  refine PT.wk (pt_cmpR (op_inG neg hu) ha (pe_glob (v := .ref (He.ga X.K g)) hg hm rfl hd) rfl) fun σ H Q ⟨m, S, ρ, hS, hE, h⟩ => ?_
  simp only [evT, ev, Res.bind_assoc] at h
  refine ⟨m, S, ρ, hS, hE, Out.bind h fun x S1 m1 H1 u x1 s1 r1 h1 => ?_⟩
  cases x <;> try exact h1.elim
  cases rep_str r1
  simp only at h1
  split at h1
  · rename_i hs
    simp only [Res.bind_ok, truthy, ofO_some] at h1
    refine k_inG (S := S1) (m := m1) (Q := fun v H' => ∃ b, v = .bl b ∧ Q b H') sq hf hs ?_
    exact ⟨_, rfl, h1.fin s1 rfl⟩
  · exact h1.elim
end
end HI
set_option Elab.async false
set_option linter.all false
namespace HI
open PySem
section
variable {α : Type}
theorem perm_sorted_eq {le : α → α → Prop} (anti : ∀ a b, le a b → le b a → a = b) : ∀ {xs ys : List α}, xs.Perm ys → xs.Pairwise le → ys.Pairwise le → xs = ys
  | [], ys, p, _, _ => by have := p.length_eq; exact (List.eq_nil_of_length_eq_zero this.symm).symm
  | x :: xs, [], p, _, _ => by have := p.length_eq; simp at this
  | x :: xs, y :: ys, p, hx, hy => by
    rw [List.pairwise_cons] at hx hy
    have e : x = y := by
      have h1 : x ∈ y :: ys := p.subset (List.mem_cons_self ..)
      have h2 : y ∈ x :: xs := p.symm.subset (List.mem_cons_self ..)
      rcases List.mem_cons.mp h1 with h1 | h1
      · exact h1
      · rcases List.mem_cons.mp h2 with h2 | h2
        · exact h2.symm
        · exact anti x y (hx.1 y h2) (hy.1 x h1)
    subst e
    rw [perm_sorted_eq anti (List.Perm.cons_inv p) hx.2 hy.2]
theorem insertBy_perm {lt : α → α → Bool} (x : α) : ∀ ys : List α, (insertBy lt x ys).Perm (x :: ys)
  | [] => .refl _
  | y :: ys => by
    unfold insertBy
    split
    · exact ((insertBy_perm x ys).cons y).trans (.swap ..)
    · exact .refl _
theorem sortBy_perm {lt : α → α → Bool} : ∀ xs : List α, (sortBy lt xs).Perm xs
  | [] => .refl _
  | x :: xs => (insertBy_perm x _).trans ((sortBy_perm xs).cons x)
theorem insertBy_sorted {lt : α → α → Bool} {le : α → α → Prop} (h1 : ∀ a b, lt a b = true → le a b) (h2 : ∀ a b, lt a b = false → le b a) (tr : ∀ a b c, le a b → le b c → le a c) (x : α) : ∀ {ys : List α}, ys.Pairwise le → (insertBy lt x ys).Pairwise le
  | [], _ => by simp [insertBy]
  | y :: ys, h => by
    unfold insertBy
    rw [List.pairwise_cons] at h
    split
    · rename_i c
      rw [List.pairwise_cons]
      refine ⟨fun z hz => ?_, insertBy_sorted h1 h2 tr x h.2⟩
      rcases List.mem_cons.mp ((insertBy_perm x ys).subset hz) with rfl | hz
      · exact h1 _ _ c
      · exact h.1 z hz
    · rename_i c
      rw [List.pairwise_cons, List.pairwise_cons]
      refine ⟨fun z hz => ?_, h⟩
      have c' := h2 _ _ (Bool.eq_false_iff.mpr c)
      rcases List.mem_cons.mp hz with rfl | hz
      · exact c'
      · exact tr _ _ _ c' (h.1 z hz)
theorem sortBy_sorted {lt : α → α → Bool} {le : α → α → Prop} (h1 : ∀ a b, lt a b = true → le a b) (h2 : ∀ a b, lt a b = false → le b a) (tr : ∀ a b c, le a b → le b c → le a c) : ∀ xs : List α, (sortBy lt xs).Pairwise le
  | [] => .nil
  | x :: xs => insertBy_sorted h1 h2 tr x (sortBy_sorted h1 h2 tr xs)
end
theorem sortI_eq {ns ys : List Int} (p : ys.Perm ns) (h : ys.Pairwise (· ≤ ·)) : ys = sortBy (fun a b => decide (a < b)) ns := by
  refine perm_sorted_eq (le := (· ≤ ·)) (fun a b h1 h2 => by omega) (p.trans (sortBy_perm ns).symm) h (sortBy_sorted (fun a b h => ?_) (fun a b h => ?_) (fun a b c h1 h2 => by omega) ns)
  · have := of_decide_eq_true h; omega
  · have := of_decide_eq_false h; omega
end HI
set_option Elab.async false
set_option linter.all false
namespace HI
open PySem PySem.Spec PyProof.Rows
def leS (a b : Str) : Prop := ¬ b.cps.toList < a.cps.toList
theorem leS_anti (a b : Str) (h1 : leS a b) (h2 : leS b a) : a = b := by
  have : a.cps.toList = b.cps.toList := List.le_antisymm (List.not_lt.mp h1) (List.not_lt.mp h2)
  cases a; cases b
  simp only [Str.mk.injEq]
  exact Array.toList_inj.mp this
theorem leS_trans (a b c : Str) (h1 : leS a b) (h2 : leS b c) : leS a c := List.not_lt.mpr (List.le_trans (List.not_lt.mp h1) (List.not_lt.mp h2))
theorem rising_pw : ∀ (l : List Str) (p : Str), risingS p l = true → (p :: l).Pairwise leS
  | [], p, _ => by simp
  | x :: r, p, h => by
    simp only [risingS, Bool.and_eq_true, Bool.not_eq_true'] at h
    have ih := rising_pw r x h.2
    rw [List.pairwise_cons]
    have hpx : leS p x := by
      have := h.1
      rw [ltCps_eq] at this
      exact of_decide_eq_false this
    refine ⟨fun z hz => ?_, ih⟩
    rcases List.mem_cons.mp hz with rfl | hz
    · exact hpx
    · exact leS_trans _ _ _ hpx ((List.pairwise_cons.mp ih).1 z hz)
theorem sortedS_pw : ∀ {l : List Str}, sortedS l = true → l.Pairwise leS
  | [], _ => .nil
  | x :: r, h => rising_pw r x h
theorem sortS_eq {ks ys : List Str} (p : ys.Perm ks) (h : sortedS ys = true) : ys = sortBy ltS ks := by
  refine perm_sorted_eq (le := leS) leS_anti (p.trans (sortBy_perm ks).symm) (sortedS_pw h) (sortBy_sorted (fun a b h => ?_) (fun a b h => ?_) leS_trans ks)
  · exact List.not_lt.mpr (List.le_of_lt (of_decide_eq_true h))
  · exact of_decide_eq_false h
def leP (a b : Int × Int) : Prop := a.1 < b.1 ∨ (a.1 = b.1 ∧ a.2 ≤ b.2)
theorem leP_anti (a b : Int × Int) (h1 : leP a b) (h2 : leP b a) : a = b := by
  obtain ⟨a1, a2⟩ := a; obtain ⟨b1, b2⟩ := b
  simp only [leP] at h1 h2
  have : a1 = b1 ∧ a2 = b2 := by omega
  rw [this.1, this.2]
theorem leP_trans (a b c : Int × Int) (h1 : leP a b) (h2 : leP b c) : leP a c := by
  simp only [leP] at *; omega
theorem sortP_eq {ks ys : List (Int × Int)} (p : ys.Perm ks) (h : ys.Pairwise leP) : ys = sortBy ltP ks := by
  refine perm_sorted_eq (le := leP) leP_anti (p.trans (sortBy_perm ks).symm) h (sortBy_sorted (fun a b h => ?_) (fun a b h => ?_) leP_trans ks)
  · simp only [ltP, Bool.or_eq_true, Bool.and_eq_true, decide_eq_true_eq] at h; simp only [leP]; omega
  · simp only [ltP, Bool.or_eq_false_iff, Bool.and_eq_false_iff, decide_eq_false_iff_not] at h; simp only [leP]; omega
theorem srtd_leP {α : Type} {k : α → Int × Int} {ys : List α} (h : SrtO.Srtd (fun x y => SrtO.lexB (k x) (k y)) ys) : (ys.map k).Pairwise leP := by
  rw [List.pairwise_map]
  refine List.Pairwise.imp ?_ h
  intro a b hab
  have := SrtO.lexB_no.mp hab
  simp only [leP]; omega
end HI
set_option Elab.async false
set_option linter.all false
set_option maxRecDepth 100000
namespace HI
open PySem PySem.Spec PySem.Calls PyProof.Rows PyProof.V L2
section
variable {prog : Program} {w : World} {A : Around} {E : Value → Shared → Prop} {s : Shared}
theorem gather {T : String} {r d : Addr} {n : Nat} {P : Nat → Value → Prop} {OK : Heap → Prop} {R : List Value → Shared → Prop} (src : PySem.W.KdlSrc prog w T r d n P OK) (hd : A.handled = none) (ok : OK s.heap) (few : n ≤ sizeLine)
    (goal : ∀ (h1 : Heap) (tk : Nat) (got : Array Value), (∀ b o, s.heap.get? b = some o → h1.get? b = some o) → s.heap.objs.size < h1.objs.size → ItemsOf P got n → R got.toList { s with heap := h1, toks := tk }) :
    wpAny (model prog w) A (collect (.ref r)) R E s := by
  have below := src.there _ ok
  unfold collect
  refine wpAny_bind (wpAny_runValue (codeAny_builtin entry_proto_collect' ?x))
  rw [Around.under_plainId PySem.F.plain_proto_collect _]
  show wpAny (model prog w) A.in1 (newList [] >>= fun l => again (.builtin "list.__iadd__" ⟨[l, .ref r], []⟩)) _ _ s
  refine wpAny_bind (wpAny_newObj_type (wpAny_pure ⟨plainId_quiet PySem.F.plain_list_iadd _, codeAny_builtin entry_list_iadd' ?y⟩))
  rw [Around.under_plainId PySem.F.plain_list_iadd _]
  have fresh : (s.heap.push { cls := .type "list", data := .seq ([] : List Value).toArray }).get? s.heap.objs.size = some { cls := .type "list", data := .seq #[] } := Heap.get?_push_size _ rfl
  show wpAny (model prog w) A.in1 (Builtin.List.listExtendWith (.ref s.heap.objs.size) (.ref r) (.ref s.heap.objs.size)) _ _ _
  have run := PySem.W.kdl_extend (A := A) (s := { s with heap := s.heap.push { cls := .type "list", data := .seq ([] : List Value).toArray } })
    (R := fun (q : Result) (s2 : Shared) => ∃ (h1 : Heap) (tk : Nat) (got : Array Value) (c1 : Nat), q = .ok (.ret (.ref s.heap.objs.size)) ∧ s2 = { s with heap := h1, toks := tk } ∧ (∀ b o, s.heap.get? b = some o → h1.get? b = some o) ∧ h1.get? s.heap.objs.size = some { cls := .type "list", dict := none, data := .seq got c1, slots := #[] } ∧ ItemsOf P got n)
    src hd (src.keep _ _ ok fun b _ o e => Heap.get?_push_of_some _ e) s.heap.objs.size (Nat.ne_of_gt below.1) (Nat.ne_of_gt below.2) (.ref s.heap.objs.size) 0 fresh
    (fun h1 tk got c1 old new items => ⟨h1, tk, got, c1, rfl, rfl, fun b o e => old b o (Nat.ne_of_lt (Heap.lt_size e)) (Heap.get?_push_of_some _ e), new, items⟩) few
  refine wpAny_mono run (fun fin s2 x => ?_) (fun e s2 x => ?_)
  · cases fin with
    | done f =>
      obtain ⟨h1, tk, got, c1, e, rfl, old, new, items⟩ := x
      cases e
      exact wpAny_bind (wpAny_load new (wpAny_pure (goal h1 tk got old (Heap.lt_size new) items)))
    | again c =>
      refine ⟨x.1, codeAny_mono x.2 fun q s3 y => ?_⟩
      obtain ⟨h1, tk, got, c1, rfl, rfl, old, new, items⟩ := y
      exact wpAny_bind (wpAny_load new (wpAny_pure (goal h1 tk got old (Heap.lt_size new) items)))
  · obtain ⟨_, _, _, _, z, _⟩ := x
    cases z
theorem sorted_src {T : String} {r d : Addr} {n : Nat} {P : Nat → Value → Prop} {OK : Heap → Prop} {Q : Value → Shared → Prop} (K : PySem.W.KdlSrc prog w T r d n P OK) (hh : A.handled = none) (hok : OK s.heap) (hn : n ≤ sizeLine)
    (h : ∀ (h' : Heap) (tk : Nat) (vs : List Value), (∀ b o, s.heap.get? b = some o → h'.get? b = some o) → s.heap.objs.size < h'.objs.size → vs.length = n → (∀ (j : Nat) (v : Value), vs[j]? = some v → P j v) →
      wpAny (model prog w) A.in1.in1 (Builtin.«list.sort» ⟨[.ref h'.objs.size], []⟩) (fun fin s' => ∃ v, fin = .done (.ret v) ∧ Q (.ref h'.objs.size) s') E { s with heap := h'.push (seqObj "list" vs.toArray 0), toks := tk }) :
    wpAny (model prog w) A (call (.builtin "sorted") [.ref r]) Q E s := by
  refine Calls.call_function_entry kind_sorted plain_sorted entry_sorted (args_sorted1 _) ?z
  unfold Builtin.«sorted»
  refine wpAny_bind (m := checkCount "sorted" 1 1 _) (wpAny_pure (wpAny_bind (gather (A := A.in1) K hh hok hn fun h' tk acc hk hlt hacc => ?_)))
  have hl : acc.toList.length = n := by rw [Array.length_toList]; exact hacc.1
  refine wpAny_bind (wpAny_newList ?u (by rw [hl]; exact hn))
  have hg := h h' tk acc.toList hk hlt hl (fun j v e => hacc.2 j v (by rw [← Array.getElem?_toList]; exact e))
  have there : (h'.push (seqObj "list" acc.toList.toArray 0)).get? h'.objs.size = some (seqObj "list" acc.toList.toArray 0) := Heap.get?_push_size _ rfl
  refine wpAny_bind (wpAny_holding (wpAny_call_entry slot_list_sort ⟨_, there, rfl⟩ entry_list_sort (wpAny_mono hg (fun fin s' x => ?_) fun _ _ e => e) (args_list_sort _)))
  obtain ⟨v, rfl, q⟩ := x
  exact ⟨v, rfl, wpAny_pure ⟨_, rfl, q⟩⟩
theorem sorted_kept {h h' : Heap} {vs : List Value} {out : Array Value} (kp : ∀ b o, h.get? b = some o → h'.get? b = some o) {b : Addr} {o : PySem.Obj} (e : h.get? b = some o) : (sortedHeap (h'.push (seqObj "list" vs.toArray 0)) h'.objs.size vs out).get? b = some o := by
  have e' := kp b o e
  have hlt := Heap.lt_size e'
  rw [sortedHeap_old (Nat.ne_of_lt hlt) (by rw [size_push']; exact Nat.lt_succ_of_lt hlt)]
  exact Heap.get?_push_of_some _ e'
end
section
variable {X : Cx}
def prOf (H : Hp) : Value → Int × Int
  | .ref b => (match H b with
    | some (.tup [.int i, .int j]) => (i, j)
    | _ => (0, 0))
  | _ => (0, 0)
def adr : Value → Addr
  | .ref b => b
  | _ => 0
theorem paired_mem {α β : Type} {R : α → β → Prop} : ∀ {as : List α} {bs : List β}, Paired R as bs → ∀ {b : β}, b ∈ bs → ∃ a, a ∈ as ∧ R a b
  | _, _, .nil, _, h => by cases h
  | _, _, .cons r p, b, h => by
    rcases List.mem_cons.mp h with rfl | h
    · exact ⟨_, List.mem_cons_self .., r⟩
    · obtain ⟨a, h1, h2⟩ := paired_mem p h
      exact ⟨a, List.mem_cons_of_mem _ h1, h2⟩
theorem pr_of_paired {H : Hp} : ∀ {ks : List (Int × Int)} {ts : List Addr}, Paired (fun (q : Int × Int) t => H t = some (.tup [.int q.1, .int q.2])) ks ts → (ts.map Value.ref).map (prOf H) = ks
  | _, _, .nil => rfl
  | _, _, .cons r p => by
    simp only [List.map_cons, prOf, r]
    rw [pr_of_paired p]
def rSortDT : List V → Hp → VK → Prop := fun vs H Q => ∃ (d : Addr) (kvs : List (List L2.Key × V)) (ks : List (Int × Int)), vs = [V.ref d] ∧ Rd H d (.dT kvs) ∧ kvs.map (·.1) = ks.map (fun p => [Sum.inl p.1, Sum.inl p.2]) ∧
  ∀ (p : Addr) (ts : List Addr), Paired (fun (q : Int × Int) t => H t = some (.tup [.int q.1, .int q.2])) (sortBy ltP ks) ts → H p = none → Q (.ref p) (upd H p (.lst (ts.map V.ref)))
theorem cr_sortDT (hc : X.calm = true) : CallR X (.builtin "sorted") rSortDT := by
  intro pins s σ H xs us Q I r h
  obtain ⟨d, kvs, ks, rfl, hd, hks, q⟩ := h
  obtain ⟨u, rfl, rx⟩ := r.one
  cases rx
  obtain ⟨z, hs, es0, pr, o, es, ep, ho, hx, hdt, he, hn⟩ := (show ObjOk X.prog X.w H s.heap d (.dT kvs) from hd.ok I.hok)
  have l1 : es.size = es0.length := size_of_entries he
  have l2 : kvs.length = es0.length := Paired.length pr
  refine sorted_src (kdl_raw hs hx hdt) (I.ok.hd hc) ho (by omega) fun h' tk vs kp hlt hl hv => ?_
  have ea : vs = es0.map fun x => Value.ref x.2.1 := by
    apply List.ext_getElem?
    intro j
    rw [List.getElem?_map]
    cases hj : vs[j]? with
    | none =>
      have h1 := List.getElem?_eq_none_iff.mp hj
      rw [List.getElem?_eq_none (by omega)]
      all_goals rfl
    | some v =>
      obtain ⟨en, hen, hv⟩ := hv j v hj
      have qe := entry_at he j
      rw [hen] at qe
      cases hb : es0[j]? with
      | none =>
        rw [hb] at qe
        exact nomatch (show some en = none from qe)
      | some b =>
        rw [hb] at qe
        have e2 : en = entryOfKey (tupleKind (mixKind X.prog X.w)) b := Option.some.inj qe
        rw [hv, e2]
        all_goals rfl
  have tv : ∀ (xs : List (List L2.Key × Addr × Value)) (kvs : List (List L2.Key × V)) (ks : List (Int × Int)), Paired (fun (p : List L2.Key × V) (q : List L2.Key × Addr × Value) => p.1 = q.1 ∧ H q.2.1 = some (.tup (p.1.map kV)) ∧ RelV p.2 q.2.2) kvs xs → kvs.map (·.1) = ks.map (fun p => [Sum.inl p.1, Sum.inl p.2]) →
      Paired (fun (q : Int × Int) t => H t = some (.tup [.int q.1, .int q.2])) ks (xs.map fun x => x.2.1) := by
    intro xs
    induction xs with
    | nil =>
      intro kvs ks p e
      cases p
      cases ks with
      | nil => exact .nil
      | cons _ _ => simp at e
    | cons x xs ih =>
      intro kvs ks p e
      cases p with
      | cons a b =>
        cases ks with
        | nil => simp at e
        | cons k ks =>
          simp only [List.map_cons, List.cons.injEq] at e
          refine .cons ?_ (ih _ _ b e.2)
          rw [a.2.1, e.1]; rfl
  have pk := tv es0 kvs ks pr hks
  have hz : vs.length ≤ sizeLine := by omega
  have hpp : ∀ v ∈ vs, ∃ t i j, v = .ref t ∧ H t = some (.tup [.int i, .int j]) := fun v hv => by
    rw [ea] at hv
    obtain ⟨x, hx, rfl⟩ := List.mem_map.mp hv
    obtain ⟨q, _, e⟩ := paired_mem pk (List.mem_map_of_mem (f := fun x => x.2.1) hx)
    exact ⟨_, _, _, rfl, e⟩
  have hpr : vs.map (prOf H) = ks := by
    rw [ea, List.map_map]
    have : (es0.map ((prOf H) ∘ fun x => Value.ref x.2.1)) = ((es0.map fun x => x.2.1).map Value.ref).map (prOf H) := by rw [List.map_map, List.map_map]; rfl
    rw [this]
    exact pr_of_paired pk
  have there : (h'.push (seqObj "list" vs.toArray 0)).get? h'.objs.size = some (seqObj "list" vs.toArray 0) := Heap.get?_push_size _ rfl
  refine SrtO.list_sort_ord (n := 0) (SrtO.swo_lex (prOf H)) there hz (fun h2 => SrtO.pairs_sortableO (by omega) (fun v hv => ?pp) fun o e => ?tt) fun out hs hb => ⟨_, rfl, ?dd⟩
  case pp =>
    obtain ⟨t, i, j, rfl, ht⟩ := hpp v hv
    obtain ⟨_, its2, r2, o, ho, hc, n, hd⟩ := I.hok _ _ ht
    obtain ⟨u1, u2, rfl, ri, rj⟩ := vals2 r2
    obtain ⟨t1, rfl⟩ := ri
    obtain ⟨t2, rfl⟩ := rj
    have e : prOf H (.ref t) = (i, j) := by simp only [prOf, ht]
    rw [e]
    exact ⟨t, o, t1, t2, n, rfl, Heap.get?_push_of_some _ (kp _ _ ho), hc, hd⟩
  case tt =>
    have e' := e.symm.trans there
    cases e'
    intro c
    exact absurd (Value.type.inj c) (by decide)
  case dd =>
    have h3 : ∀ v ∈ out, ∃ t i j, v = .ref t ∧ H t = some (.tup [.int i, .int j]) := fun v hv => hpp v (hb.perm.mem_iff.mp hv)
    have e1 : out.map (prOf H) = sortBy ltP ks := by
      refine sortP_eq ?_ (srtd_leP hs)
      rw [← hpr]
      exact hb.perm.map _
    obtain ⟨n, hn'⟩ := sortedHeap_at (out := out.toArray) there
    refine ⟨.ref h'.objs.size, upd H h'.objs.size (.lst ((out.map adr).map V.ref)), I.laid (t' := tk) (fun b o e => sorted_kept kp e) (Nat.le_of_lt hlt) ⟨?_, out, n, ?_, hn'⟩, rfl, q _ (out.map adr) ?_ (I.hok.fresh (Nat.le_of_lt hlt))⟩
    · rw [List.length_map, List.length_map, hb.perm.length_eq]; exact hz
    · clear e1 hs hb hn'
      induction out with
      | nil => exact .nil
      | cons v out ih =>
        obtain ⟨t, i, j, rfl, _⟩ := h3 v (List.mem_cons_self ..)
        exact .cons rfl (ih fun u hu => h3 u (List.mem_cons_of_mem _ hu))
    · rw [← e1]
      clear e1 hs hb hn'
      induction out with
      | nil => exact .nil
      | cons v out ih =>
        obtain ⟨t, i, j, rfl, ht⟩ := h3 v (List.mem_cons_self ..)
        refine .cons ?_ (ih fun u hu => h3 u (List.mem_cons_of_mem _ hu))
        simp only [prOf, adr, ht]
def rSortDK : List V → Hp → VK → Prop := fun vs H Q => ∃ (d : Addr) (kvs : List (L2.Key × V)) (ks : List Str), vs = [V.ref d] ∧ Rd H d (.dK kvs) ∧ kvs.map (·.1) = ks.map Sum.inr ∧
  ∀ (p : Addr), H p = none → Q (.ref p) (upd H p (.lst ((sortBy ltS ks).map V.str)))
theorem cr_sortDK (hc : X.calm = true) : CallR X (.builtin "sorted") rSortDK := by
  intro pins s σ H xs us Q I r h
  obtain ⟨d, kvs, ks, rfl, hd, hks, q⟩ := h
  obtain ⟨u, rfl, rx⟩ := r.one
  cases rx
  obtain ⟨z, lo, vs0, rk, hdo⟩ := (show ObjOk X.prog X.w H s.heap d (.dK kvs) from hd.ok I.hok)
  obtain ⟨ep, hat⟩ := hdo.dictAt
  have l0 : kvs.length = vs0.length := Paired.length rk
  have l1 : kvs.length = ks.length := by simpa using congrArg List.length hks
  refine sorted_src (PySem.W.kdl_dict (knd := mixKind X.prog X.w) (kvs := vs0) (ep := ep) lo) (I.ok.hd hc) hat (by rw [← l0]; exact z) fun h' tk vs kp hlt hl hv => ?_
  have rv : Vals (ks.map V.str) vs := by
    refine vals_of_at (by rw [List.length_map]; omega) fun j x w h1 h2 => ?_
    obtain ⟨k, y, hky, hi⟩ := hv j w h2
    have e1 : (kvs.map (·.1))[j]? = some k := by
      rw [KV.keys rk, List.getElem?_map, hky] <;> rfl
    rw [hks, List.getElem?_map] at e1
    rw [List.getElem?_map] at h1
    cases hj : ks[j]? with
    | none => rw [hj] at h1; cases h1
    | some sx =>
      rw [hj] at h1 e1
      cases h1
      cases e1
      exact keyIs_rel (k := Sum.inr sx) hi
  have hS := rv.strs
  have hz : vs.length ≤ sizeLine := by omega
  have there : (h'.push (seqObj "list" vs.toArray 0)).get? h'.objs.size = some (seqObj "list" vs.toArray 0) := Heap.get?_push_size _ rfl
  refine list_sort_treeKAny strKind_oneLt there hS.keysOf (fun v₁ v₂ rest e => keyKind_strs (by rw [← e]; exact hS)) hz fun st' hp hs => ⟨_, rfl, ?_⟩
  obtain ⟨ss', h1, h2, h3⟩ := sorted_out_str hS hp hs
  have e1 := sortS_eq h2 h3
  subst e1
  obtain ⟨n, hn'⟩ := sortedHeap_at (out := (arrOf st').map (·.2)) there
  refine ⟨.ref h'.objs.size, upd H h'.objs.size (.lst ((sortBy ltS ks).map V.str)), I.laid (t' := tk) (fun b o e => sorted_kept kp e) (Nat.le_of_lt hlt) ⟨?_, ((arrOf st').map (·.2)).toList, n, ?_, by rw [Array.toArray_toList]; exact hn'⟩, rfl, q _ (I.hok.fresh (Nat.le_of_lt hlt))⟩
  · rw [List.length_map, (sortBy_perm ks).length_eq]; omega
  · exact vals_of_strs h1
end
end HI
set_option Elab.async false
set_option linter.all false
set_option maxRecDepth 100000
namespace HI
open PySem PySem.Spec PyProof.Rows L2
section
variable {X : Cx} {rw : Bool} {W : WX} {m : MM} {H : Hp} {S : Store} {x : Val} {u : V} {Q : VK} {σ : L2.St} {K : PySem.W.Frag}
theorem tup_out (hS : SRel K rw m H S) {t : Addr} {xs : List V} (h : H t = some (.tup xs)) : t ∉ m := by
  rintro (hb | hp)
  · obtain ⟨n, hn⟩ := List.getElem?_of_mem hb
    have hl : n < S.length := by rw [← hS.len]; exact (List.getElem?_eq_some_iff.mp hn).1
    have b := hS.box n t _ hn (List.getElem?_eq_getElem hl)
    cases e : S[n] with
    | list vs => rw [e] at b; obtain ⟨_, h1, _⟩ := b; rw [h] at h1; cases h1
    | dictK vs => rw [e] at b; obtain ⟨_, h1, _⟩ := b; rcases h1 with h1 | ⟨_, h1⟩ <;> (rw [h] at h1; cases h1)
    | dictT vs => rw [e] at b; obtain ⟨_, h1, _⟩ := b; rcases h1 with h1 | ⟨_, h1⟩ <;> (rw [h] at h1; cases h1)
    | inst c vs => rw [e] at b; obtain ⟨_, _, _, h1, _⟩ := b; rw [h] at h1; cases h1
  · exact hS.pht t hp xs h
def prV (H : Hp) : V → Int × Int
  | .ref b => (match H b with
    | some (.tup [.int i, .int j]) => (i, j)
    | _ => (0, 0))
  | _ => (0, 0)
theorem rep_pair {p : Int × Int} (r : Rep K m H (pairV p) u) : ∃ t, u = .ref t ∧ H t = some (.tup [.int p.1, .int p.2]) ∧ t ∉ m ∧ prV H u = p := by
  obtain ⟨a, us, rfl, h1, h2, h3⟩ := rep_tup r
  cases h3 with
  | cons r1 h3 => cases h3 with
    | cons r2 h3 => cases h3; cases rep_int r1; cases rep_int r2; exact ⟨a, rfl, h1, h2, by simp only [prV, h1]⟩
theorem pairsOf_eq : ∀ {vs : List Val} {ps : List (Int × Int)}, pairsOf vs = some ps → vs = ps.map pairV
  | [], _, h => by cases h; rfl
  | v :: vs, ps, h => by
    simp only [pairsOf] at h
    split at h
    · rename_i p q h1 h2
      cases h
      rw [List.map_cons, ← pairsOf_eq h2]
      congr 1
      unfold pairOf at h1
      split at h1
      · cases h1; rfl
      · cases h1
    · cases h
theorem reps_pairs : ∀ {ps : List (Int × Int)} {us : List V}, Reps K m H (ps.map pairV) us → us.map (prV H) = ps ∧ ∀ y ∈ us, ∃ t, y = .ref t ∧ H t = some (.tup [.int (prV H y).1, .int (prV H y).2]) ∧ t ∉ m
  | [], _, .nil => ⟨rfl, fun _ h => by cases h⟩
  | p :: ps, _, .cons r q => by
    obtain ⟨h1, h2⟩ := reps_pairs q
    obtain ⟨t, rfl, k1, k2, k3⟩ := rep_pair r
    refine ⟨by rw [List.map_cons, k3, h1], fun y hy => ?_⟩
    rcases List.mem_cons.mp hy with rfl | hy
    · exact ⟨t, rfl, by rw [k3]; exact k1, k2⟩
    · exact h2 y hy
theorem pairs_reps : ∀ {ys : List V}, (∀ y ∈ ys, ∃ t, y = .ref t ∧ H t = some (.tup [.int (prV H y).1, .int (prV H y).2]) ∧ t ∉ m) → Reps K m H ((ys.map (prV H)).map pairV) ys
  | [], _ => .nil
  | y :: ys, h => by
    obtain ⟨t, rfl, k1, k2⟩ := h y (List.mem_cons_self ..)
    exact .cons (.tup k1 k2 (.cons (.int _) (.cons (.int _) .nil))) (pairs_reps fun z hz => h z (List.mem_cons_of_mem _ hz))
theorem pairKeys_eq : ∀ {kvs : List (List Key × Val)} {ks : List (Int × Int)}, pairKeys kvs = some ks → kvs.map (·.1) = ks.map (fun p => [Sum.inl p.1, Sum.inl p.2])
  | [], _, h => by cases h; rfl
  | (k, v) :: r, ks, h => by
    unfold pairKeys at h
    split at h
    · rename_i e; cases e
    · rename_i a b v' r' e
      cases e
      cases q : pairKeys r with
      | none => rw [q] at h; cases h
      | some l => rw [q] at h; cases h; rw [List.map_cons, pairKeys_eq q]; rfl
    · cases h
theorem strKeys_eq : ∀ {kvs : List (Key × Val)} {ks : List Str}, strKeys kvs = some ks → kvs.map (·.1) = ks.map Sum.inr
  | [], _, h => by cases h; rfl
  | (k, v) :: r, ks, h => by
    unfold strKeys at h
    split at h
    · rename_i e; cases e
    · rename_i a v' r' e
      cases e
      cases q : strKeys r with
      | none => rw [q] at h; cases h
      | some l => rw [q] at h; cases h; rw [List.map_cons, strKeys_eq q]; rfl
    · cases h
theorem repP_keys {κ : Type} {l : List (κ × Val)} {r : List (κ × V)} (h : RepP K m H l r) : l.map (·.1) = r.map (·.1) := by
  induction h with
  | nil => rfl
  | cons a b ih => rw [List.map_cons, List.map_cons, a.1, ih]
def rSortAll (K : PySem.W.Frag) : List V → Hp → VK → Prop := fun vs H Q => rSortDT vs H Q ∨ rSortDK vs H Q ∨ rSortedI K vs H Q ∨ rSortedS K vs H Q ∨ rSortedPO K vs H Q
theorem cr_sortAll (hc : X.calm = true) : CallR X (.builtin "sorted") (rSortAll X.K) := fun pins s σ H xs us Q I r h => by
  rcases h with h | h | h | h | h
  · exact cr_sortDT hc pins s σ H xs us Q I r h
  · exact cr_sortDK hc pins s σ H xs us Q I r h
  · exact cr_sortedI pins s σ H xs us Q I r h
  · exact cr_sortedS pins s σ H xs us Q I r h
  · exact cr_sortedPO pins s σ H xs us Q I r h
theorem k_sortVals (hS : SRel X.K rw m H S) {a : Addr} {vs ws : List Val} {us : List V} (ha : H a = some (.lst us)) (rs : Reps X.K m H vs us) (e : sortVals vs = some ws) (h : Out X.K rw m H σ W (Rep X.K) (.ok (.lst ws) S) Q) : rSortAll X.K [.ref a] H Q := by
  unfold sortVals at e
  split at e
  · rename_i ns hn
    cases e
    rw [intsOf_eq hn] at rs
    refine .inr (.inr (.inl ⟨a, ns, rfl, ?_, fun ns' p hp hr hq => ?_⟩))
    · rw [← Reps.ints rs]; exact SqL.of ha
    · rw [sortI_eq hp hr]
      exact fin_lst h hS (Reps.of_ints _) hq
  · split at e
    · rename_i ss hn
      split at e
      · rename_i h64
        cases e
        rw [strsOf_eq hn] at rs
        refine .inr (.inr (.inr (.inl ⟨a, ss, rfl, ?_, h64, fun ys p hp hr hq => ?_⟩)))
        · rw [← Reps.strs rs]; exact SqL.of ha
        · rw [sortS_eq hp hr]
          exact fin_lst h hS (Reps.of_strs _) hq
      · cases e
    · split at e
      · rename_i ps hn
        cases e
        rw [pairsOf_eq hn] at rs
        obtain ⟨h1, h2⟩ := reps_pairs rs
        refine .inr (.inr (.inr (.inr ⟨a, us, prV H, rfl, SqL.of ha, fun y hy => ?_, fun ys p hs hb hq => ?_⟩)))
        · obtain ⟨t, k1, k2, _⟩ := h2 y hy; exact ⟨t, k1, k2⟩
        · have e1 : ys.map (prV H) = sortBy ltP ps := by
            refine sortP_eq ?_ (srtd_leP hs)
            rw [← h1]
            exact hb.perm.map _
          have := pairs_reps (K := X.K) (m := m) (H := H) (ys := ys) fun y hy => h2 y (hb.perm.mem_iff.mp hy)
          rw [e1] at this
          exact fin_lst h hS this hq
      · cases e
theorem k_sorted (hS : SRel X.K rw m H S) (rx : Rep X.K m H x u) (h : Out X.K rw m H σ W (Rep X.K) (ofO (op1 S .sorted x) S) Q) : rSortAll X.K [u] H Q := by
  obtain ⟨z, e, h⟩ := h.some
  simp only [op1, sortedV] at e
  split at e
  · rename_i vs
    obtain ⟨a, us, rfl, h1, h2, h3⟩ := rep_lst rx
    cases q : sortVals vs with
    | none => rw [q] at e; cases e
    | some ws => rw [q] at e; cases e; exact k_sortVals hS h1 h3 q h
  · rename_i n
    obtain ⟨a, rfl, ha⟩ := rep_loc rx
    split at e
    · rename_i vs hn
      obtain ⟨us, h1, h3⟩ := hS.atA ha hn
      cases q : sortVals vs with
      | none => rw [q] at e; cases e
      | some ws => rw [q] at e; cases e; exact k_sortVals hS h1 h3 q h
    · rename_i kvs hn
      obtain ⟨us, h1, h3⟩ := hS.atA ha hn
      split at e
      · rename_i ks hk
        split at e
        · cases e
          refine .inr (.inl ⟨a, us, ks, rfl, h1, by rw [← repP_keys h3]; exact strKeys_eq hk, fun p hp => fin_lst h hS (Reps.of_strs _) hp⟩)
        · cases e
      · cases e
    · rename_i kvs hn
      obtain ⟨us, h1, h3⟩ := hS.atA ha hn
      split at e
      · rename_i ks hk
        cases e
        refine .inl ⟨a, us, ks, rfl, h1, by rw [← repP_keys h3]; exact pairKeys_eq hk, fun p ts pt hp => fin_lst h hS ?_ hp⟩
        have go : ∀ {ks : List (Int × Int)} {ts : List Addr}, Paired (fun (q : Int × Int) t => H t = some (.tup [.int q.1, .int q.2])) ks ts → Reps X.K m H (ks.map pairV) (ts.map V.ref) := by
          intro ks ts pt
          induction pt with
          | nil => exact .nil
          | cons a b ih => exact .cons (.tup a (tup_out hS a) (.cons (.int _) (.cons (.int _) .nil))) ih
        exact go pt
      · cases e
    · cases e
  · cases e
end
end HI
set_option Elab.async false
set_option linter.all false
set_option maxRecDepth 100000
namespace HI
open PySem PySem.Spec PySem.Calls PyProof.Rows L2
section
variable {X : Cx} {C : CallT} {W : WX} {rw : Bool}
def tPopT (td ty : TE) : TE := fun σ H Q => td σ H fun x H1 => ∃ a, x = .ref a ∧ IsD H1 a ∧ ty σ H1 fun y H2 => ∃ kvs k b v, H2 a = some (.dT kvs) ∧ y = .ref b ∧ H2 b = some (.tup (k.map kV)) ∧ valV kvs k = some v ∧ Q v (upd H2 a (.dT (L2.dropK kvs k)))
theorem pop_there {pins : List (Addr × PySem.Obj)} {σ : L2.St} {H : Hp} {s : Shared} {A : Around} {EE : Value → Shared → Prop} {a b : Addr} {kvs : List (List L2.Key × V)} {k : List L2.Key} {v : V} {Q : VK} (hu : A.units + 1 < cLine) (I : L2.Inv X pins σ H s) (ha : H a = some (.dT kvs)) (hb : H b = some (.tup (k.map kV))) (hv : valV kvs k = some v)
    (q : Q v (upd H a (.dT (L2.dropK kvs k)))) : wpAny (model X.prog X.w) A (call (.builtin "dict.pop") [.ref a, .ref b]) (EP X pins σ Q) EE s := by
  obtain ⟨z, hd, xs, rel, dd⟩ := dt_of I.hok ha
  have hz : xs.length ≤ sizeLine := by rw [← Paired.length rel]; exact z
  have r := rel.val k
  rw [hv] at r
  cases hp : atKey xs k with
  | none => rw [hp] at r; exact (show False from r).elim
  | some p =>
    rw [hp] at r
    refine PySem.call_pop_heap (.inl rfl) (PySem.F.args_dict_pop_2 _ _) (tupleKind_room_in1 hu) (key_of I.hok hb) hd dd hp (fun h' dd' hs => ?_) hz
    obtain ⟨o, es, ep, hq, h2, h3, h4, _, h5⟩ := dd'
    refine ⟨v, upd H a (.dT (L2.dropK kvs k)), d_write (ob := .dT (L2.dropK kvs k)) I (by rw [ha]; exact True.intro) hs ⟨o, hq⟩ ⟨Nat.le_trans (dropK_le kvs k) z, hd, _, (L2.DX.KT_drop k rel).keeps (fun c ys ec => ?_), o, es, ep, hq, h2, h3, h4, h5⟩, r, q⟩
    rw [upd_ne (ne_of ec ha (fun z => nomatch z))]
    exact ec
theorem pe_popT {o e : Expr} {td ty : TE} {apos cpos : Pos} (hu : X.A.units + 1 < cLine) (ho : PE X o td) (he : PE X e ty) (m : M1 X o "pop" apos e cpos) : PE X (.Call (.Attribute o "pop" apos) [e] [] cpos) (tPopT td ty) := ⟨fun pins s σ H Q I h => by
  refine wpAny_Call_method m.base m.few m.line PySem.F.plainAttrs_dict PySem.F.slot_dict_pop PySem.F.type_dict_pop
    (thn (ho.run pins s σ H _ I h) fun u s1 y1 => ?_)
  obtain ⟨x, H1, I1, rx, a, ex, d, q1⟩ := y1
  subst ex
  cases (show u = Value.ref a from rx)
  obtain ⟨t1, t2, _⟩ := isD_at I1 d
  refine ⟨t1, t2, ?_⟩
  rw [m.trees]
  refine Calls.callWith_builtin rfl (Calls.evalArgs_plain (Calls.spliced_cons (thn (he.run pins s1 σ H1 _ I1 q1) fun iv s2 y2 => Calls.spliced_nil ?_)))
  obtain ⟨y, H2, I2, ry, kvs, k, b, v, ea, ey, eb, l, q2⟩ := y2
  subst ey
  cases (show iv = Value.ref b from ry)
  exact pop_there (by omega) I2 ea eb l q2⟩
theorem m1_of {o e : Expr} {m : Str} {apos cpos : Pos} (hb : notCall0 o = true) (ne : notStarred e = true) (hline : (apos.endLine == cpos.line) = true) : M1 X o m apos e cpos := by
  have h2 : starEach [e] X.env = [(false, eval e X.env)] := by rw [noStar_of ne]; rfl
  refine ⟨noSuper_of hb _ _, form_of (by simp [ne]) (by simp) _ _, hline, ?_⟩
  rw [h2]; rfl
theorem s_pop {o e : Expr} {o' e' : E} {apos cpos : Pos} (hrw : rw = true) (hu : X.A.units + 1 < cLine) (hb : notCall0 o = true) (ne : notStarred e = true) (hline : (apos.endLine == cpos.line) = true) (ho : SE X rw C W o o') (he : SE X rw C W e e') :
    SE X rw C W (.Call (.Attribute o "pop" apos) [e] [] cpos) (.pop o' e') := by
  subst hrw
  refine PE.wk (pe_popT hu ho he (m1_of hb ne hline)) fun σ H Q ⟨m, S, ρ, hS, hE, h⟩ => ?_
  simp only [ev] at h
  refine ⟨m, S, ρ, hS, hE, Out.bind h fun x S1 m1 H1 u x1 s1 r1 h1 => ?_⟩
  split at h1
  · rename_i hd
    obtain ⟨n, rfl, k⟩ := isDK_inv hd
    obtain ⟨a, rfl, ha⟩ := rep_loc r1
    refine ⟨a, rfl, isDK_at s1 ha k, m1, S1, ρ, s1, hE.ext x1, Out.bind h1 fun y S2 m2 H2 w x2 s2 r2 h2 => ?_⟩
    have ha2 := x2.get ha
    simp only at h2
    split at h2
    · rename_i kvs hn
      split at h2
      · rename_i ks
        split at h2
        · rename_i kk hk
          split at h2
          · rename_i v hv
            obtain ⟨us, hr, rp⟩ := s2.atA ha2 hn
            have hp := s2.plain (mem_bx ha2) hr
            obtain ⟨b, ws, rfl, hb1, hb2, hb3⟩ := rep_tup r2
            have ek := keys_rep hb3 hk
            subst ek
            have nph : a ∉ m2.ph := fun z => s2.phb a z (mem_bx ha2)
            have xw : Ext true m2 H2 m2 (upd H2 a (.dT (L2.dropK us kk))) := Ext.write (mem_bx ha2) nph
            have sw : SRel X.K true m2 (upd H2 a (.dT (L2.dropK us kk))) (S2.set n (.dictT (dropK kvs kk))) := s2.write ha2 ⟨_, .inl upd_same, RepP.ext xw (rp.drop kk)⟩
            rcases RepP.get rp kk with ⟨e1, _⟩ | ⟨v', u', e1, e2, e3⟩
            · rw [hv] at e1; cases e1
            · rw [hv] at e1; cases e1
              exact ⟨us, kk, b, u', hp, rfl, hb1, e2, h2.fin' xw sw (e3.ext xw)⟩
          · exact h2.elim
        · exact h2.elim
      · exact h2.elim
    · exact h2.elim
  · exact h1.elim
end
end HI
set_option Elab.async false
set_option linter.all false
set_option maxRecDepth 100000
namespace HI
open PySem PySem.Spec PyProof.Rows L2
mutual
def quiet : E → Bool
  | .var _ => true
  | .lit _ => true
  | .un _ a => quiet a
  | .bin _ a b => quiet a && quiet b
  | .chain _ _ a b c => quiet a && (quiet b && quiet c)
  | .and a b => quiet a && quiet b
  | .or a b => quiet a && quiet b
  | .not a => quiet a
  | .tup es => quiets es
  | .fld a _ => quiet a
  | .isI a _ => quiet a
  | _ => false
def quiets : List E → Bool
  | [] => true
  | e :: es => quiet e && quiets es
end
section
variable {C : CallT} {ρ : Env}
theorem bind_ok_inv {α β : Type} {r : Res α} {f : α → Store → Res β} {v : β} {S' : Store} (h : r.bind f = .ok v S') : ∃ a S1, r = .ok a S1 ∧ f a S1 = .ok v S' := by
  cases r with
  | ok a S1 => exact ⟨a, S1, rfl, h⟩
  | exc c S => cases h
  | stuck => cases h
theorem ofO_inv {α : Type} {o : Option α} {S S' : Store} {v : α} (h : ofO o S = .ok v S') : S' = S := (ofO_ok h).2
theorem quiet_same : ∀ n : Nat, (∀ e : E, sizeOf e ≤ n → quiet e = true → ∀ S v S', ev C e ρ S = .ok v S' → S' = S) ∧ (∀ e : E, sizeOf e ≤ n → quiet e = true → ∀ S v S', evT C e ρ S = .ok v S' → S' = S) ∧ (∀ es : List E, sizeOf es ≤ n → quiets es = true → ∀ S v S', evs C es ρ S = .ok v S' → S' = S)
  | 0 => ⟨fun e h => by cases e <;> simp at h, fun e h => by cases e <;> simp at h, fun es h => by cases es <;> simp at h⟩
  | n + 1 => by
    obtain ⟨i1, i2, i3⟩ := quiet_same n
    have main : ∀ e : E, sizeOf e ≤ n + 1 → quiet e = true → ∀ S v S', ev C e ρ S = .ok v S' → S' = S := by
      intro e hn hf S v S' h
      cases e with
      | var i => simp only [ev] at h; split at h <;> cases h; rfl
      | lit v => simp only [ev] at h; cases h; rfl
      | un op a =>
        simp only [ev] at h
        obtain ⟨x, S1, h1, h2⟩ := bind_ok_inv h
        rw [ofO_inv h2, i1 a (by simp at hn; omega) hf S x S1 h1]
      | bin op a b =>
        simp only [ev] at h
        simp only [quiet, Bool.and_eq_true] at hf
        obtain ⟨x, S1, h1, h2⟩ := bind_ok_inv h
        obtain ⟨y, S2, h3, h4⟩ := bind_ok_inv h2
        rw [ofO_inv h4, i1 b (by simp at hn; omega) hf.2 S1 y S2 h3, i1 a (by simp at hn; omega) hf.1 S x S1 h1]
      | chain o1 o2 a b c =>
        simp only [ev] at h
        simp only [quiet, Bool.and_eq_true] at hf
        obtain ⟨x, S1, h1, h2⟩ := bind_ok_inv h
        obtain ⟨y, S2, h3, h4⟩ := bind_ok_inv h2
        have e1 := i1 b (by simp at hn; omega) hf.2.1 S1 y S2 h3
        have e2 := i1 a (by simp at hn; omega) hf.1 S x S1 h1
        split at h4
        · obtain ⟨z, S3, h5, h6⟩ := bind_ok_inv h4
          rw [ofO_inv h6, i1 c (by simp at hn; omega) hf.2.2 S2 z S3 h5, e1, e2]
        · cases h4; rw [e1, e2]
        · cases h4
      | and a b =>
        simp only [ev] at h
        simp only [quiet, Bool.and_eq_true] at hf
        obtain ⟨x, S1, h1, h2⟩ := bind_ok_inv h
        have e2 := i1 a (by simp at hn; omega) hf.1 S x S1 h1
        split at h2
        · rw [i1 b (by simp at hn; omega) hf.2 S1 _ S' h2, e2]
        · cases h2; exact e2
        · cases h2
      | or a b =>
        simp only [ev] at h
        simp only [quiet, Bool.and_eq_true] at hf
        obtain ⟨x, S1, h1, h2⟩ := bind_ok_inv h
        have e2 := i1 a (by simp at hn; omega) hf.1 S x S1 h1
        split at h2
        · cases h2; exact e2
        · rw [i1 b (by simp at hn; omega) hf.2 S1 _ S' h2, e2]
        · cases h2
      | not a =>
        simp only [ev] at h
        obtain ⟨x, S1, h1, h2⟩ := bind_ok_inv h
        have e2 := i1 a (by simp at hn; omega) hf S x S1 h1
        split at h2
        · cases h2; exact e2
        · cases h2
      | tup es =>
        simp only [ev] at h
        obtain ⟨x, S1, h1, h2⟩ := bind_ok_inv h
        cases h2
        exact i3 es (by simp at hn; omega) hf S x _ h1
      | fld a f =>
        simp only [ev] at h
        obtain ⟨x, S1, h1, h2⟩ := bind_ok_inv h
        have e2 := i1 a (by simp at hn; omega) hf S x S1 h1
        split at h2
        · split at h2
          · rw [ofO_inv h2, e2]
          · cases h2
        · cases h2
      | isI a t =>
        simp only [ev] at h
        obtain ⟨x, S1, h1, h2⟩ := bind_ok_inv h
        have e2 := i1 a (by simp at hn; omega) hf S x S1 h1
        split at h2
        · cases h2; exact e2
        · cases h2
      | _ => simp [quiet] at hf
    refine ⟨main, fun e hn hf S v S' h => ?_, fun es hn hf S v S' h => ?_⟩
    · have plain : evT C e ρ S = (ev C e ρ S).bind (fun x S1 => ofO (HI.truthy S1 x) S1) → S' = S := fun e0 => by
        rw [e0] at h
        obtain ⟨x, S1, h1, h2⟩ := bind_ok_inv h
        rw [ofO_inv h2, main e hn hf S x S1 h1]
      cases e with
      | and a b =>
        simp only [evT] at h
        simp only [quiet, Bool.and_eq_true] at hf
        obtain ⟨x, S1, h1, h2⟩ := bind_ok_inv h
        have e2 := i2 a (by simp at hn; omega) hf.1 S x S1 h1
        split at h2
        · rw [i2 b (by simp at hn; omega) hf.2 S1 _ S' h2, e2]
        · cases h2; exact e2
      | or a b =>
        simp only [evT] at h
        simp only [quiet, Bool.and_eq_true] at hf
        obtain ⟨x, S1, h1, h2⟩ := bind_ok_inv h
        have e2 := i2 a (by simp at hn; omega) hf.1 S x S1 h1
        split at h2
        · cases h2; exact e2
        · rw [i2 b (by simp at hn; omega) hf.2 S1 _ S' h2, e2]
      | not a =>
        simp only [evT] at h
        obtain ⟨x, S1, h1, h2⟩ := bind_ok_inv h
        cases h2
        exact i2 a (by simp at hn; omega) hf S x _ h1
      | _ => exact plain (by simp only [evT])
    · cases es with
      | nil => simp only [evs] at h; cases h; rfl
      | cons e es =>
        simp only [evs] at h
        simp only [quiets, Bool.and_eq_true] at hf
        obtain ⟨x, S1, h1, h2⟩ := bind_ok_inv h
        obtain ⟨y, S2, h3, h4⟩ := bind_ok_inv h2
        cases h4
        rw [i3 es (by simp at hn; omega) hf.2 S1 y _ h3, i1 e (by simp at hn; omega) hf.1 S x S1 h1]
def rdo : E → Bool
  | .var _ => true
  | .fld a _ => rdo a
  | .bin .item a (.lit _) => rdo a
  | _ => false
theorem rdo_ev : ∀ {a : E}, rdo a = true → ∀ S, ev C a ρ S = .stuck ∨ ∃ x, ev C a ρ S = .ok x S
  | .var i, _, S => by
    simp only [ev]
    split
    · exact .inr ⟨_, rfl⟩
    · exact .inl rfl
  | .fld a f, h, S => by
    simp only [ev]
    rcases rdo_ev (a := a) h S with e | ⟨x, e⟩
    · rw [e]; exact .inl rfl
    · rw [e, Res.bind_ok]
      split
      · split
        · cases fldGet _ f with
          | none => exact .inl rfl
          | some v => exact .inr ⟨v, rfl⟩
        · exact .inl rfl
      · exact .inl rfl
  | .bin .item a (.lit v), h, S => by
    simp only [ev]
    rcases rdo_ev (a := a) h S with e | ⟨x, e⟩
    · rw [e]; exact .inl rfl
    · rw [e, Res.bind_ok, Res.bind_ok]
      cases op2 S .item x v with
      | none => exact .inl rfl
      | some w => exact .inr ⟨w, rfl⟩
theorem compGo_same {src : Src} {f : Val → Store → Res (Option Val)} {S : Store} (hf : ∀ x v S', f x S = .ok v S' → S' = S) : ∀ (xs acc ws : List Val) (S' : Store), compGo src f xs acc S = .ok ws S' → S' = S
  | [], acc, ws, S', h => by
    unfold compGo guardS at h
    split at h <;> cases h; rfl
  | x :: xs, acc, ws, S', h => by
    unfold compGo guardS at h
    split at h
    · obtain ⟨o, S1, h1, h2⟩ := bind_ok_inv h
      have e := hf x o S1 h1
      subst e
      cases o with
      | none => exact compGo_same hf xs acc ws S' h2
      | some v =>
        simp only at h2
        split at h2
        · exact compGo_same hf xs _ ws S' h2
        · cases h2
    · cases h
end
end HI
set_option Elab.async false
set_option linter.all false
set_option maxRecDepth 100000
namespace HI
open PySem PySem.Spec PyProof.Rows L2
section
variable {K : PySem.W.Frag} {rw : Bool} {m m' : MM} {H H' : Hp} {S S' : Store} {d : Addr} {u : HO} {od : PySem.Obj} {n : Nat}
def DBox (S : Store) (n : Nat) : Prop := (∃ kvs, S[n]? = some (.dictK kvs)) ∨ ∃ kvs, S[n]? = some (.dictT kvs)
theorem SRel.lock (hS : SRel K true m H S) (ha : m[n]? = some d) (hd : H d = some u) (db : DBox S n) : SRel K false m (upd H d (.frz od u)) S := by
  have hm := mem_bx ha
  have hp : d ∉ m.ph := fun z => hS.phb d z hm
  have xw : Ext true m H m (upd H d (.frz od u)) := Ext.write hm hp
  refine ⟨hS.len, hS.nd, fun k a o e1 e2 => ?_, fun h => (by cases h), fun a ha => there_upd a (hS.phs a ha), hS.phb, fun a hq xs => ?_⟩
  · have b := hS.box k a o e1 e2
    by_cases e : a = d
    · subst e
      cases o with
      | dictK kvs =>
        obtain ⟨us, h1, h2⟩ := b
        have h3 := hS.plain hm h1
        rw [hd] at h3; cases h3
        exact ⟨us, .inr ⟨od, upd_same⟩, RepP.ext xw h2⟩
      | dictT kvs =>
        obtain ⟨us, h1, h2⟩ := b
        have h3 := hS.plain hm h1
        rw [hd] at h3; cases h3
        exact ⟨us, .inr ⟨od, upd_same⟩, RepP.ext xw h2⟩
      | list vs =>
        exfalso
        have : k = n := (List.getElem_inj hS.nd).mp ((List.getElem?_eq_some_iff.mp (show m.bx[k]? = some a from e1)).2.trans (List.getElem?_eq_some_iff.mp (show m.bx[n]? = some a from ha)).2.symm)
        subst this
        rcases db with ⟨_, z⟩ | ⟨_, z⟩ <;> (rw [e2] at z; cases z)
      | inst c fs =>
        exfalso
        have : k = n := (List.getElem_inj hS.nd).mp ((List.getElem?_eq_some_iff.mp (show m.bx[k]? = some a from e1)).2.trans (List.getElem?_eq_some_iff.mp (show m.bx[n]? = some a from ha)).2.symm)
        subst this
        rcases db with ⟨_, z⟩ | ⟨_, z⟩ <;> (rw [e2] at z; cases z)
    · exact b.ext xw (upd_ne e)
  · rw [upd_ne (fun e => by subst e; exact hp hq)]; exact hS.pht a hq xs
theorem unlock (hS : SRel K true m H S) (ha : m[n]? = some d) (hd : H d = some u) (nf : ∀ o v, u ≠ .frz o v) (x : Ext false m (upd H d (.frz od u)) m' H') (s : SRel K false m' H' S) :
    H' d = some (.frz od u) ∧ Ext true m H m' (upd H' d u) ∧ SRel K true m' (upd H' d u) S ∧ ∀ v w, Rep K m' H' v w → Rep K m' (upd H' d u) v w := by
  have hm := mem_bx ha
  have hp : d ∉ m.ph := fun z => hS.phb d z hm
  have ha' := x.get ha
  have hm' := mem_bx ha'
  have hp' : d ∉ m'.ph := fun z => s.phb d z hm'
  have e0 : H' d = some (.frz od u) := x.keep d _ upd_same (.inr ⟨rfl, hp⟩)
  have xw : Ext true m' H' m' (upd H' d u) := Ext.write hm' hp'
  obtain ⟨ms, ps, em, f1, f2⟩ := x.more
  refine ⟨e0, ⟨⟨ms, ps, em, fun a h => ?_, fun a h => ?_⟩, fun a o h c => ?_, fun a h => ?_, fun a h o q => ?_⟩, ⟨s.len, s.nd, fun k a o e1 e2 => ?_, fun _ a hb o v q => ?_, fun a h => there_upd a (s.phs a h), s.phb, fun a h xs => ?_⟩, fun v w r => r.ext xw⟩
  · have := f1 a h
    rwa [upd_ne (fun e => by subst e; rw [upd_same] at this; cases this)] at this
  · have := f2 a h
    rwa [upd_ne (fun e => by subst e; rw [upd_same] at this; cases this)] at this
  · have c' : a ∉ m := c.elim id fun z => absurd z.1 (by decide)
    have nd : a ≠ d := fun e => c' (by subst e; exact .inl hm)
    rw [upd_ne nd]
    exact x.keep a o (by rw [upd_ne nd]; exact h) (.inl c')
  · by_cases e : a = d
    · subst e; rw [upd_same]; rfl
    · rw [upd_ne e]
      exact x.there a (by rw [upd_ne e]; exact h)
  · have nd : a ≠ d := fun e => hp (by subst e; exact h)
    rw [upd_ne nd]
    exact x.kph a h o (by rw [upd_ne nd]; exact q)
  · have b := s.box k a o e1 e2
    by_cases e : a = d
    · subst e
      cases o with
      | dictK kvs =>
        obtain ⟨us, h1, h2⟩ := b
        refine ⟨us, .inl ?_, RepP.ext xw h2⟩
        rw [upd_same]
        rcases h1 with h1 | ⟨o, h1⟩
        · rw [e0] at h1; cases h1
        · rw [e0] at h1; cases h1; rfl
      | dictT kvs =>
        obtain ⟨us, h1, h2⟩ := b
        refine ⟨us, .inl ?_, RepP.ext xw h2⟩
        rw [upd_same]
        rcases h1 with h1 | ⟨o, h1⟩
        · rw [e0] at h1; cases h1
        · rw [e0] at h1; cases h1; rfl
      | list vs => obtain ⟨us, h1, _⟩ := b; rw [e0] at h1; cases h1
      | inst c fs => obtain ⟨_, _, us, h1, _⟩ := b; rw [e0] at h1; cases h1
    · exact b.ext xw (upd_ne e)
  · by_cases e : a = d
    · subst e; rw [upd_same] at q; cases q; exact nf _ _ rfl
    · rw [upd_ne e] at q
      have hb0 : a ∈ m.bx := by
        have l1 := s.len
        rw [em] at l1 hb
        simp only [List.length_append] at l1
        have l2 := hS.len
        have : ms = [] := List.eq_nil_of_length_eq_zero (by omega)
        subst this
        simpa using hb
      have hs := hS.mem_some hb0
      cases q1 : H a with
      | none => rw [q1] at hs; cases hs
      | some ob =>
        have := x.keep a ob (by rw [upd_ne e]; exact q1) (.inr ⟨rfl, fun z => hS.phb a z hb0⟩)
        rw [q] at this
        cases this
        exact hS.nof rfl a hb0 _ _ q1
  · rw [upd_ne (fun e => hp' (by subst e; exact h))]; exact s.pht a h xs
theorem reps_keys (k : List Key) : Reps K m H (k.map keyV) (k.map kV) := by
  induction k with
  | nil => exact .nil
  | cons x k ih =>
    cases x with
    | inl i => exact .cons (.int i) ih
    | inr s => exact .cons (.str s) ih
theorem repP_at {κ : Type} : ∀ {l : List (κ × Val)} {r : List (κ × V)} {i : Nat} {k : κ} {v : Val}, RepP K m H l r → l[i]? = some (k, v) → ∃ w, r[i]? = some (k, w) ∧ Rep K m H v w
  | _, _, 0, k, v, .cons a b, h => by simp at h; subst h; obtain ⟨a1, a2⟩ := a; exact ⟨_, by rw [List.getElem?_cons_zero]; exact congrArg some (Prod.ext a1.symm rfl), a2⟩
  | _, _, i + 1, k, v, .cons a b, h => by
    obtain ⟨w, h1, h2⟩ := repP_at (i := i) b (by simpa using h)
    exact ⟨w, by simpa using h1, h2⟩
  | _, _, i, k, v, .nil, h => by simp at h
theorem J_keys {m1 : MM} {H1 : Hp} {S1 : Store} (s1 : SRel K false m1 H1 S1) (ha : m1[n]? = some d) {kvs : List (Key × Val)} {us : List (L2.Key × V)} (hn : S1[n]? = some (.dictK kvs)) (hd : H1 d = some (.frz od (.dK us))) (rp : RepP K m1 H1 kvs us) :
    JRel K false m1 H1 (kvs.map (fun kv => keyV kv.1), srcOf S1 (.loc n)) (Itk d od us) := by
  intro m H S xt hS hst i
  have hd' : H d = some (.frz od (.dK us)) := xt.keep d _ hd (.inr ⟨rfl, fun z => s1.phb d z (mem_bx ha)⟩)
  have hl := rp.length
  refine ⟨fun h => ⟨hd', by simpa [hl] using h⟩, fun v hv => ?_⟩
  rw [List.getElem?_map] at hv
  cases q : kvs[i]? with
  | none => rw [q] at hv; cases hv
  | some kv =>
    rw [q] at hv; cases hv
    obtain ⟨w, h1, _⟩ := repP_at rp q
    refine ⟨⟨hd', (List.getElem?_eq_some_iff.mp h1).1⟩, fun x H' hy => ?_⟩
    obtain ⟨rfl, k, v, h2, rfl⟩ := hy
    rw [h1] at h2; cases h2
    refine ⟨Ext.refl, hS, ?_⟩
    obtain ⟨k, z⟩ := kv
    cases k with
    | inl i => exact .int i
    | inr s => exact .str s
theorem J_keysT {m1 : MM} {H1 : Hp} {S1 : Store} (s1 : SRel K false m1 H1 S1) (ha : m1[n]? = some d) {kvs : List (List Key × Val)} {us : List (List L2.Key × V)} (hn : S1[n]? = some (.dictT kvs)) (hd : H1 d = some (.frz od (.dT us))) (rp : RepP K m1 H1 kvs us) :
    JRel K false m1 H1 (kvs.map (fun kv => .tup (kv.1.map keyV)), srcOf S1 (.loc n)) (Itkt d od us) := by
  intro m H S xt hS hst i
  have hd' : H d = some (.frz od (.dT us)) := xt.keep d _ hd (.inr ⟨rfl, fun z => s1.phb d z (mem_bx ha)⟩)
  have hl := rp.length
  refine ⟨fun h => ⟨hd', by simpa [hl] using h⟩, fun v hv => ?_⟩
  rw [List.getElem?_map] at hv
  cases q : kvs[i]? with
  | none => rw [q] at hv; cases hv
  | some kv =>
    rw [q] at hv; cases hv
    obtain ⟨w, h1, _⟩ := repP_at rp q
    refine ⟨⟨hd', (List.getElem?_eq_some_iff.mp h1).1⟩, fun x H' hy => ?_⟩
    obtain ⟨rfl, k, v, b, h2, rfl, h3⟩ := hy
    rw [h1] at h2; cases h2
    exact ⟨Ext.refl, hS, .tup h3 (tup_out hS h3) (reps_keys _)⟩
end
end HI
set_option Elab.async false
set_option linter.all false
set_option maxRecDepth 100000
namespace HI
open PySem PySem.Spec PyProof.Rows L2
section
variable {X : Cx} {C : CallT} {W : WX} {L : Nat}
def rdKey (K : PySem.W.Frag) (C : CallT) (W : WX) (a : E) : TI := fun σ H R => ∃ m S ρ n d, SRel K false m H S ∧ ERel K m H ρ σ ∧ ev C a ρ S = .ok (.loc n) S ∧ m[n]? = some d ∧ (∃ od u, H d = some (.frz od u)) ∧ Out K false m H σ W (JRel K false) (evIt C (.keys a) ρ S) R
theorem i_keys {tg iter : Expr} {a : E} (ha : SE X false C W iter a) : PI X tg iter (rdKey X.K C W a) := by
  refine PI.wk (pi_keys ha) fun σ H R ⟨m, S, ρ, n, d, hS, hE, en, hd, ⟨od, u, hf⟩, h⟩ => ⟨m, S, ρ, hS, hE, ?_⟩
  rw [en]
  intro m' H' w x s r
  obtain ⟨d', rfl, ha'⟩ := rep_loc r
  have e := x.get hd
  rw [ha'] at e; cases e
  have hf' : H' d = some (.frz od u) := x.keep d _ hf (.inr ⟨rfl, fun z => hS.phb d z (mem_bx hd)⟩)
  simp only [evIt, en, Res.bind_ok, keysOfD] at h
  refine ⟨d, od, rfl, ?_⟩
  cases q : S[n]? with
  | none => rw [q] at h; exact h.elim
  | some ob =>
    rw [q] at h
    cases ob with
    | dictK kvs =>
      obtain ⟨us, h1, h2⟩ := s.atA ha' q
      have eu : u = .dK us := by
        rcases h1 with h1 | ⟨o, h1⟩
        · rw [hf'] at h1; cases h1
        · rw [hf'] at h1; cases h1; rfl
      subst eu
      exact .inl ⟨us, hf', h m' H' _ x s (J_keys s ha' q hf' h2)⟩
    | dictT kvs =>
      obtain ⟨us, h1, h2⟩ := s.atA ha' q
      have eu : u = .dT us := by
        rcases h1 with h1 | ⟨o, h1⟩
        · rw [hf'] at h1; cases h1
        · rw [hf'] at h1; cases h1; rfl
      subst eu
      exact .inr ⟨us, hf', h m' H' _ x s (J_keysT s ha' q hf' h2)⟩
    | list vs => exact h.elim
    | inst c fs => exact h.elim
def quietO : Option E → Bool
  | none => true
  | some e => quiet e
theorem compF_same {tg : Tg} {cond : Option E} {elt : E} {ρ : Env} (hc : quietO cond = true) (he : quiet elt = true) (S : Store) (x : Val) (v : Option Val) (S' : Store) (h : compF C tg cond elt ρ x S = .ok v S') : S' = S := by
  unfold compF at h
  split at h
  · rename_i ρ' _
    obtain ⟨t, S1, h1, h2⟩ := bind_ok_inv h
    have e1 : S1 = S := by
      cases cond with
      | none => simp only [evC] at h1; cases h1; rfl
      | some c =>
        simp only [evC] at h1
        exact (quiet_same (C := C) (ρ := ρ') (sizeOf c)).2.1 c (Nat.le_refl _) hc S t S1 (noExc_ok h1)
    subst e1
    split at h2
    · obtain ⟨w, S2, h3, h4⟩ := bind_ok_inv h2
      cases h4
      exact (quiet_same (C := C) (ρ := ρ') (sizeOf elt)).1 elt (Nat.le_refl _) he S1 w _ (noExc_ok h3)
    · cases h2; rfl
  · cases h
theorem keys_reads {a : E} {tg' : Tg} {cond : Option E} {elt' : E} {vs : List Nat} (hr : rdo a = true) (hc : quietO cond = true) (he : quiet elt' = true) (h1 : ∀ i ∈ vs, i ∈ tgS tg') (h2 : ∀ i ∈ tgS tg', i ∈ vs) (σ : L2.St) (H : Hp) (Q : VK) :
    rdE X.K true C W (.comp tg' (.keys a) cond elt') σ H Q → tLockE (tLc (rdKey X.K C W a) (rdG X.K false tg') (rdC X.K false C cond) (rdE X.K false C WF elt') vs) σ H Q := by
  rintro ⟨m, S, ρ, hS, hE, h⟩
  have ek : ∃ n vs, ev C a ρ S = .ok (.loc n) S ∧ keysOfD S (.loc n) = some vs ∧ DBox S n := by
    rcases rdo_ev (C := C) (ρ := ρ) hr S with e | ⟨x, e⟩
    · simp only [ev, evIt, e, Res.bind_stuck] at h; exact h.elim
    · cases q : keysOfD S x with
      | none => simp only [ev, evIt, e, Res.bind_ok, q, Res.bind_stuck] at h; exact h.elim
      | some ws =>
        cases x with
        | loc n =>
          refine ⟨n, ws, e, q, ?_⟩
          simp only [keysOfD] at q
          split at q
          · exact .inl ⟨_, by assumption⟩
          · exact .inr ⟨_, by assumption⟩
          · cases q
        | _ => cases q
  obtain ⟨n, ws, en, ew, db⟩ := ek
  have hu : ∃ d u, m[n]? = some d ∧ H d = some u ∧ Mut (some u) ∧ ∀ o v, u ≠ .frz o v := by
    rcases db with ⟨kvs, q⟩ | ⟨kvs, q⟩
    · obtain ⟨d, hd, us, k1, _⟩ := hS.at q
      exact ⟨d, _, hd, hS.plain (mem_bx hd) k1, trivial, fun o v z => by cases z⟩
    · obtain ⟨d, hd, us, k1, _⟩ := hS.at q
      exact ⟨d, _, hd, hS.plain (mem_bx hd) k1, trivial, fun o v z => by cases z⟩
  obtain ⟨d, u, hd, hv, mu, nf⟩ := hu
  refine ⟨d, u, hv, mu, fun od => ?_⟩
  have sF := hS.lock (od := od) hd hv db
  have eF : ERel X.K m (upd H d (.frz od u)) ρ σ := hE.ext (Ext.write (mem_bx hd) (fun z => hS.phb d z (mem_bx hd)))
  have eo : ev C (.comp tg' (.keys a) cond elt') ρ S = (compGo (srcOf S (.loc n)) (compF C tg' cond elt' ρ) ws [] S).bind fun vs S2 => .ok (.lst vs) S2 := by
    simp only [ev, evIt, en, Res.bind_ok, ew]
    rfl
  have h' : Out X.K false m (upd H d (.frz od u)) σ W (Rep X.K) ((evIt C (.keys a) ρ S).bind fun xs S1 => (compGo xs.2 (compF C tg' cond elt' ρ) xs.1 [] S1).bind fun vs S2 => .ok (.lst vs) S2) (fun v H' => H' d = some (.frz od u) ∧ Q v (upd H' d u)) := by
    have ei : evIt C (.keys a) ρ S = .ok (ws, srcOf S (.loc n)) S := by simp only [evIt, en, Res.bind_ok, ew]
    rw [ei, Res.bind_ok]
    rw [eo] at h
    cases q : compGo (srcOf S (.loc n)) (compF C tg' cond elt' ρ) ws [] S with
    | stuck => rw [q] at h; exact h.elim
    | exc c S' => exact absurd q (compGo_noexc (fun x S c S' => compF_noexc) _ _ _ c S')
    | ok rs S' =>
      have es := compGo_same (fun x v S' => compF_same hc he S x v S') _ _ _ _ q
      subst es
      rw [q] at h
      intro m' H' w x s r
      obtain ⟨k1, k2, k3, k4⟩ := unlock hS hd hv nf x s
      exact ⟨k1, h m' _ w k2 k3 (k4 _ _ r)⟩
  refine ⟨m, S, ρ, n, d, sF, eF, en, hd, ⟨od, u, upd_same⟩, Out.bind h' fun p S1 m1 H1 J x1 s1 hJ h1' => fun D hD => ?_⟩
  refine comp_loop (rw := false) (Qd := fun H0 => H0 d = some (.frz od u) ∧ Q (.ref D) (upd H0 d u)) h1 h2 s1 (eF.ext x1) (by cases p; exact hJ) hD h1'.ne_stuck (fun c S' => compGo_noexc (fun x S c S' => compF_noexc) _ _ _ c S') fun ws S' m2 H2 us e x2 s2 hp hd2 hr2 => ?_
  rw [e] at h1'
  have sub := x2.ph_sub
  refine Out.fin' (m' := ⟨m2.bx, m1.ph⟩) h1' x2.dropP (s2.dropP sub) (.lst hd2 ?_ (hr2.dropP sub))
  rintro (z | z)
  · exact s2.phb D hp z
  · have := s1.phs D z
    rw [hD] at this; cases this
theorem s_compK {tg iter elt : Expr} {ifs : List Expr} {scope : Scope} {own : List (Str × Nat)} {pos : Pos} {tg' : Tg} {a : E} {cond : Option E} {elt' : E} (hr : rdo a = true) (hqc : quietO cond = true) (hqe : quiet elt' = true) (hc : X.calm = true) (hN : X.N.Nodup) (hi : SE X false C W iter a) (ok : BlkOk X.N X.env.scope scope own)
    (hg : ∀ (s : Shared) (H : Hp) (c : Addr) (cl : List (Str × Addr)) (fp : List Addr), PG (X.blk s H scope (compEnvC scope cl c X.env) fp) tg (rdG X.K false tg'))
    (ht : ∀ (s : Shared) (H : Hp) (c : Addr) (cl : List (Str × Addr)) (fp : List Addr), PTs (X.blk s H scope (compEnvC scope cl c X.env) fp) ifs (rdC X.K false C cond))
    (he : ∀ (s : Shared) (H : Hp) (c : Addr) (cl : List (Str × Addr)) (fp : List Addr), PE (X.blk s H scope (compEnvC scope cl c X.env) fp) elt (rdE X.K false C WF elt'))
    (h1 : ∀ i ∈ own.map (·.2), i ∈ tgS tg') (h2 : ∀ i ∈ tgS tg', i ∈ own.map (·.2)) (hs : ∀ x, foldedSetIterable iter X.env x = pure x) :
    SE X true C W (.ListComp elt [⟨tg, iter, ifs, 0⟩] scope pos) (.comp tg' (.keys a) cond elt') := PE.wk (pe_lock (pe_lc (own := own) hc hN (i_keys hi) ok hg ht he hs)) fun σ H Q h => keys_reads hr hqc hqe h1 h2 σ H Q h
theorem ss_setLcK {i : Nat} {y : Str} {py : Pos} {tg iter elt : Expr} {ifs : List Expr} {scope : Scope} {own : List (Str × Nat)} {pos spos : Pos} {tg' : Tg} {a : E} {cond : Option E} {elt' : E} (hr : rdo a = true) (hqc : quietO cond = true) (hqe : quiet elt' = true) (hc : X.calm = true) (hN : X.N.Nodup) (hy : X.N[i]? = some y) (hyl : X.env.scope.names.lookup y = some .local)
    (hsw : swapsWith (.ListComp elt [⟨tg, iter, ifs, 0⟩] scope pos) (some (.Name y py)) spos.line X.env = pure true) (hi : SE X false C W iter a) (ok : BlkOk X.N X.env.scope scope own)
    (hg : ∀ (s : Shared) (H : Hp) (c : Addr) (cl : List (Str × Addr)) (fp : List Addr), PG (X.blk s H scope (compEnvC scope cl c X.env) fp) tg (rdG X.K false tg'))
    (ht : ∀ (s : Shared) (H : Hp) (c : Addr) (cl : List (Str × Addr)) (fp : List Addr), PTs (X.blk s H scope (compEnvC scope cl c X.env) fp) ifs (rdC X.K false C cond))
    (he : ∀ (s : Shared) (H : Hp) (c : Addr) (cl : List (Str × Addr)) (fp : List Addr), PE (X.blk s H scope (compEnvC scope cl c X.env) fp) elt (rdE X.K false C WF elt'))
    (h1 : ∀ i ∈ own.map (·.2), i ∈ tgS tg') (h2 : ∀ i ∈ tgS tg', i ∈ own.map (·.2)) (hs : ∀ x, foldedSetIterable iter X.env x = pure x) :
    SS X true L C W (.Assign [.Name y py] (.ListComp elt [⟨tg, iter, ifs, 0⟩] scope pos) spos) (.set (.one i) (.comp tg' (.keys a) cond elt')) := by
  refine PS.wk (ps_lock (ps_setLc (own := own) hc hN hy hyl hsw (i_keys hi) ok hg ht he hs)) fun D σ H ⟨m, S, ρ, hS, hE, h⟩ => ?_
  simp only [exS] at h
  have := keys_reads hr hqc hqe h1 h2 σ H (fun v H' => D.nx (σ.set i (some v)) H') ⟨m, S, ρ, hS, hE, OutS.to h hE fun v S1 m1 H1 u _ x s r h1 => by
    simp only [asgT] at h1
    exact h1 m1 H1 _ Ext.refl s ((hE.ext x).set r)⟩
  obtain ⟨d, u, k1, k2, k3⟩ := this
  exact ⟨d, u, k1, k2, fun od => k3 od⟩
end
end HI
set_option Elab.async false
set_option linter.all false
set_option maxRecDepth 100000
namespace HI
open PySem PySem.Spec PyProof.Rows L2
section
variable {X : Cx}
def tLenSetT (K : PySem.W.Frag) (ta : TE) : TE := fun σ H Q => ta σ H fun x H1 => ∃ (l : Addr) (ks : List (Addr × List Int)), x = V.ref l ∧ SqL K H1 l (ks.map fun p => V.ref p.1) ∧ (∀ p ∈ ks, SqT K H1 p.1 (p.2.map V.int)) ∧ ks.length < 64 ∧ (ks.map (·.2)).Nodup ∧ Q (.int ks.length) H1
theorem sub_len {α : Type} [DecidableEq α] : ∀ {a b : List α}, a.Nodup → a ⊆ b → a.length ≤ b.length
  | [], b, _, _ => Nat.zero_le _
  | x :: a, b, nd, h => by
    obtain ⟨n1, n2⟩ := List.nodup_cons.mp nd
    have hx : x ∈ b := h (List.mem_cons_self ..)
    have hs : a ⊆ b.erase x := fun y hy => (List.mem_erase_of_ne (fun (e : y = x) => n1 (e ▸ hy))).mpr (h (List.mem_cons_of_mem _ hy))
    have := sub_len n2 hs
    rw [List.length_erase_of_mem hx] at this
    have hp : 0 < b.length := List.length_pos_of_mem hx
    simp only [List.length_cons]
    omega
theorem got_len {ks L : List (Addr × List Int)} (g : Got ks ks.length L) (h : (ks.map (·.2)).Nodup) : L.length = ks.length := by
  refine Nat.le_antisymm g.len ?_
  have hs : (ks.map (·.2)) ⊆ L.map (·.2) := fun k hk => by
    obtain ⟨p, hp, rfl⟩ := List.mem_map.mp hk
    exact g.all p (by rw [List.take_length]; exact hp)
  have := sub_len h hs
  simpa using this
theorem pe_lenSetT {a : Expr} {ta : TE} {p p2 q pos : Pos} (hc : X.calm = true) (hu : X.A.units + 64 < cLine) (hg : Gl X "len") (hm : X.mg "len" = none) (hg2 : Gl X "set") (hm2 : X.mg "set" = none) (ha : PE X a ta)
    (na : starEach [a] X.env = (false, eval a X.env) :: starEach [] X.env) : PE X (.Call (.Name "len" p) [.Call (.Name "set" p2) [a] [] q] [] pos) (tLenSetT X.K ta) := by
  refine ⟨fun pins s σ H Q I h => ?_⟩
  refine Call_ (ld_blt I hg hm PySem.boot_len ?_)
  refine PyProof.Rows.callWith_builtin1 (PyProof.Rows.args_cons ?_ rfl) rfl rfl
  refine Call_ (ld_blt I hg2 hm2 PyProof.Rows.boot_set ?_)
  refine PyProof.Rows.callWith_type1 (PyProof.Rows.args_cons (thn (ha.run pins s σ H _ I h) fun v s1 ⟨x, H1, I1, r1, q1⟩ => PyProof.Rows.args_nil ?_) na) na rfl
  obtain ⟨l, ks, rfl, hq, hk, hf, hnd, q1⟩ := q1
  cases r1
  obtain ⟨its, r, pl, hz⟩ := I1.list hq
  refine call_set_tups (P := X.prog) (w := X.w) ks (I1.ok.hd hc) pl.isList (by simpa using refs_of_vals r) (fun p hp => I1.isT (hk p hp)) hf (by omega) fun h' tk L es ep t R g k => ?_
  refine PyProof.Rows.args_nil ?_
  obtain ⟨o, ho, hex, hd⟩ := R.ob
  have I2 : Inv X pins σ H1 { s1 with heap := h', toks := tk } := I1.kept k
  have hl : es.size = ks.length := by rw [SetTR.size (s := { s1 with heap := h', toks := tk }) R, got_len g hnd]
  refine call_len_set ho hex hd (SetTR.fits (s := { s1 with heap := h', toks := tk }) R) (by rw [hl]; omega) ⟨.int ks.length, H1, I2.tok _, ⟨_, by rw [hl]⟩, q1⟩
variable {rw : Bool} {C : CallT} {W : WX}
def adV : V → Addr
  | .ref t => t
  | _ => 0
theorem s_lenSet {a : Expr} {a' : E} {p p2 q pos : Pos} (hc : X.calm = true) (hu : X.A.units + 64 < cLine) (hg : Gl X "len") (hm : X.mg "len" = none) (hg2 : Gl X "set") (hm2 : X.mg "set" = none) (ns : notStarred a = true) (ha : SE X rw C W a a') : SE X rw C W (.Call (.Name "len" p) [.Call (.Name "set" p2) [a] [] q] [] pos) (.un .lenSet a') := by
  refine PE.wk (pe_lenSetT hc hu hg hm hg2 hm2 ha (noStar_of ns _ _)) fun σ H Q ⟨m, S, ρ, hS, hE, h⟩ => ?_
  simp only [ev] at h
  refine ⟨m, S, ρ, hS, hE, Out.bind h fun x S1 m1 H1 u x1 s1 r1 h1 => ?_⟩
  obtain ⟨z, e, h⟩ := h1.some
  cases x with
  | lst vs =>
    simp only [op1, lenSetV] at e
    cases hp : pairsOf vs with
    | none => simp only [hp] at e; cases e
    | some ps =>
      simp only [hp] at e
      split at e
      · rename_i hn
        cases e
        rw [pairsOf_eq hp] at r1
        obtain ⟨b, us, rfl, k1, k2, k3⟩ := rep_lst r1
        obtain ⟨g1, g2⟩ := reps_pairs k3
        have hl : us.length = ps.length := by rw [← g1, List.length_map]
        refine ⟨b, us.map fun y => (adV y, [(prV H1 y).1, (prV H1 y).2]), rfl, ?_, ?_, ?_, ?_, ?_⟩
        · have : (us.map fun y => (adV y, [(prV H1 y).1, (prV H1 y).2])).map (fun p => V.ref p.1) = us := by
            rw [List.map_map]
            conv => rhs; rw [← List.map_id us]
            refine List.map_congr_left fun y hy => ?_
            obtain ⟨t, rfl, _⟩ := g2 y hy
            rfl
          rw [this]; exact SqL.of k1
        · intro p hp
          obtain ⟨y, hy, rfl⟩ := List.mem_map.mp hp
          obtain ⟨t, rfl, k, _⟩ := g2 y hy
          exact SqT.of k
        · rw [List.length_map, hl]; exact hn.1
        · rw [List.map_map]
          have : ((fun x : Addr × List Int => x.2) ∘ fun y => (adV y, [(prV H1 y).1, (prV H1 y).2])) = (fun p : Int × Int => [p.1, p.2]) ∘ prV H1 := rfl
          rw [this, ← List.map_map, g1]
          refine List.Pairwise.map _ (fun a b hab e => hab ?_) hn.2
          simp only [List.cons.injEq, and_true] at e
          exact Prod.ext e.1 e.2
        · rw [List.length_map, hl]; exact h.fin s1 (.int _)
      · cases e
  | _ => simp only [op1] at e; cases e
end
end HI
set_option Elab.async false
set_option linter.all false
set_option maxRecDepth 100000
set_option maxHeartbeats 0
namespace HI
open PySem PySem.Spec PyProof.Rows L2
def NoD (P : Program) (w : World) (p : Addr) (kvs : List (Option L2.Key × V)) : Heap → Prop := fun h => (p == sysModules) = false ∧ ∃ rs : List (Option L2.Key × Value), KV kvs rs ∧ h.DictOf (noneKind P w) p rs
theorem noD_ok {P : Program} {w : World} {H : Hp} {h : Heap} {p : Addr} {kvs : List (Option L2.Key × V)} (x : NoD P w p kvs h) : ObjOk P w H h p (.ext (NoD P w p kvs)) :=
  ⟨x, (let ⟨_, _, _, o, _, _, e, _⟩ := x; ⟨o, e⟩), fun h1 h2 a k => let ⟨hd, rs, r, o, es, ep, e, c⟩ := a; ⟨hd, rs, r, o, es, ep, k _ e, c⟩⟩
theorem noD_empty {P : Program} {w : World} {H : Hp} (h : Heap) (hb : (h.objs.size == sysModules) = false) : ObjOk P w H (h.push { cls := .type "dict", data := .dict #[] }) h.objs.size (.ext (NoD P w h.objs.size [])) :=
  noD_ok ⟨hb, [], .nil, Heap.DictOf.new (knd := noneKind P w) h⟩
def two (s1 v1 v2 : Str) : List (Option L2.Key × V) := [(some (Sum.inr s1), .str v1), (none, .str v2)]
section
variable {X : Cx}
def tNoGet (P : Program) (w : World) (s1 v1 v2 : Str) (ty tx : TE) : TE := fun σ H Q => ∀ p, H p = none → ty σ (upd H p (.ext (NoD P w p (two s1 v1 v2)))) fun y H2 => tx σ H2 fun z H3 =>
  H3 p = some (.ext (NoD P w p (two s1 v1 v2))) ∧ ((∃ s, y = .str s ∧ Q (if s = s1 then .str v1 else z) H3) ∨ (y = .non ∧ Q (.str v2) H3))
theorem pe_noGet {e f : Expr} {ty tx : TE} {s1 v1 v2 : Str} {j1 j2 j3 j4 : Nat} {p1 p2 p3 p4 pos apos cpos : Pos} (he : PE X e ty) (hf : PE X f tx)
    (m : M2 X (.Dict [some (.Constant (.str s1) j1 p1), some (.Constant .none j2 p2)] [.Constant (.str v1) j3 p3, .Constant (.str v2) j4 p4] pos) "get" apos e f cpos) :
    PE X (.Call (.Attribute (.Dict [some (.Constant (.str s1) j1 p1), some (.Constant .none j2 p2)] [.Constant (.str v1) j3 p3, .Constant (.str v2) j4 p4] pos) "get" apos) [e, f] [] cpos) (tNoGet X.prog X.w s1 v1 v2 ty tx) := by
  refine ⟨fun pins s σ H Q I h => ?_⟩
  refine wpAny_Call_method m.base m.few m.line PySem.F.plainAttrs_dict PySem.F.slot_dict_get PySem.F.type_dict_get ?_
  have hn := I.hok.fresh (Nat.le_refl s.heap.objs.size)
  have hsm : (s.heap.objs.size == sysModules) = false := beq_eq_false_iff_ne.mpr (Ne.symm (Nat.ne_of_lt I.big))
  have I1 := I.laid (a := s.heap.objs.size) (o := .ext (NoD X.prog X.w s.heap.objs.size [])) (h' := s.heap.push { cls := .type "dict", data := .dict #[] }) (t' := s.toks) (fun _ _ q => Heap.get?_push_of_some _ q) (Nat.le_refl _) (noD_empty s.heap hsm)
  have pp : PPs X pos [some (.Constant (.str s1) j1 p1), some (.Constant .none j2 p2)] [.Constant (.str v1) j3 p3, .Constant (.str v2) j4 p4] [(tC (.str s1), tC (.str v1)), (tC .non, tC (.str v2))] := pps_cons pe_str pe_str (pps_cons pe_non pe_str pps_nil)
  refine wpAny_Dict_walk (knd := noneKind X.prog X.w) rfl rfl (by simp) (by simp) (thn (pp.run pins _ σ _ (fun ps H2 => ps = [(.str s1, .str v1), (.non, .str v2)] ∧ H2 = upd H s.heap.objs.size (.ext (NoD X.prog X.w s.heap.objs.size []))) I1 ⟨rfl, rfl⟩) fun ws s2 ⟨ps, H2, I2, rel, ep, eH⟩ => ?_)
  subst ep eH
  cases rel with
  | @cons a1 b1 as1 bs1 r1 t1 =>
  cases t1 with
  | @cons a2 b2 as2 bs2 r2 t2 =>
  cases t2
  obtain ⟨k1, w1⟩ := b1
  obtain ⟨k2, w2⟩ := b2
  obtain ⟨ra, rb⟩ := r1
  obtain ⟨rc, rd⟩ := r2
  obtain rfl : k2 = Value.none := rc
  have mg : merged [] [((some (Sum.inr s1) : Option L2.Key), w1), (none, w2)] = [(some (Sum.inr s1), w1), (none, w2)] := by simp [merged, stored]
  obtain ⟨⟨_, rs0, r0, dd0⟩, _⟩ := I2.hok _ _ upd_same
  cases r0
  refine ⟨[(some (Sum.inr s1), w1), (none, w2)], ⟨kV_is (P := X.prog) (w := X.w) (k := Sum.inr s1) ra, rfl, rfl, rfl, trivial⟩, dd0, fun h' dd' hs => ?_⟩
  rw [mg] at dd'
  have hn' : ∃ q, h'.get? s.heap.objs.size = some q := let ⟨q, _, _, hq, _⟩ := dd'; ⟨q, hq⟩
  have kv : KV (two s1 v1 v2) [((some (Sum.inr s1) : Option L2.Key), w1), (none, w2)] := .cons ⟨rfl, rb⟩ (.cons ⟨rfl, rd⟩ .nil)
  have I3 := d_write (t' := s2.toks + [(k1, w1), (Value.none, w2)].length) (ob := .ext (NoD X.prog X.w s.heap.objs.size (two s1 v1 v2))) I2 (by rw [upd_same]; exact True.intro) hs hn' (noD_ok ⟨hsm, _, kv, dd'⟩)
  rw [upd_upd] at I3
  refine ⟨dd'.typeIs, fun b q => ?_, ?_⟩
  · cases q
    obtain ⟨ob, _, _, h1, h2, _⟩ := dd'
    exact ⟨ob, h1, h2.2.1⟩
  rw [m.trees]
  refine Calls.callWith_builtin rfl (Calls.evalArgs_plain (Calls.spliced_cons (thn (he.run pins _ σ _ _ I3 (h _ hn)) fun iv s4 ⟨y, H2, I4, ry, q2⟩ =>
    Calls.spliced_cons (thn (hf.run pins s4 σ H2 _ I4 q2) fun fv s5 ⟨z, H3, I5, rz, hp3, q3⟩ => Calls.spliced_nil ?_))))
  obtain ⟨⟨_, rs, kv5, dd5⟩, _⟩ := I5.hok _ _ hp3
  rcases q3 with ⟨st, rfl, q3⟩ | ⟨rfl, q3⟩
  · refine call_meetsIn PySem.F.slot_dict_get dd5.typeIs PySem.F.entry_dict_get (PySem.F.args_dict_get_3 _ _ _) (meets_dict_get_default (noneKind X.prog X.w) (k := some (Sum.inr st)) _ (kV_is (P := X.prog) (w := X.w) (k := Sum.inr st) ry) hsm fv) ⟨_, dd5.mapOf, ?_⟩
    refine ⟨_, H3, I5.tok _, ?_, q3⟩
    have hv := kv5.val (some (Sum.inr st))
    by_cases hc : st = s1
    · subst hc
      rw [if_pos rfl]
      have : valV (two st v1 v2) (some (Sum.inr st)) = some (.str v1) := by simp [two, valV]
      rw [this] at hv
      exact RelO.getD (d := z) hv rz
    · rw [if_neg hc]
      have : valV (two s1 v1 v2) (some (Sum.inr st)) = none := by simp [two, valV, Ne.symm hc]
      rw [this] at hv
      exact RelO.getD (d := z) hv rz
  · obtain rfl : iv = Value.none := ry
    refine call_meetsIn PySem.F.slot_dict_get dd5.typeIs PySem.F.entry_dict_get (PySem.F.args_dict_get_3 _ _ _) (meets_dict_get_default (noneKind X.prog X.w) (k := none) _ rfl hsm fv) ⟨_, dd5.mapOf, ?_⟩
    refine ⟨_, H3, I5.tok _, ?_, q3⟩
    have hv := kv5.val none
    have : valV (two s1 v1 v2) none = some (.str v2) := by simp [two, valV]
    rw [this] at hv
    exact RelO.getD (d := z) hv rz
variable {C : CallT} {W : WX} {rw : Bool}
theorem s_dlook {e f : Expr} {e' f' : E} {s1 v1 v2 : Str} {j1 j2 j3 j4 : Nat} {p1 p2 p3 p4 pos apos cpos : Pos} (ne : notStarred e = true) (nf : notStarred f = true) (hline : (apos.endLine == cpos.line) = true)
    (hb : notCall0 (.Dict [some (.Constant (.str s1) j1 p1), some (.Constant .none j2 p2)] [.Constant (.str v1) j3 p3, .Constant (.str v2) j4 p4] pos) = true) (he : SE X rw C W e e') (hf : SE X rw C W f f') :
    SE X rw C W (.Call (.Attribute (.Dict [some (.Constant (.str s1) j1 p1), some (.Constant .none j2 p2)] [.Constant (.str v1) j3 p3, .Constant (.str v2) j4 p4] pos) "get" apos) [e, f] [] cpos) (.dlook [some s1, none] [.lit (.str v1), .lit (.str v2)] e' (some f')) := by
  refine PE.wk (pe_noGet he hf (m2_of hb ne nf hline)) fun σ H Q ⟨m, S, ρ, hS, hE, h⟩ => fun p hp => ?_
  simp only [ev, evs, evO, Res.bind_ok] at h
  have x0 : Ext rw m H m (upd H p (.ext (NoD X.prog X.w p (two s1 v1 v2)))) := Ext.new hp
  have s0 : SRel X.K rw m (upd H p (.ext (NoD X.prog X.w p (two s1 v1 v2)))) S := hS.new hp
  have np := not_box hS hp
  refine ⟨m, S, ρ, s0, hE.ext x0, ?_⟩
  refine Out.bind (Out.ext h x0) fun x S1 m1 H1 u x1 t1 r1 h1 => ⟨m1, S1, ρ, t1, (hE.ext x0).ext x1, ?_⟩
  have key : ∀ (r : Res Val), Out X.K rw m1 H1 σ W (Rep X.K) ((r.bind fun v S2 => (.ok (some v) S2 : Res (Option Val))).bind fun y S3 => if okLook [some s1, none] x = true then (match lookD [some s1, none] [.str v1, .str v2] x with
        | some v => .ok v S3
        | none => ofO y S3) else .stuck) Q → Out X.K rw m1 H1 σ W (Rep X.K) r fun z H3 => H3 p = some (.ext (NoD X.prog X.w p (two s1 v1 v2))) ∧ ((∃ s, u = .str s ∧ Q (if s = s1 then .str v1 else z) H3) ∨ (u = .non ∧ Q (.str v2) H3)) := by
    intro r hr
    cases r with
    | stuck => exact hr
    | exc c S2 => exact hr
    | ok y S2 =>
      intro m3 H3 z x3 t3 r3
      have kp : H3 p = some (.ext (NoD X.prog X.w p (two s1 v1 v2))) := x3.keep p _ (x1.keep p _ upd_same (.inl np)) (.inl (x1.not_mem (by rw [upd_same]; rfl) np))
      refine ⟨kp, ?_⟩
      simp only [Res.bind_ok] at hr
      cases x with
      | str st =>
        cases rep_str r1
        refine .inl ⟨st, rfl, ?_⟩
        simp only [okLook, if_true, lookD] at hr
        by_cases hc : st = s1
        · rw [if_pos hc] at hr ⊢
          exact hr.fin' x3 t3 (.str _)
        · rw [if_neg hc] at hr ⊢
          exact hr.fin' x3 t3 r3
      | non =>
        cases r1
        refine .inr ⟨rfl, ?_⟩
        simp only [okLook, lookD] at hr
        have hr' : Out X.K rw m1 H1 σ W (Rep X.K) (.ok (Val.str v2) S2) Q := by simpa using hr
        exact hr'.fin' x3 t3 (.str _)
      | _ => simp only [okLook, Bool.false_eq_true, if_false] at hr; exact hr.elim
  exact key _ h1
end
end HI
set_option Elab.async false
set_option linter.all false
set_option maxRecDepth 100000
namespace HI
open PySem PySem.Spec PyProof.Rows L2
def SqK (l : Bool) (K : PySem.W.Frag) (H : Hp) (a : Addr) (xs : List V) : Prop := match l with
  | true => SqL K H a xs
  | false => SqT K H a xs
def ItK (l : Bool) (h : Heap) (it a : Addr) (i : Nat) : Prop := match l with
  | true => h.IsListIter it a i
  | false => h.IsTupleIter it a i
def HoldK (l : Bool) (h : Heap) (a : Addr) (its : Array Value) : Prop := match l with
  | true => h.IsList a its
  | false => h.IsTuple a its
def itO (l : Bool) (a : Addr) : PySem.Obj := match l with
  | true => { cls := .type "list_iterator", data := .fields #[.ref a, .int 0 0] }
  | false => { cls := .type "tuple_iterator", data := .fields #[.ref a, .int 0 0] }
theorem draws_K {prog : Program} {w : World} {A : Around} (hh : A.handled = none) (l : Bool) (it a : Addr) (hne : a ≠ it) (its : Array Value) : Draws prog w A it [it, a] its.size (fun i v => its[i]? = some v) (fun i h => ItK l h it a i ∧ HoldK l h a its) := by
  cases l
  · exact Draws.tuple hh it a hne its
  · exact Draws.list hh it a hne its
theorem ends_K {prog : Program} {w : World} {A : Around} (hh : A.handled = none) (l : Bool) (it a : Addr) (hne : a ≠ it) (its : Array Value) (i0 : Nat) (h0 : its.size ≤ i0) : Draws prog w A it [it, a] i0 (fun _ _ => False) (fun j h => j = i0 ∧ ItK l h it a j ∧ HoldK l h a its) where
  live := fun _ _ st => by
    obtain ⟨_, st, _⟩ := st
    cases l <;> exact let ⟨o, ho, _⟩ := st; ⟨o, ho⟩
  frame := fun _ _ _ st hk => by
    obtain ⟨e, s1, s2⟩ := st
    cases l
    · exact ⟨e, Heap.IsTupleIter.at s1 fun o q => hk it (by simp) o q, Heap.IsTuple.at s2 fun o q => hk a (by simp) o q⟩
    · exact ⟨e, Heap.IsListIter.at s1 fun o q => hk it (by simp) o q, Heap.IsList.at s2 fun o q => hk a (by simp) o q⟩
  item := fun i s Q E hi st hQ => by have := st.1; omega
  done := fun s Q E st hE => by
    obtain ⟨_, s1, s2⟩ := st
    cases l
    · exact wpAny_nextOf_tuple_end hh s1 s2 (by simp; omega) hE
    · exact wpAny_nextOf_list_end hh s1 s2 (by simp; omega) hE
theorem begins_K (l : Bool) (a : Addr) (its : Array Value) : PySem.Begins (.ref a) (itO l a) (fun h => HoldK l h a its) := by
  cases l
  · exact PySem.begins_tuple a its
  · exact PySem.begins_list a its
theorem itK_obj {l : Bool} {h : Heap} {it a : Addr} {i : Nat} (st : ItK l h it a i) : ∃ o, h.get? it = some o ∧ ∀ v, o.data ≠ .cell v := by
  cases l <;> obtain ⟨o, e1, _, d1⟩ := st <;> exact ⟨o, e1, fun v q => by rw [d1] at q; cases q⟩
theorem itK_at {l : Bool} {h h' : Heap} {it a : Addr} {i : Nat} (st : ItK l h it a i) (k : ∀ o, h.get? it = some o → h'.get? it = some o) : ItK l h' it a i := by
  cases l
  · exact Heap.IsTupleIter.at (h := h) st k
  · exact Heap.IsListIter.at (h := h) st k
theorem itK_new {l : Bool} {h : Heap} {it a : Addr} (e : h.get? it = some (itO l a)) : ItK l h it a 0 := by
  cases l <;> exact ⟨_, e, rfl, rfl⟩
section
variable {X : Cx} {pins : List (Addr × PySem.Obj)} {σ : L2.St} {H : Hp} {s : Shared}
theorem inv_K (I : Inv X pins σ H s) {l : Bool} {a : Addr} {xs : List V} (hq : SqK l X.K H a xs) : ∃ its : List Value, Vals xs its ∧ HoldK l s.heap a its.toArray := by
  cases l
  · obtain ⟨its, r, p, _⟩ := I.tuple hq; exact ⟨its, r, p⟩
  · obtain ⟨its, r, p, _⟩ := I.list hq; exact ⟨its, r, p.isList⟩
theorem inj_K (I : Inv X pins σ H s) {l : Bool} {a : Addr} {xs ys : List V} (hq : SqK l X.K H a xs) (hr : SqK l X.K H a ys) : xs = ys := by
  cases l
  · exact I.tuple_inj hq hr
  · exact I.list_inj hq hr
theorem hold_lt {l : Bool} {h : Heap} {a : Addr} {its : Array Value} (p : HoldK l h a its) : a < h.objs.size := by
  cases l
  · obtain ⟨o, e, _⟩ := p; exact Heap.lt_size e
  · obtain ⟨o, e, _⟩ := p; exact Heap.lt_size e
end
def ItzM (K : PySem.W.Frag) (l1 l2 : Bool) (a b : Addr) : L2.It :=
  ⟨fun i H => ∃ (xs ys : List V) (x y : V), SqK l1 K H a xs ∧ SqK l2 K H b ys ∧ xs[i]? = some x ∧ ys[i]? = some y,
   fun i H v H' => ∃ T x y, v = .ref T ∧ H T = none ∧ H' = upd H T (.tup [x, y]) ∧ (∀ xs, SqK l1 K H a xs → xs[i]? = some x) ∧ ∀ ys, SqK l2 K H b ys → ys[i]? = some y,
   fun i H => ∃ xs ys : List V, SqK l1 K H a xs ∧ SqK l2 K H b ys ∧ (xs.length ≤ i ∨ ys.length ≤ i)⟩
theorem sep_of {z TI TO i1 i2 a b : Addr} (D : ZipApart z TI TO i1 i2 a b) : ZipSep2 z TI TO i1 i2 [i1, a] [i2, b] where
  TIz := D.TIz
  TOz := D.TOz
  TITO := D.TITO
  TIi1 := D.TIi1
  mem1 := by simp
  zf1 := by simp [Ne.symm D.i1z, Ne.symm D.l1z]
  Tf1 := by simp [D.TOi1, Ne.symm D.l1TO]
  TIi2 := D.TIi2
  mem2 := by simp
  zf2 := by simp [Ne.symm D.i2z, Ne.symm D.l2z]
  Tf2 := by simp [D.TOi2, Ne.symm D.l2TO]
  sep1_2 := by simp [D.i12, Ne.symm D.l2i1]
  sep2_1 := by simp [Ne.symm D.i12, Ne.symm D.l1i2]
theorem turn_zipM {P : Program} {w : World} {K : PySem.W.Frag} {elts : List Expr} {kk : Nat} {tpos : Pos} {l1 l2 : Bool} {a b z TI TO i1 i2 : Addr} (D : ZipApart z TI TO i1 i2 a b) :
    Turn P w K (.Tuple elts kk tpos) (ItzM K l1 l2 a b) [z, TI, TO, i1, i2] z (fun i h => IsZip h z TI TO .none ∧ IsTupOf2 h TI (.ref i1) (.ref i2) ∧ (∃ x y, IsTupOf2 h TO x y) ∧ ItK l1 h i1 a i ∧ ItK l2 h i2 b i) where
  mem := by simp
  obj := fun i h st c hc => by
    obtain ⟨hz, hTI, ⟨x, y, hTO⟩, st1, st2⟩ := st
    have e' : c = z ∨ c = TI ∨ c = TO ∨ c = i1 ∨ c = i2 := by simpa using hc
    rcases e' with q | q | q | q | q <;> rw [q]
    · exact ⟨_, hz, fun v q => nomatch q⟩
    · exact ⟨_, hTI, fun v q => nomatch q⟩
    · exact ⟨_, hTO, fun v q => nomatch q⟩
    · exact itK_obj st1
    · exact itK_obj st2
  keep := fun i h h' st k => by
    obtain ⟨hz, hTI, ⟨x, y, hTO⟩, st1, st2⟩ := st
    exact ⟨k z (by simp) _ hz, k TI (by simp) _ hTI, ⟨x, y, k TO (by simp) _ hTO⟩, itK_at st1 fun o q => k i1 (by simp) o q, itK_at st2 fun o q => k i2 (by simp) o q⟩
  item := by
    intro X hP hw hK hc i pins s σ H E I hf st hg
    subst hP hw hK
    obtain ⟨hz, hTI, ⟨x0, y0, hTO⟩, st1, st2⟩ := st
    obtain ⟨xs, ys, x, y, qx, qy, hx, hy⟩ := hg
    obtain ⟨its, rv, p⟩ := inv_K I qx
    obtain ⟨its2, rv2, p2⟩ := inv_K I qy
    obtain ⟨u, hu, ru⟩ := rv.get hx
    obtain ⟨u2, hu2, ru2⟩ := rv2.get hy
    have hd : X.A.in1.handled = none := I.ok.hd hc
    have zl : z < s.heap.objs.size := Heap.lt_size hz
    have lt1 : i < its.toArray.size := by simpa using (List.getElem?_eq_some_iff.mp hu).1
    have lt2 : i < its2.toArray.size := by simpa using (List.getElem?_eq_some_iff.mp hu2).1
    refine wpAny_pyNext_zipD2_item (sep_of D) (draws_K hd l1 i1 a D.l1i1 its.toArray) (draws_K hd l2 i2 b D.l2i2 its2.toArray) hz hTI hTO ⟨st1, p⟩ ⟨st2, p2⟩ lt1 lt2 fun w1 w2 h' tk g1 g2 z' TO' t1 t2 hT hsz hk => ?_
    have e1 : w1 = u := by
      have : its.toArray[i]? = some u := by simpa using hu
      rw [this] at g1; cases g1; rfl
    have e2 : w2 = u2 := by
      have : its2.toArray[i]? = some u2 := by simpa using hu2
      rw [this] at g2; cases g2; rfl
    subst e1 e2
    refine ⟨_, rfl, wpAny_letOwnedTupleGo_zip (s := { s with heap := h', toks := tk }) z' fun h'' z'' sb => ?_⟩
    have hT2 : h''.get? s.heap.objs.size = some { cls := .type "tuple", data := .seq #[w1, w2] } := (sb.2 _ (Nat.ne_of_gt zl)).trans hT
    have nw : ObjOk X.prog X.w (upd H s.heap.objs.size (.tup [x, y])) h'' s.heap.objs.size (.tup [x, y]) := ⟨by show 2 ≤ sizeLine; decide, [w1, w2], .cons ru (.cons ru2 .nil), ⟨_, hT2, rfl, _, rfl⟩⟩
    have I1 : Inv X pins σ (upd H s.heap.objs.size (.tup [x, y])) { s with heap := h'', toks := tk } :=
      I.turnedNew (ch := [z, TI, TO, i1, i2]) (fun c o nb q => (sb.2 c (fun v => nb (by simp [v]))).trans (hk c o (fun v => nb (by simp [v])) (fun v => nb (by simp [v])) (fun v => nb (by simp [v])) (fun v => nb (by simp [v])) q)) hf (Nat.le_refl _) nw
    refine ⟨.ref s.heap.objs.size, _, I1, rfl, ⟨_, x, y, rfl, I.hok.fresh (Nat.le_refl _), rfl, fun l hl => by rw [inj_K I hl qx]; exact hx, fun l hl => by rw [inj_K I hl qy]; exact hy⟩, ⟨z'', ?_, ⟨w1, w2, ?_⟩, itK_at t1.1 fun o q => (sb.2 _ D.i1z).trans q, itK_at t2.1 fun o q => (sb.2 _ D.i2z).trans q⟩, fun c cm => ?_⟩
    · exact (sb.2 _ D.TIz).trans (hk _ _ D.TIz D.TITO D.TIi1 D.TIi2 hTI)
    · exact (sb.2 _ D.TOz).trans TO'
    · have hlt : c < s.heap.objs.size := by
        have e' : c = z ∨ c = TI ∨ c = TO ∨ c = i1 ∨ c = i2 := by simpa using cm
        rcases e' with q | q | q | q | q <;> rw [q]
        · exact zl
        · exact Heap.lt_size hTI
        · exact Heap.lt_size hTO
        · obtain ⟨_, e1, _⟩ := itK_obj st1; exact Heap.lt_size e1
        · obtain ⟨_, e2, _⟩ := itK_obj st2; exact Heap.lt_size e2
      rw [upd_ne (Nat.ne_of_lt hlt)]
      exact (hf c cm).1
  done := by
    intro X hP hw hK hc i pins s σ H E I hf st hg
    subst hP hw hK
    obtain ⟨hz, hTI, ⟨x0, y0, hTO⟩, st1, st2⟩ := st
    obtain ⟨xs, ys, qx, qy, hend⟩ := hg
    obtain ⟨its, rv, p⟩ := inv_K I qx
    obtain ⟨its2, rv2, p2⟩ := inv_K I qy
    have n1 : its.toArray.size = xs.length := by simpa using rv.length.symm
    have n2 : its2.toArray.size = ys.length := by simpa using rv2.length.symm
    have hd : X.A.in1.handled = none := I.ok.hd hc
    have fin : ∀ h' tk, (∀ c o, c ≠ z → c ≠ TO → c ≠ i1 → c ≠ i2 → s.heap.get? c = some o → h'.get? c = some o) → Inv X pins σ H { s with heap := h', toks := tk } := fun h' tk hk =>
      I.turnedL (t' := tk) (ch := [z, TI, TO, i1, i2]) (fun c o nb q => hk c o (fun v => nb (by simp [v])) (fun v => nb (by simp [v])) (fun v => nb (by simp [v])) (fun v => nb (by simp [v])) q) hf
    by_cases c1 : its.toArray.size ≤ i
    · by_cases c2 : its2.toArray.size ≤ i
      · exact wpAny_pyNext_zipD2_end (sep_of D) (ends_K hd l1 i1 a D.l1i1 its.toArray i c1) (ends_K hd l2 i2 b D.l2i2 its2.toArray i c2) hz hTI hTO (i := i) ⟨rfl, st1, p⟩ ⟨rfl, st2, p2⟩ (Nat.le_refl _) (Nat.le_refl _) (.inl rfl) fun h' tk hk => ⟨rfl, fin h' tk hk⟩
      · exact wpAny_pyNext_zipD2_end (sep_of D) (ends_K hd l1 i1 a D.l1i1 its.toArray i c1) (draws_K hd l2 i2 b D.l2i2 its2.toArray) hz hTI hTO (i := i) ⟨rfl, st1, p⟩ ⟨st2, p2⟩ (Nat.le_refl _) (by omega) (.inl rfl) fun h' tk hk => ⟨rfl, fin h' tk hk⟩
    · exact wpAny_pyNext_zipD2_end (sep_of D) (draws_K hd l1 i1 a D.l1i1 its.toArray) (ends_K hd l2 i2 b D.l2i2 its2.toArray i (by omega)) hz hTI hTO (i := i) ⟨st1, p⟩ ⟨rfl, st2, p2⟩ (by omega) (Nat.le_refl _) (.inr rfl) fun h' tk hk => ⟨rfl, fin h' tk hk⟩
  self := fun A i s Q E st h => wpAny_pyIter_zip st.1 h
def iZipM (K : PySem.W.Frag) (ta : TA) : TI := fun σ H R => ta σ H fun vs H1 => ∃ l1 l2 a b xs ys, vs = [.ref a, .ref b] ∧ SqK l1 K H1 a xs ∧ SqK l2 K H1 b ys ∧ R (ItzM K l1 l2 a b) H1
theorem pi_zipM {X : Cx} {e e2 : Expr} {ta : TA} {p pos tpos : Pos} {elts : List Expr} {kk : Nat} (hg : Gl X "zip") (hm : X.mg "zip" = none) (ha : PA X [e, e2] ta)
    (hs : starEach [e, e2] X.env = (false, eval e X.env) :: starEach [e2] X.env) (hpl : (backTo pos (starEach [e2] X.env)).any (·.1) = false) : PI X (.Tuple elts kk tpos) (.Call (.Name "zip" p) [e, e2] [] pos) (iZipM X.K ta) := by
  refine ⟨fun pins s σ H R I h => Call_ (ld_blt I hg hm PyProof.Rows.boot_zip (PyProof.Rows.callWith_type1 (thn (ha.run pos pins s σ H _ I h) fun us s1 ⟨vs, H1, I1, r1, q1⟩ => ?_) hs hpl))⟩
  obtain ⟨l1, l2, a, b, xs, ys, ex, qx, qy, q⟩ := q1
  subst ex
  cases r1 with
  | cons r rr => cases rr with
    | cons r' rr =>
      cases rr; cases r; cases r'
      obtain ⟨its, rv, p1⟩ := inv_K I1 qx
      obtain ⟨its2, rv2, p2⟩ := inv_K I1 qy
      refine zip_begins2 (begins_K l1 a its.toArray) (begins_K l2 b its2.toArray) p1 p2 fun h' hz hTI hTO o1 o2 hsz hk => wpAny_pyIter_zip hz ?_
      have I2 : Inv X pins σ H1 { s1 with heap := h' } := I1.kept (t' := s1.toks) hk
      refine ⟨s1.heap.objs.size + 4, [s1.heap.objs.size + 4, s1.heap.objs.size + 2, s1.heap.objs.size + 3, s1.heap.objs.size, s1.heap.objs.size + 1], _, _, H1, rfl, I2, turn_zipM (PySem.W.ktu_apart s1.heap.objs.size a b (hold_lt p1) (hold_lt p2)), ⟨hz, hTI, ⟨_, _, hTO⟩, itK_new o1, itK_new o2⟩, fun c cm => ?_, q⟩
      have e' : c = s1.heap.objs.size + 4 ∨ c = s1.heap.objs.size + 2 ∨ c = s1.heap.objs.size + 3 ∨ c = s1.heap.objs.size ∨ c = s1.heap.objs.size + 1 := by simpa using cm
      have hle : s1.heap.objs.size ≤ c := by rcases e' with v | v | v | v | v <;> rw [v] <;> first | exact Nat.le_refl _ | exact Nat.le_add_right _ _
      exact I1.fpOk hle (I1.hok.fresh hle)
theorem zipV_get : ∀ {vs us : List Val} {i : Nat} {v : Val}, (zipV vs us)[i]? = some v → ∃ x y, vs[i]? = some x ∧ us[i]? = some y ∧ v = .tup [x, y]
  | [], us, i, v, h => by cases us <;> simp [zipV] at h
  | a :: vs, [], i, v, h => by simp [zipV] at h
  | a :: vs, b :: us, 0, v, h => by simp [zipV] at h; exact ⟨a, b, rfl, rfl, h.symm⟩
  | a :: vs, b :: us, i + 1, v, h => by
    simp only [zipV, List.getElem?_cons_succ] at h ⊢
    exact zipV_get h
theorem zipV_len : ∀ (vs us : List Val), (zipV vs us).length = min vs.length us.length
  | [], us => by cases us <;> simp [zipV]
  | a :: vs, [] => by simp [zipV]
  | a :: vs, b :: us => by simp [zipV, zipV_len vs us] <;> omega
theorem seq_still {K : PySem.W.Frag} {rw : Bool} {m1 m : MM} {H1 H : Hp} {S1 S : Store} {x : Val} {a : Addr} {vs : List Val} (rx : Rep K m1 H1 x (.ref a)) (e : seqOf S1 x = some vs) (xt : Ext rw m1 H1 m H) (hS : SRel K rw m H S) (hst : still (srcOf S1 x) S) : ∃ us, SqK (!isTupV x) K H a us ∧ Reps K m H vs us := by
  cases x with
  | tup ws =>
    simp only [seqOf] at e; cases e
    obtain ⟨a', us, e1, h1, h3, h2⟩ := rep_tup (rx.ext xt)
    cases e1
    exact ⟨us, SqT.of h1, h2⟩
  | lst ws =>
    obtain ⟨us, h1, h2⟩ := lst_still (S1 := S1) rx (by simpa [seqOf] using e) xt hS hst
    exact ⟨us, SqL.of h1, h2⟩
  | loc n =>
    obtain ⟨us, h1, h2⟩ := lst_still (S1 := S1) rx (by simpa [seqOf] using e) xt hS hst
    exact ⟨us, SqL.of h1, h2⟩
  | _ => simp only [seqOf, lstOf] at e; cases e
theorem still_app : ∀ {s1 s2 : Src} {S : Store}, still (s1 ++ s2) S → still s1 S ∧ still s2 S
  | [], s2, S, h => ⟨trivial, h⟩
  | p :: r, s2, S, h => ⟨⟨h.1, (still_app h.2).1⟩, (still_app h.2).2⟩
theorem seq_ref {K : PySem.W.Frag} {rw : Bool} {m : MM} {H : Hp} {S : Store} {x : Val} {u : V} {vs : List Val} (hS : SRel K rw m H S) (rx : Rep K m H x u) (e : seqOf S x = some vs) : ∃ a, u = .ref a := by
  cases x with
  | tup ws => obtain ⟨a, us, rfl, _⟩ := rep_tup rx; exact ⟨a, rfl⟩
  | lst ws => obtain ⟨a, us, rfl, _⟩ := rep_lst rx; exact ⟨a, rfl⟩
  | loc n => obtain ⟨a, rfl, _⟩ := rep_loc rx; exact ⟨a, rfl⟩
  | _ => simp only [seqOf, lstOf] at e; cases e
theorem still_self {S : Store} {x : Val} : still (srcOf S x) S := by
  cases x <;> simp only [srcOf] <;> try trivial
  rename_i n
  cases q : S[n]? with
  | none => trivial
  | some o => exact ⟨q, trivial⟩
theorem J_zip {K : PySem.W.Frag} {rw : Bool} {m1 : MM} {H1 : Hp} {S1 : Store} {x y : Val} {a b : Addr} {vs us : List Val} (rx : Rep K m1 H1 x (.ref a)) (ry : Rep K m1 H1 y (.ref b)) (e1 : seqOf S1 x = some vs) (e2 : seqOf S1 y = some us) :
    JRel K rw m1 H1 (zipV vs us, srcOf S1 x ++ srcOf S1 y) (ItzM K (!isTupV x) (!isTupV y) a b) := by
  intro m H S xt hS hst i
  obtain ⟨t1, t2⟩ := still_app hst
  obtain ⟨xs, q1, r1⟩ := seq_still rx e1 xt hS t1
  obtain ⟨ys, q2, r2⟩ := seq_still ry e2 xt hS t2
  have n1 := r1.length
  have n2 := r2.length
  refine ⟨fun hl => ⟨xs, ys, q1, q2, ?_⟩, fun v hv => ?_⟩
  · have hz := zipV_len vs us
    have hl' : (zipV vs us).length ≤ i := hl
    omega
  · obtain ⟨c, d, hc, hd, rfl⟩ := zipV_get hv
    obtain ⟨u, hu, ru⟩ := r1.get hc
    obtain ⟨w, hw, rw'⟩ := r2.get hd
    refine ⟨⟨xs, ys, u, w, q1, q2, hu, hw⟩, fun z H' hz => ?_⟩
    obtain ⟨T, u', w', rfl, hT, rfl, f1, f2⟩ := hz
    have := f1 xs q1
    rw [hu] at this; cases this
    have := f2 ys q2
    rw [hw] at this; cases this
    exact pair_new hS hT ru rw'
section
variable {X : Cx} {C : CallT} {W : WX} {rw : Bool}
theorem i_zip {elts : List Expr} {kk : Nat} {tpos : Pos} {a b : Expr} {a' b' : E} {p pos : Pos} (hg : Gl X "zip") (hm : X.mg "zip" = none) (na : notStarred a = true) (nb : notStarred b = true) (ha : SE X rw C W a a') (hb : SE X rw C W b b') : SI X rw C W (.Tuple elts kk tpos) (.Call (.Name "zip" p) [a, b] [] pos) (.zip a' b') := by
  refine PI.wk (pi_zipM hg hm (pa_cons ha (pa_cons hb pa_nil (noStar_of nb _ _)) (noStar_of na _ _)) (noStar_of na _ _) (backTo_of (es := [b]) (by simp [nb]) _ _)) fun σ H R ⟨m, S, ρ, hS, hE, h⟩ => ?_
  simp only [evIt] at h
  refine ⟨m, S, ρ, hS, hE, Out.bind h fun x S1 m1 H1 u x1 s1 r1 h1 => ⟨m1, S1, ρ, s1, hE.ext x1, Out.bind h1 fun y S2 m2 H2 w x2 s2 r2 h2 => ?_⟩⟩
  cases q1 : seqOf S2 x with
  | none => rw [q1] at h2; exact h2.elim
  | some vs =>
    cases q2 : seqOf S2 y with
    | none => rw [q1, q2] at h2; exact h2.elim
    | some us =>
      rw [q1, q2] at h2
      obtain ⟨a, rfl⟩ := seq_ref s2 (r1.ext x2) q1
      obtain ⟨b, rfl⟩ := seq_ref s2 r2 q2
      obtain ⟨xs, k1, _⟩ := seq_still (rw := rw) (r1.ext x2) q1 Ext.refl s2 still_self
      obtain ⟨ys, k2, _⟩ := seq_still (rw := rw) r2 q2 Ext.refl s2 still_self
      exact ⟨_, _, a, b, xs, ys, rfl, k1, k2, h2.fin s2 (J_zip (r1.ext x2) r2 q1 q2)⟩
end
end HI
set_option Elab.async false
set_option linter.all false
set_option maxRecDepth 100000
namespace HI
open PySem PySem.Spec PyProof.Rows L2
section
variable {prog : Program} {w : World} {A : Around} {E : Value → Shared → Prop} {s : Shared}
theorem meets_valsR {d : Addr} {es : Array DictEntry} {ep : Nat} (nsm : (d == sysModules) = false) :
    MeetsIn prog w (Builtin.«dict.values» ⟨[.ref d], []⟩) (fun _ R s => DT.Raw s.heap d es ep ∧ R (.ok (.ret (.ref s.heap.objs.size))) { s with heap := s.heap.push { cls := .type "dict_values", data := .fields #[.ref d] } }) :=
  .of_wp fun A R s ⟨raw, fin⟩ => by
    refine wpAny_bind ?_
    unfold Builtin.Dict.noArgs
    refine wpAny_bind (wpAny_notOrdered_dict raw.typeIs ?_)
    refine wpAny_pure ?_
    show wpAny _ _ (Builtin.Dict.showsAll d >>= _) _ _ s
    unfold Builtin.Dict.showsAll
    rw [if_neg (by rw [nsm] <;> exact Bool.false_ne_true)]
    exact wpAny_bind (wpAny_pure (wpAny_bind (wpAny_newObj_type (wpAny_pure ⟨_, rfl, fin⟩))))
theorem iter_valsR {v d : Addr} {ob : PySem.Obj} {es : Array DictEntry} {ep : Nat} {Q : Value → Shared → Prop} (hv : s.heap.get? v = some { cls := .type "dict_values", data := .fields #[.ref d] }) (ho : s.heap.get? d = some ob) (hdd : ob.data = .dict es ep) (hQ : Q (.ref s.heap.objs.size) { s with heap := s.heap.push (DVw.valOb d 0 es.size ep) }) :
    wpAny (model prog w) A (pyIter (.ref v)) Q E s := DSub.iter_vals (v := v) (a := d) (es := es) (ep := ep) hv ho hdd hQ
end
theorem frzTV {X : Cx} {pins : List (Addr × PySem.Obj)} {σ : L2.St} {H : Hp} {s : Shared} {d : Addr} {o : PySem.Obj} {kvs : List (List L2.Key × V)} (I : Inv X pins σ H s) (h : H d = some (.frz o (.dT kvs))) :
    (d == sysModules) = false ∧ s.heap.get? d = some o ∧ o.ExactDict ∧ ∃ (es : Array DictEntry) (ep : Nat), o.data = .dict es ep ∧ es.size = kvs.length ∧ ∀ (i : Nat) (k : List L2.Key) (v : V), kvs[i]? = some (k, v) → ∃ en : DictEntry, es[i]? = some en ∧ RelV v en.val := by
  obtain ⟨hd, z, hs, xs, pr, o', es, ep, ho, hx, hdt, he, _⟩ := I.hok d _ h
  rw [hd] at ho
  cases ho
  refine ⟨hs, hd, hx, es, ep, hdt, ?_, fun i k v e => ?_⟩
  · have l1 : es.size = xs.length := size_of_entries he
    have l2 : kvs.length = xs.length := Paired.length pr
    omega
  · obtain ⟨b, hb, e1, e2, e3⟩ := paired_get pr e
    have q := entry_at he i
    rw [hb] at q
    exact ⟨_, q, e3⟩
def ItdT (d : Addr) (o : PySem.Obj) (kvs : List (List L2.Key × V)) : L2.It :=
  ⟨fun i H => H d = some (.frz o (.dT kvs)) ∧ i < kvs.length, fun i H x H' => H' = H ∧ ∃ k, kvs[i]? = some (k, x), fun i H => H d = some (.frz o (.dT kvs)) ∧ kvs.length ≤ i⟩
theorem turn_valsT {P : Program} {w : World} {K : PySem.W.Frag} {tg : Expr} {d : Addr} {o : PySem.Obj} {es : Array DictEntry} {ep : Nat} {kvs : List (List L2.Key × V)} (it : Addr) (hod : o.data = .dict es ep) :
    Turn P w K tg (ItdT d o kvs) [it] it (fun i h => h.get? it = some (DVw.valOb d i kvs.length ep)) where
  mem := by simp
  obj := fun i h st b hb => by
    rw [show b = it by simpa using hb]
    exact ⟨_, st, fun v z => nomatch z⟩
  keep := fun i h h' st k => k it (by simp) _ st
  item := by
    intro X hP hw hK hc i pins s σ H E I hf st hg
    subst hP hw hK
    obtain ⟨hd, hi⟩ := hg
    obtain ⟨f0, f1, f2, f3, f4, f5⟩ := hf it (by simp)
    obtain ⟨nsm, hgd, hx, es', ep', hdt, hsz, ent⟩ := frzTV I hd
    obtain ⟨rfl, rfl⟩ := dict_ep hod hdt
    obtain ⟨⟨k, v⟩, hkv⟩ : ∃ p, kvs[i]? = some p := ⟨_, List.getElem?_eq_getElem hi⟩
    obtain ⟨en, hen, hrel⟩ := ent i k v hkv
    refine DVw.val_item st hgd hdt hsz hen fun h' st' sb => ?_
    have I1 : Inv X pins σ H { s with heap := h' } := I.turned (t' := s.toks) (fun b ob nb e => (sb.2 b nb).trans e) f0 f1 f3 f4 f5
    exact ⟨en.val, rfl, go_of (s := { s with heap := h' }) st' rfl rfl (by decide) ⟨v, H, I1, hrel, ⟨rfl, k, hkv⟩, st', fun b hb => (hf b hb).1⟩⟩
  done := by
    intro X hP hw hK hc i pins s σ H E I hf st hg
    subst hP hw hK
    obtain ⟨hd, hi⟩ := hg
    obtain ⟨f0, f1, f2, f3, f4, f5⟩ := hf it (by simp)
    obtain ⟨nsm, hgd, hx, es', ep', hdt, hsz, ent⟩ := frzTV I hd
    obtain ⟨rfl, rfl⟩ := dict_ep hod hdt
    refine DVw.val_end (I.ok.hd hc) st hgd hdt hsz (by simp; omega) fun h' eb => ⟨rfl, ?_⟩
    exact I.turned (t' := s.toks) (fun b ob nb e => eb b ob nb e) f0 f1 f3 f4 f5
  self := fun A i s Q E st h => wpAny_pyIter_valiter (i := i) (n := kvs.length) (ep := ep) (d := d) ⟨_, st, rfl, rfl⟩ h
def iValsT (td : TE) : TI := fun σ H R => td σ H fun x H1 => ∃ d o kvs, x = .ref d ∧ H1 d = some (.frz o (.dT kvs)) ∧ R (ItdT d o kvs) H1
theorem pi_valuesT {X : Cx} {tg e : Expr} {td : TE} {apos cpos : Pos} (he : PE X e td) (hbase : attributeBase e "values" X.env (eval e X.env) = eval e X.env) (hline : (apos.endLine == cpos.line) = true) : PI X tg (.Call (.Attribute e "values" apos) [] [] cpos) (iValsT td) := by
  refine ⟨fun pins s σ H R I h => ?_⟩
  refine wpAny_Call_method (T := "dict") (id := "dict.values") hbase rfl hline F.plainAttrs_dict F.slot_dict_values F.type_dict_values (thn (he.run pins s σ H _ I h) fun u s1 ⟨x, H1, I1, rx, d, o, kvs, ex, hd, q⟩ => ?_)
  subst ex
  obtain rfl : u = Value.ref d := rx
  obtain ⟨nsm, hgd, hx, es, ep, hdt, hsz, ent⟩ := frzTV I1 hd
  have raw : DT.Raw s1.heap d es ep := ⟨o, hgd, hx, hdt⟩
  refine ⟨raw.typeIs, fun o' e' => by cases e'; exact ⟨o, hgd, by first | exact hx.2 | exact hx.2.1⟩, ?_⟩
  have I2 : Inv X pins σ H1 { s1 with heap := s1.heap.push { cls := .type "dict_values", data := .fields #[.ref d] } } := I1.kept (t' := s1.toks) fun b ob q => Heap.get?_push_of_some _ q
  have fin : wpAny (model X.prog X.w) X.A (pyIter (.ref s1.heap.objs.size)) (PIE X pins σ tg R) X.xe { s1 with heap := s1.heap.push { cls := .type "dict_values", data := .fields #[.ref d] } } := by
    refine iter_valsR (Heap.get?_push_size _ rfl) (Heap.get?_push_of_some _ hgd) hdt (pi_one (tk := s1.toks) I2 _ (turn_valsT _ hdt) ?_ q)
    rw [hsz]
    exact Heap.get?_push_size _ rfl
  show wpAny _ _ (callWith cpos (.builtin "dict.values") [.ref d] [] []) _ X.xe s1
  exact method_meetsIn F.slot_dict_values F.entry_dict_values rfl (PySem.evalArgs_none ⟨rfl, raw.typeIs, F.args_dict_values_1 _, _, meets_valsR (es := es) (ep := ep) nsm, raw, fin⟩)
end HI
set_option Elab.async false
set_option linter.all false
set_option maxRecDepth 100000
namespace HI
open PySem PySem.Spec PyProof.Rows L2
section
variable {K : PySem.W.Frag} {d : Addr} {od : PySem.Obj} {n : Nat}
theorem J_vals {m1 : MM} {H1 : Hp} {S1 : Store} (s1 : SRel K false m1 H1 S1) (ha : m1[n]? = some d) {kvs : List (Key × Val)} {us : List (L2.Key × V)} (hn : S1[n]? = some (.dictK kvs)) (hd : H1 d = some (.frz od (.dK us))) (rp : RepP K m1 H1 kvs us) :
    JRel K false m1 H1 (kvs.map (·.2), srcOf S1 (.loc n)) (Itd d od us) := by
  intro m H S xt hS hst i
  have hd' : H d = some (.frz od (.dK us)) := xt.keep d _ hd (.inr ⟨rfl, fun z => s1.phb d z (mem_bx ha)⟩)
  have hl := rp.length
  refine ⟨fun h => ⟨hd', by simpa [hl] using h⟩, fun v hv => ?_⟩
  rw [List.getElem?_map] at hv
  cases q : kvs[i]? with
  | none => rw [q] at hv; cases hv
  | some kv =>
    rw [q] at hv; cases hv
    obtain ⟨w, h1, h0⟩ := repP_at rp q
    refine ⟨⟨hd', (List.getElem?_eq_some_iff.mp h1).1⟩, fun x H' hy => ?_⟩
    obtain ⟨rfl, k, h2⟩ := hy
    rw [h1] at h2; cases h2
    exact ⟨Ext.refl, hS, h0.ext xt⟩
theorem J_valsT {m1 : MM} {H1 : Hp} {S1 : Store} (s1 : SRel K false m1 H1 S1) (ha : m1[n]? = some d) {kvs : List (List Key × Val)} {us : List (List L2.Key × V)} (hn : S1[n]? = some (.dictT kvs)) (hd : H1 d = some (.frz od (.dT us))) (rp : RepP K m1 H1 kvs us) :
    JRel K false m1 H1 (kvs.map (·.2), srcOf S1 (.loc n)) (ItdT d od us) := by
  intro m H S xt hS hst i
  have hd' : H d = some (.frz od (.dT us)) := xt.keep d _ hd (.inr ⟨rfl, fun z => s1.phb d z (mem_bx ha)⟩)
  have hl := rp.length
  refine ⟨fun h => ⟨hd', by simpa [hl] using h⟩, fun v hv => ?_⟩
  rw [List.getElem?_map] at hv
  cases q : kvs[i]? with
  | none => rw [q] at hv; cases hv
  | some kv =>
    rw [q] at hv; cases hv
    obtain ⟨w, h1, h0⟩ := repP_at rp q
    refine ⟨⟨hd', (List.getElem?_eq_some_iff.mp h1).1⟩, fun x H' hy => ?_⟩
    obtain ⟨rfl, k, h2⟩ := hy
    rw [h1] at h2; cases h2
    exact ⟨Ext.refl, hS, h0.ext xt⟩
end
section
variable {X : Cx} {C : CallT} {W : WX} {L : Nat}
def rdVal (K : PySem.W.Frag) (C : CallT) (W : WX) (a : E) : TI := fun σ H R => ∃ m S ρ n d, SRel K false m H S ∧ ERel K m H ρ σ ∧ ev C a ρ S = .ok (.loc n) S ∧ m[n]? = some d ∧ (∃ od u, H d = some (.frz od u)) ∧ Out K false m H σ W (JRel K false) (evIt C (.values a) ρ S) R
theorem i_vals {tg e : Expr} {a : E} {apos cpos : Pos} (hb : notCall0 e = true) (hline : (apos.endLine == cpos.line) = true) (ha : SE X false C W e a) : PI X tg (.Call (.Attribute e "values" apos) [] [] cpos) (rdVal X.K C W a) := by
  refine PI.wk (PI.or (pi_values ha (noSuper_of hb _ _) hline) (pi_valuesT ha (noSuper_of hb _ _) hline)) fun σ H R ⟨m, S, ρ, n, d, hS, hE, en, hd, ⟨od, u, hf⟩, h⟩ => ?_
  simp only [evIt, en, Res.bind_ok, valuesOf] at h
  cases q : S[n]? with
  | none => rw [q] at h; exact h.elim
  | some ob =>
    rw [q] at h
    cases ob with
    | dictK kvs =>
      refine .inl ⟨m, S, ρ, hS, hE, ?_⟩
      rw [en]
      intro m' H' w x s r
      obtain ⟨d', rfl, ha'⟩ := rep_loc r
      have e := x.get hd
      rw [ha'] at e; cases e
      have hf' : H' d = some (.frz od u) := x.keep d _ hf (.inr ⟨rfl, fun z => hS.phb d z (mem_bx hd)⟩)
      obtain ⟨us, h1, h2⟩ := s.atA ha' q
      have eu : u = .dK us := by
        rcases h1 with h1 | ⟨o, h1⟩
        · rw [hf'] at h1; cases h1
        · rw [hf'] at h1; cases h1; rfl
      subst eu
      exact ⟨d, od, us, rfl, hf', h m' H' _ x s (J_vals s ha' q hf' h2)⟩
    | dictT kvs =>
      refine .inr ⟨m, S, ρ, hS, hE, ?_⟩
      rw [en]
      intro m' H' w x s r
      obtain ⟨d', rfl, ha'⟩ := rep_loc r
      have e := x.get hd
      rw [ha'] at e; cases e
      have hf' : H' d = some (.frz od u) := x.keep d _ hf (.inr ⟨rfl, fun z => hS.phb d z (mem_bx hd)⟩)
      obtain ⟨us, h1, h2⟩ := s.atA ha' q
      have eu : u = .dT us := by
        rcases h1 with h1 | ⟨o, h1⟩
        · rw [hf'] at h1; cases h1
        · rw [hf'] at h1; cases h1; rfl
      subst eu
      exact ⟨d, od, us, rfl, hf', h m' H' _ x s (J_valsT s ha' q hf' h2)⟩
    | list vs => exact h.elim
    | inst c fs => exact h.elim
theorem vals_reads {a : E} {tg' : Tg} {cond : Option E} {elt' : E} {vs : List Nat} (hr : rdo a = true) (hc : quietO cond = true) (he : quiet elt' = true) (h1 : ∀ i ∈ vs, i ∈ tgS tg') (h2 : ∀ i ∈ tgS tg', i ∈ vs) (σ : L2.St) (H : Hp) (Q : VK) :
    rdE X.K true C W (.comp tg' (.values a) cond elt') σ H Q → tLockE (tLc (rdVal X.K C W a) (rdG X.K false tg') (rdC X.K false C cond) (rdE X.K false C WF elt') vs) σ H Q := by
  rintro ⟨m, S, ρ, hS, hE, h⟩
  have ek : ∃ n vs, ev C a ρ S = .ok (.loc n) S ∧ valuesOf S (.loc n) = some vs ∧ DBox S n := by
    rcases rdo_ev (C := C) (ρ := ρ) hr S with e | ⟨x, e⟩
    · simp only [ev, evIt, e, Res.bind_stuck] at h; exact h.elim
    · cases q : valuesOf S x with
      | none => simp only [ev, evIt, e, Res.bind_ok, q, Res.bind_stuck] at h; exact h.elim
      | some ws =>
        cases x with
        | loc n =>
          refine ⟨n, ws, e, q, ?_⟩
          simp only [valuesOf] at q
          split at q
          · exact .inl ⟨_, by assumption⟩
          · exact .inr ⟨_, by assumption⟩
          · cases q
        | _ => cases q
  obtain ⟨n, ws, en, ew, db⟩ := ek
  have hu : ∃ d u, m[n]? = some d ∧ H d = some u ∧ Mut (some u) ∧ ∀ o v, u ≠ .frz o v := by
    rcases db with ⟨kvs, q⟩ | ⟨kvs, q⟩
    · obtain ⟨d, hd, us, k1, _⟩ := hS.at q
      exact ⟨d, _, hd, hS.plain (mem_bx hd) k1, trivial, fun o v z => by cases z⟩
    · obtain ⟨d, hd, us, k1, _⟩ := hS.at q
      exact ⟨d, _, hd, hS.plain (mem_bx hd) k1, trivial, fun o v z => by cases z⟩
  obtain ⟨d, u, hd, hv, mu, nf⟩ := hu
  refine ⟨d, u, hv, mu, fun od => ?_⟩
  have sF := hS.lock (od := od) hd hv db
  have eF : ERel X.K m (upd H d (.frz od u)) ρ σ := hE.ext (Ext.write (mem_bx hd) (fun z => hS.phb d z (mem_bx hd)))
  have eo : ev C (.comp tg' (.values a) cond elt') ρ S = (compGo (srcOf S (.loc n)) (compF C tg' cond elt' ρ) ws [] S).bind fun vs S2 => .ok (.lst vs) S2 := by
    simp only [ev, evIt, en, Res.bind_ok, ew]
    rfl
  have h' : Out X.K false m (upd H d (.frz od u)) σ W (Rep X.K) ((evIt C (.values a) ρ S).bind fun xs S1 => (compGo xs.2 (compF C tg' cond elt' ρ) xs.1 [] S1).bind fun vs S2 => .ok (.lst vs) S2) (fun v H' => H' d = some (.frz od u) ∧ Q v (upd H' d u)) := by
    have ei : evIt C (.values a) ρ S = .ok (ws, srcOf S (.loc n)) S := by simp only [evIt, en, Res.bind_ok, ew]
    rw [ei, Res.bind_ok]
    rw [eo] at h
    cases q : compGo (srcOf S (.loc n)) (compF C tg' cond elt' ρ) ws [] S with
    | stuck => rw [q] at h; exact h.elim
    | exc c S' => exact absurd q (compGo_noexc (fun x S c S' => compF_noexc) _ _ _ c S')
    | ok rs S' =>
      have es := compGo_same (fun x v S' => compF_same hc he S x v S') _ _ _ _ q
      subst es
      rw [q] at h
      intro m' H' w x s r
      obtain ⟨k1, k2, k3, k4⟩ := unlock hS hd hv nf x s
      exact ⟨k1, h m' _ w k2 k3 (k4 _ _ r)⟩
  refine ⟨m, S, ρ, n, d, sF, eF, en, hd, ⟨od, u, upd_same⟩, Out.bind h' fun p S1 m1 H1 J x1 s1 hJ h1' => fun D hD => ?_⟩
  refine comp_loop (rw := false) (Qd := fun H0 => H0 d = some (.frz od u) ∧ Q (.ref D) (upd H0 d u)) h1 h2 s1 (eF.ext x1) (by cases p; exact hJ) hD h1'.ne_stuck (fun c S' => compGo_noexc (fun x S c S' => compF_noexc) _ _ _ c S') fun ws S' m2 H2 us e x2 s2 hp hd2 hr2 => ?_
  rw [e] at h1'
  have sub := x2.ph_sub
  refine Out.fin' (m' := ⟨m2.bx, m1.ph⟩) h1' x2.dropP (s2.dropP sub) (.lst hd2 ?_ (hr2.dropP sub))
  rintro (z | z)
  · exact s2.phb D hp z
  · have := s1.phs D z
    rw [hD] at this; cases this
theorem s_compV {tg e elt : Expr} {ifs : List Expr} {scope : Scope} {own : List (Str × Nat)} {apos cpos pos : Pos} {tg' : Tg} {a : E} {cond : Option E} {elt' : E} (hr : rdo a = true) (hqc : quietO cond = true) (hqe : quiet elt' = true) (hc : X.calm = true) (hN : X.N.Nodup) (hb : notCall0 e = true) (hline : (apos.endLine == cpos.line) = true) (hi : SE X false C W e a) (ok : BlkOk X.N X.env.scope scope own)
    (hg : ∀ (s : Shared) (H : Hp) (c : Addr) (cl : List (Str × Addr)) (fp : List Addr), PG (X.blk s H scope (compEnvC scope cl c X.env) fp) tg (rdG X.K false tg'))
    (ht : ∀ (s : Shared) (H : Hp) (c : Addr) (cl : List (Str × Addr)) (fp : List Addr), PTs (X.blk s H scope (compEnvC scope cl c X.env) fp) ifs (rdC X.K false C cond))
    (he : ∀ (s : Shared) (H : Hp) (c : Addr) (cl : List (Str × Addr)) (fp : List Addr), PE (X.blk s H scope (compEnvC scope cl c X.env) fp) elt (rdE X.K false C WF elt'))
    (h1 : ∀ i ∈ own.map (·.2), i ∈ tgS tg') (h2 : ∀ i ∈ tgS tg', i ∈ own.map (·.2)) (hs : ∀ x, foldedSetIterable (.Call (.Attribute e "values" apos) [] [] cpos) X.env x = pure x) :
    SE X true C W (.ListComp elt [⟨tg, .Call (.Attribute e "values" apos) [] [] cpos, ifs, 0⟩] scope pos) (.comp tg' (.values a) cond elt') := PE.wk (pe_lock (pe_lc (own := own) hc hN (i_vals hb hline hi) ok hg ht he hs)) fun σ H Q h => vals_reads hr hqc hqe h1 h2 σ H Q h
theorem ss_setLcV {i : Nat} {y : Str} {py : Pos} {tg e elt : Expr} {ifs : List Expr} {scope : Scope} {own : List (Str × Nat)} {apos cpos pos spos : Pos} {tg' : Tg} {a : E} {cond : Option E} {elt' : E} (hr : rdo a = true) (hqc : quietO cond = true) (hqe : quiet elt' = true) (hc : X.calm = true) (hN : X.N.Nodup) (hy : X.N[i]? = some y) (hyl : X.env.scope.names.lookup y = some .local)
    (hsw : swapsWith (.ListComp elt [⟨tg, .Call (.Attribute e "values" apos) [] [] cpos, ifs, 0⟩] scope pos) (some (.Name y py)) spos.line X.env = pure true) (hb : notCall0 e = true) (hline : (apos.endLine == cpos.line) = true) (hi : SE X false C W e a) (ok : BlkOk X.N X.env.scope scope own)
    (hg : ∀ (s : Shared) (H : Hp) (c : Addr) (cl : List (Str × Addr)) (fp : List Addr), PG (X.blk s H scope (compEnvC scope cl c X.env) fp) tg (rdG X.K false tg'))
    (ht : ∀ (s : Shared) (H : Hp) (c : Addr) (cl : List (Str × Addr)) (fp : List Addr), PTs (X.blk s H scope (compEnvC scope cl c X.env) fp) ifs (rdC X.K false C cond))
    (he : ∀ (s : Shared) (H : Hp) (c : Addr) (cl : List (Str × Addr)) (fp : List Addr), PE (X.blk s H scope (compEnvC scope cl c X.env) fp) elt (rdE X.K false C WF elt'))
    (h1 : ∀ i ∈ own.map (·.2), i ∈ tgS tg') (h2 : ∀ i ∈ tgS tg', i ∈ own.map (·.2)) (hs : ∀ x, foldedSetIterable (.Call (.Attribute e "values" apos) [] [] cpos) X.env x = pure x) :
    SS X true L C W (.Assign [.Name y py] (.ListComp elt [⟨tg, .Call (.Attribute e "values" apos) [] [] cpos, ifs, 0⟩] scope pos) spos) (.set (.one i) (.comp tg' (.values a) cond elt')) := by
  refine PS.wk (ps_lock (ps_setLc (own := own) hc hN hy hyl hsw (i_vals hb hline hi) ok hg ht he hs)) fun D σ H ⟨m, S, ρ, hS, hE, h⟩ => ?_
  simp only [exS] at h
  have := vals_reads hr hqc hqe h1 h2 σ H (fun v H' => D.nx (σ.set i (some v)) H') ⟨m, S, ρ, hS, hE, OutS.to h hE fun v S1 m1 H1 u _ x s r h1 => by
    simp only [asgT] at h1
    exact h1 m1 H1 _ Ext.refl s ((hE.ext x).set r)⟩
  obtain ⟨d, u, k1, k2, k3⟩ := this
  exact ⟨d, u, k1, k2, fun od => k3 od⟩
end
end HI
set_option Elab.async false
set_option linter.all false
set_option maxRecDepth 100000
set_option maxHeartbeats 0
namespace HI
open PySem PySem.Spec PySem.Calls PyProof.Rows PyProof.V L2
section
variable {K : PySem.W.Frag} {rw : Bool} {m : MM} {H H' : Hp} {S : Store}
theorem Ext.grow (h : ∀ b o, H b = some o → H' b = some o) : Ext rw m H m H' :=
  ⟨⟨[], [], m.same, by simp, by simp⟩, fun a o e _ => h a o e, fun a e => by
    cases q : H a with
    | none => rw [q] at e; cases e
    | some o => rw [h a o q]; rfl, fun a _ o e => h a o e⟩
theorem SRel.grow (hS : SRel K rw m H S) (h : ∀ b o, H b = some o → H' b = some o) : SRel K rw m H' S := by
  have same : ∀ a, (H a).isSome = true → H' a = H a := fun a e => by
    cases q : H a with
    | none => rw [q] at e; cases e
    | some o => exact h a o q
  refine ⟨hS.len, hS.nd, fun n a ob e1 e2 => (hS.box n a ob e1 e2).ext (Ext.grow (rw := rw) h) (same a (hS.mem_some (mem_bx e1))), fun hr a ha o' u' => ?_, fun a ha => ?_, hS.phb, fun a ha xs => ?_⟩
  · rw [same a (hS.mem_some ha)]; exact hS.nof hr a ha o' u'
  · rw [same a (hS.phs a ha)]; exact hS.phs a ha
  · rw [same a (hS.phs a ha)]; exact hS.pht a ha xs
end
def kvAt (h : Heap) : Value → Str × Int
  | .ref b => (match h.get? b with
    | some o => (match o.data with
      | .seq xs _ => (match xs.toList with
        | [.str k _, .int n _] => (k, n)
        | _ => (Str.empty, 0))
      | _ => (Str.empty, 0))
    | none => (Str.empty, 0))
  | _ => (Str.empty, 0)
def leK (a b : Str × Int) : Prop := leS a.1 b.1
theorem sortK_eq {ks ys : List (Str × Int)} (nd : (ks.map (·.1)).Nodup) (p : ys.Perm ks) (h : ys.Pairwise leK) : ys = sortBy (fun a b => ltS a.1 b.1) ks := by
  have srt : (sortBy (fun a b : Str × Int => ltS a.1 b.1) ks).Pairwise leK := sortBy_sorted (le := leK) (fun a b e => by
      have e' : a.1.cps.toList < b.1.cps.toList := of_decide_eq_true e
      exact fun z => List.lt_asymm e' z) (fun a b e => of_decide_eq_false e) (fun a b c => leS_trans a.1 b.1 c.1) ks
  have pm := p.trans (sortBy_perm (lt := fun a b : Str × Int => ltS a.1 b.1) ks).symm
  have key : ys.map (·.1) = (sortBy (fun a b : Str × Int => ltS a.1 b.1) ks).map (·.1) :=
    perm_sorted_eq leS_anti (pm.map _) (List.pairwise_map.mpr h) (List.pairwise_map.mpr srt)
  have ndy : (ys.map (·.1)).Nodup := (p.map _).nodup_iff.mpr nd
  generalize sortBy (fun a b : Str × Int => ltS a.1 b.1) ks = zs at *
  have inj : ∀ a ∈ ys, ∀ b ∈ ys, a.1 = b.1 → a = b := fun a ha b hb e => by
    obtain ⟨i, hi⟩ := List.mem_iff_getElem?.mp ha
    obtain ⟨j, hj⟩ := List.mem_iff_getElem?.mp hb
    have ei : (ys.map (·.1))[i]? = some a.1 := by rw [List.getElem?_map, hi]; rfl
    have ej : (ys.map (·.1))[j]? = some a.1 := by rw [List.getElem?_map, hj, e]; rfl
    have : i = j := (List.getElem?_inj (List.getElem?_eq_some_iff.mp ei).1 ndy).mp (ei.trans ej.symm)
    subst this
    rw [hi] at hj; cases hj; rfl
  apply List.ext_getElem?
  intro i
  have hk := congrArg (fun l => l[i]?) key
  simp only [List.getElem?_map] at hk
  cases hy : ys[i]? with
  | none => rw [hy] at hk; cases hz : zs[i]? with
    | none => rfl
    | some z => rw [hz] at hk; cases hk
  | some y => rw [hy] at hk; cases hz : zs[i]? with
    | none => rw [hz] at hk; cases hk
    | some z =>
      rw [hz] at hk
      simp only [Option.map_some, Option.some.injEq] at hk
      rw [inj y (List.mem_of_getElem? hy) z (pm.mem_iff.mpr (List.mem_of_getElem? hz)) hk]
abbrev entK (e : Str × Int) : L2.Key × V := (Sum.inr e.1, V.int e.2)
def rSortItK : List V → Hp → VK → Prop := fun vs H Q => ∃ (p a : Addr) (ks : List (Str × Int)), vs = [.ref p] ∧ H p = some (L2.DX.itemsO p a) ∧ Rd H a (.dK (ks.map entK)) ∧
  ∀ (H' : Hp) (l : Addr) (ps : List (Addr × Str × Int)), (∀ b o, H b = some o → H' b = some o) → H l = none → ps.map (·.2) = sortBy (fun a b => ltS a.1 b.1) ks → H' l = some (.lst (ps.map fun z => V.ref z.1)) →
    (∀ z ∈ ps, H' z.1 = some (.tup [.str z.2.1, .int z.2.2])) → Q (.ref l) H'
def shape2 : Nat → Bool := fun i => decide (i = 0)
theorem cr_sortItK {X : Cx} (hc : X.calm = true) : CallR X (.builtin "sorted") rSortItK := by
  intro pins s σ H xs us Q I r h
  obtain ⟨p, a, ks, rfl, hp, ha, q⟩ := h
  obtain ⟨u, rfl, rx⟩ := r.one
  cases rx
  have view : s.heap.IsItemsView p a := (show ObjOk X.prog X.w H s.heap p (L2.DX.itemsO p a) from I.hok p _ hp).1
  obtain ⟨z, lo, vs0, rk, o, es, ep, ho, hx, hdt, hke, hpr, hnd⟩ := (show ObjOk X.prog X.w H s.heap a (.dK (ks.map entK)) from ha.ok I.hok)
  have l0 : (ks.map entK).length = vs0.length := Paired.length rk
  have l1 : es.toList.length = vs0.length := hpr.length
  rw [List.length_map] at l0
  rw [Array.length_toList] at l1
  have ndk : (ks.map (·.1)).Nodup := by
    rw [← KV.keys rk, List.map_map] at hnd
    exact List.pairwise_map.mpr ((List.pairwise_map.mp hnd).imp fun h e => h (by simp [entK, e]))
  refine DT.sortedI (es := es) (ep := ep) (I.ok.hd hc) view ⟨o, ho, hx, hdt⟩ (by rw [List.length_map] at z; omega) fun h' tk as hk hlt hl hG => ?_
  have nd : as.Nodup := List.Pairwise.imp (fun h => Nat.ne_of_lt h) hG.rise
  have pr : ∀ (j : Nat) (b : Addr), as[j]? = some b → ∃ (e : Str × Int) (t t' : Tok), ks[j]? = some e ∧ h'.get? b = some { cls := .type "tuple", data := .seq #[Value.str e.1 t, Value.int e.2 t'] } := by
    intro j b hj
    obtain ⟨en, he, hg⟩ := hG.pairs j b hj
    have hjl : j < ks.length := by have := (List.getElem?_eq_some_iff.mp hj).1; omega
    obtain ⟨e, hke'⟩ : ∃ e, ks[j]? = some e := ⟨_, List.getElem?_eq_getElem hjl⟩
    obtain ⟨uv, hu, ru⟩ := kv_get rk (i := j) (k := Sum.inr e.1) (v := V.int e.2) (by rw [List.getElem?_map, hke']; rfl)
    obtain ⟨g1, g2⟩ := hpr.get? (e := en) (by rw [Array.getElem?_toList]; exact he) hu
    obtain ⟨t, ht⟩ := keyIs_rel (k := Sum.inr e.1) g1
    obtain ⟨t', ht'⟩ := ru
    exact ⟨e, t, t', hke', by rw [hg, ht, g2, ht']⟩
  have there : (h'.push { cls := .type "list", data := .seq (as.map Value.ref).toArray }).get? h'.objs.size = some (seqObj "list" (as.map Value.ref).toArray 0) := Heap.get?_push_size _ rfl
  have ka : ∀ b o, h'.get? b = some o → (h'.push { cls := .type "list", data := .seq (as.map Value.ref).toArray }).get? b = some o := fun b o e => Heap.get?_push_of_some _ e
  have ne0 : ∀ b o, h'.get? b = some o → b ≠ h'.objs.size := fun b o e => Nat.ne_of_lt (Heap.lt_size e)
  generalize hh2 : h'.push { cls := .type "list", data := .seq (as.map Value.ref).toArray } = h2 at there ka ⊢
  have pr2 : ∀ v ∈ as.map Value.ref, ∃ (b : Addr) (e : Str × Int) (t t' : Tok), v = .ref b ∧ b ∈ as ∧ h'.get? b = some { cls := .type "tuple", data := .seq #[Value.str e.1 t, Value.int e.2 t'] } ∧ kvAt h2 v = e := by
    intro v hv
    obtain ⟨b, hb, rfl⟩ := List.mem_map.mp hv
    obtain ⟨j, hj⟩ := List.mem_iff_getElem?.mp hb
    obtain ⟨e, t, t', _, hg⟩ := pr j b hj
    refine ⟨b, e, t, t', rfl, hb, hg, ?_⟩
    simp only [kvAt, ka _ _ hg]
  have kvs_eq : (as.map Value.ref).map (kvAt h2) = ks := by
    apply List.ext_getElem?
    intro j
    rw [List.map_map, List.getElem?_map]
    cases hj : as[j]? with
    | none =>
      have := List.getElem?_eq_none_iff.mp hj
      rw [List.getElem?_eq_none (by omega)]; rfl
    | some b =>
      obtain ⟨e, t, t', he, hg⟩ := pr j b hj
      rw [he]
      simp only [Option.map_some, Function.comp, kvAt, ka _ _ hg]
  have keyc : ∀ v ∈ as.map Value.ref, G.tupKeyC h2 shape2 v = some [Sum.inr (kvAt h2 v).1.cps.toList, Sum.inl (kvAt h2 v).2] := by
    intro v hv
    obtain ⟨b, e, t, t', rfl, hb, hg, hkv⟩ := pr2 v hv
    rw [hkv]
    simp [G.tupKeyC, G.isTupObj, tupKey, tupItems, shape2, ka _ _ hg]
  have tups : ∀ vs : List Value, (∀ v ∈ vs, v ∈ as.map Value.ref) → ∃ fs, TupsOf h2 shape2 vs fs := by
    intro vs
    induction vs with
    | nil => intro _; exact ⟨[], .nil⟩
    | cons v vs ih =>
      intro hv
      obtain ⟨fs, hf⟩ := ih fun x hx => hv x (List.mem_cons_of_mem _ hx)
      obtain ⟨b, e, t, t', rfl, hb, hg, hkv⟩ := pr2 v (hv v (List.mem_cons_self ..))
      exact ⟨.str e.1 t :: fs, .cons ⟨b, _, _, 0, rfl, ka _ _ hg, rfl, rfl, rfl, fun z => by simp [shape2] at z, fun _ => ⟨_, _, rfl⟩⟩ hf⟩
  obtain ⟨fs, hfs⟩ := tups (as.map Value.ref) fun _ h => h
  have hz : (as.map Value.ref).length ≤ sizeLine := by rw [List.length_map] at z ⊢; omega
  refine wpAny_call_entry slot_list_sort ⟨_, there, rfl⟩ entry_list_sort (G.list_sort_tups (s := { s with heap := h2, toks := tk }) there hfs (fun v hv => ⟨_, keyc v hv⟩) hz fun st' hpm hst _ => ⟨_, rfl, ?_⟩) (args_list_sort _)
  have hself : ∀ x ∈ (arrOf st').toList, x.1 = x.2 ∧ x.1 ∈ as.map Value.ref := fun x hx => by
    have := (Array.perm_iff_toList_perm.mp hpm).mem_iff.mp hx
    rw [pairsOf_toList] at this
    exact mem_zip_self this
  have hsz : (arrOf st').size = (as.map Value.ref).length := by rw [← pairsOf_size]; exact hpm.size_eq
  generalize arrOf st' = arr at *
  have eout : (arr.map (·.2)).toList = arr.toList.map (·.1) := by
    rw [Array.toList_map]
    exact List.map_congr_left fun x hx => (hself x hx).1.symm
  have oz : (arr.map (·.2)).toList.Perm (as.map Value.ref) := by
    have h1 := (Array.perm_iff_toList_perm.mp hpm).map (·.1)
    rw [eout]
    rw [pairsOf_toList, List.map_fst_zip (Nat.le_refl _)] at h1
    exact h1
  have sorted : ((arr.map (·.2)).toList.map (kvAt h2)).Pairwise leK := by
    rw [eout, List.map_map, List.pairwise_map, List.pairwise_iff_getElem]
    intro i j hi hj hij
    have hs := hst i j (Nat.le_of_lt hij) (by rw [pairsOf_size, ← hsz, ← Array.length_toList]; exact hj)
    have m1 := (hself _ (List.getElem_mem hi)).2
    have m2 := (hself _ (List.getElem_mem hj)).2
    have k1 : KK (G.tupKindC h2 shape2) arr i = [Sum.inr (kvAt h2 arr.toList[i].1).1.cps.toList, Sum.inl (kvAt h2 arr.toList[i].1).2] := by
      unfold KK
      rw [← Array.getElem?_toList, List.getElem?_eq_getElem hi]
      show ((G.tupKeyC h2 shape2 _).getD _) = _
      rw [keyc _ m1]; rfl
    have k2 : KK (G.tupKindC h2 shape2) arr j = [Sum.inr (kvAt h2 arr.toList[j].1).1.cps.toList, Sum.inl (kvAt h2 arr.toList[j].1).2] := by
      unfold KK
      rw [← Array.getElem?_toList, List.getElem?_eq_getElem hj]
      show ((G.tupKeyC h2 shape2 _).getD _) = _
      rw [keyc _ m2]; rfl
    rw [k1, k2] at hs
    have hs' : lexLt itemOrd [Sum.inr (kvAt h2 arr.toList[j].1).1.cps.toList, Sum.inl (kvAt h2 arr.toList[j].1).2] [Sum.inr (kvAt h2 arr.toList[i].1).1.cps.toList, Sum.inl (kvAt h2 arr.toList[i].1).2] = false := hs
    rw [lex_cons] at hs'
    simp only [Bool.or_eq_false_iff] at hs'
    have := hs'.1
    exact of_decide_eq_false this
  have eks := sortK_eq ndk (kvs_eq ▸ (oz.map (kvAt h2))) sorted
  have kF : ∀ b o, b ≠ h'.objs.size → h2.get? b = some o → (sortedHeap h2 h'.objs.size (as.map Value.ref) (arr.map (·.2))).get? b = some o := fun b o hb e => (sortedHeap_old hb (Heap.lt_size e)).trans e
  have kS : ∀ b o, s.heap.get? b = some o → (sortedHeap h2 h'.objs.size (as.map Value.ref) (arr.map (·.2))).get? b = some o := fun b o e => kF b o (ne0 _ _ (hk b o e)) (ka _ _ (hk b o e))
  obtain ⟨eF, heF⟩ := sortedHeap_at (vs := as.map Value.ref) (out := arr.map (·.2)) there
  generalize hys : (arr.map (·.2)).toList = ys at *
  have hyr : ∀ y ∈ ys, ∃ (b : Addr) (e : Str × Int) (t t' : Tok), y = .ref b ∧ b ∈ as ∧ h'.get? b = some { cls := .type "tuple", data := .seq #[Value.str e.1 t, Value.int e.2 t'] } ∧ kvAt h2 y = e := fun y hy => pr2 y (oz.mem_iff.mp hy)
  have I1 : Inv X pins σ H { s with heap := sortedHeap h2 h'.objs.size (as.map Value.ref) (arr.map (·.2)), toks := tk } := I.kept (t' := tk) kS
  have hn0 : H h'.objs.size = none := I.hok.fresh (Nat.le_of_lt hlt)
  have rv : Vals (ys.map fun y => V.ref (adr y)) ys := by
    have : ∀ l : List Value, (∀ y ∈ l, y ∈ ys) → Vals (l.map fun y => V.ref (adr y)) l := by
      intro l
      induction l with
      | nil => intro _; exact .nil
      | cons y l ih =>
        intro hl
        obtain ⟨b, _, _, _, rfl, _⟩ := hyr y (hl y (List.mem_cons_self ..))
        exact .cons rfl (ih fun x hx => hl x (List.mem_cons_of_mem _ hx))
    exact this ys fun _ h => h
  have nw : ObjOk X.prog X.w (upd H h'.objs.size (.lst (ys.map fun y => V.ref (adr y)))) (sortedHeap h2 h'.objs.size (as.map Value.ref) (arr.map (·.2))) h'.objs.size (.lst (ys.map fun y => V.ref (adr y))) :=
    ⟨by rw [List.length_map, oz.length_eq]; exact hz, ys, eF, rv, by rw [← hys, Array.toArray_toList]; exact heF⟩
  have I2 : Inv X pins σ (upd H h'.objs.size (.lst (ys.map fun y => V.ref (adr y)))) { s with heap := sortedHeap h2 h'.objs.size (as.map Value.ref) (arr.map (·.2)), toks := tk } :=
    I1.take (h' := sortedHeap h2 h'.objs.size (as.map Value.ref) (arr.map (·.2))) (t' := tk) (fun b ob _ e => e) (I.fpOk (Nat.le_of_lt hlt) hn0) nw
  obtain ⟨H2, I3, g, qt⟩ := L2.DX.takeT (P := fun b vs => vs = [.str (kvAt h2 (.ref b)).1, .int (kvAt h2 (.ref b)).2]) I as _ I2 nd fun b hb => by
    obtain ⟨b', e, t, t', eb, _, hg, hkv⟩ := pr2 (.ref b) (List.mem_map_of_mem (f := Value.ref) hb)
    cases eb
    have hbl : s.heap.objs.size ≤ b := Nat.le_of_lt (hG.above b hb)
    refine ⟨hbl, ?_, _, rfl, fun H3 => ⟨by show 2 ≤ sizeLine; decide, [.str e.1 t, .int e.2 t'], ?_, ⟨_, kF _ _ (ne0 _ _ hg) (ka _ _ hg), rfl, 0, rfl⟩⟩⟩
    · rw [upd_ne (ne0 _ _ hg)]; exact I.hok.fresh hbl
    · rw [hkv]; exact .cons ⟨_, rfl⟩ (.cons ⟨_, rfl⟩ .nil)
  have gr : ∀ b o, H b = some o → H2 b = some o := fun b o e => g b o (by rw [upd_ne (fun z => by rw [z, hn0] at e; cases e)]; exact e)
  refine ⟨.ref h'.objs.size, H2, I3, rfl, q H2 h'.objs.size (ys.map fun y => (adr y, kvAt h2 y)) gr hn0 ?_ ?_ fun z hz' => ?_⟩
  · rw [List.map_map]; exact eks
  · rw [List.map_map]; exact g _ _ upd_same
  · obtain ⟨y, hy, rfl⟩ := List.mem_map.mp hz'
    obtain ⟨b, e, t, t', rfl, hb, hg, hkv⟩ := hyr y hy
    obtain ⟨vs, rfl, hH⟩ := qt b hb
    exact hH
def rItemsK : V → List V → Hp → VK → Prop := fun x xs H Q => ∃ (a : Addr) (kvs : List (L2.Key × V)), x = .ref a ∧ xs = [] ∧ Rd H a (.dK kvs) ∧ ∀ p, H p = none → Q (.ref p) (upd H p (L2.DX.itemsO p a))
theorem mt_itemsK {X : Cx} : MtR X "dict.items" rItemsK := by
  intro pins s σ H x xs v us Q I rx rxs h
  obtain ⟨a, kvs, rfl, rfl, ha, q⟩ := h
  cases rx
  cases rxs
  obtain ⟨z, lo, vs0, rk, o, es, ep, ho, hx, hdt, _⟩ := (show ObjOk X.prog X.w H s.heap a (.dK kvs) from ha.ok I.hok)
  refine DT.callItems (es := es) (ep := ep) lo ⟨o, ho, hx, hdt⟩ ?_
  exact ⟨.ref s.heap.objs.size, _, I.laid (t' := s.toks) (fun b u e => Heap.get?_push_of_some _ e) (Nat.le_refl _) (L2.DX.itemsO_ok (Heap.get?_push_size _ rfl)), rfl, q _ (I.hok.fresh (Nat.le_refl _))⟩
section
variable {X : Cx} {C : CallT} {W : WX} {rw : Bool}
theorem strInts_eq : ∀ {kvs : List (Key × Val)} {ps : List (Str × Int)}, strInts kvs = some ps → kvs = ps.map fun p => (Sum.inr p.1, .int p.2)
  | [], ps, h => by simp only [strInts] at h; cases h; rfl
  | (k, v) :: r, ps, h => by
    cases k with
    | inl i => simp [strInts] at h
    | inr s =>
      cases v <;> simp only [strInts] at h <;> try cases h
      rename_i i
      cases q : strInts r with
      | none => rw [q] at h; cases h
      | some qs =>
        rw [q] at h
        simp only [Option.map_some, Option.some.injEq] at h
        subst h
        rw [strInts_eq q]; rfl
theorem repP_ints {K : PySem.W.Frag} {m : MM} {H : Hp} : ∀ {ps : List (Str × Int)} {us : List (L2.Key × V)}, RepP K m H (ps.map fun p => ((Sum.inr p.1 : Key), Val.int p.2)) us → us = ps.map entK
  | [], _, .nil => rfl
  | p :: ps, _, .cons (b := b) a r => by
    obtain ⟨k, u⟩ := b
    obtain ⟨e, ru⟩ := a
    cases e
    cases rep_int ru
    rw [repP_ints r]; rfl
theorem s_itemsS {a : Expr} {a' : E} {p apos cpos pos : Pos} (hrw : rw = true) (hc : X.calm = true) (hg : Gl X "sorted") (hm : X.mg "sorted" = none) (hb : notCall0 a = true) (hline : (apos.endLine == cpos.line) = true) (ha : SE X rw C W a a') :
    SE X rw C W (.Call (.Name "sorted" p) [.Call (.Attribute a "items" apos) [] [] cpos] [] pos) (.itemsS a') := by
  subst hrw
  have pi : PE X (.Call (.Attribute a "items" apos) [] [] cpos) _ := pe_bm0 PySem.F.plainAttrs_dict PySem.F.slot_dict_items PySem.F.type_dict_items mt_itemsK ha (noSuper_of hb _ _) hline
  refine PE.wk (pe_callB (cr_sortItK hc) hg hm rfl (pa_cons pi pa_nil rfl) (by decide) (by decide) rfl (backTo_nil _ _)) fun σ H Q ⟨m, S, ρ, hS, hE, h⟩ => ?_
  simp only [ev] at h
  refine ⟨m, S, ρ, hS, hE, Out.bind h fun x S1 m1 H1 u x1 s1 r1 h1 => ?_⟩
  cases x <;> simp only at h1 <;> try exact h1.elim
  rename_i n
  obtain ⟨d, rfl, hd⟩ := rep_loc r1
  cases q : S1[n]? with
  | none => rw [q] at h1; exact h1.elim
  | some ob =>
    rw [q] at h1
    cases ob <;> simp only at h1 <;> try exact h1.elim
    rename_i kvs
    cases q2 : strInts kvs with
    | none => rw [q2] at h1; exact h1.elim
    | some ks =>
      rw [q2] at h1
      simp only at h1
      split at h1
      · obtain ⟨us, k1, k2⟩ := s1.atA hd q
        have e1 := strInts_eq q2
        subst e1
        have e2 := repP_ints k2
        subst e2
        refine ⟨?_, d, _, rfl, rfl, k1, fun pv hpv => ⟨pv, d, ks, rfl, upd_same, ?_, fun H' l ps gr hl hps hH' hts => ?_⟩⟩
        · exact .inr (.inr (.inl ⟨rfl, .inl ⟨_, s1.plain (mem_bx hd) k1⟩⟩))
        · rcases k1 with k1 | ⟨o, k1⟩
          · exact .inl (by rw [upd_ne (fun z => by rw [z, hpv] at k1; cases k1)]; exact k1)
          · exact .inr ⟨o, by rw [upd_ne (fun z => by rw [z, hpv] at k1; cases k1)]; exact k1⟩
        · have gr' : ∀ b o, H1 b = some o → H' b = some o := fun b o e => gr b o (by rw [upd_ne (fun z => by rw [z, hpv] at e; cases e)]; exact e)
          have hl1 : H1 l = none := by
            by_cases z : l = pv
            · rw [z, upd_same] at hl; cases hl
            · rw [upd_ne z] at hl; exact hl
          refine h1.fin' (Ext.grow gr') (s1.grow gr') (.lst hH' (not_box s1 hl1) ?_)
          rw [← hps, List.map_map]
          have : ∀ zs : List (Addr × Str × Int), (∀ z ∈ zs, z ∈ ps) → Reps X.K m1 H' (zs.map ((fun p : Str × Int => Val.tup [.str p.1, .int p.2]) ∘ (·.2))) (zs.map fun z => V.ref z.1) := by
            intro zs
            induction zs with
            | nil => intro _; exact .nil
            | cons z zs ih =>
              intro hz
              refine .cons (.tup (hts z (hz z (List.mem_cons_self ..))) ?_ (.cons (.str _) (.cons (.int _) .nil))) (ih fun y hy => hz y (List.mem_cons_of_mem _ hy))
              exact tup_out (s1.grow gr') (hts z (hz z (List.mem_cons_self ..)))
          exact this ps fun _ h => h
      · exact h1.elim
end
end HI
set_option Elab.async false
set_option linter.all false
set_option maxRecDepth 100000
namespace HI
open PySem PySem.Spec PyProof.Rows L2
section
variable {X : Cx} {C : CallT} {W : WX} {rw : Bool}
theorem s_min2 {a b : Expr} {a' b' : E} {p pos : Pos} (hc : X.calm = true) (hg : Gl X "min") (hm : X.mg "min" = none) (na : notStarred a = true) (nb : notStarred b = true) (ha : SE X rw C W a a') (hb : SE X rw C W b b') : SE X rw C W (.Call (.Name "min" p) [a, b] [] pos) (.bin .min2 a' b') := by
  refine PE.wk (pe_callB (call_min2 hc) hg hm rfl (pa_cons ha (pa_cons hb pa_nil (noStar_of nb _ _)) (noStar_of na _ _)) (by decide) (by decide) (noStar_of na _ _) (backTo_of (es := [b]) (by simp [nb]) _ _)) fun σ H Q ⟨m, S, ρ, hS, hE, h⟩ => ?_
  simp only [ev] at h
  refine ⟨m, S, ρ, hS, hE, Out.bind h fun x S1 m1 H1 u x1 s1 r1 h1 => ⟨m1, S1, ρ, s1, hE.ext x1, Out.bind h1 fun y S2 m2 H2 w x2 s2 r2 h2 => ?_⟩⟩
  obtain ⟨z, e, h2⟩ := h2.some
  cases x <;> cases y <;> simp only [op2] at e <;> try cases e
  cases rep_int r1; cases rep_int r2
  exact ⟨_, _, rfl, h2.fin s2 (.int _)⟩
def rCountD (K : PySem.W.Frag) : V → List V → Hp → VK → Prop := fun x xs H Q => ∃ (a : Addr) (y : V) (d : PyData) (ds : List PyData), x = V.ref a ∧ xs = [y] ∧ Dp K H (V.ref a) (.list ds) ∧ Dp K H y d ∧ SeqAt.shaped (.list ds) = true ∧ SeqAt.shaped d = true ∧ Q (.int ((ds.countP fun z => PyData.eqv z d : Nat) : Int)) H
theorem mt_countD (hu : X.A.units + 65 < cLine) : MtR X "list.count" (rCountD X.K) := by
  intro pins s σ H x xs v us Q I rx rxs h
  obtain ⟨a, y, d, ds, rfl, rfl, hl, hy, sl, sd, q⟩ := h
  cases rx
  cases rxs with
  | cons ry rt =>
    rename_i uy ut
    cases rt
    obtain ⟨bs, r1⟩ := Dp.reads I d y uy hy ry
    have lay : PyData.canLayAll0 ds = true := SeqAt.canLay_of_shaped sl
    have room : X.A.units + 1 + min (PyData.depthAll ds) d.depth < cLine := room_in_shaped sd hu
    cases hl with
    | lst hs ha =>
      obtain ⟨its, rv, ⟨⟨cls, dd, data, sls⟩, n, ho, hc, hdn, hdt⟩, hlen⟩ := I.list hs
      simp only at hc hdt
      subst hc hdt
      obtain ⟨as, h4⟩ := Dp.readsAll I ds _ its ha rv
      have hmap : its.map (SeqAt.readOf s.heap) = ds := SeqAt.readsAll_map ds its as lay h4
      refine call_meets PySem.F.slot_list_count ⟨_, ho, rfl⟩ PySem.F.entry_list_count (PySem.F.args_list_count_2 _ _) (SeqAt.list_countAt a its.toArray n dd sls uy (fun u => PyData.eqv (SeqAt.readOf s.heap u) d))
        ⟨ho, SeqAt.items_eqAt (vs := its.toArray) (show ReadsAll s.heap its.toArray.toList ds as from h4) r1 lay (SeqAt.canLay_of_shaped sd) room, ?_⟩
      have e : its.toArray.toList.countP (fun u => PyData.eqv (SeqAt.readOf s.heap u) d) = ds.countP fun z => PyData.eqv z d := by
        rw [← hmap, List.countP_map, List.toList_toArray]; rfl
      rw [e]
      exact ⟨.int _, H, I.tok _, ⟨_, rfl⟩, q⟩
def isStrV : Val → Bool
  | .str _ => true
  | _ => false
theorem countP_d {b : Val} (hb : fine 60 b = true) : ∀ {vs : List Val}, fines 59 vs = true → (toDs vs).countP (fun z => PyData.eqv z (toD b)) = vs.countP fun y => eqv y b
  | [], _ => rfl
  | v :: vs, h => by
    simp only [fines, Bool.and_eq_true] at h
    simp only [toDs, List.countP_cons, eqv_d 59 60 v b h.1 hb, countP_d hb h.2]
theorem Out.lit {K : PySem.W.Frag} {m : MM} {H : Hp} {S : Store} {σ : L2.St} {W : WX} {ρ : Env} {C : CallT} {v : Val} {f : Val → Store → Res Val} {Q : VK} (h : Out K rw m H σ W (Rep K) ((ev C (.lit v) ρ S).bind f) Q) : Out K rw m H σ W (Rep K) (f v S) Q := by
  simpa only [ev, Res.bind_ok] using h
def litE : E → Bool
  | .lit _ => true
  | _ => false
theorem s_count {o e : Expr} {o' e' : E} {apos cpos : Pos} (hl : litE e' = true) (hu : X.A.units + 65 < cLine) (hb : notCall0 o = true) (ns : notStarred e = true) (hline : (apos.endLine == cpos.line) = true) (ho : SE X rw C W o o') (he : SE X rw C W e e') : SE X rw C W (.Call (.Attribute o "count" apos) [e] [] cpos) (.bin .count o' e') := by
  have p1 : PE X (.Call (.Attribute o "count" apos) [e] [] cpos) _ := pe_m1 PySem.F.slot_str_count PySem.F.type_str_count mt_count ho he (noStar_of ns _ _) (noSuper_of hb _ _) hline
  have p2 : PE X (.Call (.Attribute o "count" apos) [e] [] cpos) _ := pe_bm PySem.F.plainAttrs_list PySem.F.slot_list_count PySem.F.type_list_count (mt_countD hu) ho (pa_cons he pa_nil (noStar_of ns _ _)) (noSuper_of hb _ _) (form_of (es := [e]) (by simp [ns]) (by simp) _ _) hline (noStar_of ns _ _) (backTo_nil _ _)
  cases e' <;> try cases hl
  rename_i b
  refine PE.wk (PE.or p1 p2) fun σ H Q ⟨m, S, ρ, hS, hE, h⟩ => ?_
  simp only [ev, Res.bind_ok] at h
  by_cases c1 : ∀ x S1, ev C o' ρ S = .ok x S1 → isStrV x = true
  · refine .inl ⟨m, S, ρ, hS, hE, Out.bindE h fun x S1 m1 H1 u e1 x1 s1 r1 h1 => ?_⟩
    have hx := c1 x S1 e1
    cases x <;> try cases hx
    cases rep_str r1
    obtain ⟨z, e2, h2⟩ := h1.some
    cases b <;> simp only [op2, countV] at e2 <;> try cases e2
    refine ⟨⟨_, rfl⟩, m1, S1, ρ, s1, hE.ext x1, ?_⟩
    simp only [ev]
    intro m2 H2 w x2 s2 r2
    cases rep_str r2
    exact ⟨_, _, rfl, rfl, (h2.ext x2).fin s2 (.int _)⟩
  · refine .inr ⟨m, S, ρ, hS, hE, Out.bindE h fun x S1 m1 H1 u e1 x1 s1 r1 h1 => ?_⟩
    have hx : isStrV x = false := by
      cases q : isStrV x with
      | false => rfl
      | true => exact absurd (fun y S2 e2 => by rw [e1] at e2; cases e2; exact q) c1
    obtain ⟨z, e2, h2⟩ := h1.some
    have e3 : ∃ xs, unl S1 x = .lst xs ∧ (fine 60 b && fines 59 xs) = true ∧ z = .int ((xs.countP fun y => eqv y b : Nat) : Int) := by
      have e4 : countV S1 x b = some z := by cases x <;> simpa only [op2] using e2
      cases x <;> try cases hx
      all_goals (
        simp only [countV] at e4
        split at e4
        · rename_i xs q
          split at e4
          · rename_i hf; cases e4; exact ⟨xs, q, hf, rfl⟩
          · cases e4
        · cases e4)
    obtain ⟨xs, q, hf, rfl⟩ := e3
    rw [Bool.and_eq_true] at hf
    obtain ⟨a, us, rfl, k1, k2⟩ := unl_lst s1 r1 q
    refine ⟨.inl ⟨rfl, us, SqL.of k1⟩, m1, S1, ρ, s1, hE.ext x1, ?_⟩
    simp only [ev]
    intro m2 H2 w x2 s2 r2
    have k1' := x2.keep
    obtain ⟨a', us', ea, k3, k4⟩ := unl_lst s2 (r1.ext x2) q
    cases ea
    refine ⟨a, w, toD b, toDs xs, rfl, rfl, .lst (SqL.of k3) (reps_dp (n := 59) k4 hf.2), rep_dp r2 hf.1, fine_shaped (v := .lst xs) (by simpa only [fine] using hf.2), fine_shaped hf.1, ?_⟩
    rw [countP_d hf.1 hf.2]
    exact (h2.ext x2).fin s2 (.int _)
theorem reps_strs {K : PySem.W.Frag} {m : MM} {H : Hp} : ∀ l : List Str, Reps K m H (l.map Val.str) (l.map V.str)
  | [] => .nil
  | y :: l => .cons (.str y) (reps_strs l)
def litS : E → Bool
  | .lit (.str _) => true
  | _ => false
theorem s_split {o e : Expr} {o' e' : E} {apos cpos : Pos} (hl : litE e' = true) (hb : notCall0 o = true) (ns : notStarred e = true) (hline : (apos.endLine == cpos.line) = true) (ho : SE X rw C W o o') (he : SE X rw C W e e') : SE X rw C W (.Call (.Attribute o "split" apos) [e] [] cpos) (.bin .splitT o' e') := by
  cases e' <;> try cases hl
  rename_i b
  refine PE.wk (pe_split ho he (noStar_of ns _ _) (noSuper_of hb _ _) hline) fun σ H Q ⟨m, S, ρ, hS, hE, h⟩ => ?_
  simp only [ev, Res.bind_ok] at h
  refine ⟨m, S, ρ, hS, hE, Out.bind h fun x S1 m1 H1 u x1 s1 r1 h1 => ?_⟩
  obtain ⟨z, e2, h2⟩ := h1.some
  cases x <;> cases b <;> simp only [op2, splitV] at e2 <;> try cases e2
  split at e2
  · rename_i hc
    cases e2
    cases rep_str r1
    refine ⟨⟨_, rfl⟩, m1, S1, ρ, s1, hE.ext x1, ?_⟩
    simp only [ev]
    intro m2 H2 w x2 s2 r2
    cases rep_str r2
    refine ⟨_, _, rfl, rfl, hc.1, by rw [← lim_eq]; exact hc.2, fun p hp => ?_⟩
    exact (h2.ext x2).fin' (Ext.new hp) (s2.new hp) (.lst upd_same (not_box s2 hp) (reps_strs _))
  · cases e2
theorem strsOf_rep {K : PySem.W.Frag} {m : MM} {H : Hp} : ∀ {vs : List Val} {us : List V} {ss : List Str}, Reps K m H vs us → strsOf vs = some ss → us = ss.map V.str
  | [], _, ss, .nil, h => by simp only [strsOf] at h; cases h; rfl
  | v :: vs, _, ss, .cons r q, h => by
    cases v <;> simp only [strsOf] at h <;> try cases h
    rename_i s
    cases e : strsOf vs with
    | none => rw [e] at h; cases h
    | some ss' =>
      rw [e] at h
      simp only [Option.map_some, Option.some.injEq] at h
      subst h
      cases rep_str r
      rw [strsOf_rep q e]; rfl
theorem s_join {o e : Expr} {o' e' : E} {apos cpos : Pos} (hl : litS o' = true) (hb : notCall0 o = true) (ns : notStarred e = true) (hline : (apos.endLine == cpos.line) = true) (ho : SE X rw C W o o') (he : SE X rw C W e e') : SE X rw C W (.Call (.Attribute o "join" apos) [e] [] cpos) (.bin .joinT o' e') := by
  cases o' <;> try cases hl
  rename_i b
  cases b <;> try cases hl
  refine PE.wk (pe_join ho he (noStar_of ns _ _) (noSuper_of hb _ _) hline) fun σ H Q ⟨m, S, ρ, hS, hE, h⟩ => ?_
  simp only [ev, Res.bind_ok] at h
  refine ⟨m, S, ρ, hS, hE, ?_⟩
  simp only [ev]
  intro m1 H1 u x1 s1 r1
  cases rep_str r1
  refine ⟨⟨_, rfl⟩, m1, S, ρ, s1, hE.ext x1, Out.bind (h.ext x1) fun y S2 m2 H2 w x2 s2 r2 h2 => ?_⟩
  obtain ⟨z, e2, h3⟩ := h2.some
  simp only [op2, joinV] at e2
  split at e2
  · rename_i x vs q1 q2
    cases q1
    split at e2
    · rename_i ss q3
      split at e2
      · rename_i hc
        cases e2
        obtain ⟨a, us, rfl, k1, k2⟩ := unl_lst s2 r2 q2
        have e5 := strsOf_rep k2 q3
        subst e5
        exact ⟨_, a, ss, rfl, rfl, .inl (SqL.of k1), hc, h3.fin s2 (.str _)⟩
      · cases e2
    · cases e2
  · cases e2
theorem deep_rep {K : PySem.W.Frag} {m : MM} {H : Hp} {S : Store} (hS : SRel K rw m H S) : ∀ (n k : Nat) {x : Val} {u : V}, Rep K m H x u → fine k (deep S n x) = true → Dp K H u (toD (deep S n x))
  | 0, k, x, u, r, h => rep_dp r h
  | n + 1, 0, x, u, r, h => by simp [fine] at h
  | n + 1, k + 1, x, u, r, h => by
    have all : ∀ {vs : List Val} {us : List V}, Reps K m H vs us → fines k (vs.map (deep S n)) = true → DpAll K H us (toDs (vs.map (deep S n))) := by
      intro vs
      induction vs with
      | nil => intro us r h; cases r; exact .nil
      | cons v vs ih =>
        intro us r h
        cases r with
        | cons r q =>
          simp only [List.map_cons, fines, Bool.and_eq_true] at h
          exact .cons (deep_rep hS n k r h.1) (ih q h.2)
    cases r with
    | tup h1 h2 q => simp only [deep, fine] at h ⊢; exact .tup (SqT.of h1) (all q h)
    | lst h1 h2 q => simp only [deep, fine] at h ⊢; exact .lst (SqL.of h1) (all q h)
    | loc hl =>
      rename_i k' a
      simp only [deep] at h ⊢
      cases e : S[k']? with
      | none => rw [e] at h; simp [fine] at h
      | some o =>
        rw [e] at h
        cases o with
        | list vs =>
          obtain ⟨us, b1, b2⟩ := hS.atA hl e
          simp only [fine] at h
          exact .lst (SqL.of b1) (all b2 h)
        | _ => simp [fine] at h
    | non => exact .non
    | bool b => exact .bl b
    | int i => exact .int i
    | str s => exact .str s
    | scr _ _ => simp [deep, fine] at h
    | scrK _ => simp [deep, fine] at h
theorem c_eqD (hu : X.A.units + 64 < cLine) : CmpOk X rw W .Eq .eqD := by
  refine ⟨_, op_eqD hu, fun m H S x y u w Q σ hS rx ry h => ?_⟩
  obtain ⟨z, e, h⟩ := h.some
  have e' : (eqD S x y).map Val.bool = some z := by cases x <;> simpa only [op2] using e
  unfold eqD at e'
  split at e'
  · rename_i hf
    cases e'
    rw [Bool.and_eq_true] at hf
    refine ⟨_, _, deep_rep hS 8 60 rx hf.1, deep_rep hS 8 60 ry hf.2, fine_shaped hf.1, fine_shaped hf.2, ?_⟩
    rw [eqv_d 60 60 _ _ hf.1 hf.2]
    exact h.fin hS (.bool _)
  · cases e'
theorem c_neD (hu : X.A.units + 64 < cLine) : CmpOk X rw W .NotEq .neD := by
  refine ⟨_, op_neD hu, fun m H S x y u w Q σ hS rx ry h => ?_⟩
  obtain ⟨z, e, h⟩ := h.some
  have e' : ((eqD S x y).map fun c => Val.bool (!c)) = some z := by cases x <;> simpa only [op2] using e
  unfold eqD at e'
  split at e'
  · rename_i hf
    cases e'
    rw [Bool.and_eq_true] at hf
    refine ⟨_, _, deep_rep hS 8 60 rx hf.1, deep_rep hS 8 60 ry hf.2, fine_shaped hf.1, fine_shaped hf.2, ?_⟩
    rw [eqv_d 60 60 _ _ hf.1 hf.2]
    exact h.fin hS (.bool _)
  · cases e'
end
end HI
set_option Elab.async false
set_option linter.all false
set_option maxRecDepth 100000
namespace HI
open PySem PySem.Spec PyProof.Rows L2
section
variable {K : PySem.W.Frag} {rw : Bool} {m m' : MM} {H H' : Hp} {S S' : Store} {d : Addr} {u : HO} {od : PySem.Obj} {n : Nat}
theorem SRel.lock0 (hS : SRel K false m H S) (ha : m[n]? = some d) (hd : H d = some u) (nf : ∀ o v, u ≠ .frz o v) (db : DBox S n) : SRel K false m (upd H d (.frz od u)) S := by
  have hm := mem_bx ha
  have hp : d ∉ m.ph := fun z => hS.phb d z hm
  have xw : Ext true m H m (upd H d (.frz od u)) := Ext.write hm hp
  refine ⟨hS.len, hS.nd, fun k a o e1 e2 => ?_, fun h => (by cases h), fun a ha => there_upd a (hS.phs a ha), hS.phb, fun a hq xs => ?_⟩
  · have b := hS.box k a o e1 e2
    by_cases e : a = d
    · subst e
      cases o with
      | dictK kvs =>
        obtain ⟨us, h1, h2⟩ := b
        have h3 : u = .dK us := by
          rcases h1 with h1 | ⟨o, h1⟩
          · rw [hd] at h1; cases h1; rfl
          · rw [hd] at h1; cases h1; exact absurd rfl (nf _ _)
        subst h3
        exact ⟨us, .inr ⟨od, upd_same⟩, RepP.ext xw h2⟩
      | dictT kvs =>
        obtain ⟨us, h1, h2⟩ := b
        have h3 : u = .dT us := by
          rcases h1 with h1 | ⟨o, h1⟩
          · rw [hd] at h1; cases h1; rfl
          · rw [hd] at h1; cases h1; exact absurd rfl (nf _ _)
        subst h3
        exact ⟨us, .inr ⟨od, upd_same⟩, RepP.ext xw h2⟩
      | list vs =>
        exfalso
        have : k = n := (List.getElem_inj hS.nd).mp ((List.getElem?_eq_some_iff.mp (show m.bx[k]? = some a from e1)).2.trans (List.getElem?_eq_some_iff.mp (show m.bx[n]? = some a from ha)).2.symm)
        subst this
        rcases db with ⟨_, z⟩ | ⟨_, z⟩ <;> (rw [e2] at z; cases z)
      | inst c fs =>
        exfalso
        have : k = n := (List.getElem_inj hS.nd).mp ((List.getElem?_eq_some_iff.mp (show m.bx[k]? = some a from e1)).2.trans (List.getElem?_eq_some_iff.mp (show m.bx[n]? = some a from ha)).2.symm)
        subst this
        rcases db with ⟨_, z⟩ | ⟨_, z⟩ <;> (rw [e2] at z; cases z)
    · exact b.ext xw (upd_ne e)
  · rw [upd_ne (fun e => by subst e; exact hp hq)]; exact hS.pht a hq xs
theorem unlock0 (hS : SRel K false m H S) (ha : m[n]? = some d) (hd : H d = some u) (x : Ext false m (upd H d (.frz od u)) m' H') (s : SRel K false m' H' S') :
    H' d = some (.frz od u) ∧ Ext false m H m' (upd H' d u) ∧ SRel K false m' (upd H' d u) S' ∧ ∀ v w, Rep K m' H' v w → Rep K m' (upd H' d u) v w := by
  have hm := mem_bx ha
  have hp : d ∉ m.ph := fun z => hS.phb d z hm
  have ha' := x.get ha
  have hm' := mem_bx ha'
  have hp' : d ∉ m'.ph := fun z => s.phb d z hm'
  have e0 : H' d = some (.frz od u) := x.keep d _ upd_same (.inr ⟨rfl, hp⟩)
  have xw : Ext true m' H' m' (upd H' d u) := Ext.write hm' hp'
  obtain ⟨ms, ps, em, f1, f2⟩ := x.more
  refine ⟨e0, ⟨⟨ms, ps, em, fun a h => ?_, fun a h => ?_⟩, fun a o h c => ?_, fun a h => ?_, fun a h o q => ?_⟩, ⟨s.len, s.nd, fun k a o e1 e2 => ?_, fun h => (by cases h), fun a h => there_upd a (s.phs a h), s.phb, fun a h xs => ?_⟩, fun v w r => r.ext xw⟩
  · have := f1 a h
    rwa [upd_ne (fun e => by subst e; rw [upd_same] at this; cases this)] at this
  · have := f2 a h
    rwa [upd_ne (fun e => by subst e; rw [upd_same] at this; cases this)] at this
  · by_cases e : a = d
    · subst e; rw [upd_same]; rw [hd] at h; exact h
    · rw [upd_ne e]
      exact x.keep a o (by rw [upd_ne e]; exact h) c
  · by_cases e : a = d
    · subst e; rw [upd_same]; rfl
    · rw [upd_ne e]
      exact x.there a (by rw [upd_ne e]; exact h)
  · have nd : a ≠ d := fun e => hp (by subst e; exact h)
    rw [upd_ne nd]
    exact x.kph a h o (by rw [upd_ne nd]; exact q)
  · have b := s.box k a o e1 e2
    by_cases e : a = d
    · subst e
      cases o with
      | dictK kvs =>
        obtain ⟨us, h1, h2⟩ := b
        refine ⟨us, .inl ?_, RepP.ext xw h2⟩
        rw [upd_same]
        rcases h1 with h1 | ⟨o, h1⟩
        · rw [e0] at h1; cases h1
        · rw [e0] at h1; cases h1; rfl
      | dictT kvs =>
        obtain ⟨us, h1, h2⟩ := b
        refine ⟨us, .inl ?_, RepP.ext xw h2⟩
        rw [upd_same]
        rcases h1 with h1 | ⟨o, h1⟩
        · rw [e0] at h1; cases h1
        · rw [e0] at h1; cases h1; rfl
      | list vs => obtain ⟨us, h1, _⟩ := b; rw [e0] at h1; cases h1
      | inst c fs => obtain ⟨_, _, us, h1, _⟩ := b; rw [e0] at h1; cases h1
    · exact b.ext xw (upd_ne e)
  · rw [upd_ne (fun e => hp' (by subst e; exact h))]; exact s.pht a h xs
theorem box_state (hS : SRel K false m H S) (db : DBox S n) : ∃ d, m[n]? = some d ∧ ((∃ u, H d = some u ∧ Mut (some u) ∧ ∀ o v, u ≠ .frz o v) ∨ ∃ od u, H d = some (.frz od u)) := by
  rcases db with ⟨kvs, q⟩ | ⟨kvs, q⟩
  · obtain ⟨d, hd, us, k1, _⟩ := hS.at q
    refine ⟨d, hd, ?_⟩
    rcases k1 with k1 | ⟨o, k1⟩
    · exact .inl ⟨_, k1, trivial, fun o v z => by cases z⟩
    · exact .inr ⟨o, _, k1⟩
  · obtain ⟨d, hd, us, k1, _⟩ := hS.at q
    refine ⟨d, hd, ?_⟩
    rcases k1 with k1 | ⟨o, k1⟩
    · exact .inl ⟨_, k1, trivial, fun o v z => by cases z⟩
    · exact .inr ⟨o, _, k1⟩
end
section
variable {X : Cx} {C : CallT} {W : WX} {L : Nat}
def rdB2 (b : Bool) (K : PySem.W.Frag) (C : CallT) (W : WX) (a : E) : TI := match b with
  | false => rdKey K C W a
  | true => rdVal K C W a
def itB2 : Bool → E → It
  | false, a => .keys a
  | true, a => .values a
theorem rdB2_eq (b : Bool) (K : PySem.W.Frag) (C : CallT) (W : WX) (a : E) (σ : L2.St) (H : Hp) (R : L2.It → Hp → Prop) : rdB2 b K C W a σ H R = ∃ m S ρ n d, SRel K false m H S ∧ ERel K m H ρ σ ∧ ev C a ρ S = .ok (.loc n) S ∧ m[n]? = some d ∧ (∃ od u, H d = some (.frz od u)) ∧ Out K false m H σ W (JRel K false) (evIt C (itB2 b a) ρ S) R := by
  cases b <;> rfl
theorem it_dict {b : Bool} {a : E} {ρ : Env} {S : Store} (hr : rdo a = true) (h : evIt C (itB2 b a) ρ S ≠ .stuck) : ∃ n vs, ev C a ρ S = .ok (.loc n) S ∧ evIt C (itB2 b a) ρ S = .ok (vs, srcOf S (.loc n)) S ∧ DBox S n := by
  cases b with
  | false =>
    simp only [itB2, evIt] at h ⊢
    rcases rdo_ev (C := C) (ρ := ρ) hr S with e | ⟨x, e⟩
    · simp only [e, Res.bind_stuck] at h; exact absurd rfl h
    · simp only [e, Res.bind_ok] at h ⊢
      cases q : keysOfD S x with
      | none => rw [q] at h; exact absurd rfl h
      | some ws =>
        cases x with
        | loc n =>
          refine ⟨n, ws, rfl, rfl, ?_⟩
          simp only [keysOfD] at q
          split at q
          · exact .inl ⟨_, by assumption⟩
          · exact .inr ⟨_, by assumption⟩
          · cases q
        | _ => cases q
  | true =>
    simp only [itB2, evIt] at h ⊢
    rcases rdo_ev (C := C) (ρ := ρ) hr S with e | ⟨x, e⟩
    · simp only [e, Res.bind_stuck] at h; exact absurd rfl h
    · simp only [e, Res.bind_ok] at h ⊢
      cases q : valuesOf S x with
      | none => rw [q] at h; exact absurd rfl h
      | some ws =>
        cases x with
        | loc n =>
          refine ⟨n, ws, rfl, rfl, ?_⟩
          simp only [valuesOf] at q
          split at q
          · exact .inl ⟨_, by assumption⟩
          · exact .inr ⟨_, by assumption⟩
          · cases q
        | _ => cases q
theorem comp_reads0 {b : Bool} {a : E} {tg' : Tg} {cond : Option E} {elt' : E} {vs : List Nat} (hr : rdo a = true) (h1 : ∀ i ∈ vs, i ∈ tgS tg') (h2 : ∀ i ∈ tgS tg', i ∈ vs) (σ : L2.St) (H : Hp) (Q : VK) :
    rdE X.K false C W (.comp tg' (itB2 b a) cond elt') σ H Q → tLockE (tLc (rdB2 b X.K C W a) (rdG X.K false tg') (rdC X.K false C cond) (rdE X.K false C WF elt') vs) σ H Q ∨ tLc (rdB2 b X.K C W a) (rdG X.K false tg') (rdC X.K false C cond) (rdE X.K false C WF elt') vs σ H Q := by
  rintro ⟨m, S, ρ, hS, hE, h⟩
  have ev1 : ev C (.comp tg' (itB2 b a) cond elt') ρ S = (evIt C (itB2 b a) ρ S).bind fun xs S1 => (compGo xs.2 (compF C tg' cond elt' ρ) xs.1 [] S1).bind fun vs S2 => .ok (.lst vs) S2 := by
    cases b <;> (simp only [itB2, ev]; rfl)
  rw [ev1] at h
  have hne : evIt C (itB2 b a) ρ S ≠ .stuck := fun z => by rw [z] at h; exact h
  obtain ⟨n, ws, en, ei, db⟩ := it_dict hr hne
  obtain ⟨d, hd, hst⟩ := box_state hS db
  rcases hst with ⟨u, hv, mu, nf⟩ | ⟨od, u, hf⟩
  · left
    refine ⟨d, u, hv, mu, fun od => ?_⟩
    have sF := hS.lock0 (od := od) hd hv nf db
    have eF : ERel X.K m (upd H d (.frz od u)) ρ σ := hE.ext (Ext.write (mem_bx hd) (fun z => hS.phb d z (mem_bx hd)))
    have h' : Out X.K false m (upd H d (.frz od u)) σ W (Rep X.K) ((evIt C (itB2 b a) ρ S).bind fun xs S1 => (compGo xs.2 (compF C tg' cond elt' ρ) xs.1 [] S1).bind fun vs S2 => .ok (.lst vs) S2) (fun v H' => H' d = some (.frz od u) ∧ Q v (upd H' d u)) := by
      rw [ei, Res.bind_ok] at h ⊢
      cases q : compGo (srcOf S (.loc n)) (compF C tg' cond elt' ρ) ws [] S with
      | stuck => rw [q] at h; exact h.elim
      | exc c S' => exact absurd q (compGo_noexc (fun x S c S' => compF_noexc) _ _ _ c S')
      | ok rs S' =>
        rw [q] at h
        intro m' H' w x s r
        obtain ⟨k1, k2, k3, k4⟩ := unlock0 hS hd hv x s
        exact ⟨k1, h m' _ w k2 k3 (k4 _ _ r)⟩
    unfold tLc
    rw [rdB2_eq]
    refine ⟨m, S, ρ, n, d, sF, eF, en, hd, ⟨od, u, upd_same⟩, Out.bind h' fun p S1 m1 H1 J x1 s1 hJ h1' => fun D hD => ?_⟩
    refine comp_loop (rw := false) (Qd := fun H0 => H0 d = some (.frz od u) ∧ Q (.ref D) (upd H0 d u)) h1 h2 s1 (eF.ext x1) (by cases p; exact hJ) hD h1'.ne_stuck (fun c S' => compGo_noexc (fun x S c S' => compF_noexc) _ _ _ c S') fun ws S' m2 H2 us e x2 s2 hp hd2 hr2 => ?_
    rw [e] at h1'
    have sub := x2.ph_sub
    refine Out.fin' (m' := ⟨m2.bx, m1.ph⟩) h1' x2.dropP (s2.dropP sub) (.lst hd2 ?_ (hr2.dropP sub))
    rintro (z | z)
    · exact s2.phb D hp z
    · have := s1.phs D z
      rw [hD] at this; cases this
  · right
    unfold tLc
    rw [rdB2_eq]
    refine ⟨m, S, ρ, n, d, hS, hE, en, hd, ⟨od, u, hf⟩, Out.bind h fun p S1 m1 H1 J x1 s1 hJ h1' => fun D hD => ?_⟩
    refine comp_loop (rw := false) (Qd := fun H0 => Q (.ref D) H0) h1 h2 s1 (hE.ext x1) (by cases p; exact hJ) hD h1'.ne_stuck (fun c S' => compGo_noexc (fun x S c S' => compF_noexc) _ _ _ c S') fun ws S' m2 H2 us e x2 s2 hp hd2 hr2 => ?_
    rw [e] at h1'
    have sub := x2.ph_sub
    refine Out.fin' (m' := ⟨m2.bx, m1.ph⟩) h1' x2.dropP (s2.dropP sub) (.lst hd2 ?_ (hr2.dropP sub))
    rintro (z | z)
    · exact s2.phb D hp z
    · have := s1.phs D z
      rw [hD] at this; cases this
theorem PS.or {e : Stmt} {t t' : TS} (h : PS X e t) (h' : PS X e t') : PS X e (fun D σ H => t D σ H ∨ t' D σ H) := ⟨fun pins s σ H D I hw => hw.elim (h.run pins s σ H D I) (h'.run pins s σ H D I)⟩
theorem s_comp0 {b : Bool} {tg iter elt : Expr} {ifs : List Expr} {scope : Scope} {own : List (Str × Nat)} {pos : Pos} {tg' : Tg} {a : E} {cond : Option E} {elt' : E} (hr : rdo a = true) (hc : X.calm = true) (hN : X.N.Nodup) (hi : PI X tg iter (rdB2 b X.K C W a)) (ok : BlkOk X.N X.env.scope scope own)
    (hg : ∀ (s : Shared) (H : Hp) (c : Addr) (cl : List (Str × Addr)) (fp : List Addr), PG (X.blk s H scope (compEnvC scope cl c X.env) fp) tg (rdG X.K false tg'))
    (ht : ∀ (s : Shared) (H : Hp) (c : Addr) (cl : List (Str × Addr)) (fp : List Addr), PTs (X.blk s H scope (compEnvC scope cl c X.env) fp) ifs (rdC X.K false C cond))
    (he : ∀ (s : Shared) (H : Hp) (c : Addr) (cl : List (Str × Addr)) (fp : List Addr), PE (X.blk s H scope (compEnvC scope cl c X.env) fp) elt (rdE X.K false C WF elt'))
    (h1 : ∀ i ∈ own.map (·.2), i ∈ tgS tg') (h2 : ∀ i ∈ tgS tg', i ∈ own.map (·.2)) (hs : ∀ x, foldedSetIterable iter X.env x = pure x) :
    SE X false C W (.ListComp elt [⟨tg, iter, ifs, 0⟩] scope pos) (.comp tg' (itB2 b a) cond elt') := PE.wk (PE.or (pe_lock (pe_lc (own := own) hc hN hi ok hg ht he hs)) (pe_lc (own := own) hc hN hi ok hg ht he hs)) fun σ H Q h => comp_reads0 hr h1 h2 σ H Q h
theorem ss_setLc0 {b : Bool} {i : Nat} {y : Str} {py : Pos} {tg iter elt : Expr} {ifs : List Expr} {scope : Scope} {own : List (Str × Nat)} {pos spos : Pos} {tg' : Tg} {a : E} {cond : Option E} {elt' : E} (hr : rdo a = true) (hc : X.calm = true) (hN : X.N.Nodup) (hy : X.N[i]? = some y) (hyl : X.env.scope.names.lookup y = some .local)
    (hsw : swapsWith (.ListComp elt [⟨tg, iter, ifs, 0⟩] scope pos) (some (.Name y py)) spos.line X.env = pure true) (hi : PI X tg iter (rdB2 b X.K C W a)) (ok : BlkOk X.N X.env.scope scope own)
    (hg : ∀ (s : Shared) (H : Hp) (c : Addr) (cl : List (Str × Addr)) (fp : List Addr), PG (X.blk s H scope (compEnvC scope cl c X.env) fp) tg (rdG X.K false tg'))
    (ht : ∀ (s : Shared) (H : Hp) (c : Addr) (cl : List (Str × Addr)) (fp : List Addr), PTs (X.blk s H scope (compEnvC scope cl c X.env) fp) ifs (rdC X.K false C cond))
    (he : ∀ (s : Shared) (H : Hp) (c : Addr) (cl : List (Str × Addr)) (fp : List Addr), PE (X.blk s H scope (compEnvC scope cl c X.env) fp) elt (rdE X.K false C WF elt'))
    (h1 : ∀ i ∈ own.map (·.2), i ∈ tgS tg') (h2 : ∀ i ∈ tgS tg', i ∈ own.map (·.2)) (hs : ∀ x, foldedSetIterable iter X.env x = pure x) :
    SS X false L C W (.Assign [.Name y py] (.ListComp elt [⟨tg, iter, ifs, 0⟩] scope pos) spos) (.set (.one i) (.comp tg' (itB2 b a) cond elt')) := by
  refine PS.wk (PS.or (ps_lock (ps_setLc (own := own) hc hN hy hyl hsw hi ok hg ht he hs)) (ps_setLc (own := own) hc hN hy hyl hsw hi ok hg ht he hs)) fun D σ H ⟨m, S, ρ, hS, hE, h⟩ => ?_
  simp only [exS] at h
  have := comp_reads0 hr h1 h2 σ H (fun v H' => D.nx (σ.set i (some v)) H') ⟨m, S, ρ, hS, hE, OutS.to h hE fun v S1 m1 H1 u _ x s r h1 => by
    simp only [asgT] at h1
    exact h1 m1 H1 _ Ext.refl s ((hE.ext x).set r)⟩
  rcases this with ⟨d, u, k1, k2, k3⟩ | this
  · exact .inl ⟨d, u, k1, k2, fun od => k3 od⟩
  · exact .inr this
theorem forK_reads {tg : Tg} {a : E} {b : List HI.S} (hr : rdo a = true) {D : Ends} {σ : L2.St} {H : Hp} (h : rdS X.K true L C W (.forK tg a b) D σ H) : tLock (tFor (rdKey X.K C W a) (rdG X.K false tg) (rdB X.K false L C WF b)) D σ H := by
  obtain ⟨m, S, ρ, hS, hE, h⟩ := h
  simp only [exS] at h
  have hne : evIt C (.keys a) ρ S ≠ .stuck := fun z => by rw [z] at h; exact h
  obtain ⟨n, xs, en, ei, db⟩ := it_dict (b := false) hr hne
  have ei : evIt C (.keys a) ρ S = .ok (xs, srcOf S (.loc n)) S := ei
  rw [ei] at h
  simp only [Res.to_ok] at h
  generalize hsrc : srcOf S (.loc n) = src at *
  have hu : ∃ d u, m[n]? = some d ∧ H d = some u ∧ Mut (some u) ∧ ∀ o v, u ≠ .frz o v := by
    rcases db with ⟨kvs, q⟩ | ⟨kvs, q⟩
    · obtain ⟨d, hd, us, k1, _⟩ := hS.at q
      exact ⟨d, _, hd, hS.plain (mem_bx hd) k1, trivial, fun o v z => by cases z⟩
    · obtain ⟨d, hd, us, k1, _⟩ := hS.at q
      exact ⟨d, _, hd, hS.plain (mem_bx hd) k1, trivial, fun o v z => by cases z⟩
  obtain ⟨d, u, hd, hv, mu, nf⟩ := hu
  refine ⟨d, u, hv, mu, fun od => ?_⟩
  have sF := hS.lock (od := od) hd hv db
  have eF : ERel X.K m (upd H d (.frz od u)) ρ σ := hE.ext (Ext.write (mem_bx hd) (fun z => hS.phb d z (mem_bx hd)))
  have nx : ∀ (m3 : MM) (H3 : Hp) (σ3 : L2.St) (ρ3 : Env), OutS X.K true m H W (.next ρ3 S) D → Ext false m (upd H d (.frz od u)) m3 H3 → SRel X.K false m3 H3 S → ERel X.K m3 H3 ρ3 σ3 → H3 d = some (.frz od u) ∧ D.nx σ3 (upd H3 d u) := fun m3 H3 σ3 ρ3 h x s e => by
    obtain ⟨k1, k2, k3, k4⟩ := unlock hS hd hv nf x s
    refine ⟨k1, h m3 _ σ3 k2 k3 ⟨e.len, fun i v hi => ?_⟩⟩
    obtain ⟨w, hw, r⟩ := e.val i v hi
    exact ⟨w, hw, k4 _ _ r⟩
  refine ⟨m, S, ρ, n, d, sF, eF, en, hd, ⟨od, u, upd_same⟩, ?_⟩
  rw [ei]
  intro m1 H1 J x1 s1 hJ
  refine ⟨fun i k σ H2 => k = xs.length - i ∧ i ≤ xs.length ∧ ∃ m2 ρ2, Ext false m1 H1 m2 H2 ∧ SRel X.K false m2 H2 S ∧ ERel X.K m2 H2 ρ2 σ ∧ OutS X.K true m H W (forGo src tg (fun ρ' S' => sameS S' (exs L C b ρ' S')) (xs.drop i) ρ2 S) D,
    ⟨xs.length, by simp, Nat.zero_le _, m1, ρ, Ext.refl, s1, eF.ext x1, h⟩, ?_⟩
  rintro i k σ H2 ⟨rfl, hi, m2, ρ2, x, hS2, hE2, h⟩
  have st : still src S := by
    apply Classical.byContradiction
    intro hn
    cases q : xs.drop i <;> (rw [q] at h; simp only [forGo, guardS, hn, if_false] at h; exact h)
  obtain ⟨j1, j2⟩ := hJ m2 H2 S x hS2 st i
  by_cases hl : i < xs.length
  · right
    obtain ⟨v, hv2⟩ : ∃ v, xs[i]? = some v := ⟨xs[i], List.getElem?_eq_getElem hl⟩
    obtain ⟨jg, jy⟩ := j2 v hv2
    have ed : xs.drop i = v :: xs.drop (i + 1) := by
      rw [List.drop_eq_getElem_cons hl]
      congr 1
      exact (List.getElem?_eq_some_iff.mp hv2).2
    rw [ed] at h
    simp only [forGo, guardS_pos st] at h
    refine ⟨jg, fun σ' H' => i + 1 ≤ xs.length ∧ ∃ m2 ρ2, Ext false m1 H1 m2 H' ∧ SRel X.K false m2 H' S ∧ ERel X.K m2 H' ρ2 σ' ∧ OutS X.K true m H W (forGo src tg (fun ρ' S' => sameS S' (exs L C b ρ' S')) (xs.drop (i + 1)) ρ2 S) D, fun σ' H' ⟨q1, q2⟩ => ⟨xs.length - (i + 1), by omega, rfl, q1, q2⟩, fun y H' hy => ?_⟩
    obtain ⟨x2, s2, r2⟩ := jy y H' hy
    cases ea : asgT tg v ρ2 with
    | none => rw [ea] at h; exact h.elim
    | some ρ' =>
      rw [ea] at h
      simp only at h
      refine ⟨m2, S, ρ2, v, s2, hE2.ext x2, r2, ρ', ea, fun σ2 hE3 _ => ⟨m2, S, ρ', s2, hE3, ?_⟩⟩
      have xx := x.trans x2
      cases q : exs L C b ρ' S with
      | next ρ3 S3 =>
        rw [q] at h
        simp only [sameS] at h
        by_cases e : S3 = S
        · subst e
          rw [if_pos rfl] at h
          exact fun m3 H3 σ3 x3 s3 e3 => ⟨hl, m3, ρ3, xx.trans x3, s3, e3, h⟩
        · rw [if_neg e] at h; exact h.elim
      | ret w S3 =>
        rw [q] at h
        simp only [sameS] at h
        by_cases e : S3 = S
        · subst e
          rw [if_pos rfl] at h
          intro m3 H3 u3 x3 s3 r3
          obtain ⟨k1, k2, k3, k4⟩ := unlock hS hd hv nf ((x1.trans xx).trans x3) s3
          exact ⟨k1, h m3 _ u3 k2 k3 (k4 _ _ r3)⟩
        · rw [if_neg e] at h; exact h.elim
      | brk ρ3 S3 =>
        rw [q] at h
        simp only [sameS] at h
        by_cases e : S3 = S
        · subst e
          rw [if_pos rfl] at h
          exact fun m3 H3 σ3 x3 s3 e3 => nx m3 H3 σ3 ρ3 h ((x1.trans xx).trans x3) s3 e3
        · rw [if_neg e] at h; exact h.elim
      | exc c ρ3 S3 => rw [q] at h; exact h.elim
      | stuck => rw [q] at h; exact h.elim
  · left
    have ei : i = xs.length := by omega
    subst ei
    refine ⟨j1 (Nat.le_refl _), ?_⟩
    rw [List.drop_length] at h
    simp only [forGo, guardS_pos st] at h
    exact nx m2 H2 σ ρ2 h (x1.trans x) hS2 hE2
theorem ss_forK {tg iter : Expr} {body : List Stmt} {tg' : Tg} {a : E} {b : List HI.S} {pos : Pos} (hr : rdo a = true) (hp : PassesOwn (model X.prog X.w) X.A X.env X.xe) (hc : X.calm = true) (hi : SE X false C W iter a) (hg : PG X tg (rdG X.K false tg')) (hb : SB X false L C WF body b)
    (hs : ∀ x, foldedSetIterable iter X.env x = pure x) : SS X true L C W (.For tg iter body [] pos) (.forK tg' a b) :=
  PS.wk (ps_lock (ps_for hp hc (i_keys hi) hg hb hs)) fun D σ H h => forK_reads hr h
end
end HI
set_option Elab.async false
set_option linter.all false
set_option maxRecDepth 100000
namespace HI
open PySem PySem.Spec PyProof.Rows L2
section
variable {X : Cx} {C : CallT} {W : WX} {rw : Bool}
theorem reps_ints {K : PySem.W.Frag} {m : MM} {H : Hp} : ∀ l : List Int, Reps K m H (l.map Val.int) (l.map V.int)
  | [] => .nil
  | y :: l => .cons (.int y) (reps_ints l)
theorem s_rangeL {a : Expr} {a' : E} {p p2 pos pos2 : Pos} (hc : X.calm = true) (hg : Gl X "list") (hm : X.mg "list" = none) (hg2 : Gl X "range") (hm2 : X.mg "range" = none) (ns : notStarred a = true) (ha : SE X rw C W a a') : SE X rw C W (.Call (.Name "list" p) [.Call (.Name "range" p2) [a] [] pos2] [] pos) (.un .rangeL a') := by
  refine PE.wk (pe_listRg hc hg hm (prg_1 hg2 hm2 ha (noStar_of ns _ _))) fun σ H Q ⟨m, S, ρ, hS, hE, h⟩ => ?_
  simp only [ev] at h
  refine ⟨m, S, ρ, hS, hE, Out.bind h fun x S1 m1 H1 u x1 s1 r1 h1 => ?_⟩
  obtain ⟨z, e, h2⟩ := h1.some
  cases x <;> simp only [op1] at e <;> try cases e
  rename_i j
  split at e
  · rename_i hj
    cases e
    cases rep_int r1
    refine ⟨j, rfl, RgOk.of_le (by omega) (by omega) (by omega) (by omega), fun q hq => ?_⟩
    have e1 : rgV 0 j = ((List.range j.toNat).map fun (k : Nat) => (k : Int)).map V.int := by
      unfold rgV
      rw [List.map_map, Int.sub_zero]
      refine List.map_congr_left fun k _ => ?_
      simp
    have e2 : ((List.range j.toNat).map fun (k : Nat) => Val.int k) = ((List.range j.toNat).map fun (k : Nat) => (k : Int)).map Val.int := by
      rw [List.map_map]; rfl
    rw [e1]
    rw [e2] at h2
    exact h2.fin' (Ext.new hq) (s1.new hq) (.lst upd_same (not_box s1 hq) (reps_ints _))
  · cases e
end
end HI
set_option Elab.async false
set_option linter.all false
set_option maxRecDepth 100000
namespace ZL
open PySem PySem.Spec PyProof.Rows PySem.Builtin
theorem nolen : typeLookup (.type "zip") "__len__" = pure none := by rw [typeLookup_type, builtinLookup_eq_fast]; kernel_rfl
theorem nohint : typeLookup (.type "zip") "__length_hint__" = pure none := by rw [typeLookup_type, builtinLookup_eq_fast]; kernel_rfl
def refs (base i : Nat) : List Value := (List.range i).map fun j => Value.ref (base + j)
theorem refs_succ (base i : Nat) : refs base (i + 1) = refs base i ++ [.ref (base + i)] := by simp [refs, List.range_succ]
theorem refs_len (base i : Nat) : (refs base i).length = i := by simp [refs]
structure At (xs ys : Array Value) (z TI TO i1 i2 l1 l2 S base i : Nat) (h0 h : Heap) : Prop where
  hz : (i = 0 ∧ IsZip h z TI TO .none ∧ ∃ a b, IsTupOf2 h TO a b) ∨ (0 < i ∧ ∃ f, IsZipHeld h z TI TO base f)
  hTI : IsTupOf2 h TI (.ref i1) (.ref i2)
  h1 : h.IsListIter i1 l1 i
  h2 : h.IsListIter i2 l2 i
  hl1 : h.IsList l1 xs
  hl2 : h.IsList l2 ys
  prs : ∀ (j : Nat) (x y : Value), j < i → xs[j]? = some x → ys[j]? = some y → IsTupOf2 h (base + j) x y
  sz : h.objs.size = base + i
  lst : ∃ c, h.get? S = some { cls := .type "list", dict := none, data := .seq (refs base i).toArray c, slots := #[] }
  old : ∀ b o, b ≠ z → b ≠ TO → b ≠ i1 → b ≠ i2 → b ≠ S → h0.get? b = some o → h.get? b = some o
structure Low (z TI TO i1 i2 l1 l2 S base : Nat) : Prop where
  D : ZipApart z TI TO i1 i2 l1 l2
  zb : z < S
  ib : TI < S
  ob : TO < S
  ab : i1 < S
  bb : i2 < S
  l1b : l1 < S
  l2b : l2 < S
  sb : S < base
section
variable {prog : Program} {w : World} {A : Around}
theorem loop {xs ys : Array Value} {z TI TO i1 i2 l1 l2 S base : Nat} {h0 : Heap} (L : Low z TI TO i1 i2 l1 l2 S base) (hh : A.handled = none) (res : Value) {R : Result → Shared → Prop} (hn : min xs.size ys.size ≤ sizeLine) :
    ∀ (k i : Nat) (s : Shared), min xs.size ys.size - i = k → i ≤ min xs.size ys.size → At xs ys z TI TO i1 i2 l1 l2 S base i h0 s.heap →
    (∀ h' tk, (∃ c, h'.get? S = some { cls := .type "list", dict := none, data := .seq (refs base (min xs.size ys.size)).toArray c, slots := #[] }) → (∀ (j : Nat) (x y : Value), j < min xs.size ys.size → xs[j]? = some x → ys[j]? = some y → IsTupOf2 h' (base + j) x y) → (∀ b o, b ≠ z → b ≠ TO → b ≠ i1 → b ≠ i2 → b ≠ S → h0.get? b = some o → h'.get? b = some o) → R (.ok (.ret res)) { s with heap := h', toks := tk }) →
    codeAny (model prog w) A (.builtin "list.extend.loop" ⟨[.ref S, .ref z, res], []⟩) R s := by
  have D := L.D
  intro k
  induction k with
  | zero =>
    intro i s hk hi a hR
    have hin : i = min xs.size ys.size := by omega
    have hend : xs[i]? = none ∨ ys[i]? = none := by
      by_cases q : xs.size ≤ i
      · exact .inl (Array.getElem?_eq_none q)
      · exact .inr (Array.getElem?_eq_none (by omega))
    refine codeAny_builtin F.entry_extend_loop ?_
    rw [Around.under_plainId F.plain_extend_loop _]
    show wpAny _ A.in1 (pyNext (.ref z) >>= _) _ _ s
    have fin : ∀ h' tk, (∀ c o, c ≠ z → c ≠ TO → c ≠ i1 → c ≠ i2 → s.heap.get? c = some o → h'.get? c = some o) → R (.ok (.ret res)) { s with heap := h', toks := tk } := fun h' tk hk' => by
      refine hR h' tk ?_ (fun j x y hj hx hy => ?_) fun b o n1 n2 n3 n4 n5 e => hk' b o n1 n2 n3 n4 (a.old b o n1 n2 n3 n4 n5 e)
      · obtain ⟨c, e⟩ := a.lst
        rw [hin] at e
        exact ⟨c, hk' _ _ (Nat.ne_of_gt L.zb) (Nat.ne_of_gt L.ob) (Nat.ne_of_gt L.ab) (Nat.ne_of_gt L.bb) e⟩
      · have := L.zb; have := L.ob; have := L.ab; have := L.bb; have := L.sb
        exact hk' _ _ (by omega) (by omega) (by omega) (by omega) (a.prs j x y (by omega) hx hy)
    have hh1 : A.in1.handled = none := hh
    have hh2 : A.in1.in1.handled = none := hh
    rcases a.hz with ⟨h0i, hz, p, q, hTO⟩ | ⟨hpos, f, hz⟩
    · subst h0i
      have hsz : xs.size = 0 ∨ ys.size = 0 := by omega
      refine wpAny_bind (wpAny_pyNext_zipD2_end (HI.sep_of D) (HI.draws_K hh2 true i1 l1 D.l1i1 xs) (HI.draws_K hh2 true i2 l2 D.l2i2 ys) hz a.hTI hTO (i := 0) ⟨a.h1, a.hl1⟩ ⟨a.h2, a.hl2⟩ (Nat.zero_le _) (Nat.zero_le _) (by rcases hsz with q | q <;> omega) fun h' tk hk' => ?_)
      exact wpAny_pure (fin h' tk hk')
    · obtain ⟨x0, hx0⟩ : ∃ x, xs[0]? = some x := ⟨_, Array.getElem?_eq_getElem (by omega)⟩
      obtain ⟨y0, hy0⟩ : ∃ y, ys[0]? = some y := ⟨_, Array.getElem?_eq_getElem (by omega)⟩
      refine wpAny_bind (wpAny_pyNext_zip_end_held hh1 D hz (a.prs 0 x0 y0 (by omega) hx0 hy0) a.hTI a.h1 a.h2 a.hl1 a.hl2 hend fun h' hk' => ?_)
      exact wpAny_pure (fin h' s.toks fun c o c1 c2 c3 c4 e => hk' c o c1 c3 c4 e)
  | succ k ih =>
    intro i s hk hi a hR
    have hlt : i < min xs.size ys.size := by omega
    obtain ⟨x, hx⟩ : ∃ x, xs[i]? = some x := ⟨_, Array.getElem?_eq_getElem (by omega)⟩
    obtain ⟨y, hy⟩ : ∃ y, ys[i]? = some y := ⟨_, Array.getElem?_eq_getElem (by omega)⟩
    have hh1 : A.in1.handled = none := hh
    have hh2 : A.in1.in1.handled = none := hh
    refine codeAny_builtin F.entry_extend_loop ?_
    rw [Around.under_plainId F.plain_extend_loop _]
    show wpAny _ A.in1 (pyNext (.ref z) >>= _) _ _ s
    have go : ∀ h' tk f, IsZipHeld h' z TI TO base f → h'.IsListIter i1 l1 (i + 1) → h'.IsListIter i2 l2 (i + 1) → IsTupOf2 h' (base + i) x y → h'.objs.size = base + i + 1 → (∀ c o, c ≠ z → c ≠ TO → c ≠ i1 → c ≠ i2 → s.heap.get? c = some o → h'.get? c = some o) →
        wpAny (model prog w) A.in1 (Builtin.List.listUpdate (.ref S) (·.push (.ref (base + i))) >>= fun _ => again (.builtin "list.extend.loop" ⟨[.ref S, .ref z, res], []⟩)) (fun fin s' => match fin with | .done f => R (.ok f) s' | .again c' => c'.quiet = true ∧ codeAny (model prog w) A c' R s') (fun e s' => R (.error e) s') { s with heap := h', toks := tk } := fun h' tk f hz' g1 g2 hT hsz' hk' => by
      have zb := L.zb; have ob := L.ob; have ab := L.ab; have bb := L.bb; have sb := L.sb; have ib := L.ib; have l1b := L.l1b; have l2b := L.l2b
      obtain ⟨c, e⟩ := a.lst
      have hS' : h'.get? S = some { cls := .type "list", dict := none, data := .seq (refs base i).toArray c, slots := #[] } := hk' _ _ (by omega) (by omega) (by omega) (by omega) e
      show wpAny _ A.in1 (updateSeq S (·.push (.ref (base + i))) >>= _) _ _ _
      refine wpAny_bind ?_
      have oth : ∀ b o, b ≠ S → h'.get? b = some o → (h'.update S (Obj.mapSeq (·.push (Value.ref (base + i))))).get? b = some o := fun b o hb e' => (Heap.get?_update_other _ _ (Ne.symm hb)).trans e'
      refine wpAny_updateSeq (s := { s with heap := h', toks := tk }) hS' rfl (wpAny_pure ⟨plainId_quiet F.plain_extend_loop _, ih (i + 1) _ (by omega) hlt ?_ fun h2 tk2 q1 q2 q3 => hR h2 tk2 q1 q2 q3⟩) (by simp [refs]; omega) (by simp [refs]; omega)
      refine ⟨.inr ⟨Nat.succ_pos _, f, ?_⟩, ?_, ?_, ?_, ?_, ?_, fun j x' y' hj hx' hy' => ?_, ?_, ?_, fun b o n1 n2 n3 n4 n5 e0 => ?_⟩
      · exact oth _ _ (by omega) hz'
      · exact oth _ _ (by omega) (hk' _ _ (Ne.symm (Ne.symm D.TIz)) D.TITO D.TIi1 D.TIi2 a.hTI)
      · exact g1.at fun o e' => oth _ _ (by omega) e'
      · exact g2.at fun o e' => oth _ _ (by omega) e'
      · exact a.hl1.at fun o e' => oth _ _ (by omega) (hk' _ _ D.l1z D.l1TO D.l1i1 D.l1i2 e')
      · exact a.hl2.at fun o e' => oth _ _ (by omega) (hk' _ _ D.l2z D.l2TO D.l2i1 D.l2i2 e')
      · by_cases ej : j = i
        · subst ej
          rw [hx] at hx'; cases hx'
          rw [hy] at hy'; cases hy'
          exact oth _ _ (by omega) hT
        · exact oth _ _ (by omega) (hk' _ _ (by omega) (by omega) (by omega) (by omega) (a.prs j x' y' (by omega) hx' hy'))
      · show (h'.update S _).objs.size = _
        rw [Heap.size_update, hsz']; omega
      · have e4 : ∃ c, (h'.update S (Obj.mapSeq (·.push (Value.ref (base + i))))).get? S = some { cls := .type "list", dict := none, data := .seq ((refs base i).toArray.push (.ref (base + i))) c, slots := #[] } := ⟨_, Heap.get?_update_self _ hS' rfl⟩
        have e5 : (refs base i).toArray.push (.ref (base + i)) = (refs base (i + 1)).toArray := by rw [refs_succ]; simp
        rw [e5] at e4
        exact e4
      · exact oth _ _ n5 (hk' _ _ n1 n2 n3 n4 (a.old b o n1 n2 n3 n4 n5 e0))
    rcases a.hz with ⟨h0i, hz, p, q, hTO⟩ | ⟨hpos, f, hz⟩
    · subst h0i
      refine wpAny_bind (wpAny_pyNext_zipD2_item (HI.sep_of D) (HI.draws_K hh2 true i1 l1 D.l1i1 xs) (HI.draws_K hh2 true i2 l2 D.l2i2 ys) hz a.hTI hTO (i := 0) ⟨a.h1, a.hl1⟩ ⟨a.h2, a.hl2⟩ (by omega) (by omega) fun w1 w2 h' tk g1 g2 z' TO' t1 t2 hT hsz' hk' => ?_)
      have e1 : w1 = x := by rw [hx] at g1; exact (Option.some.inj g1).symm
      have e2 : w2 = y := by rw [hy] at g2; exact (Option.some.inj g2).symm
      subst e1 e2
      have ez := a.sz
      rw [Nat.add_zero] at ez
      rw [ez] at hT hsz' z' ⊢
      exact go h' tk false z' t1.1 t2.1 hT hsz' hk'
    · obtain ⟨x0, hx0⟩ : ∃ x, xs[0]? = some x := ⟨_, Array.getElem?_eq_getElem (by omega)⟩
      obtain ⟨y0, hy0⟩ : ∃ y, ys[0]? = some y := ⟨_, Array.getElem?_eq_getElem (by omega)⟩
      have al := a.prs 0 x0 y0 (by omega) hx0 hy0
      have zb := L.zb; have ob := L.ob; have ab := L.ab; have bb := L.bb; have sb := L.sb
      refine wpAny_bind (wpAny_pyNext_zip_item_held D hz al a.hTI a.h1 a.h2 a.hl1 a.hl2 hx hy fun h' z' g1 g2 hT hsz' hk' => ?_)
      rw [a.sz] at hT hsz' ⊢
      exact go h' s.toks true z' g1 g2 hT hsz' fun c o c1 c2 c3 c4 e => hk' c o c1 c3 c4 e
theorem At.touch {xs ys : Array Value} {z TI TO i1 i2 l1 l2 S base i : Nat} {h0 h h' : Heap} (L : Low z TI TO i1 i2 l1 l2 S base) (hin : i ≤ min xs.size ys.size) (a : At xs ys z TI TO i1 i2 l1 l2 S base i h0 h) (k : ∀ b o, b ≠ S → h.get? b = some o → h'.get? b = some o) (hs : h'.objs.size = h.objs.size) (hS : ∃ c, h'.get? S = some { cls := .type "list", dict := none, data := .seq (refs base i).toArray c, slots := #[] }) : At xs ys z TI TO i1 i2 l1 l2 S base i h0 h' := by
  have zb := L.zb; have ob := L.ob; have ab := L.ab; have bb := L.bb; have sb := L.sb; have ib := L.ib; have l1b := L.l1b; have l2b := L.l2b
  refine ⟨?_, k _ _ (by omega) a.hTI, a.h1.at fun o e => k _ _ (by omega) e, a.h2.at fun o e => k _ _ (by omega) e, a.hl1.at fun o e => k _ _ (by omega) e, a.hl2.at fun o e => k _ _ (by omega) e, fun j x y hj hx hy => k _ _ (by omega) (a.prs j x y hj hx hy), by rw [hs]; exact a.sz, hS, fun b o n1 n2 n3 n4 n5 e => k _ _ n5 (a.old b o n1 n2 n3 n4 n5 e)⟩
  rcases a.hz with ⟨e, hz, p, q, hTO⟩ | ⟨e, f, hz⟩
  · exact .inl ⟨e, k _ _ (by omega) hz, p, q, k _ _ (by omega) hTO⟩
  · exact .inr ⟨e, f, k _ _ (by omega) hz⟩
theorem call_list {E : Value → Shared → Prop} {s : Shared} {xs ys : Array Value} {z TI TO i1 i2 l1 l2 : Nat} {Q : Value → Shared → Prop} (D : ZipApart z TI TO i1 i2 l1 l2) (hh : A.handled = none) (hn : min xs.size ys.size ≤ sizeLine)
    (hz : IsZip s.heap z TI TO .none) (hTI : IsTupOf2 s.heap TI (.ref i1) (.ref i2)) (hTO : ∃ a b, IsTupOf2 s.heap TO a b) (h1 : s.heap.IsListIter i1 l1 0) (h2 : s.heap.IsListIter i2 l2 0) (hl1 : s.heap.IsList l1 xs) (hl2 : s.heap.IsList l2 ys)
    (hQ : ∀ h' tk, (∃ c, h'.get? s.heap.objs.size = some { cls := .type "list", dict := none, data := .seq (refs (s.heap.objs.size + 1) (min xs.size ys.size)).toArray c, slots := #[] }) → (∀ (j : Nat) (x y : Value), j < min xs.size ys.size → xs[j]? = some x → ys[j]? = some y → IsTupOf2 h' (s.heap.objs.size + 1 + j) x y) → (∀ b o, b ≠ z → b ≠ TO → b ≠ i1 → b ≠ i2 → s.heap.get? b = some o → h'.get? b = some o) → Q (.ref s.heap.objs.size) { s with heap := h', toks := tk }) :
    wpAny (model prog w) A (call (.type "list") [.ref z]) Q E s := by
  refine callType_codes (Q₁ := fun obj s₁ => obj = .ref s.heap.objs.size ∧ s₁ = { s with heap := s.heap.push { cls := .type "list", data := .seq #[] } }) PySem.F.called_list (PySem.F.typeCall_list_1 _) PySem.F.entry_list_init
    (code_list_new _ ⟨rfl, rfl⟩) fun obj s₁ h₁ => ?_
  obtain ⟨rfl, rfl⟩ := h₁
  have hS : (s.heap.push { cls := .type "list", data := .seq #[] }).get? s.heap.objs.size = some { cls := .type "list", data := .seq #[] } := Heap.get?_push_size _ rfl
  have up : ∀ b o, s.heap.get? b = some o → (s.heap.push { cls := .type "list", data := .seq #[] }).get? b = some o := fun b o e => Heap.get?_push_of_some _ e
  have hsz : (s.heap.push { cls := .type "list", data := .seq #[] }).objs.size = s.heap.objs.size + 1 := Heap.size_push ..
  have lt : ∀ {b : Addr} {o : Obj}, s.heap.get? b = some o → b < s.heap.objs.size := fun e => Heap.lt_size e
  obtain ⟨p, q, hTO⟩ := hTO
  have L : Low z TI TO i1 i2 l1 l2 s.heap.objs.size (s.heap.objs.size + 1) := by
    refine ⟨D, lt hz, lt hTI, lt hTO, ?_, ?_, ?_, ?_, Nat.lt_succ_self _⟩
    · obtain ⟨o, e, _⟩ := h1; exact lt e
    · obtain ⟨o, e, _⟩ := h2; exact lt e
    · obtain ⟨o, e, _⟩ := hl1; exact lt e
    · obtain ⟨o, e, _⟩ := hl2; exact lt e
  have hfin : ∀ h' tk, (∃ c, h'.get? s.heap.objs.size = some { cls := .type "list", dict := none, data := .seq (refs (s.heap.objs.size + 1) (min xs.size ys.size)).toArray c, slots := #[] }) → (∀ (j : Nat) (x y : Value), j < min xs.size ys.size → xs[j]? = some x → ys[j]? = some y → IsTupOf2 h' (s.heap.objs.size + 1 + j) x y) → (∀ b o, b ≠ z → b ≠ TO → b ≠ i1 → b ≠ i2 → b ≠ s.heap.objs.size → (s.heap.push { cls := .type "list", data := .seq #[] }).get? b = some o → h'.get? b = some o) → Q (.ref s.heap.objs.size) { s with heap := h', toks := tk } := fun h' tk c1 c2 c3 => hQ h' tk c1 c2 fun b o n1 n2 n3 n4 e => c3 b o n1 n2 n3 n4 (Nat.ne_of_lt (lt e)) (up b o e)
  have a0 : At xs ys z TI TO i1 i2 l1 l2 s.heap.objs.size (s.heap.objs.size + 1) 0 (s.heap.push { cls := .type "list", data := .seq #[] }) (s.heap.push { cls := .type "list", data := .seq #[] }) :=
    ⟨.inl ⟨rfl, up _ _ hz, p, q, up _ _ hTO⟩, up _ _ hTI, h1.at fun o e => up _ _ e, h2.at fun o e => up _ _ e, hl1.at fun o e => up _ _ e, hl2.at fun o e => up _ _ e, fun j _ _ hj => absurd hj (Nat.not_lt_zero _), by rw [hsz], ⟨0, hS⟩, fun b o _ _ _ _ _ e => e⟩
  have hT : ∀ (s' : Shared), IsZip s'.heap z TI TO .none → s'.TypeIs (.ref z) "zip" := fun s' e => ⟨_, e, rfl⟩
  refine ⟨⟨_, hS, rfl⟩, PySem.F.args_list_init_2 _ _, ?_⟩
  have sz0 : s.heap.objs.size ≠ z := Nat.ne_of_gt (lt hz)
  show wpAny _ _ (do let old ← Builtin.List.listItems (.ref s.heap.objs.size); Builtin.List.listUpdate (.ref s.heap.objs.size) (fun _ => #[]); letGo old.toList.reverse; Builtin.List.listExtendWith (.ref s.heap.objs.size) (.ref z) .none) _ _ _
  refine wpAny_bind ?_
  unfold Builtin.List.listItems
  refine wpAny_bind (wpAny_seqItems hS rfl (wpAny_pure ?_))
  show wpAny _ _ (updateSeq s.heap.objs.size (fun _ => #[]) >>= fun _ => letGo (#[] : Array Value).toList.reverse >>= fun _ => Builtin.List.listExtendWith (.ref s.heap.objs.size) (.ref z) .none) _ _ _
  refine wpAny_bind (wpAny_updateSeq hS rfl ?_)
  have hS₂ := Heap.get?_update_self (Obj.mapSeq (fun _ => (#[] : Array Value))) hS rfl
  have a1 := a0.touch (h' := (s.heap.push { cls := .type "list", data := .seq #[] }).update s.heap.objs.size (Obj.mapSeq (fun _ => (#[] : Array Value)))) L (Nat.zero_le _) (fun b o hb e => (Heap.get?_update_other _ _ (Ne.symm hb)).trans e) (Heap.size_update ..) ⟨_, hS₂⟩
  refine wpAny_bind (wpAny_letGo ?_)
  generalize (s.heap.push { cls := .type "list", data := .seq #[] }).update s.heap.objs.size (Obj.mapSeq (fun _ => (#[] : Array Value))) = g1 at a1 hS₂ ⊢
  have hz1 : IsZip g1 z TI TO .none := by
    rcases a1.hz with ⟨_, hz, _⟩ | ⟨e, _⟩
    · exact hz
    · exact absurd e (Nat.lt_irrefl _)
  unfold Builtin.List.listExtendWith
  refine wpAny_bind (wpAny_typeOf (T := "zip") ⟨_, hz1, rfl⟩ ?_)
  have e1 : Builtin.List.listSameRef (.ref s.heap.objs.size) (.ref z) = false := by simp [Builtin.List.listSameRef, sz0]
  rw [if_neg (by rw [e1]; decide)]
  refine wpAny_bind (wpAny_pyIter_zip (s := { s with heap := g1 }) hz1 ?_)
  refine wpAny_bind (wpAny_holding ?_)
  unfold Builtin.List.listLengthHint
  refine wpAny_bind (wpAny_specialOf (T := "zip") ⟨_, hz1, rfl⟩ nolen ?_)
  show wpAny _ _ (specialOf (Value.ref z) (Str.ofString "__length_hint__") >>= _) _ _ _
  refine wpAny_bind (wpAny_specialOf (T := "zip") ⟨_, hz1, rfl⟩ nohint ?_)
  refine wpAny_pure ?_
  show wpAny _ _ (rule "list.extend.makes-room" >>= fun _ => Builtin.List.listTouch (.ref s.heap.objs.size) >>= fun _ =>
    again (.builtin "list.extend.loop" ⟨[.ref s.heap.objs.size, .ref z, .none], []⟩)) _ _ _
  refine wpAny_bind (wpAny_rule ?_)
  refine wpAny_bind ?_
  show wpAny _ _ (updateSeq s.heap.objs.size (·.push .none) >>= fun _ => updateSeq s.heap.objs.size (·.pop)) _ _ _
  refine wpAny_bind (wpAny_updateSeq hS₂ rfl ?_)
  have hS₃ := Heap.get?_update_self (Obj.mapSeq (·.push Value.none)) hS₂ rfl
  refine wpAny_updateSeq (hz := by seq_fits) hS₃ rfl ?_
  have hS₄ := Heap.get?_update_self (Obj.mapSeq (·.pop)) hS₃ rfl
  have a2 := a1.touch (h' := (g1.update s.heap.objs.size (Obj.mapSeq (·.push Value.none))).update s.heap.objs.size (Obj.mapSeq (·.pop))) L (Nat.zero_le _) (fun b o hb e => (Heap.get?_update_other _ _ (Ne.symm hb)).trans ((Heap.get?_update_other _ _ (Ne.symm hb)).trans e)) (by rw [Heap.size_update, Heap.size_update]) ⟨_, hS₄⟩
  refine wpAny_pure ⟨plainId_quiet PySem.F.plain_extend_loop _, loop (A := A.in1) (s := { s with heap := (g1.update s.heap.objs.size (Obj.mapSeq (·.push Value.none))).update s.heap.objs.size (Obj.mapSeq (·.pop)) }) L hh .none hn _ 0 rfl (Nat.zero_le _) a2 fun h' tk c1 c2 c3 => ?_⟩
  exact ⟨rfl, hfin h' tk c1 c2 c3⟩
end
end ZL
namespace HI
open PySem PySem.Spec PyProof.Rows L2
section
variable {X : Cx}
def PZp (X : Cx) (e : Expr) (t : L2.St → Hp → (Addr → Addr → Hp → Prop) → Prop) : Prop :=
  ∀ (pins : List (Addr × PySem.Obj)) (s : Shared) (σ : L2.St) (H : Hp) (Q : Addr → Addr → Hp → Prop), Inv X pins σ H s → t σ H Q →
    wpAny (model X.prog X.w) X.A (eval e X.env) (fun x s' => ∃ z TI TO i1 i2 l1 l2 H', x = .ref z ∧ ZipApart z TI TO i1 i2 l1 l2 ∧ IsZip s'.heap z TI TO .none ∧ IsTupOf2 s'.heap TI (.ref i1) (.ref i2) ∧ (∃ a b, IsTupOf2 s'.heap TO a b) ∧ s'.heap.IsListIter i1 l1 0 ∧ s'.heap.IsListIter i2 l2 0 ∧ (∀ c ∈ [z, TI, TO, i1, i2], FpOk X pins H' c) ∧ Inv X pins σ H' s' ∧ Q l1 l2 H') X.xe s
def tZp (K : PySem.W.Frag) (ta : TA) : L2.St → Hp → (Addr → Addr → Hp → Prop) → Prop := fun σ H Q => ta σ H fun vs H1 => ∃ a b xs ys, vs = [.ref a, .ref b] ∧ SqL K H1 a xs ∧ SqL K H1 b ys ∧ Q a b H1
theorem pzp {e e2 : Expr} {ta : TA} {p pos : Pos} (hg : Gl X "zip") (hm : X.mg "zip" = none) (ha : PA X [e, e2] ta)
    (hs : starEach [e, e2] X.env = (false, eval e X.env) :: starEach [e2] X.env) (hpl : (backTo pos (starEach [e2] X.env)).any (·.1) = false) : PZp X (.Call (.Name "zip" p) [e, e2] [] pos) (tZp X.K ta) := by
  intro pins s σ H Q I h
  refine Call_ (ld_blt I hg hm PyProof.Rows.boot_zip (PyProof.Rows.callWith_type1 (thn (ha.run pos pins s σ H _ I h) fun us s1 ⟨vs, H1, I1, r1, q1⟩ => ?_) hs hpl))
  obtain ⟨a, b, xs, ys, ex, qx, qy, q⟩ := q1
  subst ex
  cases r1 with
  | cons r rr => cases rr with
    | cons r' rr =>
      cases rr; cases r; cases r'
      obtain ⟨its, rv, p1⟩ := inv_K (l := true) I1 qx
      obtain ⟨its2, rv2, p2⟩ := inv_K (l := true) I1 qy
      refine zip_begins2 (begins_K true a its.toArray) (begins_K true b its2.toArray) p1 p2 fun h' hz hTI hTO o1 o2 hsz hk => ?_
      have I2 : Inv X pins σ H1 { s1 with heap := h' } := I1.kept (t' := s1.toks) hk
      refine ⟨s1.heap.objs.size + 4, s1.heap.objs.size + 2, s1.heap.objs.size + 3, s1.heap.objs.size, s1.heap.objs.size + 1, a, b, H1, rfl, PySem.W.ktu_apart s1.heap.objs.size a b (hold_lt (l := true) p1) (hold_lt (l := true) p2), hz, hTI, ⟨_, _, hTO⟩, itK_new (l := true) o1, itK_new (l := true) o2, fun c cm => ?_, I2, q⟩
      have e' : c = s1.heap.objs.size + 4 ∨ c = s1.heap.objs.size + 2 ∨ c = s1.heap.objs.size + 3 ∨ c = s1.heap.objs.size ∨ c = s1.heap.objs.size + 1 := by simpa using cm
      have hle : s1.heap.objs.size ≤ c := by rcases e' with v | v | v | v | v <;> rw [v] <;> first | exact Nat.le_refl _ | exact Nat.le_add_right _ _
      exact I1.fpOk hle (I1.hok.fresh hle)
def tLstZp (K : PySem.W.Frag) (te : L2.St → Hp → (Addr → Addr → Hp → Prop) → Prop) : TE := fun σ H Q => te σ H fun a b H1 => ∃ xs ys : List V, SqL K H1 a xs ∧ SqL K H1 b ys ∧ xs.length ≤ sizeLine ∧
  ∀ (H' : Hp) (q : Addr) (ps : List (Addr × V × V)), (∀ b o, H1 b = some o → H' b = some o) → H1 q = none → ps.map (·.2) = xs.zip ys → H' q = some (.lst (ps.map fun z => V.ref z.1)) → (∀ z ∈ ps, H' z.1 = some (.tup [z.2.1, z.2.2]) ∧ H1 z.1 = none) → Q (.ref q) H'
theorem pe_listZp {e : Expr} {te : L2.St → Hp → (Addr → Addr → Hp → Prop) → Prop} {p pos : Pos} (hc : X.calm = true) (hg : Gl X "list") (hm : X.mg "list" = none) (he : PZp X e te) (na : starEach [e] X.env = (false, eval e X.env) :: starEach [] X.env := by rfl) : PE X (.Call (.Name "list" p) [e] [] pos) (tLstZp X.K te) := by
  refine ⟨fun pins s σ H Q I h => ?_⟩
  refine Call_ (ld_blt I hg hm boot_list (PyProof.Rows.callWith_type1 (args_cons (thn (he pins s σ H _ I h) fun x s1 ⟨z, TI, TO, i1, i2, l1, l2, H1, ex, D, hz, hTI, hTO, h1, h2, hf, I1, xs, ys, qx, qy, hlen, q⟩ => args_nil ?_) na) na))
  subst ex
  obtain ⟨its, rv, p1⟩ := inv_K (l := true) I1 qx
  obtain ⟨its2, rv2, p2⟩ := inv_K (l := true) I1 qy
  have n1 := rv.length
  have n2 := rv2.length
  have hmin : min its.toArray.size its2.toArray.size = min xs.length ys.length := by simp [n1, n2]
  refine ZL.call_list D (I1.ok.hd hc) (by rw [hmin]; omega) hz hTI hTO h1 h2 p1 p2 fun h' tk c1 c2 c3 => ?_
  rw [hmin] at c1 c2
  generalize hB : s1.heap.objs.size = B at c1 c2 ⊢
  have I2 : Inv X pins σ H1 { s1 with heap := h', toks := tk } := I1.turnedL (ch := [z, TI, TO, i1, i2]) (fun b o nb e => c3 b o (fun v => nb (by simp [v])) (fun v => nb (by simp [v])) (fun v => nb (by simp [v])) (fun v => nb (by simp [v])) e) hf
  have hn0 : H1 B = none := by rw [← hB]; exact I1.hok.fresh (Nat.le_refl _)
  obtain ⟨c, hS⟩ := c1
  have rvs : Vals ((List.range (min xs.length ys.length)).map fun j => V.ref (B + 1 + j)) (ZL.refs (B + 1) (min xs.length ys.length)) := by
    have : ∀ l : List Nat, Vals (l.map fun j => V.ref (B + 1 + j)) (l.map fun j => Value.ref (B + 1 + j)) := fun l => by
      induction l with
      | nil => exact .nil
      | cons j l ih => exact .cons rfl ih
    exact this _
  have nw : ObjOk X.prog X.w (upd H1 B (.lst ((List.range (min xs.length ys.length)).map fun j => V.ref (B + 1 + j)))) h' B (.lst ((List.range (min xs.length ys.length)).map fun j => V.ref (B + 1 + j))) :=
    ⟨by simp; omega, _, c, rvs, hS⟩
  have I3 : Inv X pins σ (upd H1 B (.lst ((List.range (min xs.length ys.length)).map fun j => V.ref (B + 1 + j)))) { s1 with heap := h', toks := tk } :=
    I2.take (h' := h') (t' := tk) (fun b ob _ e => e) (I1.fpOk (Nat.le_of_eq hB) hn0) nw
  have fr : ∀ j, H1 (B + 1 + j) = none := fun j => I1.hok.fresh (Nat.le_trans (Nat.le_of_eq hB) (by show (B : Nat) ≤ B + 1 + j; omega))
  have gt : ∀ j, j < min xs.length ys.length → ∃ (x y : V) (u w : Value), xs[j]? = some x ∧ ys[j]? = some y ∧ RelV x u ∧ RelV y w ∧ IsTupOf2 h' (B + 1 + j) u w := fun j hj => by
    have hx : xs[j]? = some (xs[j]'(by omega)) := List.getElem?_eq_getElem _
    have hy : ys[j]? = some (ys[j]'(by omega)) := List.getElem?_eq_getElem _
    obtain ⟨u, hu, ru⟩ := rv.get hx
    obtain ⟨w, hw, rw'⟩ := rv2.get hy
    exact ⟨_, _, u, w, hx, hy, ru, rw', c2 j u w hj (by simpa using hu) (by simpa using hw)⟩
  obtain ⟨H2, I4, g, qt⟩ := L2.DX.takeT (P := fun b vs => ∃ (j : Nat) (x y : V), b = B + 1 + j ∧ xs[j]? = some x ∧ ys[j]? = some y ∧ vs = [x, y]) I1 ((List.range (min xs.length ys.length)).map fun j => B + 1 + j) _ I3 (by
    rw [List.nodup_iff_pairwise_ne, List.pairwise_map]
    exact List.pairwise_lt_range.imp fun {a b} h => show (B + 1 + a : Nat) ≠ B + 1 + b by omega) fun b hb => by
    obtain ⟨j, hj, rfl⟩ := List.mem_map.mp hb
    obtain ⟨x, y, u, w, hx, hy, ru, rw', hT⟩ := gt j (List.mem_range.mp hj)
    refine ⟨Nat.le_trans (Nat.le_of_eq hB) (by show (B : Nat) ≤ B + 1 + j; omega), ?_, _, ⟨j, x, y, rfl, hx, hy, rfl⟩, fun H3 => ⟨by show 2 ≤ sizeLine; decide, [u, w], .cons ru (.cons rw' .nil), ⟨_, hT, rfl, _, rfl⟩⟩⟩
    rw [upd_ne (show (B + 1 + j : Nat) ≠ B by omega)]; exact fr j
  have gr : ∀ b o, H1 b = some o → H2 b = some o := fun b o e => g b o (by rw [upd_ne (fun z => by rw [z, hn0] at e; cases e)]; exact e)
  refine ⟨.ref B, H2, I4, rfl, q H2 B ((List.range (min xs.length ys.length)).map fun j => (B + 1 + j, (xs[j]?).getD .non, (ys[j]?).getD .non)) gr hn0 ?_ ?_ fun zz hz' => ?_⟩
  · apply List.ext_getElem?
    intro j
    rw [List.map_map, List.getElem?_map]
    by_cases hj : j < min xs.length ys.length
    · rw [List.getElem?_range hj]
      have hx : xs[j]? = some (xs[j]'(by omega)) := List.getElem?_eq_getElem _
      have hy : ys[j]? = some (ys[j]'(by omega)) := List.getElem?_eq_getElem _
      have hz2 : (xs.zip ys)[j]? = some (xs[j]'(by omega), ys[j]'(by omega)) := by rw [List.getElem?_zip_eq_some]; exact ⟨hx, hy⟩
      rw [hz2]
      simp [hx, hy]
    · rw [List.getElem?_eq_none (by simp; omega), List.getElem?_eq_none (by simp; omega)]
      rfl
  · rw [List.map_map]; exact g _ _ upd_same
  · obtain ⟨j, hj, rfl⟩ := List.mem_map.mp hz'
    obtain ⟨vs, ⟨j', x, y, ej, hx, hy, rfl⟩, hH⟩ := qt (B + 1 + j) (List.mem_map_of_mem (f := fun j => B + 1 + j) hj)
    have : j' = j := by
      have ej' : (B + 1 + j : Nat) = B + 1 + j' := ej
      omega
    subst this
    refine ⟨?_, fr j'⟩
    simp only [hx, hy, Option.getD_some]
    exact hH
end
section
variable {X : Cx} {C : CallT} {W : WX} {rw : Bool}
theorem rep_zip {K : PySem.W.Frag} {m : MM} {H H' : Hp} {S : Store} (hS : SRel K rw m H S) (gr : ∀ b o, H b = some o → H' b = some o) : ∀ {vs us : List Val} {xs ys : List V} {ps : List (Addr × V × V)}, Reps K m H vs xs → Reps K m H us ys → ps.map (·.2) = xs.zip ys → (∀ z ∈ ps, H' z.1 = some (.tup [z.2.1, z.2.2]) ∧ H z.1 = none) → Reps K m H' (zipV vs us) (ps.map fun z => V.ref z.1)
  | [], us, _, ys, ps, .nil, r2, e, h => by
    have : ps = [] := by simpa using e
    subst this
    cases us <;> exact .nil
  | v :: vs, [], _, _, ps, .cons _ _, .nil, e, h => by
    have : ps = [] := by simpa using e
    subst this
    exact .nil
  | v :: vs, w :: us, _, _, [], .cons _ _, .cons _ _, e, h => by simp at e
  | v :: vs, w :: us, _, _, p :: ps, .cons (u := x) r1 t1, .cons (u := y) r2 t2, e, h => by
    simp only [List.map_cons, List.zip_cons_cons, List.cons.injEq] at e
    obtain ⟨e1, e2⟩ := e
    obtain ⟨hp, hn⟩ := h p (List.mem_cons_self ..)
    rw [e1] at hp
    refine .cons (.tup hp (not_box hS hn) (.cons (r1.ext (Ext.grow (rw := rw) gr)) (.cons (r2.ext (Ext.grow (rw := rw) gr)) .nil))) ?_
    exact rep_zip hS gr t1 t2 e2 fun z hz => h z (List.mem_cons_of_mem _ hz)
theorem s_zipL {a b : Expr} {a' b' : E} {p p2 pos pos2 : Pos} (hc : X.calm = true) (hg : Gl X "list") (hm : X.mg "list" = none) (hg2 : Gl X "zip") (hm2 : X.mg "zip" = none) (na : notStarred a = true) (nb : notStarred b = true) (ha : SE X rw C W a a') (hb : SE X rw C W b b') : SE X rw C W (.Call (.Name "list" p) [.Call (.Name "zip" p2) [a, b] [] pos2] [] pos) (.bin .zipL a' b') := by
  refine PE.wk (pe_listZp hc hg hm (pzp hg2 hm2 (pa_cons ha (pa_cons hb pa_nil (noStar_of nb _ _)) (noStar_of na _ _)) (noStar_of na _ _) (backTo_of (es := [b]) (by simp [nb]) _ _))) fun σ H Q ⟨m, S, ρ, hS, hE, h⟩ => ?_
  simp only [ev] at h
  refine ⟨m, S, ρ, hS, hE, Out.bind h fun x S1 m1 H1 u x1 s1 r1 h1 => ⟨m1, S1, ρ, s1, hE.ext x1, Out.bind h1 fun y S2 m2 H2 w x2 s2 r2 h2 => ?_⟩⟩
  obtain ⟨z, e, h3⟩ := h2.some
  have e : zipLV S2 x y = some z := by cases x <;> exact e
  unfold zipLV at e
  have r1' := r1.ext x2
  cases q1 : unl S2 x <;> rw [q1] at e <;> try cases e
  cases q2 : unl S2 y <;> rw [q2] at e <;> try cases e
  rename_i vs us
  simp only at e
  split at e
  · rename_i hl
    cases e
    have l1 : seqOf S2 x = some vs := by
      cases x <;> simp only [unl] at q1 <;> try cases q1
      · rfl
      · rename_i n
        cases q : S2[n]? with
        | none => rw [q] at q1; cases q1
        | some o =>
          rw [q] at q1
          cases o <;> simp only at q1 <;> cases q1
          simp [seqOf, lstOf, q]
    have l2 : seqOf S2 y = some us := by
      cases y <;> simp only [unl] at q2 <;> try cases q2
      · rfl
      · rename_i n
        cases q : S2[n]? with
        | none => rw [q] at q2; cases q2
        | some o =>
          rw [q] at q2
          cases o <;> simp only at q2 <;> cases q2
          simp [seqOf, lstOf, q]
    have t1 : isTupV x = false := by cases x <;> first | rfl | (simp [unl] at q1)
    have t2 : isTupV y = false := by cases y <;> first | rfl | (simp [unl] at q2)
    obtain ⟨a, rfl⟩ := seq_ref s2 r1' l1
    obtain ⟨b, rfl⟩ := seq_ref s2 r2 l2
    obtain ⟨xs, k1, v1⟩ := seq_still (rw := rw) r1' l1 Ext.refl s2 still_self
    obtain ⟨ys, k2, v2⟩ := seq_still (rw := rw) r2 l2 Ext.refl s2 still_self
    rw [t1] at k1
    rw [t2] at k2
    have hlx := v1.length
    refine ⟨a, b, xs, ys, rfl, k1, k2, xs, ys, k1, k2, ?_, fun H' q ps gr hq hps hH' hts => ?_⟩
    · rw [← hlx]; exact Nat.le_trans hl.1 (by decide)
    · exact h3.fin' (Ext.grow gr) (s2.grow gr) (.lst hH' (not_box s2 hq) (rep_zip s2 gr v1 v2 hps hts))
  · cases e
end
end HI
set_option Elab.async false
set_option linter.all false
set_option maxRecDepth 100000
namespace HI
open PySem PySem.Spec PyProof.Rows L2
def repS (s : Str) (k : Int) : Str := ⟨(List.replicate k.toNat s.cps).foldl (· ++ ·) #[]⟩
section
variable {X : Cx} {C : CallT} {W : WX} {rw : Bool}
theorem op_mulS : OpR X (binaryOp .Mult) (fun x y H Q => ∃ (s : Str) (k : Int), x = .str s ∧ y = .int k ∧ 2 ≤ k ∧ k ≤ 1000 ∧ 1 ≤ s.length ∧ s.length ≤ 1000 ∧ Q (.str (repS s k)) H) := by
  intro pins s σ H x y v u Q I rx ry h
  obtain ⟨a, k, rfl, rfl, h1, h2, h3, h4, q⟩ := h
  obtain ⟨t, rfl⟩ := rx
  obtain ⟨t', rfl⟩ := ry
  have e1 : (k == 1) = false := by rw [beq_eq_false_iff_ne]; omega
  have e2 : (a.length == 0) = false := by rw [beq_eq_false_iff_ne]; omega
  have hk : k.toNat ≤ 1000 := by omega
  have hm : a.length * k.toNat ≤ 1000 * 1000 := Nat.mul_le_mul h4 hk
  refine P.mul_str (by rw [Bool.or_eq_false_iff]; exact ⟨decide_eq_false (by omega), decide_eq_false (by omega)⟩) (fun _ _ => ?_) (fun _ _ => ?_) ?_
  · have h5 : ((2 ^ 63 - 1 : Int)) / 1000 ≤ (2 ^ 63 - 1) / k := by
      have : (1000 : Int) > 0 := by decide
      exact Int.le_ediv_of_mul_le (by omega) (Int.le_trans (Int.mul_le_mul_of_nonneg_left h2 (by decide)) (by decide))
    have h6 : (1000 : Int) ≤ (2 ^ 63 - 1) / 1000 := by decide
    omega
  · unfold PySem.Builtin.Str.tooLong
    exact decide_eq_false (by rw [sizeLine_eq]; omega)
  · rw [if_neg (by omega), e1, e2]
    simp only [Bool.or_self, Bool.false_eq_true, if_false]
    refine ⟨?_, .str (repS a k), H, I.tok _, ⟨_, rfl⟩, q⟩
    exact fits_reps (x := a) (k := k.toNat) (by unfold PySem.Builtin.Str.tooLong; exact decide_eq_false (by rw [sizeLine_eq]; omega))
theorem s_mulS {s : Str} {k : Int} {j j2 : Nat} {p p2 pos : Pos} (h1 : 2 ≤ k) (h2 : k ≤ 1000) (h3 : 1 ≤ s.length) (h4 : s.length ≤ 1000) : SE X rw C W (.BinOp (.Constant (.str s) j p) .Mult (.Constant (.int k) j2 p2) pos) (.lit (.str (repS s k))) :=
  s_lit (PE.wk (pe_op op_mulS (pe_str (x := s)) (pe_int (i := k))) fun σ H Q h => ⟨s, k, rfl, rfl, h1, h2, h3, h4, h⟩) fun _ _ => .str _
end
end HI
set_option Elab.async false
set_option linter.all false
set_option maxRecDepth 100000
namespace HI
open PySem PySem.Spec PyProof.Rows L2
section
variable {X : Cx} {i j : Nat} {a D : Addr} {oe : PySem.Obj} {pn : List (Addr × PySem.Obj)}
theorem pe_isE {n : Str} {p p1 pos : Pos} {t : Expr} {w : V} {cv : Value} {b : Bool} (c : ExcC X.K D) (hz : Zc (.ref D) none oe) (hf : ∃ vs, oe.data = .fields vs) (hg : Gl X "isinstance") (hm : X.mg "isinstance" = none)
    (hN : X.N[i]? = some n) (hv : Vis X.env.scope n) (hd : (n == ("__debug__" : Str)) = false) (hcd : (n == ("__classdict__" : Str)) = false) (ht : PE (X.suite a ((a, oe) :: pn)) t (tC w)) (hcv : ∀ u, RelV w u → u = cv) (hk : PySem.W.kitOne X.K (.ref D) cv = some b) (nt : notStarred t = true) :
    PE (X.suite a ((a, oe) :: pn)) (.Call (.Name "isinstance" p) [.Name n p1, t] [] pos) (fun σ H Q => σ[i]? = some (some (.ref a)) ∧ Q (.bl b) H) := by
  have hx : PE (X.suite a ((a, oe) :: pn)) (.Name n p1) (tVar i) := pe_var hN hv hd hcd
  refine PE.wk (pe_callB (call_isE c hz hf) hg hm rfl (pa_cons hx (pa_cons ht pa_nil (noStar_of nt _ _)) (noStar_of rfl _ _)) (by decide) (by decide) (noStar_of rfl _ _) (backTo_of (es := [t]) (by simp [nt]) _ _)) fun σ H Q ⟨h1, h2⟩ => ?_
  exact ⟨.ref a, h1, w, cv, b, rfl, hcv, hk, h2⟩
inductive Asks (Y : Cx) (i : Nat) (a : Addr) : List Expr → List Bool → Prop
  | nil : Asks Y i a [] []
  | cons {e : Expr} {b : Bool} {es : List Expr} {bs : List Bool} (h : PE Y e (fun σ H Q => σ[i]? = some (some (.ref a)) ∧ Q (.bl b) H)) (ns : notStarred e = true) (r : Asks Y i a es bs) : Asks Y i a (e :: es) (b :: bs)
theorem Asks.pa {Y : Cx} {es : List Expr} {bs : List Bool} (h : Asks Y i a es bs) : PA Y es (fun σ H Q => σ[i]? = some (some (.ref a)) ∧ Q (bs.map V.bl) H) := by
  induction h with
  | nil => exact PA.wk pa_nil fun σ H Q h => h.2
  | cons h ns r ih => exact PA.wk (pa_cons h ih (noStar_of ns _ _)) fun σ H Q ⟨h1, h2⟩ => ⟨h1, h1, h2⟩
theorem Asks.lst {Y : Cx} {es : List Expr} {bs : List Bool} {pos : Pos} (h : Asks Y i a es bs) (hl : bs.length ≤ 1000) : PE Y (.List es pos) (fun σ H Q => σ[i]? = some (some (.ref a)) ∧ ∀ p, H p = none → Q (.ref p) (upd H p (.lst (bs.map V.bl)))) := by
  refine PE.wk (pe_lst h.pa) fun σ H Q ⟨h1, h2⟩ => ⟨h1, ?_, h2⟩
  rw [List.length_map, sizeLine_eq]; omega
theorem Asks.set {Y : Cx} {es : List Expr} {bs : List Bool} {x : Str} {lp p pos : Pos} (h : Asks Y i a es bs) (hl : bs.length ≤ 1000) (hN : Y.N.Nodup) (hj : Y.N[j]? = some x) (hx : Loc Y.env.scope x) (hf : Y.env.scope.names.lookup x = some .local) :
    PS Y (.Assign [.Name x p] (.List es lp) pos) (fun T σ H => σ[i]? = some (some (.ref a)) ∧ ∀ q, H q = none → T.nx (σ.set j (some (.ref q))) (upd H q (.lst (bs.map V.bl)))) :=
  PS.wk (ps_set hN hj hx (h.lst hl) rfl (.inr hf)) fun T σ H h => h
theorem Asks.cat {Y : Cx} {es : List Expr} {bs : List Bool} {x : Str} {lp p p2 bp pos : Pos} (h : Asks Y i a es bs) (hl : bs.length ≤ 1000) (hN : Y.N.Nodup) (hj : Y.N[j]? = some x) (hx : Loc Y.env.scope x) (hv : Vis Y.env.scope x) (hd : (x == ("__debug__" : Str)) = false) (hcd : (x == ("__classdict__" : Str)) = false) (hf : Y.env.scope.names.lookup x = some .local) :
    PS Y (.Assign [.Name x p] (.BinOp (.Name x p2) .Add (.List es lp) bp) pos) (fun T σ H => σ[i]? = some (some (.ref a)) ∧ ∃ q us, σ[j]? = some (some (.ref q)) ∧ H q = some (.lst us) ∧ us.length ≤ 1000 ∧
      ∀ q1 q2, H q1 = none → q1 ≠ q2 → H q2 = none → T.nx (σ.set j (some (.ref q2))) (upd (upd H q1 (.lst (bs.map V.bl))) q2 (.lst (us ++ bs.map V.bl)))) := by
  refine PS.wk (ps_set hN hj hx (pe_op op_cat (pe_var hj hv hd hcd) (h.lst hl)) rfl (.inr hf)) fun T σ H ⟨h1, q, us, h2, h3, h4, h5⟩ => ?_
  refine ⟨.ref q, h2, h1, fun q1 hq1 => ⟨q, q1, us, bs.map V.bl, rfl, rfl, ?_, upd_same, ?_, fun q2 hq2 => ?_⟩⟩
  · rw [upd_ne (by rintro rfl; rw [hq1] at h3; cases h3)]; exact h3
  · rw [List.length_map, sizeLine_eq]; omega
  · have hne : q1 ≠ q2 := by rintro rfl; rw [upd_same] at hq2; cases hq2
    exact h5 q1 q2 hq1 hne (by rw [upd_ne (Ne.symm hne)] at hq2; exact hq2)
theorem Asks.app {Y : Cx} {e : Expr} {b : Bool} {x : Str} {p2 apos cpos pos : Pos} (h : Asks Y i a [e] [b]) (hj : Y.N[j]? = some x) (hv : Vis Y.env.scope x) (hd : (x == ("__debug__" : Str)) = false) (hcd : (x == ("__classdict__" : Str)) = false) (hline : (apos.endLine == cpos.line) = true) :
    PS Y (.Expr (.Call (.Attribute (.Name x p2) "append" apos) [e] [] cpos) pos) (fun T σ H => σ[i]? = some (some (.ref a)) ∧ ∃ q us, σ[j]? = some (some (.ref q)) ∧ H q = some (.lst us) ∧ us.length ≤ 1000 ∧ T.nx σ (upd H q (.lst (us ++ [.bl b])))) := by
  obtain ⟨he, ns⟩ : PE Y e (fun σ H Q => σ[i]? = some (some (.ref a)) ∧ Q (.bl b) H) ∧ notStarred e = true := by cases h with | cons h ns r => exact ⟨h, ns⟩
  have hx : PE Y (.Name x p2) (tVar j) := pe_var hj hv hd hcd
  refine PS.wk (ps_expr (pe_bm PySem.F.plainAttrs_list PySem.F.slot_list_append PySem.F.type_list_append mt_append hx (pa_cons he pa_nil (noStar_of ns _ _)) (noSuper_of rfl _ _) (form_of (es := [e]) (by simp [ns]) (by simp) _ _) hline (noStar_of ns _ _) (backTo_nil _ _)) rfl) fun T σ H ⟨h1, q, us, h2, h3, h4, h5⟩ => ?_
  refine ⟨.ref q, h2, .inl ⟨rfl, us, SqL.of h3⟩, h1, q, us, .bl b, rfl, rfl, h3, ?_, h5⟩
  rw [sizeLine_eq]; omega
theorem asks_suite {Y : Cx} {es1 es2 es3 : List Expr} {e4 : Expr} {b1 b2 b3 : List Bool} {b4 : Bool} {x : Str} {q1 q2 q3 q4 q5 q6 q7 q8 q9 qa qb qc qd qe apos cpos pos : Pos} (hij : i ≠ j) (h1 : Asks Y i a es1 b1) (h2 : Asks Y i a es2 b2) (h3 : Asks Y i a es3 b3) (h4 : Asks Y i a [e4] [b4]) (l1 : b1.length ≤ 100) (l2 : b2.length ≤ 100) (l3 : b3.length ≤ 100)
    (hN : Y.N.Nodup) (hj : Y.N[j]? = some x) (hx : Loc Y.env.scope x) (hv : Vis Y.env.scope x) (hd : (x == ("__debug__" : Str)) = false) (hcd : (x == ("__classdict__" : Str)) = false) (hf : Y.env.scope.names.lookup x = some .local) (hline : (apos.endLine == cpos.line) = true) :
    PSs Y [.Assign [.Name x q1] (.List es1 q2) q3, .Assign [.Name x q4] (.BinOp (.Name x q5) .Add (.List es2 q6) q7) q8, .Assign [.Name x q9] (.BinOp (.Name x qa) .Add (.List es3 qb) qc) qd, .Expr (.Call (.Attribute (.Name x qe) "append" apos) [e4] [] cpos) pos]
      (fun T σ H => σ[i]? = some (some (.ref a)) ∧ j < σ.length ∧ ∀ (p1 p2 p3 p4 p5 : Addr) (o1 o2 o3 o4 : List V), H p1 = none → upd H p1 (.lst o1) p2 = none → upd (upd H p1 (.lst o1)) p2 (.lst o2) p3 = none → upd (upd (upd H p1 (.lst o1)) p2 (.lst o2)) p3 (.lst o3) p4 = none → upd (upd (upd (upd H p1 (.lst o1)) p2 (.lst o2)) p3 (.lst o3)) p4 (.lst o4) p5 = none →
        T.nx (σ.set j (some (.ref p5))) (upd (upd (upd (upd (upd H p1 (.lst o1)) p2 (.lst o2)) p3 (.lst o3)) p4 (.lst o4)) p5 (.lst ((b1 ++ b2 ++ b3 ++ [b4]).map V.bl)))) := by
  refine PSs.wk (pss_cons (h1.set (by omega) hN hj hx hf) (pss_cons (h2.cat (by omega) hN hj hx hv hd hcd hf) (pss_cons (h3.cat (by omega) hN hj hx hv hd hcd hf) (pss_cons (h4.app hj hv hd hcd hline) pss_nil)))) fun T σ H ⟨hs, hl, hq⟩ => ?_
  have si : ∀ u, (σ.set j u)[i]? = σ[i]? := fun u => List.getElem?_set_ne (Ne.symm hij)
  have sj : ∀ u, (σ.set j u)[j]? = some u := fun u => List.getElem?_set_self hl
  refine ⟨hs, fun p1 f1 => ⟨by rw [si]; exact hs, p1, _, sj _, upd_same, by simp; omega, fun p2 p3 f2 n23 f3 => ?_⟩⟩
  refine ⟨by rw [List.set_set, si]; exact hs, p3, _, by rw [List.set_set]; exact sj _, upd_same, by simp; omega, fun p4 p5 f4 n45 f5 => ?_⟩
  refine ⟨by rw [List.set_set, List.set_set, si]; exact hs, p5, _, by rw [List.set_set, List.set_set]; exact sj _, upd_same, by simp; omega, ?_⟩
  have g3 : upd (upd H p1 (.lst (b1.map V.bl))) p2 (.lst (b2.map V.bl)) p3 = none := by rw [upd_ne (Ne.symm n23)]; exact f3
  have g5 : upd (upd (upd (upd H p1 (.lst (b1.map V.bl))) p2 (.lst (b2.map V.bl))) p3 (.lst (b1.map V.bl ++ b2.map V.bl))) p4 (.lst (b3.map V.bl)) p5 = none := by rw [upd_ne (Ne.symm n45)]; exact f5
  have := hq p1 p2 p3 p4 p5 _ _ _ _ f1 f2 g3 f4 g5
  rw [List.set_set, List.set_set, upd_upd]
  simp only [List.map_append, List.map_cons, List.map_nil, List.append_assoc] at this ⊢
  exact this
theorem ERel.unset {K : PySem.W.Frag} {m : MM} {H : Hp} {ρ : Env} {σ : L2.St} (h : ERel K m H ρ σ) (i : Nat) (u : Option V) : ERel K m H (ρ.set i none) (σ.set i u) := ⟨by rw [List.length_set, List.length_set]; exact h.len, fun k v e => by
  by_cases hk : k = i
  · subst hk
    by_cases hl : k < ρ.length
    · rw [List.getElem?_set_self hl] at e; cases e
    · rw [List.getElem?_eq_none (by simpa using hl)] at e; cases e
  · rw [List.getElem?_set_ne (Ne.symm hk)] at e ⊢
    exact h.val k v e⟩
structure IsC (K : PySem.W.Frag) (ts : List Str) (c : Str) : Prop where
  ex : ExcC K (He.ga K c)
  own : ∀ t ∈ ts, PySem.W.kitOne K (.ref (He.ga K c)) (.ref (He.ga K t)) = some (decide (c = t))
  ve : PySem.W.kitOne K (.ref (He.ga K c)) (.type "ValueError") = some true
def ans (c : Str) (ts : List Str) : List Bool := ts.map fun t => decide (c = t)
theorem reps_bools {K : PySem.W.Frag} {m : MM} {H : Hp} : ∀ l : List Bool, Reps K m H (l.map Val.bool) (l.map V.bl)
  | [] => .nil
  | y :: l => .cons (.bool y) (reps_bools l)
theorem ss_tryA {rw : Bool} {L : Nat} {C : CallT} {W : WX} {body : List Stmt} {b : List S} {t1 t2 t3 : List Str} {es1 es2 es3 : List Expr} {e4 : Expr} {n x : Str} {q1 q2 q3 q4 q5 q6 q7 q8 q9 qa qb qc qd qe apos cpos qf np pos' pos : Pos}
    (hst : X.stack = X.env :: X.outer) (hfr : X.env.frame = some X.env.locals) (hN : X.N.Nodup) (hi : X.N[i]? = some n) (hln : X.env.kindOf n = some .local) (hj : X.N[j]? = some x) (hij : i ≠ j) (hx : Loc X.env.scope x) (hv : Vis X.env.scope x) (hd : (x == ("__debug__" : Str)) = false) (hcd : (x == ("__classdict__" : Str)) = false) (hf : X.env.scope.names.lookup x = some .local) (hline : (apos.endLine == cpos.line) = true)
    (hm : "HoldError" ∈ EXC) (kg : (He.Fa.glo (Str.ofString "HoldError")).ok X.K = true) (hn : Names X (Str.ofString "HoldError") (.ref (He.ga X.K (Str.ofString "HoldError")))) (tk : Takes X W)
    (hb : ∀ (W : WX) (pn : List (Addr × PySem.Obj)) (xe : Value → Shared → Prop), Takes (X.tr pn xe) W → PassesOwn (model X.prog X.w) X.A X.env xe → SB (X.tr pn xe) rw L C W body b)
    (hl : (t1 ++ t2 ++ t3).length ≤ 100)
    (hA : ∀ c ∈ t1 ++ t2 ++ t3, ∀ (a : Addr) (oe : PySem.Obj) (pn : List (Addr × PySem.Obj)), Zc (.ref (He.ga X.K c)) none oe → (∃ vs, oe.data = .fields vs) → Asks (X.suite a ((a, oe) :: pn)) i a es1 (ans c t1) ∧ Asks (X.suite a ((a, oe) :: pn)) i a es2 (ans c t2) ∧ Asks (X.suite a ((a, oe) :: pn)) i a es3 (ans c t3) ∧ Asks (X.suite a ((a, oe) :: pn)) i a [e4] [true]) :
    PS X (.Try body [.ExceptHandler (some (.Name (Str.ofString "HoldError") np)) (some n) [.Assign [.Name x q1] (.List es1 q2) q3, .Assign [.Name x q4] (.BinOp (.Name x q5) .Add (.List es2 q6) q7) q8, .Assign [.Name x q9] (.BinOp (.Name x qa) .Add (.List es3 qb) qc) qd, .Expr (.Call (.Attribute (.Name x qe) "append" apos) [e4] [] cpos) qf] pos'] [] [] pos)
      (fun T σ H => ∃ m S ρ, SRel X.K rw m H S ∧ ERel X.K m H ρ σ ∧ OutS X.K rw m H W (match exs L C b ρ S with | .exc c ρ' S' => exA (t1 ++ t2 ++ t3) i j c ρ' S' | r => r) T) := by
  refine PS.wk (ps_try_as (tb := fun W => rdB X.K rw L C W b) (ts := fun a cls d => fun T σ H => ∃ (c : Str) (σ0 : L2.St), c ∈ t1 ++ t2 ++ t3 ∧ cls = .ref (He.ga X.K c) ∧ d = none ∧ σ = σ0.set i (some (.ref a)) ∧ ∀ (p1 p2 p3 p4 p5 : Addr) (o1 o2 o3 o4 : List V), H p1 = none → upd H p1 (.lst o1) p2 = none → upd (upd H p1 (.lst o1)) p2 (.lst o2) p3 = none → upd (upd (upd H p1 (.lst o1)) p2 (.lst o2)) p3 (.lst o3) p4 = none → upd (upd (upd (upd H p1 (.lst o1)) p2 (.lst o2)) p3 (.lst o3)) p4 (.lst o4) p5 = none →
        T.nx (σ.set j (some (.ref p5))) (upd (upd (upd (upd (upd H p1 (.lst o1)) p2 (.lst o2)) p3 (.lst o3)) p4 (.lst o4)) p5 (.lst ((ans c t1 ++ ans c t2 ++ ans c t3 ++ [true]).map V.bl)))) hst hfr hN hi hln hn tk hb ?_) fun T σ H ⟨m, S, ρ, hS, hE, h⟩ => ?_
  · intro a oe cls d pn hz hfl
    refine ⟨fun pins s σ H T I ⟨c, σ0, hc, e1, e2, e3, hq⟩ => ?_⟩
    subst e1 e2
    obtain ⟨a1, a2, a3, a4⟩ := hA c hc a oe pn hz hfl
    have hl' := hl
    simp only [List.length_append] at hl'
    have l1 : (ans c t1).length ≤ 100 := by simp only [ans, List.length_map]; omega
    have l2 : (ans c t2).length ≤ 100 := by simp only [ans, List.length_map]; omega
    have l3 : (ans c t3).length ≤ 100 := by simp only [ans, List.length_map]; omega
    have hlen : σ.length = X.N.length := I.len
    have hi' : i < σ.length := by rw [hlen]; exact (List.getElem?_eq_some_iff.mp hi).1
    have hj' : j < σ.length := by rw [hlen]; exact (List.getElem?_eq_some_iff.mp hj).1
    refine (asks_suite hij a1 a2 a3 a4 l1 l2 l3 hN hj hx hv hd hcd hf hline).run pins s σ H T I ⟨?_, hj', hq⟩
    rw [e3] at hi' ⊢
    rw [List.length_set] at hi'
    exact List.getElem?_set_self hi'
  · refine ⟨m, S, ρ, hS, hE, ?_⟩
    cases q : exs L C b ρ S with
    | next ρ3 S3 => rw [q] at h; exact h
    | ret w S3 => rw [q] at h; exact h
    | brk ρ3 S3 => rw [q] at h; exact h
    | stuck => rw [q] at h; exact h
    | exc c ρ3 S3 =>
      rw [q] at h
      simp only [exA] at h
      have ea : (t1 ++ t2 ++ t3).map (fun t => decide (c = t)) ++ [true] = ans c t1 ++ ans c t2 ++ ans c t3 ++ [true] := by simp only [ans, List.map_append]
      rw [ea] at h
      by_cases hc : c ∈ t1 ++ t2 ++ t3
      · rw [if_pos hc] at h
        intro kx m3 H3 σ3 x3 s3 r3
        have ct : catches c (Str.ofString "HoldError") = true := by simp [catches, anyErr]
        refine ⟨true, by rw [← ct]; exact kx.exm _ hm kg, fun _ a ha => ⟨c, σ3, hc, rfl, rfl, rfl, fun p1 p2 p3 p4 p5 o1 o2 o3 o4 h1 h2 h3 h4 h5 => ?_⟩, fun z => by cases z⟩
        have y4 : Ext rw m3 H3 m3 (upd (upd (upd (upd H3 p1 (.lst o1)) p2 (.lst o2)) p3 (.lst o3)) p4 (.lst o4)) := (((Ext.new h1).trans (Ext.new h2)).trans (Ext.new h3)).trans (Ext.new h4)
        have s4 := (((s3.new (o := .lst o1) h1).new (o := .lst o2) h2).new (o := .lst o3) h3).new (o := .lst o4) h4
        have y5 := Ext.box (rw := rw) (m := m3) (o := .lst ((ans c t1 ++ ans c t2 ++ ans c t3 ++ [true]).map V.bl)) h5
        have s5 := s4.push (o := .lst ((ans c t1 ++ ans c t2 ++ ans c t3 ++ [true]).map V.bl)) (ob := .list ((ans c t1 ++ ans c t2 ++ ans c t3 ++ [true]).map Val.bool)) h5 ⟨_, upd_same, reps_bools _⟩
        have r5 := ((r3.ext (y4.trans y5)).set (i := j) (.loc (m_len s4 p5))).unset i none
        have es : (((σ3.set i (some (.ref a))).set j (some (.ref p5))).set i none) = ((σ3.set j (some (.ref p5))).set i none) := by
          rw [List.set_comm _ _ hij, List.set_set]
        show T.nx (((σ3.set i (some (.ref a))).set j (some (.ref p5))).set i none) _
        rw [es]
        exact h _ _ _ (x3.trans (y4.trans y5)) s5 r5
      · rw [if_neg hc] at h
        exact h.elim
end
end HI
set_option Elab.async false
set_option linter.all false
set_option maxRecDepth 100000
namespace HI
open PySem PySem.Spec PyProof.Rows L2
def notComp : Expr → Bool
  | .ListComp _ _ _ _ => false
  | .SetComp _ _ _ _ => false
  | .DictComp _ _ _ _ _ => false
  | _ => true
theorem noSwap {e : Expr} (h : notComp e = true) (t : Option Expr) (l : Nat) (env : PySem.Env) : swapsWith e t l env = pure false := by
  cases e <;> first | rfl | cases h
def notName : Expr → Bool
  | .Name _ _ => false
  | _ => true
theorem noSwapT {e t : Expr} (h : notName t = true) (l : Nat) (env : PySem.Env) : swapsWith e (some t) l env = pure false := by
  cases e <;> first | rfl | (cases t <;> first | rfl | cases h)
def notSet : Expr → Bool
  | .Set _ _ _ => false
  | _ => true
theorem noSetI {e : Expr} (h : notSet e = true) (env : PySem.Env) (x : Value) : foldedSetIterable e env x = pure x := by
  cases e <;> first | rfl | cases h
def notTup : Expr → Bool
  | .Tuple _ _ _ => false
  | .List _ _ => false
  | _ => true
theorem noStores {t e : Expr} (h : (notTup t || notTup e) = true) (env : PySem.Env) : swappedStores [t] e env = pure none := by
  cases t <;> first | rfl | (cases e <;> first | rfl | cases h)
theorem oneAssign {t : Expr} (h : notStarred t = true) (env : PySem.Env) : (assignEach [t] env).map (·.2) = [assign t env] := by
  cases t <;> first | (simp only [assignEach, List.map]; done) | cases h
theorem consAssign {t : Expr} (h : notStarred t = true) (es : List Expr) (env : PySem.Env) : assignEach (t :: es) env = (false, assign t env) :: assignEach es env := by
  cases t <;> first | (simp only [assignEach]; done) | cases h
theorem allAssign {env : PySem.Env} : ∀ {es : List Expr}, es.all notStarred = true → (assignEach es env).length = es.length ∧ (assignEach es env).findIdx? (·.1) = none
  | [], _ => by simp [assignEach]
  | t :: es, h => by
    simp only [List.all_cons, Bool.and_eq_true] at h
    obtain ⟨h1, h2⟩ := allAssign (env := env) h.2
    rw [consAssign h.1]
    refine ⟨by simp [h1], ?_⟩
    rw [List.findIdx?_cons]
    simp [h2]
def notSlice : Expr → Bool
  | .Slice _ _ _ _ => false
  | _ => true
theorem plainIx {b : Expr} (h : notSlice b = true) : PlainIx b := by
  intro o i
  cases b <;> first | rfl | cases h
theorem noSl {b : Expr} (h : notSlice b = true) : NoSl b := plainIx h
theorem plainAug {b : Expr} (h : notSlice b = true) (ov iv new : Value) : augStore b ov iv new = (do holding [new, ov, iv] (setItem ov iv new); release [new, ov, iv] []; pure .next) := by
  cases b <;> first | rfl | cases h
theorem plainSet {a b : Expr} {p : Pos} (h : notSlice b = true) (env : PySem.Env) (v : Value) : assign (.Subscript a b p) env v = (do
      let ov ← holding [v] (eval a env)
      let iv ← holding [v, ov] (eval b env)
      standAt p
      holding [v, ov, iv] (setItem ov iv v)
      release [v, ov, iv] []) := by
  cases b <;> first | (simp only [assign]; done) | cases h
def plainT : Expr → Bool
  | .UnaryOp .Not _ _ => false
  | .BoolOp _ _ _ => false
  | .IfExp _ _ _ _ => false
  | .Compare _ _ _ _ => false
  | _ => true
theorem plain_isTrue {a : Expr} (h : plainT a = true) (env : PySem.Env) (whole : Sem Value) : isTrue a env whole = (do let v ← whole; standAt a.pos; holding [v] (PySem.truthy v)) := by
  cases a
  case UnaryOp op x p => cases op <;> first | (simp only [PySem.isTrue]; done) | cases h
  all_goals first | (simp only [PySem.isTrue]; done) | cases h
theorem notMarks {e : Expr} (h : notSet e = true) (op : CmpOp) : behindInMarks op e = false := by
  cases e <;> first | rfl | cases h
theorem takesWF {X : Cx} : Takes X WF := fun u s' ⟨a, B, sI, pins, σ, H, cls, d, e, I, nb, up, sky, na, os, ag, w⟩ => w.elim
structure GI where
  fns : List Str := []
  mks : List Str := []
  mes : List (Str × Str) := []
  exs : List Str := []
  hns : List String := []
  isi : List Str := []
  free : List Str := []
  cis : List (Str × Int) := []
  css : List (Str × Str) := []
  flds : List Str := []
  tups : List (Str × List Str) := []
  rfns : List Str := []
  rmes : List (Str × Str) := []
  ise : List Str := []
def GI.ro (G : GI) : GI := { G with fns := G.rfns, mks := [], mes := G.rmes }
structure GOk (G : GI) (X : Cx) (rw : Bool) (C : CallT) (k : Nat) : Prop where
  call : ∀ x ∈ G.fns, ∃ f fd ps, FnOk X.prog X.w X.K X.mg X.base (L2.CX X.prog X.w) k f fd ps (spC X.K rw C x) ∧ X.mg x = some (.ref f) ∧ PySem.W.keepIn X.K (.ref f) = true ∧ Binds X.K fd ps []
  make : ∀ c ∈ G.mks, MakeOk X rw C k c
  meth : ∀ p ∈ G.mes, MethOk X rw C p.2 k p.1
  exc : ∀ c ∈ G.exs, ExcOk X c
  hnd : ∀ h ∈ G.hns, h ∈ EXC ∧ (He.Fa.glo (Str.ofString h)).ok X.K = true ∧ X.mg (Str.ofString h) = some (.ref (He.ga X.K (Str.ofString h)))
  isi : ∀ t ∈ G.isi, ∃ (u : Value) (w : V), ClsV w u ∧ IsiK X.K t u ∧ (∀ c, KCls X.K c → c = t → u = .ref (He.ga X.K t)) ∧ RelV w u ∧ (X.mg t = some u ∨ (X.mg t = none ∧ bootBuiltins t = some u ∧ t ≠ "__name__"))
  free : ∀ x ∈ G.free, X.mg x = none
  cis : ∀ p ∈ G.cis, ∃ t, X.mg p.1 = some (.int p.2 t)
  css : ∀ p ∈ G.css, ∃ t, X.mg p.1 = some (.str p.2 t)
  flds : ∀ f ∈ G.flds, NoF X.K f
  tups : ∀ p ∈ G.tups, X.mg p.1 = some (.ref (He.ga X.K p.1)) ∧ ∀ H, SqT X.K H (He.ga X.K p.1) (p.2.map V.str)
  ise : ∀ c ∈ G.ise, IsC X.K G.ise c
structure Cv where
  N : List Str
  sc : Scope
  room : Bool
  body : Bool
  fa : Bool
  wr : Bool
  ow : Option Scope := none
structure CR (G : GI) (rw : Bool) (C : CallT) (k : Nat) (cv : Cv) (X : Cx) (W : WX) : Prop where
  g : GOk G X rw C k
  N : X.N = cv.N
  nd : X.N.Nodup
  sc : X.env.scope = cv.sc
  fn : cv.fa = true → X.fn = fun _ => true
  room : cv.room = true → Room (k + 1) X.A ∧ X.calm = true
  hu : X.A.units + 66 < cLine
  tk : Takes X W
  bd : cv.body = true → PassesOwn (model X.prog X.w) X.A X.env X.xe ∧ X.stack = X.env :: X.outer ∧ X.env.frame = some X.env.locals
  wr : cv.wr = rw
  ow : ∀ sc, cv.ow = some sc → X.fn = fun x => sc.names.lookup x == some .cell
  gr : GOk G.ro X false C k
def glb (cv : Cv) (x : Str) : Bool := decide (cv.sc.names.lookup x = some .globalImplicit) && !(x == ("__debug__" : Str))
def free (G : GI) (cv : Cv) (x : Str) : Bool := glb cv x && (decide (x ∈ G.free) && !decide (x = "__name__"))
def vis (cv : Cv) (x : Str) : Bool := (match cv.sc.names.lookup x with
  | some .local => true
  | some .cell => true
  | some .free => true
  | _ => false) && (!(x == ("__debug__" : Str)) && !(x == ("__classdict__" : Str)))
def loc (cv : Cv) (x : Str) : Bool := match cv.sc.names.lookup x with
  | some .local => true
  | some .cell => cv.fa || (match cv.ow with
    | some sc => sc.names.lookup x == some .cell
    | none => false)
  | _ => false
def slot (cv : Cv) (i : Nat) (x : Str) : Bool := decide (cv.N[i]? = some x)
section
variable {G : GI} {rw : Bool} {C : CallT} {k : Nat} {cv : Cv} {X : Cx} {W : WX}
theorem ba2 {a b : Bool} (h : (a && b) = true) : a = true ∧ b = true := Bool.and_eq_true_iff.mp h
theorem CR.glb (r : CR G rw C k cv X W) {x : Str} (h : glb cv x = true) : Gl X x ∧ (x == ("__debug__" : Str)) = false := by
  obtain ⟨h1, h2⟩ := ba2 h
  refine ⟨?_, by simpa using h2⟩
  show X.env.scope.names.lookup x = _
  rw [r.sc]; exact of_decide_eq_true h1
theorem CR.free (r : CR G rw C k cv X W) {x : Str} (h : free G cv x = true) : Gl X x ∧ (x == ("__debug__" : Str)) = false ∧ X.mg x = none ∧ x ≠ "__name__" := by
  obtain ⟨h1, h2⟩ := ba2 h
  obtain ⟨h2, h3⟩ := ba2 h2
  exact ⟨(r.glb h1).1, (r.glb h1).2, r.g.free x (of_decide_eq_true h2), by simpa using h3⟩
theorem CR.vis (r : CR G rw C k cv X W) {x : Str} (h : vis cv x = true) : Vis X.env.scope x ∧ (x == ("__debug__" : Str)) = false ∧ (x == ("__classdict__" : Str)) = false := by
  obtain ⟨h1, h2⟩ := ba2 h
  obtain ⟨h2, h3⟩ := ba2 h2
  refine ⟨?_, by simpa using h2, by simpa using h3⟩
  unfold Vis
  rw [r.sc]
  split at h1
  · rename_i e; exact .inl e
  · rename_i e; exact .inr (.inl e)
  · rename_i e; exact .inr (.inr e)
  · cases h1
theorem CR.loc (r : CR G rw C k cv X W) {x : Str} (h : loc cv x = true) : L2.Loc X.env.scope x ∧ (X.fn x = true ∨ X.env.scope.names.lookup x = some .local) := by
  unfold L2.Loc
  unfold HI.loc at h
  rw [r.sc]
  split at h
  · rename_i e; exact ⟨.inl e, .inr e⟩
  · rename_i e
    refine ⟨.inr e, .inl ?_⟩
    rw [Bool.or_eq_true] at h
    rcases h with h | h
    · rw [r.fn h]
    · split at h
      · rename_i sc q; rw [r.ow sc q]; exact h
      · cases h
  · cases h
theorem CR.slot (r : CR G rw C k cv X W) {x : Str} {i : Nat} (h : slot cv i x = true) : X.N[i]? = some x := by
  rw [r.N]; exact of_decide_eq_true h
def Cv.blk (cv : Cv) (scope : Scope) : Cv := ⟨cv.N, relS scope cv.sc, true, false, false, cv.wr, some scope⟩
theorem GOk.same (g : GOk G X rw C k) {Y : Cx} (h1 : Y.prog = X.prog) (h2 : Y.w = X.w) (h3 : Y.K = X.K) (h4 : Y.mg = X.mg) (h5 : Y.base = X.base) : GOk G Y rw C k := by
  obtain ⟨c1, c2, c3, c4, c5, c6, c7, c8, c9, c10, c11, c12⟩ := g
  refine ⟨?_, fun c hc => ?_, fun p hp => ?_, fun c hc => ?_, ?_, ?_, ?_, ?_, ?_, ?_, ?_, ?_⟩
  · rw [h1, h2, h3, h4, h5]; exact c1
  · obtain ⟨a, b, c, d⟩ := c2 c hc
    exact ⟨by rw [h3]; exact a, by rw [h3]; exact b, by rw [h3, h4]; exact c, by rw [h1, h2, h3, h4, h5]; exact d⟩
  · obtain ⟨a, b, c⟩ := c3 p hp
    exact ⟨by rw [h3]; exact a, by rw [h3]; exact b, by rw [h1, h2, h3, h4, h5]; exact c⟩
  · obtain ⟨a, b, c, d, e, f⟩ := c4 c hc
    exact ⟨by rw [h3]; exact a, by rw [h3, h4]; exact b, by rw [h3]; exact c, by rw [h3]; exact d, by rw [h3]; exact e, by rw [h3]; exact f⟩
  all_goals (first | rw [h3, h4] | rw [h3] | rw [h4]); assumption
theorem CR.blk (r : CR G rw C k cv X W) (hr : cv.room = true) {scope : Scope} (s : Shared) (H : Hp) (c : Addr) (cl : List (Str × Addr)) (fp : List Addr) : CR G rw C k (cv.blk scope) (X.blk s H scope (compEnvC scope cl c X.env) fp) WF :=
  ⟨r.g.same rfl rfl rfl rfl rfl, r.N, r.nd, by show relS scope X.env.scope = relS scope cv.sc; rw [r.sc], fun h => (by cases h), fun _ => r.room hr, r.hu, takesWF, fun h => (by cases h), r.wr, fun sc h => (by cases h; rfl), r.gr.same rfl rfl rfl rfl rfl⟩
def Cv.suite (cv : Cv) : Cv := ⟨cv.N, cv.sc, false, false, cv.fa, cv.wr, cv.ow⟩
theorem CR.suite (r : CR G rw C k cv X W) (a : Addr) (pn : List (Addr × PySem.Obj)) : CR G rw C k cv.suite (X.suite a pn) WF :=
  ⟨r.g.same rfl rfl rfl rfl rfl, r.N, r.nd, r.sc, r.fn, fun h => (by cases h), r.hu, takesWF, fun h => (by cases h), r.wr, r.ow, r.gr.same rfl rfl rfl rfl rfl⟩
theorem CR.tr (r : CR G rw C k cv X W) {W' : WX} (hb : cv.body = true) (pn : List (Addr × PySem.Obj)) (xe : Value → Shared → Prop) (tk : Takes (X.tr pn xe) W') (po : PassesOwn (model X.prog X.w) X.A X.env xe) : CR G rw C k cv (X.tr pn xe) W' :=
  ⟨r.g.same rfl rfl rfl rfl rfl, r.N, r.nd, r.sc, r.fn, r.room, r.hu, tk, fun h => ⟨po, (r.bd h).2⟩, r.wr, r.ow, r.gr.same rfl rfl rfl rfl rfl⟩
def Cv.ro (cv : Cv) : Cv := { cv with wr := false }
theorem CR.ro (r : CR G rw C k cv X W) : CR G.ro false C k cv.ro X W := ⟨r.gr, r.N, r.nd, r.sc, r.fn, r.room, r.hu, r.tk, r.bd, rfl, r.ow, r.gr⟩
theorem CR.roF (r : CR G rw C k cv X W) : CR G.ro false C k cv.ro X WF := ⟨r.gr, r.N, r.nd, r.sc, r.fn, r.room, r.hu, takesWF, r.bd, rfl, r.ow, r.gr⟩
end
end HI
set_option Elab.async false
set_option linter.all false
set_option maxRecDepth 100000
namespace HI
open PySem PySem.Spec PyProof.Rows L2
section
variable (G : GI) (cv : Cv)
def stepA (f : Expr → E → Bool) : List Expr → List E → Bool
  | [], [] => true
  | e :: es, e' :: es' => notStarred e && (f e e' && stepA f es es')
  | _, _ => false
def stepP (f : Expr → E → Bool) : List Expr → List E → Bool
  | [], [] => true
  | e :: es, e' :: es' => f e e' && stepP f es es'
  | _, _ => false
def stepO (f : Expr → E → Bool) : Option Expr → Option E → Bool
  | none, none => true
  | some e, some e' => f e e'
  | _, _ => false
mutual
def chkG : Tg → Expr → Bool
  | .one i, e => (match e with
    | .Name x _ => slot cv i x && loc cv x
    | _ => false)
  | .tup ts, e => (match e with
    | .Tuple es _ _ => cv.room && chkGs ts es
    | _ => false)
def chkGs : List Tg → List Expr → Bool
  | [], es => (match es with
    | [] => true
    | _ => false)
  | t :: ts, es => (match es with
    | e :: es => notStarred e && (chkG t e && chkGs ts es)
    | [] => false)
end
def isTupE : Expr → Bool
  | .Tuple _ _ _ => true
  | _ => false
def stepI (f : Expr → E → Bool) (tg iter : Expr) : It → Bool
  | .seq a => f iter a
  | .range1 a => (match iter with
    | .Call (.Name x _) [e] [] _ => decide (x = "range") && (free G cv "range" && (notStarred e && f e a))
    | _ => false)
  | .range2 a b => (match iter with
    | .Call (.Name x _) [e, d] [] _ => decide (x = "range") && (free G cv "range" && (notStarred e && (notStarred d && (f e a && f d b))))
    | _ => false)
  | .enum a => (match iter with
    | .Call (.Name x _) [e] [] _ => decide (x = "enumerate") && (free G cv "enumerate" && (isTupE tg && (notStarred e && f e a)))
    | _ => false)
  | .zip a b => (match iter with
    | .Call (.Name x _) [e, d] [] _ => decide (x = "zip") && (free G cv "zip" && (isTupE tg && (notStarred e && (notStarred d && (f e a && f d b)))))
    | _ => false)
  | _ => false
def isC : U1 → CmpOp → Const → Bool
  | .isNone, .Is, .none => true
  | .notNone, .IsNot, .none => true
  | .isB b, .Is, .bool c => decide (b = c)
  | .notB b, .IsNot, .bool c => decide (b = c)
  | _, _, _ => false
def un1 : U1 → Str → Bool
  | .len, x => decide (x = "len")
  | .tuple, x => decide (x = "tuple")
  | .list, x => decide (x = "list")
  | .sum, x => decide (x = "sum") && cv.room
  | .str, x => decide (x = "str")
  | .int, x => decide (x = "int")
  | .sorted, x => decide (x = "sorted") && cv.room
  | _, _ => false
def lset (rE : Cv → Expr → E → Bool) (x : Str) (e : Expr) (a : E) : Bool := match e with
  | .Call (.Name y _) [a0] [] _ => decide (x = "len") && (decide (y = "set") && (cv.room && (free G cv "len" && (free G cv "set" && (notStarred a0 && rE cv a0 a)))))
  | _ => false
def lrng (rE : Cv → Expr → E → Bool) (x : Str) (e : Expr) (a : E) : Bool := match e with
  | .Call (.Name y _) [a0] [] _ => decide (x = "list") && (decide (y = "range") && (cv.room && (free G cv "list" && (free G cv "range" && (notStarred a0 && rE cv a0 a)))))
  | _ => false
def arO : B2 → Operator → Bool
  | .add, .Add => true
  | .sub, .Sub => true
  | .mul, .Mult => true
  | .fdiv, .FloorDiv => true
  | .mod, .Mod => true
  | .pow, .Pow => true
  | _, _ => false
def cmO : B2 → CmpOp → Bool
  | .eq, .Eq => true
  | .ne, .NotEq => true
  | .lt, .Lt => true
  | .le, .LtE => true
  | .gt, .Gt => true
  | .ge, .GtE => true
  | .isin, .In => true
  | .notin, .NotIn => true
  | .eqD, .Eq => true
  | .neD, .NotEq => true
  | _, _ => false
def mt2 (op : B2) (m : Str) (a b : E) : Bool := match op with
  | .count => decide (m = "count") && litE b
  | .splitT => decide (m = "split") && litE b
  | .joinT => decide (m = "join") && litS a
  | _ => false
def litC (e : Expr) : Val → Bool
  | .non => (match e with | .Constant .none _ _ => true | _ => false)
  | .bool b => (match e with | .Constant (.bool c) _ _ => decide (b = c) | _ => false)
  | .int i => (match e with
    | .Constant (.int j) _ _ => decide (i = j)
    | .Name x _ => glb cv x && decide ((x, i) ∈ G.cis)
    | _ => false)
  | .str s => (match e with
    | .Constant (.str j) _ _ => decide (s = j)
    | .Name x _ => glb cv x && decide ((x, s) ∈ G.css)
    | .BinOp (.Constant (.str j) _ _) .Mult (.Constant (.int n) _ _) _ => decide (2 ≤ n) && (decide (n ≤ 1000) && (decide (1 ≤ j.length) && (decide (j.length ≤ 1000) && decide (s = repS j n))))
    | _ => false)
  | _ => false
def ownS (tg : Tg) : List (Str × Nat) := (tgS tg).map fun i => (cv.N.getD i Str.empty, i)
def stepC (rE rT : Cv → Expr → E → Bool) (e : Expr) (tg : Tg) (it : It) (cond : Option E) (elt : E) : Bool := match e with
  | .ListComp el [⟨t, iter, ifs, a⟩] scope _ => decide (a = 0) && (cv.room && (notSet iter && (stepI G cv (rE cv) t iter it && (blkC cv.N cv.sc scope (ownS cv tg) && (chkG (cv.blk scope) tg t &&
      ((match ifs, cond with
        | [], none => true
        | [c], some c' => rT (cv.blk scope) c c'
        | _, _ => false) && rE (cv.blk scope) el elt))))))
  | _ => false
def stepE (rE rT : Cv → Expr → E → Bool) (rK : Bool → Cv → Expr → Tg → E → Option E → E → Bool) (e : Expr) (e' : E) : Bool := isBad e' || match e with
  | .BoolOp _ [a] _ => rE cv a e'
  | .BoolOp .And (a :: b :: rest) p => (match e' with
    | .and a' b' => rE cv a a' && rE cv (.BoolOp .And (b :: rest) p) b'
    | _ => false)
  | .BoolOp .Or (a :: b :: rest) p => (match e' with
    | .or a' b' => rE cv a a' && rE cv (.BoolOp .Or (b :: rest) p) b'
    | _ => false)
  | e => (match e' with
    | .var i => (match e with
      | .Name x _ => slot cv i x && vis cv x
      | _ => false)
    | .lit v => litC G cv e v
    | .un op a => (match e with
      | .Call (.Name x _) [a0] [] _ => if op = .lenSet then lset G cv rE x a0 a else if op = .rangeL then lrng G cv rE x a0 a else un1 cv op x && (free G cv x && (notStarred a0 && rE cv a0 a))
      | .UnaryOp .USub a0 _ => decide (op = .neg) && rE cv a0 a
      | .Compare a0 [c] [.Constant k _ _] _ => isC op c k && rE cv a0 a
      | _ => false)
    | .bin op a b => (match e with
      | .BinOp a0 o b0 _ => arO op o && (rE cv a0 a && rE cv b0 b)
      | .Compare a0 [c] [b0] _ => cmO op c && (notSet b0 && (rE cv a0 a && rE cv b0 b))
      | .Subscript a0 b0 _ => decide (op = .item) && (notSlice b0 && (rE cv a0 a && rE cv b0 b))
      | .Call (.Name x _) [.Call (.Name y _) [a0, b0] [] _] [] _ => decide (op = .zipL) && (decide (x = "list") && (decide (y = "zip") && (cv.room && (free G cv "list" && (free G cv "zip" && (notStarred a0 && (notStarred b0 && (rE cv a0 a && rE cv b0 b))))))))
      | .Call (.Name x _) [a0, b0] [] _ => decide (op = .min2) && (decide (x = "min") && (cv.room && (free G cv "min" && (notStarred a0 && (notStarred b0 && (rE cv a0 a && rE cv b0 b))))))
      | .Call (.Attribute o m ap) [k] [] cp => mt2 op m a b && (notCall0 o && (notStarred k && ((ap.endLine == cp.line) && (rE cv o a && rE cv k b))))
      | _ => false)
    | .chain o1 o2 a b c => (match e with
      | .Compare a0 [c1, c2] [b0, d0] _ => cmO o1 c1 && (cmO o2 c2 && (notSet d0 && (rE cv a0 a && (rE cv b0 b && rE cv d0 c))))
      | _ => false)
    | .not a => (match e with
      | .UnaryOp .Not a0 _ => rE cv a0 a
      | _ => false)
    | .ite c a b => (match e with
      | .IfExp c0 a0 b0 _ => rT cv c0 c && (rE cv a0 a && rE cv b0 b)
      | _ => false)
    | .tup es => (match e with
      | .Tuple l _ _ => decide (es.length ≤ 1000) && stepA (rE cv) l es
      | _ => false)
    | .lst es => (match e with
      | .List l _ => decide (es.length ≤ 1000) && stepA (rE cv) l es
      | _ => false)
    | .box es => (match e with
      | .List l _ => decide (es.length ≤ 1000) && stepA (rE cv) l es
      | _ => false)
    | .slice a lo hi => (match e with
      | .Subscript a0 (.Slice l0 h0 none _) _ => rE cv a0 a && (stepO (rE cv) l0 lo && stepO (rE cv) h0 hi)
      | _ => false)
    | .comp tg it cond elt => stepC G cv rE rT e tg it cond elt || (match it with
      | .keys a => rK false cv e tg a cond elt
      | .values a => rK true cv e tg a cond elt
      | _ => false)
    | .itemsS a => (match e with
      | .Call (.Name x _) [.Call (.Attribute o m ap) [] [] cp] [] _ => decide (x = "sorted") && (decide (m = "items") && (cv.wr && (cv.room && (free G cv "sorted" && (notCall0 o && ((ap.endLine == cp.line) && rE cv o a))))))
      | _ => false)
    | .boxc tg it cond elt => stepC G cv rE rT e tg it cond elt
    | .call f es => (match e with
      | .Call (.Name x _) (a :: l) [] _ => decide (x = f) && (decide (x ∈ G.fns) && (glb cv x && (cv.room && stepA (rE cv) (a :: l) es)))
      | _ => false)
    | .meth a c m es => (match e with
      | .Call (.Attribute o m0 ap) l [] cp => decide (m0 = m) && (decide ((c, m0) ∈ G.mes) && (notCall0 o && (decide (l.length < 30) && ((ap.endLine == cp.line) && (cv.room && (rE cv o a && stepA (rE cv) l es))))))
      | _ => false)
    | .make c es => (match e with
      | .Call (.Name x _) (a :: l) [] _ => decide (x = c) && (decide (x ∈ G.mks) && (glb cv x && (cv.room && stepA (rE cv) (a :: l) es)))
      | _ => false)
    | .fld a f => (match e with
      | .Attribute a0 f0 _ => decide (f0 = f) && (decide (f0 ∈ G.flds) && (notCall0 a0 && rE cv a0 a))
      | _ => false)
    | .isI a t => (match e with
      | .Call (.Name x _) [a0, .Name t0 _] [] _ => decide (x = "isinstance") && (decide (t0 = t) && (free G cv "isinstance" && (glb cv t0 && (decide (t0 ∈ G.isi) && (notStarred a0 && rE cv a0 a)))))
      | _ => false)
    | .inG neg a g vs => (match e with
      | .Compare a0 [c] [.Name x _] _ => decide (c = opIn neg) && (decide (x = g) && (glb cv x && (decide ((x, vs) ∈ G.tups) && (fines 59 (vs.map Val.str) && rE cv a0 a))))
      | _ => false)
    | .newD ks vs => (match e with
      | .Dict keys values _ => keysL keys ks && (stepP (rE cv) values vs && (decide (ks.length = vs.length) && (!ks.isEmpty && decide (ks.length ≤ 15))))
      | _ => false)
    | .get2 a b c => (match e with
      | .Call (.Attribute o m ap) [k, d] [] cp => decide (m = "get") && (notCall0 o && (notStarred k && (notStarred d && ((ap.endLine == cp.line) && (rE cv o a && (rE cv k b && rE cv d c))))))
      | _ => false)
    | .dlook ks vs k d => (match e with
      | .Call (.Attribute (.Dict [some (.Constant (.str s1) j1 p1), some (.Constant .none j2 p2)] [.Constant (.str v1) j3 p3, .Constant (.str v2) j4 p4] pos) m ap) [k0, d0] [] cp => (match ks, vs, d with
        | [some s1', none], [.lit (.str v1'), .lit (.str v2')], some d' => decide (m = "get") && (decide (s1' = s1) && (decide (v1' = v1) && (decide (v2' = v2) && (notCall0 (.Dict [some (.Constant (.str s1) j1 p1), some (.Constant .none j2 p2)] [.Constant (.str v1) j3 p3, .Constant (.str v2) j4 p4] pos) && (notStarred k0 && (notStarred d0 && ((ap.endLine == cp.line) && (rE cv k0 k && rE cv d0 d'))))))))
        | _, _, _ => false)
      | _ => false)
    | .pop a b => (match e with
      | .Call (.Attribute o m ap) [k] [] cp => decide (m = "pop") && (cv.wr && (notCall0 o && (notStarred k && ((ap.endLine == cp.line) && (rE cv o a && rE cv k b)))))
      | _ => false)
    | .boxa a b => (match e with
      | .BinOp a0 .Add b0 _ => rE cv a0 a && rE cv b0 b
      | _ => false)
    | .dictOf a => (match e with
      | .Call (.Name x _) [a0] [] _ => decide (x = "dict") && (free G cv "dict" && (cv.room && (notStarred a0 && rE cv a0 a)))
      | _ => false)
    | .newK => (match e with
      | .Dict [] [] _ => true
      | _ => false)
    | .newT => (match e with
      | .Dict [] [] _ => true
      | _ => false)
    | _ => false)
def stepT (rE rT rW : Cv → Expr → E → Bool) (e : Expr) (e' : E) : Bool := isBad e' || match e with
  | .BoolOp _ _ _ => rW cv e e'
  | .UnaryOp .Not a0 _ => (match e' with
    | .not a => rT cv a0 a
    | _ => false)
  | .Compare a0 [c] [b0] _ => (match e' with
    | .bin op a b => cmO op c && (notSet b0 && (rE cv a0 a && rE cv b0 b))
    | .un op a => (match b0 with
      | .Constant k _ _ => isC op c k && rE cv a0 a
      | _ => false)
    | .inG neg a g vs => (match b0 with
      | .Name x _ => decide (c = opIn neg) && (decide (x = g) && (glb cv x && (decide ((x, vs) ∈ G.tups) && (fines 59 (vs.map Val.str) && rE cv a0 a))))
      | _ => false)
    | _ => false)
  | .Compare a0 [c1, c2] [b0, d0] _ => (match e' with
    | .chain o1 o2 a b c => cmO o1 c1 && (cmO o2 c2 && (notSet d0 && (rE cv a0 a && (rE cv b0 b && rE cv d0 c))))
    | _ => false)
  | _ => plainT e && (plainTest e' && rE cv e e')
def stepW (rT rW : Cv → Expr → E → Bool) (e : Expr) (e' : E) : Bool := match e with
  | .BoolOp .And [a] _ => rT cv a e'
  | .BoolOp .Or [a] _ => rT cv a e'
  | .BoolOp .And (a :: b :: rest) p => (match e' with
    | .and a' b' => rT cv a a' && rW cv (.BoolOp .And (b :: rest) p) b'
    | _ => false)
  | .BoolOp .Or (a :: b :: rest) p => (match e' with
    | .or a' b' => rT cv a a' && rW cv (.BoolOp .Or (b :: rest) p) b'
    | _ => false)
  | _ => false
end
inductive Md where
  | e | t | w
def chkW (rK : Bool → Cv → Expr → Tg → E → Option E → E → Bool) (G : GI) : Nat → Md → Cv → Expr → E → Bool
  | 0, _, _, _, _ => false
  | n + 1, .e, cv, e, e' => stepE G cv (chkW rK G n .e) (chkW rK G n .t) rK e e'
  | n + 1, .t, cv, e, e' => stepT G cv (chkW rK G n .e) (chkW rK G n .t) (chkW rK G n .w) e e'
  | n + 1, .w, cv, e, e' => stepW cv (chkW rK G n .t) (chkW rK G n .w) e e'
def chk0 (G : GI) : Nat → Md → Cv → Expr → E → Bool := chkW (fun _ _ _ _ _ _ _ => false) G
def itB : Bool → E → It
  | false, a => .keys a
  | true, a => .values a
def itOk (b : Bool) (f : Expr → E → Bool) (iter : Expr) (a : E) : Bool := match b with
  | false => f iter a
  | true => (match iter with
    | .Call (.Attribute o m ap) [] [] cp => decide (m = "values") && (notCall0 o && ((ap.endLine == cp.line) && f o a))
    | _ => false)
def stepK (b : Bool) (rE rT : Cv → Expr → E → Bool) (cv : Cv) (e : Expr) (tg : Tg) (a : E) (cond : Option E) (elt : E) : Bool := match e with
  | .ListComp el [⟨t, iter, ifs, am⟩] scope _ => (!cv.wr || (quietO cond && quiet elt)) && (rdo a && (decide (am = 0) && (cv.room && (notSet iter && (itOk b (rE cv.ro) iter a && (blkC cv.N cv.sc scope (ownS cv tg) && (chkG (cv.ro.blk scope) tg t &&
      ((match ifs, cond with
        | [], none => true
        | [c], some c' => rT (cv.ro.blk scope) c c'
        | _, _ => false) && rE (cv.ro.blk scope) el elt))))))))
  | _ => false
def kyC (G : GI) (b : Bool) : Cv → Expr → Tg → E → Option E → E → Bool := stepK b (chk0 G.ro 40 .e) (chk0 G.ro 40 .t)
def chk (G : GI) : Nat → Md → Cv → Expr → E → Bool := chkW (kyC G) G
section
variable {G : GI} {rw : Bool} {C : CallT} {k : Nat} {cv : Cv} {X : Cx} {W : WX}
def OkE (G : GI) (rw : Bool) (C : CallT) (k : Nat) (f : Cv → Expr → E → Bool) : Prop := ∀ cv X W, CR G rw C k cv X W → ∀ e e', f cv e e' = true → SE X rw C W e e'
def OkT (G : GI) (rw : Bool) (C : CallT) (k : Nat) (f : Cv → Expr → E → Bool) : Prop := ∀ cv X W, CR G rw C k cv X W → ∀ e e', f cv e e' = true → ST X rw C W e e'
def OkW (G : GI) (rw : Bool) (C : CallT) (k : Nat) (f : Cv → Expr → E → Bool) : Prop := ∀ cv X W, CR G rw C k cv X W → ∀ e e', f cv e e' = true → SW X rw C W e e'
variable {rE rT rW : Cv → Expr → E → Bool}
theorem stepA_ok (hE : OkE G rw C k rE) (r : CR G rw C k cv X W) : ∀ {es : List Expr} {es' : List E}, stepA (rE cv) es es' = true → SA X rw C W es es' ∧ es.all notStarred = true ∧ es.length = es'.length
  | [], [], _ => ⟨a_nil, rfl, rfl⟩
  | [], _ :: _, h => by simp [stepA] at h
  | _ :: _, [], h => by simp [stepA] at h
  | e :: es, e' :: es', h => by
    simp only [stepA, Bool.and_eq_true] at h
    obtain ⟨h1, h2, h3⟩ := h
    obtain ⟨a, b, c⟩ := stepA_ok hE r h3
    exact ⟨a_cons h1 (hE cv X W r _ _ h2) a, by simp [h1, b], by simp [c]⟩
theorem stepP_ok (hE : OkE G rw C k rE) (r : CR G rw C k cv X W) : ∀ {es : List Expr} {es' : List E}, stepP (rE cv) es es' = true → Paired (fun e e' => SE X rw C W e e') es es'
  | [], [], _ => .nil
  | [], _ :: _, h => by simp [stepP] at h
  | _ :: _, [], h => by simp [stepP] at h
  | e :: es, e' :: es', h => by
    simp only [stepP, Bool.and_eq_true] at h
    exact .cons (hE cv X W r _ _ h.1) (stepP_ok hE r h.2)
theorem stepO_ok (hE : OkE G rw C k rE) (r : CR G rw C k cv X W) : ∀ {e : Option Expr} {e' : Option E}, stepO (rE cv) e e' = true → PO X e (rdP X.K rw C W e')
  | none, none, _ => o_none
  | some e, some e', h => o_some (hE cv X W r _ _ h)
  | none, some _, h => by simp [stepO] at h
  | some _, none, h => by simp [stepO] at h
mutual
theorem chkG_ok (r : CR G rw C k cv X W) : ∀ {t : Tg} {e : Expr}, chkG cv t e = true → PG X e (rdG X.K rw t)
  | .one i, e, h => by
    simp only [chkG] at h
    split at h
    · obtain ⟨h1, h2⟩ := ba2 h
      exact g_one r.nd (r.slot h1) (r.loc h2).1 (r.loc h2).2
    · cases h
  | .tup ts, e, h => by
    simp only [chkG] at h
    split at h
    · obtain ⟨h1, h2⟩ := ba2 h
      obtain ⟨a, b, c⟩ := chkGs_ok r h2
      exact g_tup (r.room h1).2 a ((allAssign b).1.trans c) (allAssign b).2
    · cases h
theorem chkGs_ok (r : CR G rw C k cv X W) : ∀ {t : List Tg} {e : List Expr}, chkGs cv t e = true → PGs X e (rdGs X.K rw t) ∧ e.all notStarred = true ∧ e.length = t.length
  | [], e, h => by
    simp only [chkGs] at h
    split at h
    · exact ⟨gs_nil, rfl, rfl⟩
    · cases h
  | t :: ts, e, h => by
    simp only [chkGs] at h
    split at h
    · simp only [Bool.and_eq_true] at h
      obtain ⟨h1, h2, h3⟩ := h
      obtain ⟨a, b, c⟩ := chkGs_ok r h3
      exact ⟨gs_cons (chkG_ok r h2) a (by rw [consAssign h1]; rfl), by simp [h1, b], by simp [c]⟩
    · cases h
end
theorem stepI_ok (hE : OkE G rw C k rE) (r : CR G rw C k cv X W) {iter tg : Expr} {it : It} (h : stepI G cv (rE cv) tg iter it = true) : SI X rw C W tg iter it := by
  cases it with
  | seq a => exact i_seq (hE cv X W r _ _ h)
  | range1 a =>
    simp only [stepI] at h
    split at h
    · simp only [Bool.and_eq_true, decide_eq_true_eq] at h
      obtain ⟨rfl, h1, h2, h3⟩ := h
      obtain ⟨g1, g2, g3, g4⟩ := r.free h1
      exact i_range1 g1 g3 h2 (hE cv X W r _ _ h3)
    · cases h
  | range2 a b =>
    simp only [stepI] at h
    split at h
    · simp only [Bool.and_eq_true, decide_eq_true_eq] at h
      obtain ⟨rfl, h1, h2, h2', h3, h4⟩ := h
      obtain ⟨g1, g2, g3, g4⟩ := r.free h1
      exact i_range2 g1 g3 h2 h2' (hE cv X W r _ _ h3) (hE cv X W r _ _ h4)
    · cases h
  | enum a =>
    simp only [stepI] at h
    split at h
    · simp only [Bool.and_eq_true, decide_eq_true_eq] at h
      obtain ⟨rfl, h1, h2, h3, h4⟩ := h
      obtain ⟨g1, g2, g3, g4⟩ := r.free h1
      cases tg <;> try cases h2
      exact i_enum g1 g3 h3 (hE cv X W r _ _ h4)
    · cases h
  | zip a b =>
    simp only [stepI] at h
    split at h
    · simp only [Bool.and_eq_true, decide_eq_true_eq] at h
      obtain ⟨rfl, h1, h2, h3, h4, h5, h6⟩ := h
      obtain ⟨g1, g2, g3, g4⟩ := r.free h1
      cases tg <;> try cases h2
      exact i_zip g1 g3 h3 h4 (hE cv X W r _ _ h5) (hE cv X W r _ _ h6)
    · cases h
  | values a => cases h
  | keys a => cases h
theorem cmO_ok (r : CR G rw C k cv X W) {o : B2} {c : CmpOp} (h : cmO o c = true) : CmpOk X rw W c o ∧ cmpB o = true := by
  have hu := r.hu
  cases o <;> cases c <;> first | (exfalso; exact Bool.noConfusion h) | exact ⟨by first | exact c_lt | exact c_le | exact c_gt | exact c_ge | exact c_eq (by omega) | exact c_ne (by omega) | exact c_in (by omega) | exact c_notin (by omega) | exact c_eqD (by omega) | exact c_neD (by omega), rfl⟩
theorem litC_ok (r : CR G rw C k cv X W) {e : Expr} {v : Val} (h : litC G cv e v = true) : SE X rw C W e (.lit v) := by
  cases v with
  | non =>
    simp only [litC] at h
    split at h
    · exact s_lit pe_non fun _ _ => .non
    · cases h
  | bool b =>
    simp only [litC] at h
    split at h
    · cases of_decide_eq_true h; exact s_lit pe_bl fun _ _ => .bool _
    · cases h
  | int i =>
    simp only [litC] at h
    split at h
    · cases of_decide_eq_true h; exact s_lit pe_int fun _ _ => .int _
    · obtain ⟨h1, h2⟩ := ba2 h
      obtain ⟨t, ht⟩ := r.g.cis _ (of_decide_eq_true h2)
      exact s_lit (pe_glob (v := .int i) (r.glb h1).1 ht ⟨_, rfl⟩ (r.glb h1).2) fun _ _ => .int _
    · cases h
  | str s =>
    simp only [litC] at h
    split at h
    · cases of_decide_eq_true h; exact s_lit pe_str fun _ _ => .str _
    · obtain ⟨h1, h2⟩ := ba2 h
      obtain ⟨t, ht⟩ := r.g.css _ (of_decide_eq_true h2)
      exact s_lit (pe_glob (v := .str s) (r.glb h1).1 ht ⟨_, rfl⟩ (r.glb h1).2) fun _ _ => .str _
    · simp only [Bool.and_eq_true, decide_eq_true_eq] at h
      obtain ⟨h1, h2, h3, h4, rfl⟩ := h
      exact s_mulS h1 h2 h3 h4
    · cases h
  | tup _ => cases h
  | lst _ => cases h
  | scr _ => cases h
  | loc _ => cases h
theorem isC_ok (r : CR G rw C k cv X W) {op : U1} {c : CmpOp} {kk : Const} {j : Nat} {p pos : Pos} {a0 : Expr} {a : E} (h : isC op c kk = true) (ha : SE X rw C W a0 a) : SE X rw C W (.Compare a0 [c] [.Constant kk j p] pos) (.un op a) ∧ ST X rw C W (.Compare a0 [c] [.Constant kk j p] pos) (.un op a) := by
  unfold isC at h
  split at h
  · exact ⟨s_isNone ha, t_isNone ha⟩
  · exact ⟨s_notNone ha, t_notNone ha⟩
  · cases of_decide_eq_true h; exact ⟨s_isB ha, t_isB ha⟩
  · cases of_decide_eq_true h; exact ⟨s_notB ha, t_notB ha⟩
  · cases h
theorem un1_ok (r : CR G rw C k cv X W) {op : U1} {x : Str} {a0 : Expr} {a : E} {p pos : Pos} (h : un1 cv op x = true) (hf : HI.free G cv x = true) (ns : notStarred a0 = true) (ha : SE X rw C W a0 a) : SE X rw C W (.Call (.Name x p) [a0] [] pos) (.un op a) := by
  obtain ⟨g1, g2, g3, g4⟩ := r.free hf
  cases op <;> simp only [un1, Bool.and_eq_true, decide_eq_true_eq, Bool.false_eq_true] at h
  · subst h; exact s_un1 call_len g1 g3 rfl ns ha (fun m H S x u Q σ hS rx hh => k_len hS rx hh) g4 g2
  · subst h; exact s_unT call_tuple_of g1 g3 rfl ns ha (fun m H S x u Q σ hS rx hh => k_tuple hS rx hh) g4 g2
  · subst h; exact s_unT call_list_of g1 g3 rfl ns ha (fun m H S x u Q σ hS rx hh => k_list hS rx hh) g4 g2
  · obtain ⟨rfl, h⟩ := h; exact s_un1 (cr_sortAll (r.room h).2) g1 g3 rfl ns ha (fun m H S x u Q σ hS rx hh => k_sorted hS rx hh) g4 g2
  · obtain ⟨rfl, h⟩ := h; exact s_un1 (cr_sum (r.room h).2) g1 g3 rfl ns ha (fun m H S x u Q σ hS rx hh => k_sum hS rx hh) g4 g2
  · subst h; exact s_unT (call_str_int.or SkE.call_str_str) g1 g3 rfl ns ha (fun m H S x u Q σ hS rx hh => k_str hS rx hh) g4 g2
  · subst h; exact s_unT (call_int1.or call_int_str) g1 g3 rfl ns ha (fun m H S x u Q σ hS rx hh => k_int hS rx hh) g4 g2
theorem lset_ok {rE : Cv → Expr → E → Bool} (hE : OkE G rw C k rE) (r : CR G rw C k cv X W) {x : Str} {e : Expr} {a : E} {p pos : Pos} (h : lset G cv rE x e a = true) : SE X rw C W (.Call (.Name x p) [e] [] pos) (.un .lenSet a) := by
  unfold lset at h
  split at h
  · simp only [Bool.and_eq_true, decide_eq_true_eq] at h
    obtain ⟨rfl, rfl, h3, h4, h5, h6, h7⟩ := h
    obtain ⟨g1, g2, g3, g4⟩ := r.free h4
    obtain ⟨f1, f2, f3, f4⟩ := r.free h5
    exact s_lenSet (r.room h3).2 (r.room h3).1.units g1 g3 f1 f3 h6 (hE cv X W r _ _ h7)
  · cases h
theorem lrng_ok {rE : Cv → Expr → E → Bool} (hE : OkE G rw C k rE) (r : CR G rw C k cv X W) {x : Str} {e : Expr} {a : E} {p pos : Pos} (h : lrng G cv rE x e a = true) : SE X rw C W (.Call (.Name x p) [e] [] pos) (.un .rangeL a) := by
  unfold lrng at h
  split at h
  · simp only [Bool.and_eq_true, decide_eq_true_eq] at h
    obtain ⟨rfl, rfl, h3, h4, h5, h6, h7⟩ := h
    obtain ⟨g1, g2, g3, g4⟩ := r.free h4
    obtain ⟨f1, f2, f3, f4⟩ := r.free h5
    exact s_rangeL (r.room h3).2 g1 g3 f1 f3 h6 (hE cv X W r _ _ h7)
  · cases h
theorem own_ix {tg : Tg} : (ownS cv tg).map (·.2) = tgS tg := by
  unfold ownS
  rw [List.map_map]
  exact List.map_id _
theorem stepC_ok (hE : OkE G rw C k rE) (hT : OkT G rw C k rT) (r : CR G rw C k cv X W) {e : Expr} {tg : Tg} {it : It} {cond : Option E} {elt : E} (h : stepC G cv rE rT e tg it cond elt = true) :
    ∃ el t iter ifs scope pos, e = .ListComp el [⟨t, iter, ifs, 0⟩] scope pos ∧ X.calm = true ∧ (∀ x, foldedSetIterable iter X.env x = pure x) ∧ SI X rw C W t iter it ∧ BlkOk X.N X.env.scope scope (ownS cv tg) ∧
      (∀ (s : Shared) (H : Hp) (c : Addr) (cl : List (Str × Addr)) (fp : List Addr), PG (X.blk s H scope (compEnvC scope cl c X.env) fp) t (rdG X.K rw tg)) ∧
      (∀ (s : Shared) (H : Hp) (c : Addr) (cl : List (Str × Addr)) (fp : List Addr), PTs (X.blk s H scope (compEnvC scope cl c X.env) fp) ifs (rdC X.K rw C cond)) ∧
      (∀ (s : Shared) (H : Hp) (c : Addr) (cl : List (Str × Addr)) (fp : List Addr), PE (X.blk s H scope (compEnvC scope cl c X.env) fp) el (rdE X.K rw C WF elt)) := by
  unfold stepC at h
  split at h
  · rename_i el t iter ifs a scope pos
    simp only [Bool.and_eq_true, decide_eq_true_eq] at h
    obtain ⟨rfl, h1, h2, h3, h4, h5, h6, h7⟩ := h
    refine ⟨el, t, iter, ifs, scope, pos, rfl, (r.room h1).2, noSetI h2 _, stepI_ok hE r h3, by rw [r.N, r.sc]; exact blkOk_by h4, fun s H c cl fp => chkG_ok (r.blk h1 s H c cl fp) h5, fun s H c cl fp => ?_, fun s H c cl fp => hE _ _ _ (r.blk h1 s H c cl fp) _ _ h7⟩
    split at h6
    · exact tc_nil (X := X.blk s H scope (compEnvC scope cl c X.env) fp)
    · exact tc_one (X := X.blk s H scope (compEnvC scope cl c X.env) fp) (hT _ _ _ (r.blk h1 s H c cl fp) _ _ h6)
    · cases h6
  · cases h
theorem stepE_ok {rK : Bool → Cv → Expr → Tg → E → Option E → E → Bool} (hE : OkE G rw C k rE) (hT : OkT G rw C k rT) (hK : ∀ b cv X W, CR G rw C k cv X W → ∀ e tg a cond elt, rK b cv e tg a cond elt = true → SE X rw C W e (.comp tg (itB b a) cond elt)) (r : CR G rw C k cv X W) {e : Expr} {e' : E} (h : stepE G cv rE rT rK e e' = true) : SE X rw C W e e' := by
  have hu := r.hu
  unfold stepE at h
  rw [Bool.or_eq_true] at h
  rcases h with h | h
  · exact s_bad h
  split at h
  · exact s_one (hE cv X W r _ _ h)
  · split at h
    · obtain ⟨h1, h2⟩ := ba2 h; exact s_and (hE cv X W r _ _ h1) (hE cv X W r _ _ h2)
    · cases h
  · split at h
    · obtain ⟨h1, h2⟩ := ba2 h; exact s_or (hE cv X W r _ _ h1) (hE cv X W r _ _ h2)
    · cases h
  · cases e' with
    | var i =>
      simp only at h
      split at h
      · obtain ⟨h1, h2⟩ := ba2 h
        obtain ⟨g1, g2, g3⟩ := r.vis h2
        exact s_var (r.slot h1) g1 g2 g3
      · cases h
    | lit v => exact litC_ok r h
    | un op a =>
      simp only at h
      split at h
      · split at h
        · rename_i ho
          subst ho
          exact lset_ok hE r h
        split at h
        · rename_i ho
          subst ho
          exact lrng_ok hE r h
        · simp only [Bool.and_eq_true] at h
          obtain ⟨h1, h2, h3, h4⟩ := h
          exact un1_ok r h1 h2 h3 (hE cv X W r _ _ h4)
      · simp only [Bool.and_eq_true, decide_eq_true_eq] at h
        obtain ⟨rfl, h2⟩ := h
        exact s_neg (hE cv X W r _ _ h2)
      · obtain ⟨h1, h2⟩ := ba2 h
        exact (isC_ok r h1 (hE cv X W r _ _ h2)).1
      · cases h
    | bin op a b =>
      simp only at h
      split at h
      · simp only [Bool.and_eq_true] at h
        obtain ⟨h1, h2, h3⟩ := h
        have ha := hE cv X W r _ _ h2
        have hb := hE cv X W r _ _ h3
        unfold arO at h1
        split at h1
        · exact s_add ha hb
        · exact s_sub ha hb
        · exact s_mul ha hb
        · exact s_fdiv ha hb
        · exact s_mod ha hb
        · exact s_pow ha hb
        · cases h1
      · simp only [Bool.and_eq_true] at h
        obtain ⟨h1, h2, h3, h4⟩ := h
        exact s_cmp (cmO_ok r h1).1 (notMarks h2 _) (hE cv X W r _ _ h3) (hE cv X W r _ _ h4)
      · simp only [Bool.and_eq_true, decide_eq_true_eq] at h
        obtain ⟨rfl, h2, h3, h4⟩ := h
        exact s_item (by omega) (plainIx h2) (noSl h2) (hE cv X W r _ _ h3) (hE cv X W r _ _ h4)
      · simp only [Bool.and_eq_true, decide_eq_true_eq] at h
        obtain ⟨rfl, rfl, rfl, h0, h1, h6, h2, h3, h4, h5⟩ := h
        obtain ⟨g1, g2, g3, g4⟩ := r.free h1
        obtain ⟨f1, f2, f3, f4⟩ := r.free h6
        exact s_zipL (r.room h0).2 g1 g3 f1 f3 h2 h3 (hE cv X W r _ _ h4) (hE cv X W r _ _ h5)
      · simp only [Bool.and_eq_true, decide_eq_true_eq] at h
        obtain ⟨rfl, rfl, h0, h1, h2, h3, h4, h5⟩ := h
        obtain ⟨g1, g2, g3, g4⟩ := r.free h1
        exact s_min2 (r.room h0).2 g1 g3 h2 h3 (hE cv X W r _ _ h4) (hE cv X W r _ _ h5)
      · simp only [Bool.and_eq_true] at h
        obtain ⟨h1, h2, h3, h4, h5, h6⟩ := h
        have ha := hE cv X W r _ _ h5
        have hb := hE cv X W r _ _ h6
        unfold mt2 at h1
        split at h1
        · simp only [Bool.and_eq_true, decide_eq_true_eq] at h1
          obtain ⟨rfl, h7⟩ := h1
          exact s_count h7 (by omega) h2 h3 h4 ha hb
        · simp only [Bool.and_eq_true, decide_eq_true_eq] at h1
          obtain ⟨rfl, h7⟩ := h1
          exact s_split h7 h2 h3 h4 ha hb
        · simp only [Bool.and_eq_true, decide_eq_true_eq] at h1
          obtain ⟨rfl, h7⟩ := h1
          exact s_join h7 h2 h3 h4 ha hb
        · cases h1
      · cases h
    | itemsS a =>
      simp only at h
      split at h
      · simp only [Bool.and_eq_true, decide_eq_true_eq] at h
        obtain ⟨rfl, rfl, h0, h1, h2, h3, h4, h5⟩ := h
        obtain ⟨g1, g2, g3, g4⟩ := r.free h2
        exact s_itemsS (r.wr.symm.trans h0) (r.room h1).2 g1 g3 h3 h4 (hE cv X W r _ _ h5)
      · cases h
    | chain o1 o2 a b c =>
      simp only at h
      split at h
      · simp only [Bool.and_eq_true] at h
        obtain ⟨h1, h2, h3, h4, h5, h6⟩ := h
        exact s_chain' (cmO_ok r h1).1 (cmO_ok r h2).1 (cmO_ok r h1).2 (notMarks h3 _) (hE cv X W r _ _ h4) (hE cv X W r _ _ h5) (hE cv X W r _ _ h6)
      · cases h
    | not a =>
      simp only at h
      split at h
      · exact s_not (hE cv X W r _ _ h)
      · cases h
    | ite c a b =>
      simp only at h
      split at h
      · simp only [Bool.and_eq_true] at h
        obtain ⟨h1, h2, h3⟩ := h
        exact s_ite (hT cv X W r _ _ h1) (hE cv X W r _ _ h2) (hE cv X W r _ _ h3)
      · cases h
    | tup es =>
      simp only at h
      split at h
      · obtain ⟨h1, h2⟩ := ba2 h
        exact s_tup (of_decide_eq_true h1) (stepA_ok hE r h2).1
      · cases h
    | lst es =>
      simp only at h
      split at h
      · obtain ⟨h1, h2⟩ := ba2 h
        exact s_lst (of_decide_eq_true h1) (stepA_ok hE r h2).1
      · cases h
    | box es =>
      simp only at h
      split at h
      · obtain ⟨h1, h2⟩ := ba2 h
        exact s_box (of_decide_eq_true h1) (stepA_ok hE r h2).1
      · cases h
    | slice a lo hi =>
      simp only at h
      split at h
      · simp only [Bool.and_eq_true] at h
        obtain ⟨h1, h2, h3⟩ := h
        exact s_slice (hE cv X W r _ _ h1) (stepO_ok hE r h2) (stepO_ok hE r h3)
      · cases h
    | comp tg it cond elt =>
      simp only [Bool.or_eq_true] at h
      rcases h with h | h
      rotate_left
      · split at h
        · exact hK false cv X W r _ _ _ _ _ h
        · exact hK true cv X W r _ _ _ _ _ h
        · cases h
      obtain ⟨el, t, iter, ifs, scope, pos, rfl, c1, c2, c3, c4, c5, c6, c7⟩ := stepC_ok hE hT r h
      exact s_comp c1 r.nd c3 c4 c5 c6 c7 (by rw [own_ix]; exact fun _ z => z) (by rw [own_ix]; exact fun _ z => z) c2
    | boxc tg it cond elt =>
      obtain ⟨el, t, iter, ifs, scope, pos, rfl, c1, c2, c3, c4, c5, c6, c7⟩ := stepC_ok hE hT r h
      exact s_boxc c1 r.nd c3 c4 c5 c6 c7 (by rw [own_ix]; exact fun _ z => z) (by rw [own_ix]; exact fun _ z => z) c2
    | call f es =>
      simp only at h
      split at h
      · simp only [Bool.and_eq_true, decide_eq_true_eq] at h
        obtain ⟨rfl, h1, h2, h3, h4⟩ := h
        obtain ⟨f, fd, ps, F, hm, hk, hb⟩ := r.g.call _ h1
        obtain ⟨a1, a2, a3⟩ := stepA_ok hE r h4
        exact s_call F ((r.room h3).1.mono (Nat.le_succ _)) (r.glb h2).1 hm hk hb r.tk a2 a1 (r.glb h2).2
      · cases h
    | meth a c m es =>
      simp only at h
      split at h
      · simp only [Bool.and_eq_true, decide_eq_true_eq] at h
        obtain ⟨rfl, h1, h2, h3, h4, h5, h6, h7⟩ := h
        obtain ⟨a1, a2, a3⟩ := stepA_ok hE r h7
        exact s_meth h2 a2 h3 h4 ((r.room h5).1.mono (Nat.le_succ _)) r.tk (r.g.meth _ h1) (hE cv X W r _ _ h6) a1 a3
      · cases h
    | make c es =>
      simp only at h
      split at h
      · simp only [Bool.and_eq_true, decide_eq_true_eq] at h
        obtain ⟨rfl, h1, h2, h3, h4⟩ := h
        obtain ⟨a1, a2, a3⟩ := stepA_ok hE r h4
        exact s_make a2 (r.room h3).1 r.tk (r.g.make _ h1) (r.glb h2).1 (r.glb h2).2 a1
      · cases h
    | fld a f =>
      simp only at h
      split at h
      · simp only [Bool.and_eq_true, decide_eq_true_eq] at h
        obtain ⟨rfl, h1, h2, h3⟩ := h
        exact s_fld (noSuper_of h2 _ _) (r.g.flds _ h1) (hE cv X W r _ _ h3)
      · cases h
    | isI a t =>
      simp only at h
      split at h
      · simp only [Bool.and_eq_true, decide_eq_true_eq] at h
        obtain ⟨rfl, rfl, h1, h2, h3, h4, h5⟩ := h
        obtain ⟨u, w, c1, c2, c3, c4, c5⟩ := r.g.isi _ h3
        obtain ⟨g1, g2, g3, g4⟩ := r.free h1
        refine s_isI g1 g3 h4 rfl (hE cv X W r _ _ h5) ?_ c1 c2 c3 rfl
        rcases c5 with c5 | ⟨c5, c6, c7⟩
        · exact pe_glob (r.glb h2).1 c5 c4 (r.glb h2).2
        · exact pe_bltn (r.glb h2).1 c5 c6 c4 c7 (r.glb h2).2
      · cases h
    | inG neg a g vs =>
      simp only at h
      split at h
      · simp only [Bool.and_eq_true, decide_eq_true_eq] at h
        obtain ⟨rfl, rfl, h1, h2, h3, h4⟩ := h
        obtain ⟨g1, g2⟩ := r.g.tups _ h2
        exact s_inG (by omega) (r.glb h1).1 (r.glb h1).2 g1 g2 h3 (hE cv X W r _ _ h4)
      · cases h
    | newD ks vs =>
      simp only at h
      split at h
      · simp only [Bool.and_eq_true, decide_eq_true_eq] at h
        obtain ⟨h1, h2, h3, h4, h5⟩ := h
        exact s_newD h1 (stepP_ok hE r h2) h3 (by intro z; subst z; cases h4) h5
      · cases h
    | get2 a b c =>
      simp only at h
      split at h
      · simp only [Bool.and_eq_true, decide_eq_true_eq] at h
        obtain ⟨rfl, h1, h2, h3, h4, h5, h6, h7⟩ := h
        exact s_get2 (by omega) h1 h2 h3 h4 (hE cv X W r _ _ h5) (hE cv X W r _ _ h6) (hE cv X W r _ _ h7)
      · cases h
    | dlook ks vs k0 d =>
      simp only at h
      split at h
      · split at h
        · simp only [Bool.and_eq_true, decide_eq_true_eq] at h
          obtain ⟨rfl, rfl, rfl, rfl, h1, h2, h3, h4, h5, h6⟩ := h
          exact s_dlook h2 h3 h4 h1 (hE cv X W r _ _ h5) (hE cv X W r _ _ h6)
        · cases h
      · cases h
    | pop a b =>
      simp only at h
      split at h
      · simp only [Bool.and_eq_true, decide_eq_true_eq] at h
        obtain ⟨rfl, h0, h1, h2, h3, h4, h5⟩ := h
        exact s_pop (r.wr.symm.trans h0) (by omega) h1 h2 h3 (hE cv X W r _ _ h4) (hE cv X W r _ _ h5)
      · cases h
    | boxa a b =>
      simp only at h
      split at h
      · obtain ⟨h1, h2⟩ := ba2 h
        exact s_boxa (hE cv X W r _ _ h1) (hE cv X W r _ _ h2)
      · cases h
    | dictOf a =>
      simp only at h
      split at h
      · simp only [Bool.and_eq_true, decide_eq_true_eq] at h
        obtain ⟨rfl, h1, h2, h3, h4⟩ := h
        obtain ⟨g1, g2, g3, g4⟩ := r.free h1
        exact s_dictOf (r.room h2).2 g1 g3 h3 (hE cv X W r _ _ h4)
      · cases h
    | newK =>
      simp only at h
      split at h
      · exact s_newK
      · cases h
    | newT =>
      simp only at h
      split at h
      · exact s_newT
      · cases h
    | _ => simp at h
theorem stepT_ok (hE : OkE G rw C k rE) (hT : OkT G rw C k rT) (hW : OkW G rw C k rW) (r : CR G rw C k cv X W) {e : Expr} {e' : E} (h : stepT G cv rE rT rW e e' = true) : ST X rw C W e e' := by
  unfold stepT at h
  rw [Bool.or_eq_true] at h
  rcases h with h | h
  · exact t_bad h
  split at h
  · exact PW.pt (hW cv X W r _ _ h)
  · split at h
    · exact t_not (hT cv X W r _ _ h)
    · cases h
  · split at h
    · simp only [Bool.and_eq_true] at h
      obtain ⟨h1, h2, h3, h4⟩ := h
      exact t_cmp (cmO_ok r h1).1 (cmO_ok r h1).2 (notMarks h2 _) (hE cv X W r _ _ h3) (hE cv X W r _ _ h4)
    · split at h
      · obtain ⟨h1, h2⟩ := ba2 h
        exact (isC_ok r h1 (hE cv X W r _ _ h2)).2
      · cases h
    · split at h
      · simp only [Bool.and_eq_true, decide_eq_true_eq] at h
        obtain ⟨rfl, rfl, h1, h2, h3, h4⟩ := h
        obtain ⟨g1, g2⟩ := r.g.tups _ h2
        have hu := r.hu
        exact t_inG (by omega) (r.glb h1).1 (r.glb h1).2 g1 g2 h3 (hE cv X W r _ _ h4)
      · cases h
    · cases h
  · split at h
    · simp only [Bool.and_eq_true] at h
      obtain ⟨h1, h2, h3, h4, h5, h6⟩ := h
      exact t_chain (cmO_ok r h1).1 (cmO_ok r h2).1 (cmO_ok r h1).2 (cmO_ok r h2).2 (notMarks h3 _) (hE cv X W r _ _ h4) (hE cv X W r _ _ h5) (hE cv X W r _ _ h6)
    · cases h
  · simp only [Bool.and_eq_true] at h
    obtain ⟨h1, h2, h3⟩ := h
    exact t_val h2 (fun w => plain_isTrue h1 _ w) (hE cv X W r _ _ h3)
theorem stepW_ok (hT : OkT G rw C k rT) (hW : OkW G rw C k rW) (r : CR G rw C k cv X W) {e : Expr} {e' : E} (h : stepW cv rT rW e e' = true) : SW X rw C W e e' := by
  unfold stepW at h
  split at h
  · exact w_and1 (hT cv X W r _ _ h)
  · exact w_or1 (hT cv X W r _ _ h)
  · split at h
    · obtain ⟨h1, h2⟩ := ba2 h; exact w_and (hT cv X W r _ _ h1) (hW cv X W r _ _ h2)
    · cases h
  · split at h
    · obtain ⟨h1, h2⟩ := ba2 h; exact w_or (hT cv X W r _ _ h1) (hW cv X W r _ _ h2)
    · cases h
  · cases h
theorem chkW_ok {rK : Bool → Cv → Expr → Tg → E → Option E → E → Bool} (hK : ∀ b cv X W, CR G rw C k cv X W → ∀ e tg a cond elt, rK b cv e tg a cond elt = true → SE X rw C W e (.comp tg (itB b a) cond elt)) : ∀ n, OkE G rw C k (chkW rK G n .e) ∧ OkT G rw C k (chkW rK G n .t) ∧ OkW G rw C k (chkW rK G n .w)
  | 0 => ⟨fun _ _ _ _ _ _ h => by simp [chkW] at h, fun _ _ _ _ _ _ h => by simp [chkW] at h, fun _ _ _ _ _ _ h => by simp [chkW] at h⟩
  | n + 1 => by
    obtain ⟨h1, h2, h3⟩ := chkW_ok hK n
    exact ⟨fun cv X W r e e' h => stepE_ok h1 h2 hK r h, fun cv X W r e e' h => stepT_ok h1 h2 h3 r h, fun cv X W r e e' h => stepW_ok h2 h3 r h⟩
theorem chk0_ok (n : Nat) : OkE G rw C k (chk0 G n .e) ∧ OkT G rw C k (chk0 G n .t) ∧ OkW G rw C k (chk0 G n .w) := chkW_ok (fun _ _ _ _ _ _ _ _ _ _ h => by cases h) n
theorem stepK_ok {b : Bool} (hE : OkE G.ro false C k rE) (hT : OkT G.ro false C k rT) (r : CR G rw C k cv X W) {e : Expr} {tg : Tg} {a : E} {cond : Option E} {elt : E} (h : stepK b rE rT cv e tg a cond elt = true) :
    ∃ el t iter ifs scope pos, e = .ListComp el [⟨t, iter, ifs, 0⟩] scope pos ∧ (rw = true → quietO cond = true ∧ quiet elt = true) ∧ rdo a = true ∧ X.calm = true ∧ (∀ x, foldedSetIterable iter X.env x = pure x) ∧ (CR G.ro false C k cv.ro X W ∧ itOk b (rE cv.ro) iter a = true) ∧ BlkOk X.N X.env.scope scope (ownS cv tg) ∧
      (∀ (s : Shared) (H : Hp) (c : Addr) (cl : List (Str × Addr)) (fp : List Addr), PG (X.blk s H scope (compEnvC scope cl c X.env) fp) t (rdG X.K false tg)) ∧
      (∀ (s : Shared) (H : Hp) (c : Addr) (cl : List (Str × Addr)) (fp : List Addr), PTs (X.blk s H scope (compEnvC scope cl c X.env) fp) ifs (rdC X.K false C cond)) ∧
      (∀ (s : Shared) (H : Hp) (c : Addr) (cl : List (Str × Addr)) (fp : List Addr), PE (X.blk s H scope (compEnvC scope cl c X.env) fp) el (rdE X.K false C WF elt)) := by
  unfold stepK at h
  split at h
  · rename_i el t iter ifs am scope pos
    simp only [Bool.and_eq_true, decide_eq_true_eq] at h
    obtain ⟨h0, h1, rfl, h5, h6, h7, h8, h9, h10, h11⟩ := h
    have r0 := r.ro
    have hq : rw = true → quietO cond = true ∧ quiet elt = true := fun z => by
      rw [r.wr, z] at h0
      simpa using h0
    refine ⟨el, t, iter, ifs, scope, pos, rfl, hq, h1, (r.room h5).2, noSetI h6 _, ⟨r0, h7⟩, by rw [r.N, r.sc]; exact blkOk_by h8, fun s H c cl fp => chkG_ok (r0.blk h5 s H c cl fp) h9, fun s H c cl fp => ?_, fun s H c cl fp => hE _ _ _ (r0.blk h5 s H c cl fp) _ _ h11⟩
    split at h10
    · exact tc_nil (X := X.blk s H scope (compEnvC scope cl c X.env) fp)
    · exact tc_one (X := X.blk s H scope (compEnvC scope cl c X.env) fp) (hT _ _ _ (r0.blk h5 s H c cl fp) _ _ h10)
    · cases h10
  · cases h
theorem kyC_ok (b : Bool) (cv : Cv) (X : Cx) (W : WX) (r : CR G rw C k cv X W) (e : Expr) (tg : Tg) (a : E) (cond : Option E) (elt : E) (h : kyC G b cv e tg a cond elt = true) : SE X rw C W e (.comp tg (itB b a) cond elt) := by
  obtain ⟨el, t, iter, ifs, scope, pos, rfl, c2, c1, c4, c5, ⟨r0, c6⟩, c7, c8, c9, c10⟩ := stepK_ok (chk0_ok 40).1 (chk0_ok 40).2.1 r h
  cases b with
  | false =>
    cases rw with
    | true => exact s_compK (own := ownS cv tg) c1 (c2 rfl).1 (c2 rfl).2 c4 r.nd ((chk0_ok 40).1 _ _ _ r0 _ _ c6) c7 c8 c9 c10 (by rw [own_ix]; exact fun _ z => z) (by rw [own_ix]; exact fun _ z => z) c5
    | false => exact s_comp0 (b := false) (own := ownS cv tg) c1 c4 r.nd (i_keys ((chk0_ok 40).1 _ _ _ r0 _ _ c6)) c7 c8 c9 c10 (by rw [own_ix]; exact fun _ z => z) (by rw [own_ix]; exact fun _ z => z) c5
  | true =>
    simp only [itOk] at c6
    split at c6
    · simp only [Bool.and_eq_true, decide_eq_true_eq] at c6
      obtain ⟨rfl, k1, k2, k3⟩ := c6
      cases rw with
      | true => exact s_compV (own := ownS cv tg) c1 (c2 rfl).1 (c2 rfl).2 c4 r.nd k1 k2 ((chk0_ok 40).1 _ _ _ r0 _ _ k3) c7 c8 c9 c10 (by rw [own_ix]; exact fun _ z => z) (by rw [own_ix]; exact fun _ z => z) c5
      | false => exact s_comp0 (b := true) (own := ownS cv tg) c1 c4 r.nd (i_vals k1 k2 ((chk0_ok 40).1 _ _ _ r0 _ _ k3)) c7 c8 c9 c10 (by rw [own_ix]; exact fun _ z => z) (by rw [own_ix]; exact fun _ z => z) c5
    · cases c6
theorem chk_ok (n : Nat) : OkE G rw C k (chk G n .e) ∧ OkT G rw C k (chk G n .t) ∧ OkW G rw C k (chk G n .w) := chkW_ok kyC_ok n
end
end HI
set_option Elab.async false
set_option linter.all false
set_option maxRecDepth 100000
namespace HI
open PySem PySem.Spec PyProof.Rows L2
def swapB (cv : Cv) (e : Expr) (y : Str) (py : Pos) : Bool := match e with
  | .ListComp _ _ scope _ => ((if cv.sc.kind.isAnnotationScope then ScopeKind.function else cv.sc.kind) == .function && cv.sc.names.lookup y == some .local && py.line == e.pos.line
      && !(scope.names.any fun (n, k) => n == y && (k == .local || k == .cell)))
  | _ => false
section
variable (G : GI) (rw : Bool) (cv : Cv)
def agO : B2 → Operator → Bool
  | .add, .Add => true
  | .sub, .Sub => true
  | _, _ => false
def intE : Expr → Int → Bool
  | .Constant (.int j) _ _, i => decide (j = i)
  | _, _ => false
def stepB (f : Stmt → S → Bool) : List Stmt → List S → Bool
  | [], [] => true
  | s :: ss, t :: ts => f s t && stepB f ss ts
  | _, _ => false
def stepH (f : List Stmt → List S → Bool) : List ExceptHandler → List Str → List (List S) → Bool
  | [], [], [] => true
  | .ExceptHandler (some (.Name x _)) none (b0 :: b) _ :: hs, c :: cs, s :: ss => decide (c = x) && (G.hns.any (fun h => decide (x = Str.ofString h)) && (glb cv x && (f (b0 :: b) s && stepH f hs cs ss)))
  | _, _, _ => false
def askB (cv : Cv) (n : Str) : List Expr → List Str → Bool
  | [], [] => true
  | .Call (.Name y _) [.Name m _, .Name t' _] [] _ :: es, t :: ts => decide (y = "isinstance") && (decide (m = n) && (decide (t' = t) && (decide (t ∈ G.ise) && (decide (t ∈ G.exs) && (glb cv t && askB cv n es ts)))))
  | _, _ => false
def askV (G : GI) (cv : Cv) (n : Str) : Expr → Bool
  | .Call (.Name y _) [.Name m _, .Name t _] [] _ => decide (y = "isinstance") && (decide (m = n) && (decide (t = "ValueError") && free G cv "ValueError"))
  | _ => false
def stepSet (rE rT : Cv → Expr → E → Bool) (t e0 : Expr) (tg : Tg) (e : E) : Bool := match e0 with
  | .ListComp _ _ _ _ => (match tg, t, e with
    | .one i, .Name y py, .comp tg' it cond elt => slot cv i y && (if swapB cv e0 y py then stepC G cv rE rT e0 tg' it cond elt || (match it with
      | .keys a => kyC G false cv e0 tg' a cond elt
      | .values a => kyC G true cv e0 tg' a cond elt
      | _ => false) else chkG cv tg t && rE cv e0 e)
    | .one i, .Name y py, .boxc tg' it cond elt => slot cv i y && (if swapB cv e0 y py then stepC G cv rE rT e0 tg' it cond elt else chkG cv tg t && rE cv e0 e)
    | _, _, _ => false)
  | _ => notComp e0 && ((notTup t || notTup e0) && (notStarred t && (chkG cv tg t && rE cv e0 e)))
def stepS (rE rT : Cv → Expr → E → Bool) (rB rR : Cv → List Stmt → List S → Bool) (st : Stmt) (s : S) : Bool := isBadS s || match s with
  | .pass => (match st with
    | .Pass _ => true
    | _ => false)
  | .brk => (match st with
    | .Break _ => true
    | _ => false)
  | .expr e => (match st with
    | .Expr e0 _ => notComp e0 && rE cv e0 e
    | _ => false)
  | .set tg e => (match st with
    | .Assign [t] e0 _ => stepSet G cv rE rT t e0 tg e
    | _ => false)
  | .setF a f e => (match st with
    | .Assign [.Attribute a0 f0 _] e0 _ => rw && (decide (f0 = f) && (decide (f0 ∈ G.flds) && (rE cv a0 a && rE cv e0 e)))
    | _ => false)
  | .setI a k e => (match st with
    | .Assign [.Subscript a0 k0 _] e0 _ => rw && (notSlice k0 && (rE cv a0 a && (rE cv k0 k && rE cv e0 e)))
    | _ => false)
  | .augV i op e => (match st with
    | .AugAssign (.Name x _) o e0 _ => agO op o && (slot cv i x && (loc cv x && rE cv e0 e))
    | _ => false)
  | .augF a f op i => (match st with
    | .AugAssign (.Attribute a0 f0 _) o e0 _ => rw && (agO op o && (decide (f0 = f) && (decide (f0 ∈ G.flds) && (rE cv a0 a && intE e0 i))))
    | _ => false)
  | .augI a k op e => (match st with
    | .AugAssign (.Subscript a0 k0 _) o e0 _ => rw && (agO op o && (notSlice k0 && (rE cv a0 a && (rE cv k0 k && rE cv e0 e))))
    | _ => false)
  | .append a e => (match st with
    | .Expr (.Call (.Attribute a0 m ap) [e0] [] cp) _ => rw && (decide (m = "append") && (notCall0 a0 && (notStarred e0 && ((ap.endLine == cp.line) && (rE cv a0 a && rE cv e0 e)))))
    | _ => false)
  | .extend a e => (match st with
    | .Expr (.Call (.Attribute a0 m ap) [e0] [] cp) _ => rw && (decide (m = "extend") && (notCall0 a0 && (notStarred e0 && ((ap.endLine == cp.line) && (rE cv a0 a && rE cv e0 e)))))
    | _ => false)
  | .ret e => (match st with
    | .Return (some e0) _ => rE cv e0 e
    | _ => false)
  | .retN => (match st with
    | .Return none _ => true
    | _ => false)
  | .ifS c a b => (match st with
    | .If c0 a0 b0 _ => rT cv c0 c && (rB cv a0 a && rB cv b0 b)
    | _ => false)
  | .forS tg it b => (match st with
    | .For t iter b0 [] _ => cv.body && (cv.room && (notSet iter && (stepI G cv (rE cv) t iter it && (chkG cv tg t && rB cv b0 b))))
    | _ => false)
  | .forK tg a b => (match st with
    | .For t iter b0 [] _ => rw && (cv.body && (cv.room && (notSet iter && (rdo a && (chk0 G.ro 40 .e cv.ro iter a && (chkG cv.ro tg t && rR cv.ro b0 b))))))
    | _ => false)
  | .whileS c b => (match st with
    | .While c0 b0 [] _ => cv.body && (rT cv c0 c && rB cv b0 b)
    | _ => false)
  | .raise c => (match st with
    | .Raise (some (.Call (.Name x _) [.Constant (.str _) _ _] [] _)) none _ => decide (x = c) && (decide (x ∈ G.exs) && (glb cv x && cv.room))
    | _ => false)
  | .tryS b cs bs => (match st with
    | .Try b0 (h0 :: hs) [] [] _ => cv.body && (rB cv b0 b && stepH G cv (rB cv.suite) (h0 :: hs) cs bs)
    | _ => false)
  | .tryA i j b ts => (match st with
    | .Try b0 [.ExceptHandler (some (.Name h _)) (some n) [.Assign [.Name x _] (.List es1 _) _, .Assign [.Name x2 _] (.BinOp (.Name x3 _) .Add (.List es2 _) _) _, .Assign [.Name x4 _] (.BinOp (.Name x5 _) .Add (.List es3 _) _) _, .Expr (.Call (.Attribute (.Name x6 _) m apos) [e4] [] cpos) _] _] [] [] _ =>
      cv.body && (rB cv b0 b && (decide (h = Str.ofString "HoldError") && (decide ("HoldError" ∈ G.hns) && (glb cv h && (slot cv i n && (slot cv j x && (!decide (i = j) && (decide (cv.sc.names.lookup n = some .local) && (decide (cv.sc.names.lookup x = some .local) && (vis cv n && (vis cv x && (free G cv "isinstance" && (decide (x2 = x) && (decide (x3 = x) && (decide (x4 = x) && (decide (x5 = x) && (decide (x6 = x) && (decide (m = "append") && ((apos.endLine == cpos.line) && (decide (ts.length ≤ 100) && (askB G cv n es1 (ts.take es1.length) && (askB G cv n es2 ((ts.drop es1.length).take es2.length) && (askB G cv n es3 ((ts.drop es1.length).drop es2.length) && (askV G cv n e4 && (ts.all (fun t => decide (t ∈ G.ise)))))))))))))))))))))))))))
    | _ => false)
end
def chkS : Nat → GI → Bool → Cv → Stmt → S → Bool
  | 0, _, _, _, _, _ => false
  | n + 1, G, rw, cv, st, s => stepS G rw cv (chk G 60 .e) (chk G 60 .t) (fun cv => stepB (chkS n G rw cv)) (fun cv => stepB (chkS n G.ro false cv)) st s
section
variable {G : GI} {rw : Bool} {C : CallT} {k L : Nat} {cv : Cv} {X : Cx} {W : WX} {rE rT : Cv → Expr → E → Bool}
def OkS (G : GI) (rw : Bool) (L : Nat) (C : CallT) (k : Nat) (f : Cv → Stmt → S → Bool) : Prop := ∀ cv X W, CR G rw C k cv X W → ∀ e e', f cv e e' = true → SS X rw L C W e e'
def OkB (G : GI) (rw : Bool) (L : Nat) (C : CallT) (k : Nat) (f : Cv → List Stmt → List S → Bool) : Prop := ∀ cv X W, CR G rw C k cv X W → ∀ e e', f cv e e' = true → SB X rw L C W e e'
theorem agO_ok {o : B2} {c : Operator} (h : agO o c = true) : AugOk X c o := by
  unfold agO at h
  split at h
  · exact aug_add
  · exact aug_sub
  · cases h
theorem intE_ok {e : Expr} {i : Int} (h : intE e i = true) : PE X e (tC (.int i)) := by
  unfold intE at h
  split at h
  · cases of_decide_eq_true h; exact pe_int
  · cases h
theorem stepB_ok {f : Cv → Stmt → S → Bool} (hS : OkS G rw L C k f) : OkB G rw L C k (fun cv => stepB (f cv)) := by
  intro cv X W r e
  induction e with
  | nil =>
    intro e' h
    cases e' with
    | nil => exact sb_nil
    | cons _ _ => simp [stepB] at h
  | cons s ss ih =>
    intro e' h
    cases e' with
    | nil => simp [stepB] at h
    | cons t ts =>
      simp only [stepB, Bool.and_eq_true] at h
      exact sb_cons (hS cv X W r _ _ h.1) (ih _ h.2)
theorem swapB_ok (r : CR G rw C k cv X W) {el : Expr} {gs : List Comprehension} {scope : Scope} {pos : Pos} {y : Str} {py : Pos} (l : Nat) : swapsWith (.ListComp el gs scope pos) (some (.Name y py)) l X.env = pure (swapB cv (.ListComp el gs scope pos) y py) := by
  unfold swapB
  rw [← r.sc]
  rfl
theorem stepSet_ok (hE : OkE G rw C k rE) (hT : OkT G rw C k rT) (r : CR G rw C k cv X W) {t e0 : Expr} {tg : Tg} {e : E} {pos : Pos} (h : stepSet G cv rE rT t e0 tg e = true) : SS X rw L C W (.Assign [t] e0 pos) (.set tg e) := by
  unfold stepSet at h
  split at h
  · rename_i el gs scope p
    split at h
    · rename_i i y py tg' it cond elt
      obtain ⟨h1, h2⟩ := ba2 h
      split at h2
      · rename_i hb
        simp only [Bool.or_eq_true] at h2
        rcases h2 with h2 | h2
        rotate_left
        · split at h2
          · obtain ⟨el', t', iter, ifs, scope', pos', e1, c0, k1, c1, c2, ⟨r0, c3⟩, c4, c5, c6, c7⟩ := stepK_ok (chk0_ok 40).1 (chk0_ok 40).2.1 r h2
            cases e1
            have hsw := swapB_ok r (el := el) (gs := [⟨t', iter, ifs, 0⟩]) (scope := scope) (pos := p) (y := y) (py := py) pos.line
            rw [hb] at hsw
            have hyl : X.env.scope.names.lookup y = some .local := by
              rw [r.sc]
              unfold swapB at hb
              simp only [Bool.and_eq_true] at hb
              exact beq_iff_eq.mp hb.1.1.2
            cases rw with
            | true => exact ss_setLcK (own := ownS cv tg') k1 (c0 rfl).1 (c0 rfl).2 c1 r.nd (r.slot h1) hyl hsw ((chk0_ok 40).1 _ _ _ r0 _ _ c3) c4 c5 c6 c7 (by rw [own_ix]; exact fun _ z => z) (by rw [own_ix]; exact fun _ z => z) c2
            | false => exact ss_setLc0 (b := false) (own := ownS cv tg') k1 c1 r.nd (r.slot h1) hyl hsw (i_keys ((chk0_ok 40).1 _ _ _ r0 _ _ c3)) c4 c5 c6 c7 (by rw [own_ix]; exact fun _ z => z) (by rw [own_ix]; exact fun _ z => z) c2
          · obtain ⟨el', t', iter, ifs, scope', pos', e1, c0, k1, c1, c2, ⟨r0, c3⟩, c4, c5, c6, c7⟩ := stepK_ok (chk0_ok 40).1 (chk0_ok 40).2.1 r h2
            simp only [itOk] at c3
            split at c3
            · rename_i ob mn ap cp
              simp only [Bool.and_eq_true, decide_eq_true_eq] at c3
              obtain ⟨rfl, j1, j2, j3⟩ := c3
              cases e1
              have hsw := swapB_ok r (el := el) (gs := [⟨t', .Call (.Attribute ob "values" ap) [] [] cp, ifs, 0⟩]) (scope := scope) (pos := p) (y := y) (py := py) pos.line
              rw [hb] at hsw
              have hyl : X.env.scope.names.lookup y = some .local := by
                rw [r.sc]
                unfold swapB at hb
                simp only [Bool.and_eq_true] at hb
                exact beq_iff_eq.mp hb.1.1.2
              cases rw with
              | true => exact ss_setLcV (own := ownS cv tg') k1 (c0 rfl).1 (c0 rfl).2 c1 r.nd (r.slot h1) hyl hsw j1 j2 ((chk0_ok 40).1 _ _ _ r0 _ _ j3) c4 c5 c6 c7 (by rw [own_ix]; exact fun _ z => z) (by rw [own_ix]; exact fun _ z => z) c2
              | false => exact ss_setLc0 (b := true) (own := ownS cv tg') k1 c1 r.nd (r.slot h1) hyl hsw (i_vals j1 j2 ((chk0_ok 40).1 _ _ _ r0 _ _ j3)) c4 c5 c6 c7 (by rw [own_ix]; exact fun _ z => z) (by rw [own_ix]; exact fun _ z => z) c2
            · cases c3
          · cases h2
        obtain ⟨el', t', iter, ifs, scope', pos', e1, c1, c2, c3, c4, c5, c6, c7⟩ := stepC_ok hE hT r h2
        cases e1
        have hsw := swapB_ok r (el := el) (gs := [⟨t', iter, ifs, 0⟩]) (scope := scope) (pos := p) (y := y) (py := py) pos.line
        rw [hb] at hsw
        have hyl : X.env.scope.names.lookup y = some .local := by
          rw [r.sc]
          unfold swapB at hb
          simp only [Bool.and_eq_true] at hb
          exact beq_iff_eq.mp hb.1.1.2
        exact ss_setLc (own := ownS cv tg') c1 r.nd (r.slot h1) hyl hsw c3 c4 c5 c6 c7 c2 (fun σ H Q hh => comp_reads (by rw [own_ix]; exact fun _ z => z) (by rw [own_ix]; exact fun _ z => z) σ H Q hh)
      · rename_i hb
        obtain ⟨h2, h3⟩ := ba2 h2
        have hsw := swapB_ok r (el := el) (gs := gs) (scope := scope) (pos := p) (y := y) (py := py) pos.line
        rw [Bool.eq_false_iff.mpr hb] at hsw
        exact ss_set (hE cv X W r _ _ h3) (chkG_ok r h2) hsw (noStores rfl _) (oneAssign rfl _)
    · rename_i i y py tg' it cond elt
      obtain ⟨h1, h2⟩ := ba2 h
      split at h2
      · rename_i hb
        obtain ⟨el', t', iter, ifs, scope', pos', e1, c1, c2, c3, c4, c5, c6, c7⟩ := stepC_ok hE hT r h2
        cases e1
        have hsw := swapB_ok r (el := el) (gs := [⟨t', iter, ifs, 0⟩]) (scope := scope) (pos := p) (y := y) (py := py) pos.line
        rw [hb] at hsw
        have hyl : X.env.scope.names.lookup y = some .local := by
          rw [r.sc]
          unfold swapB at hb
          simp only [Bool.and_eq_true] at hb
          exact beq_iff_eq.mp hb.1.1.2
        exact ss_setLc (own := ownS cv tg') c1 r.nd (r.slot h1) hyl hsw c3 c4 c5 c6 c7 c2 (fun σ H Q hh => boxc_reads (by rw [own_ix]; exact fun _ z => z) (by rw [own_ix]; exact fun _ z => z) σ H Q hh)
      · rename_i hb
        obtain ⟨h2, h3⟩ := ba2 h2
        have hsw := swapB_ok r (el := el) (gs := gs) (scope := scope) (pos := p) (y := y) (py := py) pos.line
        rw [Bool.eq_false_iff.mpr hb] at hsw
        exact ss_set (hE cv X W r _ _ h3) (chkG_ok r h2) hsw (noStores rfl _) (oneAssign rfl _)
    · cases h
  · simp only [Bool.and_eq_true] at h
    obtain ⟨h1, h2, h3, h4, h5⟩ := h
    exact ss_set (hE cv X W r _ _ h5) (chkG_ok r h4) (noSwap h1 _ _ _) (noStores h2 _) (oneAssign h3 _)
theorem stepH_ok {rB : Cv → List Stmt → List S → Bool} (hB : OkB G rw L C k rB) (r : CR G rw C k cv X W) : ∀ {hs : List ExceptHandler} {cs : List Str} {bs : List (List S)}, stepH G cv (rB cv.suite) hs cs bs = true → HsOk X rw L C hs cs bs := by
  intro hs
  induction hs with
  | nil =>
    intro cs bs h
    unfold stepH at h
    split at h
    · exact .nil
    · rename_i e1; exact absurd e1 (by simp)
    · cases h
  | cons hd hs ih =>
    intro cs bs h
    unfold stepH at h
    split at h
    · rename_i e1; exact absurd e1 (by simp)
    · rename_i x np b0 b pos hs' c cs' s ss e1
      cases e1
      simp only [Bool.and_eq_true, decide_eq_true_eq, List.any_eq_true] at h
      obtain ⟨rfl, ⟨hh, hm, rfl⟩, h2, h3, h4⟩ := h
      obtain ⟨g1, g2, g3⟩ := r.g.hnd _ hm
      exact .cons g1 g2 ⟨(r.glb h2).1, (r.glb h2).2, .inl g3⟩ (fun a oe cls d pn _ _ => hB _ _ _ (r.suite a _) _ _ h3) (ih h4)
    · cases h
theorem ask_ok (r : CR G rw C k cv X W) {n : Str} {i : Nat} (hi : X.N[i]? = some n) (hv : vis cv n = true) (hf : free G cv "isinstance" = true) {c : Str} (hc : c ∈ G.ise) {a : Addr} {oe : PySem.Obj} {pn : List (Addr × PySem.Obj)} (hz : Zc (.ref (He.ga X.K c)) none oe) (hd : ∃ vs, oe.data = .fields vs) : ∀ {es : List Expr} {ts : List Str}, askB G cv n es ts = true → Asks (X.suite a ((a, oe) :: pn)) i a es (ans c ts) := by
  intro es
  induction es with
  | nil =>
    intro ts h
    cases ts with
    | nil => exact .nil
    | cons t ts => simp [askB] at h
  | cons e es ih =>
    intro ts h
    unfold askB at h
    split at h
    · exact absurd ‹e :: es = []› (by simp)
    · rename_i y p m p1 t' p2 pos es' t ts' e1
      cases e1
      simp only [Bool.and_eq_true, decide_eq_true_eq] at h
      obtain ⟨rfl, rfl, rfl, h1, h2, h3, h4⟩ := h
      obtain ⟨g1, g2, g3, g4⟩ := r.free hf
      obtain ⟨v1, v2, v3⟩ := r.vis hv
      have ic := r.g.ise c hc
      have gt := (r.suite a ((a, oe) :: pn)).glb (x := t') (show glb cv.suite t' = true from h3)
      refine .cons (pe_isE ic.ex hz hd g1 g3 hi v1 v2 v3 (w := .ref (He.ga X.K t')) (pe_glob gt.1 (r.g.exc t' h2).mg rfl gt.2) (fun u h => h) (ic.own t' h1) rfl) rfl (ih h4)
    · cases h
theorem askV_ok (r : CR G rw C k cv X W) {n : Str} {i : Nat} (hi : X.N[i]? = some n) (hv : vis cv n = true) (hf : free G cv "isinstance" = true) {c : Str} (hc : c ∈ G.ise) {a : Addr} {oe : PySem.Obj} {pn : List (Addr × PySem.Obj)} (hz : Zc (.ref (He.ga X.K c)) none oe) (hd : ∃ vs, oe.data = .fields vs) {e : Expr} (h : askV G cv n e = true) : Asks (X.suite a ((a, oe) :: pn)) i a [e] [true] := by
  unfold askV at h
  split at h
  · simp only [Bool.and_eq_true, decide_eq_true_eq] at h
    obtain ⟨rfl, rfl, rfl, h1⟩ := h
    obtain ⟨g1, g2, g3, g4⟩ := r.free hf
    obtain ⟨v1, v2, v3⟩ := r.vis hv
    have ic := r.g.ise c hc
    obtain ⟨f1, f2, f3, f4⟩ := (r.suite a ((a, oe) :: pn)).free (x := Str.ofString "ValueError") (show free G cv.suite "ValueError" = true from h1)
    exact .cons (pe_isE ic.ex hz hd g1 g3 hi v1 v2 v3 (w := .ty "ValueError") (pe_bltn f1 f3 rfl rfl f4 f2) (fun u h => h) ic.ve rfl) rfl .nil
  · cases h
theorem stepS_ok {rB rR : Cv → List Stmt → List S → Bool} (hE : OkE G rw C k rE) (hT : OkT G rw C k rT) (hB : OkB G rw L C k rB) (hR : OkB G.ro false L C k rR) (r : CR G rw C k cv X W) {st : Stmt} {s : S} (h : stepS G rw cv rE rT rB rR st s = true) : SS X rw L C W st s := by
  have hu := r.hu
  unfold stepS at h
  rw [Bool.or_eq_true] at h
  rcases h with h | h
  · exact ss_bad h
  cases s with
  | pass =>
    simp only at h
    split at h
    · exact ss_pass
    · cases h
  | brk =>
    simp only at h
    split at h
    · exact ss_brk
    · cases h
  | expr e =>
    simp only at h
    split at h
    · obtain ⟨h1, h2⟩ := ba2 h; exact ss_expr (hE cv X W r _ _ h2) (noSwap h1 _ _ _)
    · cases h
  | set tg e =>
    simp only at h
    split at h
    · exact stepSet_ok hE hT r h
    · cases h
  | setF a f e =>
    simp only at h
    split at h
    · simp only [Bool.and_eq_true, decide_eq_true_eq] at h
      obtain ⟨h0, rfl, h1, h2, h3⟩ := h
      exact ss_setF h0 (hE cv X W r _ _ h2) (hE cv X W r _ _ h3) (r.g.flds _ h1) (noSwapT rfl _ _)
    · cases h
  | setI a kk e =>
    simp only at h
    split at h
    · simp only [Bool.and_eq_true, decide_eq_true_eq] at h
      obtain ⟨h0, h1, h2, h3, h4⟩ := h
      exact ss_setI h0 (by omega) (hE cv X W r _ _ h2) (hE cv X W r _ _ h3) (hE cv X W r _ _ h4) (by rw [swapsWithSole]; exact noSwapT rfl _ _) (noStores rfl _) (plainSet h1 _) (oneAssign rfl _)
    · cases h
  | augV i op e =>
    simp only at h
    split at h
    · simp only [Bool.and_eq_true, decide_eq_true_eq] at h
      obtain ⟨h1, h2, h3, h4⟩ := h
      exact ss_augV (agO_ok h1) r.nd (r.slot h2) (r.loc h3).1 (r.loc h3).2 (hE cv X W r _ _ h4)
    · cases h
  | augF a f op i =>
    simp only at h
    split at h
    · simp only [Bool.and_eq_true, decide_eq_true_eq] at h
      obtain ⟨h0, h1, rfl, h2, h3, h4⟩ := h
      exact ss_augF h0 (agO_ok h1) (r.g.flds _ h2) (hE cv X W r _ _ h3) (intE_ok h4)
    · cases h
  | augI a kk op e =>
    simp only at h
    split at h
    · simp only [Bool.and_eq_true, decide_eq_true_eq] at h
      obtain ⟨h0, h1, h2, h3, h4, h5⟩ := h
      exact ss_augI h0 (by omega) (agO_ok h1) (hE cv X W r _ _ h3) (hE cv X W r _ _ h4) (hE cv X W r _ _ h5) (plainAug h2)
    · cases h
  | append a e =>
    simp only at h
    split at h
    · simp only [Bool.and_eq_true, decide_eq_true_eq] at h
      obtain ⟨h0, rfl, h1, h2, h3, h4, h5⟩ := h
      exact ss_append h0 h1 h2 h3 (hE cv X W r _ _ h4) (hE cv X W r _ _ h5)
    · cases h
  | extend a e =>
    simp only at h
    split at h
    · simp only [Bool.and_eq_true, decide_eq_true_eq] at h
      obtain ⟨h0, rfl, h1, h2, h3, h4, h5⟩ := h
      exact ss_extend h0 h1 h2 h3 (hE cv X W r _ _ h4) (hE cv X W r _ _ h5)
    · cases h
  | ret e =>
    simp only at h
    split at h
    · exact ss_ret (hE cv X W r _ _ h)
    · cases h
  | retN =>
    simp only at h
    split at h
    · exact ss_retN
    · cases h
  | ifS c a b =>
    simp only at h
    split at h
    · simp only [Bool.and_eq_true] at h
      obtain ⟨h1, h2, h3⟩ := h
      exact ss_if (hT cv X W r _ _ h1) (hB cv X W r _ _ h2) (hB cv X W r _ _ h3)
    · cases h
  | forS tg it b =>
    simp only at h
    split at h
    · simp only [Bool.and_eq_true] at h
      obtain ⟨h1, h2, h3, h4, h5, h6⟩ := h
      exact ss_for (r.bd h1).1 (r.room h2).2 (stepI_ok hE r h4) (chkG_ok r h5) (hB cv X W r _ _ h6) (noSetI h3 _)
    · cases h
  | forK tg a b =>
    simp only at h
    split at h
    · simp only [Bool.and_eq_true] at h
      obtain ⟨h0, h1, h2, h3, h4, h5, h6, h7⟩ := h
      subst h0
      exact ss_forK h4 (r.bd h1).1 (r.room h2).2 ((chk0_ok 40).1 _ _ _ r.ro _ _ h5) (chkG_ok r.ro h6) (hR _ _ _ r.roF _ _ h7) (noSetI h3 _)
    · cases h
  | whileS c b =>
    simp only at h
    split at h
    · simp only [Bool.and_eq_true] at h
      obtain ⟨h1, h2, h3⟩ := h
      exact ss_while (r.bd h1).1 (hT cv X W r _ _ h2) (hB cv X W r _ _ h3)
    · cases h
  | raise c =>
    simp only at h
    split at h
    · simp only [Bool.and_eq_true, decide_eq_true_eq] at h
      obtain ⟨rfl, h1, h2, h3⟩ := h
      exact ss_raise (r.room h3).2 r.tk (r.g.exc _ h1) (r.glb h2).1 (r.glb h2).2
    · cases h
  | tryS b cs bs =>
    simp only at h
    split at h
    · simp only [Bool.and_eq_true] at h
      obtain ⟨h1, h2, h3⟩ := h
      exact ss_try (r.bd h1).2.1 (r.bd h1).2.2 r.tk (fun W' pn xe tk po => hB cv _ _ (r.tr h1 pn xe tk po) _ _ h2) (stepH_ok hB r h3)
    · cases h
  | tryA i j b ts =>
    simp only at h
    split at h
    · rename_i b0 hh np n x q1 es1 q2 q3 x2 q4 x3 q5 es2 q6 q7 q8 x4 q9 x5 qa es3 qb qc qd x6 qe m apos e4 cpos qf pos' pos
      simp only [Bool.and_eq_true, Bool.not_eq_true', decide_eq_true_eq, decide_eq_false_iff_not, List.all_eq_true] at h
      obtain ⟨h1, h2, rfl, h4, h5, h6, h7, h8, h9, h10, h11, h12, h13, rfl, rfl, rfl, rfl, rfl, rfl, h20, h21, h22, h23, h24, h25, h26⟩ := h
      obtain ⟨g1, g2, g3⟩ := r.g.hnd _ h4
      obtain ⟨v1, v2, v3⟩ := r.vis h12
      have hts : ts.take es1.length ++ (ts.drop es1.length).take es2.length ++ (ts.drop es1.length).drop es2.length = ts := by rw [List.append_assoc, List.take_append_drop, List.take_append_drop]
      have := ss_tryA (X := X) (rw := rw) (L := L) (C := C) (W := W) (t1 := ts.take es1.length) (t2 := (ts.drop es1.length).take es2.length) (t3 := (ts.drop es1.length).drop es2.length) (q1 := q1) (q2 := q2) (q3 := q3) (q4 := q4) (q5 := q5) (q6 := q6) (q7 := q7) (q8 := q8) (q9 := q9) (qa := qa) (qb := qb) (qc := qc) (qd := qd) (qe := qe) (qf := qf) (np := np) (pos' := pos') (pos := pos) (r.bd h1).2.1 (r.bd h1).2.2 r.nd (r.slot h6) (by show X.env.scope.names.lookup n = _; rw [r.sc]; exact h9) (r.slot h7) h8 (.inl (by rw [r.sc]; exact h10)) v1 v2 v3 (by rw [r.sc]; exact h10) h20 g1 g2 ⟨(r.glb h5).1, (r.glb h5).2, .inl g3⟩ r.tk (fun W' pn xe tk po => hB cv _ _ (r.tr h1 pn xe tk po) _ _ h2) (by rw [hts]; exact h21) (fun c hc a oe pn hz hd => by
        rw [hts] at hc
        have hi := h26 c hc
        exact ⟨ask_ok r (r.slot h6) h11 h13 hi hz hd h22, ask_ok r (r.slot h6) h11 h13 hi hz hd h23, ask_ok r (r.slot h6) h11 h13 hi hz hd h24, askV_ok r (r.slot h6) h11 h13 hi hz hd h25⟩)
      rw [hts] at this
      refine PS.wk this fun T σ H ⟨m, S, ρ, hS, hE, ho⟩ => ⟨m, S, ρ, hS, hE, ?_⟩
      simp only [exS] at ho
      exact ho
    · cases h
theorem chkS_ok : ∀ (n : Nat) (G : GI) (rw : Bool), OkS G rw L C k (chkS n G rw)
  | 0, _, _ => fun _ _ _ _ _ _ h => by simp [chkS] at h
  | n + 1, G, rw => fun cv X W r e e' h => stepS_ok (chk_ok 60).1 (chk_ok 60).2.1 (stepB_ok (chkS_ok n G rw)) (stepB_ok (chkS_ok n G.ro false)) r h
end
end HI
set_option Elab.async false
set_option linter.all false
set_option maxRecDepth 100000
namespace HI
open PySem PySem.Spec PyProof.Rows L2
def plainP (p : Arguments) (ps : List Str) : Bool := p.posonlyargs.isEmpty && (p.vararg.isNone && (p.kwonlyargs.isEmpty && (p.kwarg.isNone && decide (p.args.map (·.arg) = ps))))
theorem lookup_zip {n : Str} : ∀ {ps : List Str} {us : List Value}, us.length = ps.length → n ∈ ps → ((ps.zip us).lookup n).isNone = false
  | [], _, _, h => by cases h
  | p :: ps, [], hl, _ => by simp at hl
  | p :: ps, u :: us, hl, h => by
    simp only [List.zip_cons_cons, List.lookup_cons]
    by_cases e : n == p
    · simp [e]
    · simp only [e]
      refine lookup_zip (by simpa using hl) ?_
      rcases List.mem_cons.mp h with rfl | h
      · simp at e
      · exact h
theorem fm_congr {α β : Type} {f g : α → Option β} : ∀ {l : List α}, (∀ x ∈ l, f x = g x) → l.filterMap f = l.filterMap g
  | [], _ => rfl
  | a :: l, h => by
    rw [List.filterMap_cons, List.filterMap_cons, h a (List.mem_cons_self ..), fm_congr fun x hx => h x (List.mem_cons_of_mem _ hx)]
theorem filter_zip : ∀ {ps : List Str} {us : List Value}, ps.Nodup → us.length = ps.length → (ps.filterMap fun n => ((ps.zip us).lookup n).map fun x => (n, x)) = ps.zip us
  | [], us, _, hl => by simp
  | p :: ps, [], _, hl => by simp at hl
  | p :: ps, u :: us, nd, hl => by
    rw [List.nodup_cons] at nd
    simp only [List.zip_cons_cons, List.filterMap_cons, List.lookup_cons, beq_self_eq_true, Option.map_some]
    congr 1
    refine Eq.trans (fm_congr fun n hn => ?_) (filter_zip nd.2 (us := us) (by simpa using hl))
    have : (n == p) = false := by
      rw [beq_eq_false_iff_ne]
      rintro rfl
      exact nd.1 hn
    rw [this]
theorem binds_plain {x qual : Str} {p : Arguments} {body : List Stmt} {scope : Scope} {kV doc pm : Value} {an : Option Addr} {cdv ct : Value} {ps : List Str} (nd : ps.Nodup) (h : plainP p ps = true) (us : List Value) (hl : us.length = ps.length) :
    bindArgs (PySem.W.fnOf x qual p body scope .none kV doc pm an cdv ct) ⟨us, []⟩ = pure (ps.zip us) := by
  simp only [plainP, Bool.and_eq_true, decide_eq_true_eq, List.isEmpty_iff, Option.isNone_iff_eq_none] at h
  obtain ⟨h1, h2, h3, h4, h5⟩ := h
  have hm : (ps.filter fun n => ((ps.zip us).lookup n).isNone) = [] := by
    rw [List.filter_eq_nil_iff]
    intro n hn
    rw [lookup_zip hl hn]; simp
  unfold bindArgs PySem.W.fnOf
  simp only [h1, h2, h3, h4, h5, List.map_nil, List.nil_append]
  rw [show seqItems? Value.none = pure none from rfl]
  simp [hl, hm, filter_zip nd hl]
def kclsB (K : PySem.W.Frag) (c : Str) : Bool := CLS.any (fun s => decide (c = Str.ofString s)) && ((He.Fa.glo c).ok K && ((He.Fa.cls c).ok K && (He.eqO (PySem.W.findIn K (.ref (He.ga K c)) "__class__") (some (some (.builtin "object.__class__"))) &&
  (He.eqO (PySem.W.specialIn K (.builtin "object.__class__") "__get__") (some (some (.builtin "getset_descriptor.__get__"))) && (decide (PySem.W.takesIn K (.builtin "object.__class__") = some true) && (decide (PySem.W.mroIn K (He.ga K c) (.type "object") = some true) &&
  (decide (PySem.W.kitOne K (.ref (He.ga K c)) (.ref (He.ga K c)) = some true) && ["int", "bool", "str", "tuple", "list"].all fun T => decide (PySem.W.kitOne K (.ref (He.ga K c)) (.type T) = some false))))))))
theorem kclsB_ok {K : PySem.W.Frag} {c : Str} (h : kclsB K c = true) : KCls K c := by
  simp only [kclsB, Bool.and_eq_true, decide_eq_true_eq, List.any_eq_true, List.all_eq_true] at h
  obtain ⟨⟨s, h0, h1⟩, h2, h3, h4, h5, h6, h7, h8, h9⟩ := h
  exact ⟨⟨s, h0, h1⟩, h2, He.cls_ok h3, He.eqO_ok h4, He.eqO_ok h5, h6, h7, h8, h9⟩
def kexcB (K : PySem.W.Frag) (c : Str) : Bool := (He.Fa.glo c).ok K && EXC.all fun h => !(He.Fa.glo (Str.ofString h)).ok K || decide (PySem.W.exmOne K (.ref (He.ga K c)) (.ref (He.ga K (Str.ofString h))) = some (catches c (Str.ofString h)))
theorem kexcB_ok {K : PySem.W.Frag} {c : Str} (h : kexcB K c = true) : KExc K c := by
  simp only [kexcB, Bool.and_eq_true, List.all_eq_true, Bool.or_eq_true, decide_eq_true_eq] at h
  refine ⟨h.1, fun x hx hg => ?_⟩
  rcases h.2 x hx with z | z
  · rw [hg] at z; cases z
  · exact z
def isiU (K : PySem.W.Frag) (t : Str) : Value × V := match ["int", "bool", "str", "tuple", "list"].find? (fun T => decide (t = Str.ofString T)) with
  | some T => (.type T, .ty T)
  | none => (.ref (He.ga K t), .ref (He.ga K t))
def isiB (K : PySem.W.Frag) (t : Str) : Bool :=
  decide (PySem.W.kitOne K (.type "NoneType") (isiU K t).1 = some false) && (decide (PySem.W.kitOne K (.type "bool") (isiU K t).1 = some (isTy t ["int", "bool"])) && (decide (PySem.W.kitOne K (.type "int") (isiU K t).1 = some (isTy t ["int"])) &&
  (decide (PySem.W.kitOne K (.type "str") (isiU K t).1 = some (isTy t ["str"])) && (decide (PySem.W.kitOne K (.type "tuple") (isiU K t).1 = some (isTy t ["tuple"])) && (decide (PySem.W.kitOne K (.type "list") (isiU K t).1 = some (isTy t ["list"])) &&
  (match ["int", "bool", "str", "tuple", "list"].find? (fun T => decide (t = Str.ofString T)) with
    | some T => (He.Fa.free t).ok K && (decide (bootBuiltins t = some (.type T)) && (!decide (t = "__name__") && !CLS.any (fun s => decide (t = Str.ofString s))))
    | none => (He.Fa.glo t).ok K && !isTy t ["int", "bool", "str", "tuple", "list"]))))))
def tupsB (K : PySem.W.Frag) (p : Str × List Str) : Bool := (He.Fa.glo p.1).ok K && He.tupB K p.1 (p.2.map He.Dv.str)
def iseB (K : PySem.W.Frag) (ts : List Str) (c : Str) : Bool := He.eqO (PySem.W.findIn K (.ref (He.ga K c)) "__getattribute__") (some (some (.builtin "BaseException.__getattribute__"))) && (He.eqO (PySem.W.findIn K (.ref (He.ga K c)) "__getattr__") (some none) && (decide (PySem.W.subIn K (.ref (He.ga K c)) (.type "BaseException") = some true) &&
  (PySem.W.hasDictIn K (He.ga K c) && (He.eqO (PySem.W.findIn K (.ref (He.ga K c)) "__class__") (some (some (.builtin "object.__class__"))) && (He.eqO (PySem.W.specialIn K (.builtin "object.__class__") "__get__") (some (some (.builtin "getset_descriptor.__get__"))) && (decide (PySem.W.takesIn K (.builtin "object.__class__") = some true) &&
  (decide (PySem.W.mroIn K (He.ga K c) (.type "object") = some true) && (ts.all (fun t => decide (PySem.W.kitOne K (.ref (He.ga K c)) (.ref (He.ga K t)) = some (decide (c = t)))) && decide (PySem.W.kitOne K (.ref (He.ga K c)) (.type "ValueError") = some true)))))))))
theorem iseB_ok {K : PySem.W.Frag} {ts : List Str} {c : Str} (h : iseB K ts c = true) : IsC K ts c := by
  simp only [iseB, Bool.and_eq_true, decide_eq_true_eq, List.all_eq_true] at h
  obtain ⟨h1, h2, h3, h4, h5, h6, h7, h8, h9, h10⟩ := h
  exact ⟨⟨He.eqO_ok h1, He.eqO_ok h2, h3, h4, He.eqO_ok h5, He.eqO_ok h6, h7, h8⟩, h9, h10⟩
def exB (G : GI) (K : PySem.W.Frag) : Bool :=
  G.fns.all (fun x => (He.Fa.glo x).ok K) && (G.mks.all (fun c => kclsB K c && (He.Fa.mkr c).ok K) && (G.mes.all (fun p => kclsB K p.1 && (He.Fa.meth p.1 p.2).ok K) && (G.exs.all (fun c => kexcB K c && (He.Fa.exc c).ok K) &&
  (G.hns.all (fun h => decide (h ∈ EXC) && (He.Fa.glo (Str.ofString h)).ok K) && (G.isi.all (isiB K) && (G.free.all (fun x => (He.Fa.free x).ok K) && (G.cis.all (fun p => (He.Fa.int p.1 p.2).ok K) && (G.css.all (fun p => (He.Fa.str p.1 p.2).ok K) &&
  (G.flds.all (fun f => CLS.all fun c => !(He.Fa.glo (Str.ofString c)).ok K || (He.Fa.noat (Str.ofString c) f).ok K) && (G.tups.all (tupsB K) && G.ise.all (iseB K G.ise)))))))))))
structure KG (G : GI) (K : PySem.W.Frag) (mg : Str → Option Value) : Prop where
  call : ∀ x ∈ G.fns, mg x = some (.ref (He.ga K x))
  make : ∀ c ∈ G.mks, KCls K c ∧ Mk K (He.ga K c) (He.ma K (He.ga K c) "__init__") ∧ mg c = some (.ref (He.ga K c))
  meth : ∀ p ∈ G.mes, Cls K (He.ga K p.1) ∧ Meth K (He.ga K p.1) p.2 (He.ma K (He.ga K p.1) p.2)
  exc : ∀ c ∈ G.exs, KExc K c ∧ mg c = some (.ref (He.ga K c)) ∧ PySem.W.excIn K (He.ga K c) He.veBase "ValueError.__new__" = true ∧ PySem.W.keepIn K (.ref (He.ga K c)) = true ∧ PySem.W.subIn K (.ref (He.ga K c)) (.type "BaseException") = some true ∧ PySem.W.typeIn K (.ref (He.ga K c)) = some (.type "type")
  hnd : ∀ h ∈ G.hns, h ∈ EXC ∧ (He.Fa.glo (Str.ofString h)).ok K = true ∧ mg (Str.ofString h) = some (.ref (He.ga K (Str.ofString h)))
  isi : ∀ t ∈ G.isi, ∃ (u : Value) (w : V), ClsV w u ∧ IsiK K t u ∧ (∀ c, KCls K c → c = t → u = .ref (He.ga K t)) ∧ RelV w u ∧ (mg t = some u ∨ (mg t = none ∧ bootBuiltins t = some u ∧ t ≠ "__name__"))
  free : ∀ x ∈ G.free, mg x = none
  cis : ∀ p ∈ G.cis, ∃ t, mg p.1 = some (.int p.2 t)
  css : ∀ p ∈ G.css, ∃ t, mg p.1 = some (.str p.2 t)
  flds : ∀ f ∈ G.flds, NoF K f
  tups : ∀ p ∈ G.tups, mg p.1 = some (.ref (He.ga K p.1)) ∧ ∀ H, SqT K H (He.ga K p.1) (p.2.map V.str)
  ise : ∀ c ∈ G.ise, IsC K G.ise c
theorem isiB_ok {K : PySem.W.Frag} {h : Heap} {mg : Str → Option Value} (X : K.In h) (N : h.Ns mainGlobals mg) {t : Str} (c : isiB K t = true) :
    ∃ (u : Value) (w : V), ClsV w u ∧ IsiK K t u ∧ (∀ c, KCls K c → c = t → u = .ref (He.ga K t)) ∧ RelV w u ∧ (mg t = some u ∨ (mg t = none ∧ bootBuiltins t = some u ∧ t ≠ "__name__")) := by
  simp only [isiB, Bool.and_eq_true, decide_eq_true_eq] at c
  obtain ⟨h1, h2, h3, h4, h5, h6, h7⟩ := c
  unfold isiU at h1 h2 h3 h4 h5 h6
  cases q : ["int", "bool", "str", "tuple", "list"].find? (fun T => decide (t = Str.ofString T)) with
  | some T =>
    rw [q] at h1 h2 h3 h4 h5 h6 h7
    simp only [Bool.and_eq_true, decide_eq_true_eq, Bool.not_eq_true', decide_eq_false_iff_not, List.any_eq_false] at h7
    have ht : t = Str.ofString T := of_decide_eq_true (List.find?_some (p := fun T => decide (t = Str.ofString T)) q)
    refine ⟨.type T, .ty T, .ty T, ⟨h1, h2, h3, h4, h5, h6, .inr ⟨T, List.mem_of_find?_eq_some q, ht, rfl⟩⟩, fun c kc e => ?_, rfl, .inr ⟨He.free_ok X N h7.1, h7.2.1, h7.2.2.1⟩⟩
    obtain ⟨s, hs, e2⟩ := kc.mem
    exact absurd (e.symm.trans e2) (by simpa using h7.2.2.2 s hs)
  | none =>
    rw [q] at h1 h2 h3 h4 h5 h6 h7
    simp only [Bool.and_eq_true, Bool.not_eq_true'] at h7
    exact ⟨.ref (He.ga K t), .ref (He.ga K t), .own _, ⟨h1, h2, h3, h4, h5, h6, .inl ⟨rfl, h7.2⟩⟩, fun _ _ _ => rfl, rfl, .inl (He.glo_ok X N h7.1)⟩
theorem map_str {K : PySem.W.Frag} (l : List Str) : (l.map He.Dv.str).map (He.Dv.v K) = l.map V.str := by
  rw [List.map_map]; rfl
theorem exB_ok {G : GI} {K : PySem.W.Frag} {h : Heap} {mg : Str → Option Value} (X : K.In h) (N : h.Ns mainGlobals mg) (c : exB G K = true) : KG G K mg := by
  simp only [exB, Bool.and_eq_true, List.all_eq_true] at c
  obtain ⟨c1, c2, c3, c4, c5, c6, c7, c8, c9, c10, c11, c12⟩ := c
  refine ⟨fun x hx => He.glo_ok X N (c1 x hx), fun x hx => ?_, fun p hp => ?_, fun x hx => ?_, fun x hx => ?_, fun t ht => isiB_ok X N (c6 t ht), fun x hx => He.free_ok X N (c7 x hx), fun p hp => He.int_ok X N (c8 p hp), fun p hp => He.str_ok X N (c9 p hp), fun f hf c kc => ?_, fun p hp => ?_, fun c hc => iseB_ok (c12 c hc)⟩
  · have kc := kclsB_ok (c2 x hx).1
    exact ⟨kc, He.mkr_ok (c2 x hx).2, He.glo_ok X N kc.glo⟩
  · exact ⟨(kclsB_ok (c3 p hp).1).cl, He.meth_ok (c3 p hp).2⟩
  · have kx := kexcB_ok (c4 x hx).1
    obtain ⟨e1, e2, e3, e4⟩ := He.exc_ok (c4 x hx).2
    exact ⟨kx, He.glo_ok X N kx.glo, e1, e2, e3, e4⟩
  · exact ⟨of_decide_eq_true (c5 x hx).1, (c5 x hx).2, He.glo_ok X N (c5 x hx).2⟩
  · obtain ⟨s, hs, rfl⟩ := kc.mem
    have := c10 f hf s hs
    rw [Bool.or_eq_true] at this
    rcases this with z | z
    · rw [kc.glo] at z; cases z
    · exact He.noat_ok z
  · obtain ⟨a, b⟩ := ba2 (c11 p hp)
    refine ⟨He.glo_ok X N a, fun H => ?_⟩
    have := He.tupB_ok b H
    rw [map_str] at this
    exact this
structure De where
  d : He.DefD
  key : Str
  N : List Str
  ps : List Str
def De.ok (G : GI) (T : Tab) (e : De) : Bool := match T e.key with
  | some fn => e.d.dfl.isEmpty && (e.d.kwd.isEmpty && (plainP e.d.params e.ps && (decide (fn.np = e.ps.length) && (decide (fn.ns = e.N.length) && (C8.scC e.N e.ps e.d.scope && stepB (chkS 60 G true ⟨e.N, e.d.scope, true, true, true, true, none⟩) e.d.body fn.body)))))
  | none => false
def De.okR (G : GI) (T : Tab) (e : De) : Bool := match T e.key with
  | some fn => stepB (chkS 60 G.ro false ⟨e.N, e.d.scope, true, true, true, false, none⟩) e.d.body fn.body
  | none => false
def isRo (G : GI) (e : De) : Bool := decide (e.key ∈ G.rfns) || G.rmes.any fun p => decide (e.key = dot p.1 p.2)
def roOk (G : GI) (T : Tab) (des : List De) : Bool := G.rfns.all (fun x => decide (x ∈ G.fns)) && (G.rmes.all (fun p => decide (p ∈ G.mes)) && des.all fun e => !isRo G e || De.okR G T e)
def lnk (G : GI) (des : List De) : Bool :=
  G.fns.all (fun x => des.any fun e => decide (e.key = x) && decide (e.d.at_ = (x, none))) &&
  (G.mks.all (fun c => des.any fun e => decide (e.key = dot c (Str.ofString "__init__")) && decide (e.d.at_ = (c, some (Str.ofString "__init__")))) &&
  G.mes.all (fun p => des.any fun e => decide (e.key = dot p.1 p.2) && decide (e.d.at_ = (p.1, some p.2))))
variable {G : GI} {L : Nat} {T : Tab} {P : Program} {w : World} {K : PySem.W.Frag} {mg : Str → Option Value} {base : Heap} {des : List De}
theorem fn_none {f : Addr} {fd : FuncData} {ps : List Str} {k : Nat} {CX : CXT} {sp : Sp} (h : ∀ vs H Q E, ¬ sp vs H Q E) : FnOk P w K mg base CX k f fd ps sp :=
  ⟨fun vs H Q E z => absurd z (h vs H Q E), fun A outer s H args us vs Q E _ _ _ _ z => absurd z (h vs H Q E)⟩
abbrev FnS (P : Program) (w : World) (K : PySem.W.Frag) (mg : Str → Option Value) (base : Heap) (C : CallT) (rw : Bool) (k : Nat) (e : De) (fd : FuncData) : Prop :=
  FnOk P w K mg base (L2.CX P w) k (He.fAd K e.d.at_) fd e.ps (spC K rw C e.key) ∧ Binds K fd e.ps [] ∧ PySem.W.keepIn K (.ref (He.fAd K e.d.at_)) = true ∧ ∀ (s : Shared) (us : List Value), us.length = e.ps.length → BindsTo s fd ⟨us, []⟩ (e.ps.zip us)
abbrev FunE (K : PySem.W.Frag) (e : De) (fd : FuncData) : Prop := FunD K e.d.name e.d.qual e.d.params e.d.body e.d.scope (e.d.dvs K) (e.d.kws K) (He.fAd K e.d.at_) fd
def keyIn (G : GI) (e : De) : Prop := e.key ∈ G.fns ∨ (∃ c ∈ G.mks, e.key = dot c (Str.ofString "__init__")) ∨ ∃ p ∈ G.mes, e.key = dot p.1 p.2
theorem link_ok {rw : Bool} {C : CallT} {k : Nat} (kg : KG G K mg) (hl : lnk G des = true) (hd : ∀ e ∈ des, ∃ fd, FunE K e fd) (ih : ∀ e ∈ des, keyIn G e → ∀ fd, FunE K e fd → FnS P w K mg base C rw k e fd) :
    ∀ (X : Cx), X.prog = P → X.w = w → X.K = K → X.mg = mg → X.base = base → GOk G X rw C k := by
  intro X h1 h2 h3 h4 h5
  simp only [lnk, Bool.and_eq_true, List.all_eq_true, List.any_eq_true, decide_eq_true_eq] at hl
  obtain ⟨l1, l2, l3⟩ := hl
  refine ⟨fun x hx => ?_, fun c hc => ?_, fun p hp => ?_, fun c hc => ?_, ?_, ?_, ?_, ?_, ?_, ?_, ?_, ?_⟩
  · obtain ⟨e, he, rfl, ea⟩ := l1 x hx
    obtain ⟨fd, FD⟩ := hd e he
    obtain ⟨F, b, kp, _⟩ := ih e he (.inl hx) fd FD
    rw [ea] at F kp
    rw [h1, h2, h3, h4, h5]
    exact ⟨_, fd, e.ps, F, kg.call _ hx, kp, b⟩
  · obtain ⟨e, he, ek, ea⟩ := l2 c hc
    obtain ⟨fd, FD⟩ := hd e he
    obtain ⟨F, b, kp, _⟩ := ih e he (.inr (.inl ⟨c, hc, ek⟩)) fd FD
    rw [ea, ek] at F
    obtain ⟨a1, a2, a3⟩ := kg.make c hc
    exact ⟨by rw [h3]; exact a1, by rw [h3]; exact a2, by rw [h3, h4]; exact a3, by rw [h1, h2, h3, h4, h5]; exact ⟨fd, e.ps, F, b⟩⟩
  · obtain ⟨e, he, ek, ea⟩ := l3 p hp
    obtain ⟨fd, FD⟩ := hd e he
    obtain ⟨F, b, kp, _⟩ := ih e he (.inr (.inr ⟨p, hp, ek⟩)) fd FD
    rw [ea, ek] at F
    obtain ⟨a1, a2⟩ := kg.meth p hp
    exact ⟨by rw [h3]; exact a1, by rw [h3]; exact a2, by rw [h1, h2, h3, h4, h5]; exact ⟨fd, e.ps, F, b⟩⟩
  · obtain ⟨a1, a2, a3, a4, a5, a6⟩ := kg.exc c hc
    exact ⟨by rw [h3]; exact a1, by rw [h3, h4]; exact a2, by rw [h3]; exact a3, by rw [h3]; exact a4, by rw [h3]; exact a5, by rw [h3]; exact a6⟩
  · rw [h3, h4]; exact kg.hnd
  · rw [h3, h4]; exact kg.isi
  · rw [h4]; exact kg.free
  · rw [h4]; exact kg.cis
  · rw [h4]; exact kg.css
  · rw [h3]; exact kg.flds
  · rw [h3, h4]; exact kg.tups
  · rw [h3]; exact kg.ise
theorem prog_sound (kg : KG G K mg) (hl : lnk G des = true) (hlr : lnk G.ro des = true) (hro : roOk G T des = true) (hd : ∀ e ∈ des, ∃ fd, FunE K e fd) (ho : ∀ e ∈ des, e.ok G T = true) :
    ∀ n, (∀ e ∈ des, ∀ fd, FunE K e fd → FnS P w K mg base (callF L T n) true (2 * n) e fd) ∧ (∀ e ∈ des, isRo G e = true → ∀ fd, FunE K e fd → FnS P w K mg base (callF L T n) false (2 * n) e fd) := by
  simp only [roOk, Bool.and_eq_true, List.all_eq_true, decide_eq_true_eq] at hro
  obtain ⟨ro1, ro2, ro3⟩ := hro
  have kr : KG G.ro K mg := ⟨fun x hx => kg.call x (ro1 x hx), fun c hc => (by cases hc), fun p hp => kg.meth p (ro2 p hp), kg.exc, kg.hnd, kg.isi, kg.free, kg.cis, kg.css, kg.flds, kg.tups, kg.ise⟩
  have main : ∀ n, (∀ (X : Cx), X.prog = P → X.w = w → X.K = K → X.mg = mg → X.base = base → GOk G X true (callF L T n) (2 * n) ∧ GOk G.ro X false (callF L T n) (2 * n)) → ∀ e ∈ des, ∀ fd, FunE K e fd → FnS P w K mg base (callF L T (n + 1)) true (2 * n + 2) e fd ∧ (isRo G e = true → FnS P w K mg base (callF L T (n + 1)) false (2 * n + 2) e fd) := by
    intro n hg e he fd F
    have hk := ho e he
    have hkr := ro3 e he
    unfold De.ok at hk
    unfold De.okR at hkr
    cases q : T e.key with
    | none => rw [q] at hk; cases hk
    | some fn =>
      rw [q] at hk hkr
      simp only [Bool.and_eq_true, decide_eq_true_eq, List.isEmpty_iff] at hk
      obtain ⟨k1, k2, k3, k4, k5, k6, k7⟩ := hk
      have sc := C8.fnScope_by k6
      have e1 : e.d.dvs K = [] := by unfold He.DefD.dvs; rw [k1]; rfl
      have e2 : e.d.kws K = [] := by unfold He.DefD.kws; rw [k2]; rfl
      unfold FunE at F
      rw [e1, e2] at F
      have nd : e.ps.Nodup := by
        rw [← sc.pre]
        exact sc.nd.sublist (List.take_sublist _ _)
      refine ⟨⟨?_, F.bindsN fun _ _ _ _ _ _ us hl => binds_plain nd k3 us hl, F.kp, F.bindsA fun _ _ _ _ _ _ us hl => binds_plain nd k3 us hl⟩, fun hr => ⟨?_, F.bindsN fun _ _ _ _ _ _ us hl => binds_plain nd k3 us hl, F.kp, F.bindsA fun _ _ _ _ _ _ us hl => binds_plain nd k3 us hl⟩⟩
      · refine fn_sound (L := L) (C := callF L T n) (k := 2 * n + 1) F sc k4 k5 (fun avs S => ?_) (fun X W h1 h2 h3 h4 h5 h6 h7 h8 cx => ?_)
        · simp only [callF, q]
        · have r : CR G true (callF L T n) (2 * n) ⟨e.N, e.d.scope, true, true, true, true, none⟩ X W :=
            ⟨(hg X h1 h2 h3 h4 h5).1, h6, by rw [h6]; exact sc.nd, h7, fun _ => h8, fun _ => ⟨cx.room, cx.calm⟩, by have := cx.room.un; omega, cx.tk, fun _ => ⟨cx.own, cx.stk, cx.frm⟩, rfl, fun sc h => (by cases h), (hg X h1 h2 h3 h4 h5).2⟩
          exact stepB_ok (chkS_ok 60 G true) _ _ _ r _ _ k7
      · rw [hr] at hkr
        simp only [Bool.not_true, Bool.false_or] at hkr
        refine fn_sound (L := L) (C := callF L T n) (k := 2 * n + 1) F sc k4 k5 (fun avs S => ?_) (fun X W h1 h2 h3 h4 h5 h6 h7 h8 cx => ?_)
        · simp only [callF, q]
        · have r : CR G.ro false (callF L T n) (2 * n) ⟨e.N, e.d.scope, true, true, true, false, none⟩ X W :=
            ⟨(hg X h1 h2 h3 h4 h5).2, h6, by rw [h6]; exact sc.nd, h7, fun _ => h8, fun _ => ⟨cx.room, cx.calm⟩, by have := cx.room.un; omega, cx.tk, fun _ => ⟨cx.own, cx.stk, cx.frm⟩, rfl, fun sc h => (by cases h), (hg X h1 h2 h3 h4 h5).2⟩
          exact stepB_ok (chkS_ok 60 G.ro false) _ _ _ r _ _ hkr
  intro n
  induction n with
  | zero =>
    have z : ∀ (rw : Bool), ∀ e ∈ des, ∀ fd, FunE K e fd → FnS P w K mg base (callF L T 0) rw (2 * 0) e fd := by
      intro rw e he fd F
      have hk := ho e he
      unfold De.ok at hk
      cases q : T e.key with
      | none => rw [q] at hk; cases hk
      | some fn =>
        rw [q] at hk
        simp only [Bool.and_eq_true, decide_eq_true_eq, List.isEmpty_iff] at hk
        obtain ⟨k1, k2, k3, k4, k5, k6, k7⟩ := hk
        have sc := C8.fnScope_by k6
        have e1 : e.d.dvs K = [] := by unfold He.DefD.dvs; rw [k1]; rfl
        have e2 : e.d.kws K = [] := by unfold He.DefD.kws; rw [k2]; rfl
        unfold FunE at F
        rw [e1, e2] at F
        have nd : e.ps.Nodup := by
          rw [← sc.pre]
          exact sc.nd.sublist (List.take_sublist _ _)
        refine ⟨fn_none ?_, F.bindsN fun _ _ _ _ _ _ us hl => binds_plain nd k3 us hl, F.kp, F.bindsA fun _ _ _ _ _ _ us hl => binds_plain nd k3 us hl⟩
        rintro vs H Q E ⟨m, S, avs, hS, hr, h⟩
        exact h
    exact ⟨z true, fun e he _ fd F => z false e he fd F⟩
  | succ n ih =>
    have g1 := link_ok (P := P) (w := w) (base := base) kg hl hd (fun e he _ fd F => ih.1 e he fd F)
    have g2 := link_ok (P := P) (w := w) (base := base) kr hlr hd (fun e he hk fd F => ih.2 e he (by
      rcases hk with z | ⟨c, hc, _⟩ | ⟨p, hp, e⟩
      · have z : e.key ∈ G.rfns := z
        simp [isRo, z]
      · cases hc
      · have hp : p ∈ G.rmes := hp
        simp only [isRo, Bool.or_eq_true, List.any_eq_true, decide_eq_true_eq]
        exact .inr ⟨p, hp, e⟩) fd F)
    have m := main n fun X h1 h2 h3 h4 h5 => ⟨g1 X h1 h2 h3 h4 h5, g2 X h1 h2 h3 h4 h5⟩
    exact ⟨fun e he fd F => (m e he fd F).1, fun e he hr fd F => (m e he fd F).2 hr⟩
def Says (L : Nat) (T : Tab) (n : Nat) : Prop := ∀ ns : List Int, ns.length ≤ 63 → (∀ z ∈ ns, PySem.Builtin.Int.intBits z ≤ 1048576) → ∃ S', callF L T n (Str.ofString "law") [.scr ns] [] = .ok (.bool true) S'
def spL (K : PySem.W.Frag) (L : Nat) (T : Tab) (n : Nat) : Sp := fun vs H Q _ => spC K true (callF L T n) (Str.ofString "law") vs H Q (fun _ _ _ => False)
theorem fn_cx0 {f : Addr} {fd : FuncData} {ps : List Str} {k n : Nat} (F : FnOk P w K mg base (L2.CX P w) k f fd ps (spC K true (callF L T n) (Str.ofString "law"))) : FnOk P w K mg base L2.CX0 k f fd ps (spL K L T n) :=
  ⟨fun vs H Q E z => F.len _ _ _ _ z, fun A outer s H args us vs Q E hr he hb hv z => codeAny_mono (F.run A outer s H args us vs Q (fun _ _ _ => False) hr he hb hv z) fun r s' h => by
    cases r with
    | ok r => cases r <;> exact h
    | error e =>
      obtain ⟨a, B, H', cls, d, _, _, _, _, _, _, _, hf⟩ := h
      exact hf.elim⟩
theorem law_says {n : Nat} (h : Says L T n) {H : Hp} {a : Addr} {ns : List Int} (hl : ns.length ≤ 63) (hb : ∀ z ∈ ns, PySem.Builtin.Int.intBits z ≤ 1048576) (hO : Only H) (hS : SqL K H a (ns.map V.int)) : spL K L T n [.ref a] H (fun v _ => v = .bl true) (fun _ _ _ => False) := by
  obtain ⟨S', hc⟩ := h ns hl hb
  refine ⟨⟨[], []⟩, [], [.scr ns], ⟨rfl, List.nodup_nil, fun n a o e e2 => by simp at e2, fun _ a ha => (by cases ha), fun a ha => (by cases ha), fun a ha => (by cases ha), fun a ha => (by cases ha)⟩, .cons ?_ .nil, ?_⟩
  · rcases hS with hS | hS
    · exact .scr hS (fun z => by rcases z with z | z <;> cases z)
    · exact .scrK fun H' => .inr hS
  · rw [hc]
    intro m' H' u _ _ r
    exact rep_bool r
theorem walk_EB {l : PySem.W.OpenLaw} {n k : Nat} {q : Program} {loose : List Str} {XP : (Str → Option Value) → Heap → Prop} {YP : World → Heap → Prop} {d : DefRec} {CX : CXT} {x : Str}
    (hn : l.most = some n) (hn2 : n ≤ sizeLine) (hdf : d.params.defaults = []) (hr : Room k callerA)
    (F : ∀ (w : World) (mg : Str → Option Value) (fa : Addr) (h : Heap), YP w h → h.Ns mainGlobals mg → mg d.name = some (.ref fa) →
      ∃ (K : PySem.W.Frag) (fd : FuncData) (sp : Sp), K.In h ∧ (∀ (s : Shared) (u : Value), BindsTo s fd ⟨[u], []⟩ [(x, u)]) ∧
        (∀ (H : Hp) (a : Addr) (ns : List Int), ns.length ≤ n → (∀ z ∈ ns, PySem.Builtin.Int.intBits z ≤ 1048576) → Only H → SqL K H a (ns.map V.int) → sp [.ref a] H (fun v _ => v = .bl true) fun _ _ _ => False) ∧
        ∀ base : Heap, K.In base → base.Ns mainGlobals mg → FnOk l.prog w K mg base CX k fa fd [x] sp)
    (hCX : ∀ (H : Hp) (s : Shared) (e : Value) (s' : Shared), CX [] H s (fun _ _ _ => False) e s' → False) :
    PySem.W.WalkO q loose XP YP l.row.toRowW d [] (fun f vs => PySem.call f vs) := by
  refine Att.attach_callB hn hdf fun w s₀ s₁ mg mb fa o pm cd doc a vs ns G Y ho hd hcd hmg hobj hints hlen hbits hg => ?_
  obtain ⟨K, fd, sp, KX, hb, hsp, hF⟩ := F w mg fa _ Y G.T.g hmg
  exact law_call KX G.T.g G.T.b G.T.builtins G.T.nolimit hg hobj hints (Nat.le_trans hlen hn2) hr hF hb (fun H hO hS => hsp H a ns hlen hbits hO hS) fun H e s' => hCX H s₁ e s'
theorem law_F {l : PySem.W.OpenLaw} {e : De} {n : Nat} (says : Says L T n) (hl : lnk G des = true) (hlr : lnk G.ro des = true) (hro : roOk G T des = true) (ho : ∀ e ∈ des, e.ok G T = true) (he : e ∈ des) (hk : e.key = Str.ofString "law") (hat : e.d.at_ = (Str.ofString "law", none)) (hps : e.ps = [Str.ofString "script"]) (hg : Str.ofString "law" ∈ G.fns)
    (w : World) (mg : Str → Option Value) (fa : Addr) (h : Heap) (Y : ∃ K : PySem.W.Frag, K.In h ∧ He.SaysX [] (des.map (·.d)) [] [] (exB G) w h K) (N : h.Ns mainGlobals mg) (hm : mg (Str.ofString "law") = some (.ref fa)) :
    ∃ (K : PySem.W.Frag) (fd : FuncData) (sp : Sp), K.In h ∧ (∀ (s : Shared) (u : Value), BindsTo s fd ⟨[u], []⟩ [("script", u)]) ∧
        (∀ (H : Hp) (a : Addr) (ns : List Int), ns.length ≤ 63 → (∀ z ∈ ns, PySem.Builtin.Int.intBits z ≤ 1048576) → Only H → SqL K H a (ns.map V.int) → sp [.ref a] H (fun v _ => v = .bl true) fun _ _ _ => False) ∧
        ∀ base : Heap, K.In base → base.Ns mainGlobals mg → FnOk l.prog w K mg base L2.CX0 (2 * n) fa fd ["script"] sp := by
  obtain ⟨K, KX, c⟩ := Y
  have kg := exB_ok KX N c.more
  have ef : fa = He.ga K (Str.ofString "law") := by
    have := kg.call _ hg
    rw [hm] at this; cases this; rfl
  have hD : ∀ e ∈ des, ∃ fd, FunD K e.d.name e.d.qual e.d.params e.d.body e.d.scope (e.d.dvs K) (e.d.kws K) (He.fAd K e.d.at_) fd := by
    intro e he
    have t : He.obsT [] (des.map (·.d)) [] K = He.valT (des.map (·.d)) [] w := c.t
    have t1 : He.SaysD [] (des.map (·.d)) K := congrArg Prod.fst t
    exact t1.defs (List.mem_map_of_mem he)
  obtain ⟨fd, F⟩ := hD e he
  have main : ∀ base : Heap, FnOk l.prog w K mg base (L2.CX l.prog w) (2 * n) (He.fAd K e.d.at_) fd e.ps (spC K true (callF L T n) e.key) ∧ Binds K fd e.ps [] ∧ PySem.W.keepIn K (.ref (He.fAd K e.d.at_)) = true ∧ ∀ (s : Shared) (us : List Value), us.length = e.ps.length → BindsTo s fd ⟨us, []⟩ (e.ps.zip us) :=
    fun base => (prog_sound kg hl hlr hro hD ho n).1 e he fd F
  rw [hat, hps, hk] at main
  rw [ef]
  exact ⟨K, fd, spL K L T n, KX, fun s u => (main h).2.2.2 s [u] rfl, fun H a ns h1 hb h2 h3 => law_says says h1 hb h2 h3, fun base _ _ => fn_cx0 (main base).1⟩
end HI
set_option Elab.async false
set_option linter.all false
set_option maxRecDepth 100000
namespace HP
open PySem HI
def f_is_within : Fn := { np := 3, ns := 3, pure := false, body := [(.ret (.and (.isI (.var 0) (Str.ofString "int")) (.and (.not (.isI (.var 0) (Str.ofString "bool"))) (.chain .le .le (.var 1) (.var 0) (.var 2)))))] }
class H_is_within (T : Tab) : Prop where
  eq : T (Str.ofString "is_within") = some f_is_within
theorem c_is_within {L : Nat} {T : Tab} [h : H_is_within T] (n : Nat) (as : List Val) (S : Store) : callF L T (n + 1) (Str.ofString "is_within") as S = runFn L (callF L T n) f_is_within as S := by
  simp only [callF, h.eq]
def q_is_word_1 : E := (.bin .notin (.var 1) (.lit (.str (Str.ofString "abcdefghijklmnopqrstuvwxyz"))))
def f_is_word : Fn := { np := 1, ns := 2, pure := false, body := [(.ifS (.or (.not (.isI (.var 0) (Str.ofString "str"))) (.not (.chain .le .le (.lit (.int 1)) (.un .len (.var 0)) (.lit (.int 4))))) [(.ret (.lit (.bool false)))] []), (.ret (.not (.comp (.one 1) (.seq (.var 0)) (some q_is_word_1) (.var 1))))] }
class H_is_word (T : Tab) : Prop where
  eq : T (Str.ofString "is_word") = some f_is_word
theorem c_is_word {L : Nat} {T : Tab} [h : H_is_word T] (n : Nat) (as : List Val) (S : Store) : callF L T (n + 1) (Str.ofString "is_word") as S = runFn L (callF L T n) f_is_word as S := by
  simp only [callF, h.eq]
def f_is_deed : Fn := { np := 1, ns := 1, pure := false, body := [(.ifS (.or (.not (.isI (.var 0) (Str.ofString "tuple"))) (.or (.not (.var 0)) (.not (.isI (.bin .item (.var 0) (.lit (.int 0))) (Str.ofString "str"))))) [(.ret (.lit (.bool false)))] []), (.ifS (.bin .eq (.bin .item (.var 0) (.lit (.int 0))) (.lit (.str (Str.ofString "note")))) [(.ret (.and (.bin .eq (.un .len (.var 0)) (.lit (.int 2))) (.call (Str.ofString "is_word") [(.bin .item (.var 0) (.lit (.int 1)))])))] []), (.ifS (.or (.bin .notin (.bin .item (.var 0) (.lit (.int 0))) (.tup [(.lit (.str (Str.ofString "take"))), (.lit (.str (Str.ofString "give"))), (.lit (.str (Str.ofString "need")))])) (.bin .ne (.un .len (.var 0)) (.lit (.int 3)))) [(.ret (.lit (.bool false)))] []), (.ret (.and (.call (Str.ofString "is_word") [(.bin .item (.var 0) (.lit (.int 1)))]) (.call (Str.ofString "is_within") [(.bin .item (.var 0) (.lit (.int 2))), (.lit (.int 1)), (.lit (.int 999))])))] }
class H_is_deed (T : Tab) : Prop where
  eq : T (Str.ofString "is_deed") = some f_is_deed
theorem c_is_deed {L : Nat} {T : Tab} [h : H_is_deed T] (n : Nat) (as : List Val) (S : Store) : callF L T (n + 1) (Str.ofString "is_deed") as S = runFn L (callF L T n) f_is_deed as S := by
  simp only [callF, h.eq]
def b_are_rooms_1 : List HI.S := [(.ifS (.or (.not (.isI (.var 1) (Str.ofString "tuple"))) (.or (.bin .ne (.un .len (.var 1)) (.lit (.int 3))) (.not (.call (Str.ofString "is_word") [(.bin .item (.var 1) (.lit (.int 0)))])))) [(.ret (.lit (.bool false)))] []), (.ifS (.or (.not (.call (Str.ofString "is_within") [(.bin .item (.var 1) (.lit (.int 2))), (.lit (.int 0)), (.lit (.int 999))])) (.not (.call (Str.ofString "is_within") [(.bin .item (.var 1) (.lit (.int 1))), (.lit (.int 0)), (.bin .item (.var 1) (.lit (.int 2)))]))) [(.ret (.lit (.bool false)))] [])]
def q_are_rooms_1 : E := (.bin .ge (.bin .item (.bin .item (.var 0) (.bin .sub (.var 2) (.lit (.int 1)))) (.lit (.int 0))) (.bin .item (.bin .item (.var 0) (.var 2)) (.lit (.int 0))))
def r_are_rooms_1 : List HI.S := [(.ret (.not (.comp (.one 2) (.range2 (.lit (.int 1)) (.un .len (.var 0))) (some q_are_rooms_1) (.var 2))))]
def f_are_rooms : Fn := { np := 1, ns := 3, pure := false, body := ((.ifS (.or (.not (.isI (.var 0) (Str.ofString "tuple"))) (.bin .gt (.un .len (.var 0)) (.lit (.int 6)))) [(.ret (.lit (.bool false)))] []) :: (.forS (.one 1) (.seq (.var 0)) b_are_rooms_1) :: r_are_rooms_1) }
class H_are_rooms (T : Tab) : Prop where
  eq : T (Str.ofString "are_rooms") = some f_are_rooms
theorem c_are_rooms {L : Nat} {T : Tab} [h : H_are_rooms T] (n : Nat) (as : List Val) (S : Store) : callF L T (n + 1) (Str.ofString "are_rooms") as S = runFn L (callF L T n) f_are_rooms as S := by
  simp only [callF, h.eq]
def f_is_mark : Fn := { np := 1, ns := 1, pure := false, body := [(.ifS (.or (.not (.isI (.var 0) (Str.ofString "tuple"))) (.bin .ne (.un .len (.var 0)) (.lit (.int 2)))) [(.ret (.lit (.bool false)))] []), (.ret (.and (.call (Str.ofString "is_within") [(.bin .item (.var 0) (.lit (.int 0))), (.lit (.int 0)), (.lit (.int 9999))]) (.call (Str.ofString "is_within") [(.bin .item (.var 0) (.lit (.int 1))), (.lit (.int 0)), (.lit (.int 9999))])))] }
class H_is_mark (T : Tab) : Prop where
  eq : T (Str.ofString "is_mark") = some f_is_mark
theorem c_is_mark {L : Nat} {T : Tab} [h : H_is_mark T] (n : Nat) (as : List Val) (S : Store) : callF L T (n + 1) (Str.ofString "is_mark") as S = runFn L (callF L T n) f_is_mark as S := by
  simp only [callF, h.eq]
def f_look_mark : Fn := { np := 1, ns := 1, pure := false, body := [(.ifS (.not (.call (Str.ofString "is_mark") [(.var 0)])) [(.raise (Str.ofString "BadMark"))] [])] }
class H_look_mark (T : Tab) : Prop where
  eq : T (Str.ofString "look_mark") = some f_look_mark
theorem c_look_mark {L : Nat} {T : Tab} [h : H_look_mark T] (n : Nat) (as : List Val) (S : Store) : callF L T (n + 1) (Str.ofString "look_mark") as S = runFn L (callF L T n) f_look_mark as S := by
  simp only [callF, h.eq]
def f__law_cell : Fn := { np := 2, ns := 2, pure := false, body := [(.ifS (.bin .lt (.var 1) (.un .len (.var 0))) [(.ret (.bin .item (.var 0) (.var 1)))] []), (.ret (.lit (.int 0)))] }
class H__law_cell (T : Tab) : Prop where
  eq : T (Str.ofString "_law_cell") = some f__law_cell
theorem c__law_cell {L : Nat} {T : Tab} [h : H__law_cell T] (n : Nat) (as : List Val) (S : Store) : callF L T (n + 1) (Str.ofString "_law_cell") as S = runFn L (callF L T n) f__law_cell as S := by
  simp only [callF, h.eq]
def f__law_mix : Fn := { np := 3, ns := 3, pure := false, body := [(.ret (.bin .mod (.bin .mod (.bin .pow (.bin .mod (.bin .mul (.var 0) (.lit (.int 48271))) (.var 1)) (.lit (.int 3))) (.var 1)) (.var 2)))] }
class H__law_mix (T : Tab) : Prop where
  eq : T (Str.ofString "_law_mix") = some f__law_mix
theorem c__law_mix {L : Nat} {T : Tab} [h : H__law_mix T] (n : Nat) (as : List Val) (S : Store) : callF L T (n + 1) (Str.ofString "_law_mix") as S = runFn L (callF L T n) f__law_mix as S := by
  simp only [callF, h.eq]
def f__law_seed : Fn := { np := 2, ns := 2, pure := false, body := [(.ret (.bin .mod (.bin .pow (.bin .mod (.bin .add (.bin .add (.bin .mul (.var 0) (.lit (.int 1103515245))) (.bin .mul (.lit (.int 7919)) (.var 1))) (.lit (.int 12345))) (.lit (.int 2147483647))) (.lit (.int 5))) (.lit (.int 2147483647))))] }
class H__law_seed (T : Tab) : Prop where
  eq : T (Str.ofString "_law_seed") = some f__law_seed
theorem c__law_seed {L : Nat} {T : Tab} [h : H__law_seed T] (n : Nat) (as : List Val) (S : Store) : callF L T (n + 1) (Str.ofString "_law_seed") as S = runFn L (callF L T n) f__law_seed as S := by
  simp only [callF, h.eq]
def f__law_pick : Fn := { np := 2, ns := 2, pure := false, body := [(.ret (.bin .mod (.bin .fdiv (.var 0) (.lit (.int 97))) (.var 1)))] }
class H__law_pick (T : Tab) : Prop where
  eq : T (Str.ofString "_law_pick") = some f__law_pick
theorem c__law_pick {L : Nat} {T : Tab} [h : H__law_pick T] (n : Nat) (as : List Val) (S : Store) : callF L T (n + 1) (Str.ofString "_law_pick") as S = runFn L (callF L T n) f__law_pick as S := by
  simp only [callF, h.eq]
def f__law_deed : Fn := { np := 1, ns := 4, pure := false, body := [(.set (.one 1) (.bin .item (.lst [(.lit (.str (Str.ofString "a"))), (.lit (.str (Str.ofString "b"))), (.lit (.str (Str.ofString "c"))), (.lit (.str (Str.ofString "d"))), (.lit (.str (Str.ofString "a"))), (.lit (.str (Str.ofString "b"))), (.lit (.str (Str.ofString "q"))), (.lit (.str (Str.ofString "mmmm"))), (.lit (.str (Str.ofString "z")))]) (.call (Str.ofString "_law_pick") [(.var 0), (.lit (.int 9))]))), (.set (.one 2) (.bin .item (.lst [(.bin .add (.lit (.int 1)) (.bin .mod (.bin .fdiv (.var 0) (.lit (.int 7))) (.lit (.int 4)))), (.bin .add (.lit (.int 1)) (.bin .mod (.bin .fdiv (.var 0) (.lit (.int 7))) (.lit (.int 9)))), (.bin .add (.lit (.int 1)) (.bin .mod (.bin .fdiv (.var 0) (.lit (.int 7))) (.lit (.int 999))))]) (.bin .mod (.bin .fdiv (.var 0) (.lit (.int 11))) (.lit (.int 3))))), (.set (.one 3) (.bin .item (.tup [(.lit (.str (Str.ofString "take"))), (.lit (.str (Str.ofString "give"))), (.lit (.str (Str.ofString "take"))), (.lit (.str (Str.ofString "give"))), (.lit (.str (Str.ofString "need"))), (.lit (.str (Str.ofString "note")))]) (.bin .mod (.bin .fdiv (.var 0) (.lit (.int 13))) (.lit (.int 6))))), (.ret (.ite (.bin .eq (.var 3) (.lit (.str (Str.ofString "note")))) (.tup [(.lit (.str (Str.ofString "note"))), (.var 1)]) (.tup [(.var 3), (.var 1), (.var 2)])))] }
class H__law_deed (T : Tab) : Prop where
  eq : T (Str.ofString "_law_deed") = some f__law_deed
theorem c__law_deed {L : Nat} {T : Tab} [h : H__law_deed T] (n : Nat) (as : List Val) (S : Store) : callF L T (n + 1) (Str.ofString "_law_deed") as S = runFn L (callF L T n) f__law_deed as S := by
  simp only [callF, h.eq]
def b__law_rooms_1 : List HI.S := [(.set (.one 4) (.call (Str.ofString "_law_seed") [(.var 0), (.var 2)])), (.ifS (.bin .gt (.call (Str.ofString "_law_pick") [(.var 4), (.lit (.int 5))]) (.lit (.int 0))) [(.set (.one 5) (.bin .item (.lst [(.bin .mod (.bin .fdiv (.var 4) (.lit (.int 7))) (.lit (.int 12))), (.bin .add (.lit (.int 3)) (.bin .mod (.bin .fdiv (.var 4) (.lit (.int 7))) (.lit (.int 20)))), (.lit (.int 999))]) (.bin .mod (.bin .fdiv (.var 4) (.lit (.int 11))) (.lit (.int 3))))), (.append (.var 1) (.tup [(.var 3), (.bin .item (.lst [(.lit (.int 0)), (.bin .mod (.bin .fdiv (.var 4) (.lit (.int 13))) (.bin .add (.var 5) (.lit (.int 1)))), (.var 5)]) (.bin .mod (.bin .fdiv (.var 4) (.lit (.int 17))) (.lit (.int 3)))), (.var 5)]))] [])]
def r__law_rooms_1 : List HI.S := [(.ret (.un .tuple (.var 1)))]
def f__law_rooms : Fn := { np := 1, ns := 6, pure := true, body := ((.set (.one 1) (.box [])) :: (.forS (.tup [(.one 2), (.one 3)]) (.enum (.lst [(.lit (.str (Str.ofString "a"))), (.lit (.str (Str.ofString "b"))), (.lit (.str (Str.ofString "c"))), (.lit (.str (Str.ofString "d"))), (.lit (.str (Str.ofString "mmmm"))), (.lit (.str (Str.ofString "z")))])) b__law_rooms_1) :: r__law_rooms_1) }
class H__law_rooms (T : Tab) : Prop where
  eq : T (Str.ofString "_law_rooms") = some f__law_rooms
theorem c__law_rooms {L : Nat} {T : Tab} [h : H__law_rooms T] (n : Nat) (as : List Val) (S : Store) : callF L T (n + 1) (Str.ofString "_law_rooms") as S = runFn L (callF L T n) f__law_rooms as S := by
  simp only [callF, h.eq]
def b__law_house_1 : List HI.S := [(.setI (.bin .item (.var 1) (.lit (.str (Str.ofString "there")))) (.var 2) (.var 3)), (.setI (.bin .item (.var 1) (.lit (.str (Str.ofString "top")))) (.var 2) (.var 4))]
def r__law_house_1 : List HI.S := [(.ret (.var 1))]
def f__law_house : Fn := { np := 1, ns := 5, pure := false, body := ((.set (.one 1) (.newD [Str.ofString "there", Str.ofString "top", Str.ofString "held", Str.ofString "kept", Str.ofString "barred", Str.ofString "notes"] [.newK, .newK, .newT, (.box []), (.box []), (.box [])])) :: (.forS (.tup [(.one 2), (.one 3), (.one 4)]) (.seq (.var 0)) b__law_house_1) :: r__law_house_1) }
class H__law_house (T : Tab) : Prop where
  eq : T (Str.ofString "_law_house") = some f__law_house
theorem c__law_house {L : Nat} {T : Tab} [h : H__law_house T] (n : Nat) (as : List Val) (S : Store) : callF L T (n + 1) (Str.ofString "_law_house") as S = runFn L (callF L T n) f__law_house as S := by
  simp only [callF, h.eq]
def q__law_space_1 : E := (.and (.bin .isin (.bin .item (.var 3) (.lit (.int 0))) (.tup [(.lit (.str (Str.ofString "give"))), (.lit (.str (Str.ofString "take")))])) (.bin .eq (.bin .item (.var 3) (.lit (.int 1))) (.var 1)))
def e__law_space_1 : E := (.bin .item (.var 3) (.lit (.int 2)))
def f__law_space : Fn := { np := 2, ns := 4, pure := false, body := [(.set (.one 2) (.comp (.one 3) (.values (.bin .item (.var 0) (.lit (.str (Str.ofString "held"))))) (some q__law_space_1) (.var 3))), (.ret (.bin .sub (.bin .sub (.bin .item (.bin .item (.var 0) (.lit (.str (Str.ofString "top")))) (.var 1)) (.bin .item (.bin .item (.var 0) (.lit (.str (Str.ofString "there")))) (.var 1))) (.un .sum (.comp (.one 3) (.seq (.var 2)) none e__law_space_1))))] }
class H__law_space (T : Tab) : Prop where
  eq : T (Str.ofString "_law_space") = some f__law_space
theorem c__law_space {L : Nat} {T : Tab} [h : H__law_space T] (n : Nat) (as : List Val) (S : Store) : callF L T (n + 1) (Str.ofString "_law_space") as S = runFn L (callF L T n) f__law_space as S := by
  simp only [callF, h.eq]
def f__law_try : Fn := { np := 3, ns := 3, pure := false, body := [(.ifS (.or (.bin .isin (.var 1) (.bin .item (.var 0) (.lit (.str (Str.ofString "held"))))) (.bin .isin (.var 1) (.bin .item (.var 0) (.lit (.str (Str.ofString "kept")))))) [(.ret (.lit (.str (Str.ofString "ok"))))] []), (.ifS (.bin .isin (.var 1) (.bin .item (.var 0) (.lit (.str (Str.ofString "barred"))))) [(.ret (.lit (.str (Str.ofString "barred"))))] []), (.ifS (.bin .ne (.bin .item (.var 2) (.lit (.int 0))) (.lit (.str (Str.ofString "note")))) [(.ifS (.bin .notin (.bin .item (.var 2) (.lit (.int 1))) (.bin .item (.var 0) (.lit (.str (Str.ofString "there"))))) [(.ret (.lit (.str (Str.ofString "refused"))))] []), (.ifS (.bin .gt (.bin .item (.var 2) (.lit (.int 2))) (.ite (.bin .eq (.bin .item (.var 2) (.lit (.int 0))) (.lit (.str (Str.ofString "give")))) (.call (Str.ofString "_law_space") [(.var 0), (.bin .item (.var 2) (.lit (.int 1)))]) (.bin .item (.bin .item (.var 0) (.lit (.str (Str.ofString "there")))) (.bin .item (.var 2) (.lit (.int 1)))))) [(.ret (.lit (.str (Str.ofString "refused"))))] [])] []), (.ifS (.bin .eq (.bin .item (.var 2) (.lit (.int 0))) (.lit (.str (Str.ofString "take")))) [(.augI (.bin .item (.var 0) (.lit (.str (Str.ofString "there")))) (.bin .item (.var 2) (.lit (.int 1))) .sub (.bin .item (.var 2) (.lit (.int 2))))] []), (.setI (.bin .item (.var 0) (.lit (.str (Str.ofString "held")))) (.var 1) (.var 2)), (.ret (.lit (.str (Str.ofString "ok"))))] }
class H__law_try (T : Tab) : Prop where
  eq : T (Str.ofString "_law_try") = some f__law_try
theorem c__law_try {L : Nat} {T : Tab} [h : H__law_try T] (n : Nat) (as : List Val) (S : Store) : callF L T (n + 1) (Str.ofString "_law_try") as S = runFn L (callF L T n) f__law_try as S := by
  simp only [callF, h.eq]
def f__law_keep : Fn := { np := 2, ns := 3, pure := false, body := [(.ifS (.bin .isin (.var 1) (.bin .item (.var 0) (.lit (.str (Str.ofString "held"))))) [(.set (.one 2) (.pop (.bin .item (.var 0) (.lit (.str (Str.ofString "held")))) (.var 1))), (.append (.bin .item (.var 0) (.lit (.str (Str.ofString "kept")))) (.var 1)), (.ifS (.bin .eq (.bin .item (.var 2) (.lit (.int 0))) (.lit (.str (Str.ofString "give")))) [(.augI (.bin .item (.var 0) (.lit (.str (Str.ofString "there")))) (.bin .item (.var 2) (.lit (.int 1))) .add (.bin .item (.var 2) (.lit (.int 2))))] []), (.ifS (.bin .eq (.bin .item (.var 2) (.lit (.int 0))) (.lit (.str (Str.ofString "note")))) [(.append (.bin .item (.var 0) (.lit (.str (Str.ofString "notes")))) (.bin .item (.var 2) (.lit (.int 1))))] [])] []), (.ret (.ite (.bin .isin (.var 1) (.bin .item (.var 0) (.lit (.str (Str.ofString "kept"))))) (.lit (.str (Str.ofString "ok"))) (.lit (.str (Str.ofString "nohold")))))] }
class H__law_keep (T : Tab) : Prop where
  eq : T (Str.ofString "_law_keep") = some f__law_keep
theorem c__law_keep {L : Nat} {T : Tab} [h : H__law_keep T] (n : Nat) (as : List Val) (S : Store) : callF L T (n + 1) (Str.ofString "_law_keep") as S = runFn L (callF L T n) f__law_keep as S := by
  simp only [callF, h.eq]
def f__law_back : Fn := { np := 2, ns := 3, pure := false, body := [(.ifS (.bin .isin (.var 1) (.bin .item (.var 0) (.lit (.str (Str.ofString "kept"))))) [(.ret (.lit (.str (Str.ofString "nohold"))))] []), (.ifS (.bin .isin (.var 1) (.bin .item (.var 0) (.lit (.str (Str.ofString "held"))))) [(.set (.one 2) (.pop (.bin .item (.var 0) (.lit (.str (Str.ofString "held")))) (.var 1))), (.ifS (.bin .eq (.bin .item (.var 2) (.lit (.int 0))) (.lit (.str (Str.ofString "take")))) [(.augI (.bin .item (.var 0) (.lit (.str (Str.ofString "there")))) (.bin .item (.var 2) (.lit (.int 1))) .add (.bin .item (.var 2) (.lit (.int 2))))] [])] []), (.ifS (.bin .notin (.var 1) (.bin .item (.var 0) (.lit (.str (Str.ofString "barred"))))) [(.append (.bin .item (.var 0) (.lit (.str (Str.ofString "barred")))) (.var 1))] []), (.ret (.lit (.str (Str.ofString "ok"))))] }
class H__law_back (T : Tab) : Prop where
  eq : T (Str.ofString "_law_back") = some f__law_back
theorem c__law_back {L : Nat} {T : Tab} [h : H__law_back T] (n : Nat) (as : List Val) (S : Store) : callF L T (n + 1) (Str.ofString "_law_back") as S = runFn L (callF L T n) f__law_back as S := by
  simp only [callF, h.eq]
def b__law_is_1 : List HI.S := [(.ifS (.bin .ne (.meth (.var 0) (Str.ofString "House") (Str.ofString "room") [(.var 2)]) (.call (Str.ofString "_law_space") [(.var 1), (.var 2)])) [(.ret (.lit (.bool false)))] [])]
def r__law_is_1 : List HI.S := [(.ret (.bin .eq (.meth (.var 0) (Str.ofString "House") (Str.ofString "bars") []) (.un .sorted (.bin .item (.var 1) (.lit (.str (Str.ofString "barred")))))))]
def f__law_is : Fn := { np := 2, ns := 3, pure := false, body := ((.ifS (.or (.bin .ne (.meth (.var 0) (Str.ofString "House") (Str.ofString "stock") []) (.un .tuple (.itemsS (.bin .item (.var 1) (.lit (.str (Str.ofString "there"))))))) (.bin .ne (.meth (.var 0) (Str.ofString "House") (Str.ofString "notes") []) (.bin .item (.var 1) (.lit (.str (Str.ofString "notes")))))) [(.ret (.lit (.bool false)))] []) :: (.ifS (.or (.bin .ne (.meth (.var 0) (Str.ofString "House") (Str.ofString "holds") []) (.un .sorted (.bin .item (.var 1) (.lit (.str (Str.ofString "held")))))) (.bin .ne (.meth (.var 0) (Str.ofString "House") (Str.ofString "keeps") []) (.un .sorted (.bin .item (.var 1) (.lit (.str (Str.ofString "kept"))))))) [(.ret (.lit (.bool false)))] []) :: (.forK (.one 2) (.bin .item (.var 1) (.lit (.str (Str.ofString "there")))) b__law_is_1) :: r__law_is_1) }
class H__law_is (T : Tab) : Prop where
  eq : T (Str.ofString "_law_is") = some f__law_is
theorem c__law_is {L : Nat} {T : Tab} [h : H__law_is T] (n : Nat) (as : List Val) (S : Store) : callF L T (n + 1) (Str.ofString "_law_is") as S = runFn L (callF L T n) f__law_is as S := by
  simp only [callF, h.eq]
def f__law_at : Fn := { np := 4, ns := 5, pure := false, body := [(.set (.one 4) (.lit (.str (Str.ofString "nohold")))), (.tryS [(.ifS (.bin .eq (.var 1) (.lit (.str (Str.ofString "try")))) [(.set (.one 4) (.meth (.var 0) (Str.ofString "House") (Str.ofString "attempt") [(.var 2), (.var 3)]))] [(.ifS (.bin .eq (.var 1) (.lit (.str (Str.ofString "keep")))) [(.set (.one 4) (.meth (.var 0) (Str.ofString "House") (Str.ofString "confirm") [(.var 2)]))] [(.set (.one 4) (.meth (.var 0) (Str.ofString "House") (Str.ofString "cancel") [(.var 2)]))])])] [Str.ofString "NoHold"] [[(.set (.one 4) (.lit (.str (Str.ofString "nohold"))))]]), (.ret (.var 4))] }
class H__law_at (T : Tab) : Prop where
  eq : T (Str.ofString "_law_at") = some f__law_at
theorem c__law_at {L : Nat} {T : Tab} [h : H__law_at T] (n : Nat) (as : List Val) (S : Store) : callF L T (n + 1) (Str.ofString "_law_at") as S = runFn L (callF L T n) f__law_at as S := by
  simp only [callF, h.eq]
def f__law_told : Fn := { np := 4, ns := 4, pure := false, body := [(.ifS (.bin .eq (.var 1) (.lit (.str (Str.ofString "try")))) [(.ret (.call (Str.ofString "_law_try") [(.var 0), (.var 2), (.var 3)]))] []), (.ret (.ite (.bin .eq (.var 1) (.lit (.str (Str.ofString "keep")))) (.call (Str.ofString "_law_keep") [(.var 0), (.var 2)]) (.call (Str.ofString "_law_back") [(.var 0), (.var 2)])))] }
class H__law_told (T : Tab) : Prop where
  eq : T (Str.ofString "_law_told") = some f__law_told
theorem c__law_told {L : Nat} {T : Tab} [h : H__law_told T] (n : Nat) (as : List Val) (S : Store) : callF L T (n + 1) (Str.ofString "_law_told") as S = runFn L (callF L T n) f__law_told as S := by
  simp only [callF, h.eq]
def f__law_act : Fn := { np := 1, ns := 3, pure := false, body := [(.set (.one 1) (.bin .item (.lst [(.lit (.str (Str.ofString "try"))), (.lit (.str (Str.ofString "try"))), (.lit (.str (Str.ofString "keep"))), (.lit (.str (Str.ofString "back"))), (.lit (.str (Str.ofString "try")))]) (.call (Str.ofString "_law_pick") [(.var 0), (.lit (.int 5))]))), (.set (.one 2) (.bin .mul (.lit (.int 9997)) (.un .int (.bin .eq (.bin .mod (.bin .fdiv (.var 0) (.lit (.int 17))) (.lit (.int 9))) (.lit (.int 0)))))), (.ret (.tup [(.var 1), (.tup [(.bin .add (.bin .mod (.bin .fdiv (.var 0) (.lit (.int 7))) (.lit (.int 3))) (.var 2)), (.bin .add (.bin .mod (.bin .fdiv (.var 0) (.lit (.int 11))) (.bin .item (.lst [(.lit (.int 5)), (.lit (.int 3))]) (.un .int (.bin .gt (.var 2) (.lit (.int 0)))))) (.var 2))]), (.call (Str.ofString "_law_deed") [(.call (Str.ofString "_law_seed") [(.var 0), (.lit (.int 1))])])]))] }
class H__law_act (T : Tab) : Prop where
  eq : T (Str.ofString "_law_act") = some f__law_act
theorem c__law_act {L : Nat} {T : Tab} [h : H__law_act T] (n : Nat) (as : List Val) (S : Store) : callF L T (n + 1) (Str.ofString "_law_act") as S = runFn L (callF L T n) f__law_act as S := by
  simp only [callF, h.eq]
def e_House_init_1 : E := (.tup [(.var 2), (.var 3)])
def e_House_init_2 : E := (.tup [(.var 2), (.var 4)])
def f_House_init : Fn := { np := 2, ns := 5, pure := false, body := [(.ifS (.not (.call (Str.ofString "are_rooms") [(.var 1)])) [(.raise (Str.ofString "BadRooms"))] []), (.setF (.var 0) (Str.ofString "counts") (.dictOf (.comp (.tup [(.one 2), (.one 3), (.one 4)]) (.seq (.var 1)) none e_House_init_1))), (.setF (.var 0) (Str.ofString "tops") (.dictOf (.comp (.tup [(.one 2), (.one 3), (.one 4)]) (.seq (.var 1)) none e_House_init_2))), (.setF (.var 0) (Str.ofString "held") .newT), (.setF (.var 0) (Str.ofString "kept") .newT), (.setF (.var 0) (Str.ofString "barred") .newT), (.setF (.var 0) (Str.ofString "words") (.box []))] }
class H_House_init (T : Tab) : Prop where
  eq : T (dot (Str.ofString "House") (Str.ofString "__init__")) = some f_House_init
theorem c_House_init {L : Nat} {T : Tab} [h : H_House_init T] (n : Nat) (as : List Val) (S : Store) : callF L T (n + 1) (dot (Str.ofString "House") (Str.ofString "__init__")) as S = runFn L (callF L T n) f_House_init as S := by
  simp only [callF, h.eq]
def f_House_look_key : Fn := { np := 2, ns := 2, pure := false, body := [(.ifS (.or (.not (.isI (.var 1) (Str.ofString "str"))) (.bin .notin (.var 1) (.fld (.var 0) (Str.ofString "counts")))) [(.raise (Str.ofString "NoKey"))] [])] }
class H_House_look_key (T : Tab) : Prop where
  eq : T (dot (Str.ofString "House") (Str.ofString "look_key")) = some f_House_look_key
theorem c_House_look_key {L : Nat} {T : Tab} [h : H_House_look_key T] (n : Nat) (as : List Val) (S : Store) : callF L T (n + 1) (dot (Str.ofString "House") (Str.ofString "look_key")) as S = runFn L (callF L T n) f_House_look_key as S := by
  simp only [callF, h.eq]
def e_House_of_held_1 : E := (.bin .item (.fld (.var 0) (Str.ofString "held")) (.var 4))
def q_House_of_held_1 : E := (.and (.bin .eq (.bin .item (.var 5) (.lit (.int 0))) (.var 2)) (.bin .eq (.bin .item (.var 5) (.lit (.int 1))) (.var 1)))
def e_House_of_held_2 : E := (.bin .item (.var 5) (.lit (.int 2)))
def f_House_of_held : Fn := { np := 3, ns := 6, pure := false, body := [(.set (.one 3) (.comp (.one 4) (.keys (.fld (.var 0) (Str.ofString "held"))) none e_House_of_held_1)), (.ret (.un .sum (.comp (.one 5) (.seq (.var 3)) (some q_House_of_held_1) e_House_of_held_2)))] }
class H_House_of_held (T : Tab) : Prop where
  eq : T (dot (Str.ofString "House") (Str.ofString "of_held")) = some f_House_of_held
theorem c_House_of_held {L : Nat} {T : Tab} [h : H_House_of_held T] (n : Nat) (as : List Val) (S : Store) : callF L T (n + 1) (dot (Str.ofString "House") (Str.ofString "of_held")) as S = runFn L (callF L T n) f_House_of_held as S := by
  simp only [callF, h.eq]
def f_House_space : Fn := { np := 2, ns := 3, pure := false, body := [(.set (.one 2) (.bin .add (.meth (.var 0) (Str.ofString "House") (Str.ofString "of_held") [(.var 1), (.lit (.str (Str.ofString "give")))]) (.meth (.var 0) (Str.ofString "House") (Str.ofString "of_held") [(.var 1), (.lit (.str (Str.ofString "take")))]))), (.ret (.bin .sub (.bin .sub (.bin .item (.fld (.var 0) (Str.ofString "tops")) (.var 1)) (.bin .item (.fld (.var 0) (Str.ofString "counts")) (.var 1))) (.var 2)))] }
class H_House_space (T : Tab) : Prop where
  eq : T (dot (Str.ofString "House") (Str.ofString "space")) = some f_House_space
theorem c_House_space {L : Nat} {T : Tab} [h : H_House_space T] (n : Nat) (as : List Val) (S : Store) : callF L T (n + 1) (dot (Str.ofString "House") (Str.ofString "space")) as S = runFn L (callF L T n) f_House_space as S := by
  simp only [callF, h.eq]
def f_House_can : Fn := { np := 2, ns := 2, pure := false, body := [(.ifS (.bin .eq (.bin .item (.var 1) (.lit (.int 0))) (.lit (.str (Str.ofString "note")))) [(.ret (.lit (.bool true)))] []), (.ifS (.bin .notin (.bin .item (.var 1) (.lit (.int 1))) (.fld (.var 0) (Str.ofString "counts"))) [(.ret (.lit (.bool false)))] []), (.ifS (.bin .eq (.bin .item (.var 1) (.lit (.int 0))) (.lit (.str (Str.ofString "give")))) [(.ret (.bin .le (.bin .item (.var 1) (.lit (.int 2))) (.meth (.var 0) (Str.ofString "House") (Str.ofString "space") [(.bin .item (.var 1) (.lit (.int 1)))])))] []), (.ret (.bin .le (.bin .item (.var 1) (.lit (.int 2))) (.bin .item (.fld (.var 0) (Str.ofString "counts")) (.bin .item (.var 1) (.lit (.int 1))))))] }
class H_House_can (T : Tab) : Prop where
  eq : T (dot (Str.ofString "House") (Str.ofString "can")) = some f_House_can
theorem c_House_can {L : Nat} {T : Tab} [h : H_House_can T] (n : Nat) (as : List Val) (S : Store) : callF L T (n + 1) (dot (Str.ofString "House") (Str.ofString "can")) as S = runFn L (callF L T n) f_House_can as S := by
  simp only [callF, h.eq]
def f_House_attempt : Fn := { np := 3, ns := 3, pure := false, body := [(.expr (.call (Str.ofString "look_mark") [(.var 1)])), (.ifS (.not (.call (Str.ofString "is_deed") [(.var 2)])) [(.raise (Str.ofString "BadDeed"))] []), (.ifS (.or (.bin .isin (.var 1) (.fld (.var 0) (Str.ofString "held"))) (.bin .isin (.var 1) (.fld (.var 0) (Str.ofString "kept")))) [(.ret (.lit (.str (Str.ofString "ok"))))] []), (.ifS (.bin .isin (.var 1) (.fld (.var 0) (Str.ofString "barred"))) [(.ret (.lit (.str (Str.ofString "barred"))))] []), (.ifS (.not (.meth (.var 0) (Str.ofString "House") (Str.ofString "can") [(.var 2)])) [(.ret (.lit (.str (Str.ofString "refused"))))] []), (.setI (.fld (.var 0) (Str.ofString "held")) (.var 1) (.var 2)), (.ifS (.bin .eq (.bin .item (.var 2) (.lit (.int 0))) (.lit (.str (Str.ofString "take")))) [(.augI (.fld (.var 0) (Str.ofString "counts")) (.bin .item (.var 2) (.lit (.int 1))) .sub (.bin .item (.var 2) (.lit (.int 2))))] []), (.ret (.lit (.str (Str.ofString "ok"))))] }
class H_House_attempt (T : Tab) : Prop where
  eq : T (dot (Str.ofString "House") (Str.ofString "attempt")) = some f_House_attempt
theorem c_House_attempt {L : Nat} {T : Tab} [h : H_House_attempt T] (n : Nat) (as : List Val) (S : Store) : callF L T (n + 1) (dot (Str.ofString "House") (Str.ofString "attempt")) as S = runFn L (callF L T n) f_House_attempt as S := by
  simp only [callF, h.eq]
def f_House_confirm : Fn := { np := 2, ns := 3, pure := false, body := [(.expr (.call (Str.ofString "look_mark") [(.var 1)])), (.ifS (.bin .isin (.var 1) (.fld (.var 0) (Str.ofString "kept"))) [(.ret (.lit (.str (Str.ofString "ok"))))] []), (.ifS (.bin .notin (.var 1) (.fld (.var 0) (Str.ofString "held"))) [(.raise (Str.ofString "NoHold"))] []), (.set (.one 2) (.pop (.fld (.var 0) (Str.ofString "held")) (.var 1))), (.setI (.fld (.var 0) (Str.ofString "kept")) (.var 1) (.var 2)), (.ifS (.bin .eq (.bin .item (.var 2) (.lit (.int 0))) (.lit (.str (Str.ofString "give")))) [(.augI (.fld (.var 0) (Str.ofString "counts")) (.bin .item (.var 2) (.lit (.int 1))) .add (.bin .item (.var 2) (.lit (.int 2))))] []), (.ifS (.bin .eq (.bin .item (.var 2) (.lit (.int 0))) (.lit (.str (Str.ofString "note")))) [(.append (.fld (.var 0) (Str.ofString "words")) (.bin .item (.var 2) (.lit (.int 1))))] []), (.ret (.lit (.str (Str.ofString "ok"))))] }
class H_House_confirm (T : Tab) : Prop where
  eq : T (dot (Str.ofString "House") (Str.ofString "confirm")) = some f_House_confirm
theorem c_House_confirm {L : Nat} {T : Tab} [h : H_House_confirm T] (n : Nat) (as : List Val) (S : Store) : callF L T (n + 1) (dot (Str.ofString "House") (Str.ofString "confirm")) as S = runFn L (callF L T n) f_House_confirm as S := by
  simp only [callF, h.eq]
def f_House_cancel : Fn := { np := 2, ns := 3, pure := false, body := [(.expr (.call (Str.ofString "look_mark") [(.var 1)])), (.ifS (.bin .isin (.var 1) (.fld (.var 0) (Str.ofString "kept"))) [(.raise (Str.ofString "NoHold"))] []), (.ifS (.bin .isin (.var 1) (.fld (.var 0) (Str.ofString "held"))) [(.set (.one 2) (.pop (.fld (.var 0) (Str.ofString "held")) (.var 1))), (.ifS (.bin .eq (.bin .item (.var 2) (.lit (.int 0))) (.lit (.str (Str.ofString "take")))) [(.augI (.fld (.var 0) (Str.ofString "counts")) (.bin .item (.var 2) (.lit (.int 1))) .add (.bin .item (.var 2) (.lit (.int 2))))] [])] []), (.setI (.fld (.var 0) (Str.ofString "barred")) (.var 1) (.lit (.bool true))), (.ret (.lit (.str (Str.ofString "ok"))))] }
class H_House_cancel (T : Tab) : Prop where
  eq : T (dot (Str.ofString "House") (Str.ofString "cancel")) = some f_House_cancel
theorem c_House_cancel {L : Nat} {T : Tab} [h : H_House_cancel T] (n : Nat) (as : List Val) (S : Store) : callF L T (n + 1) (dot (Str.ofString "House") (Str.ofString "cancel")) as S = runFn L (callF L T n) f_House_cancel as S := by
  simp only [callF, h.eq]
def e_House_stock_1 : E := (.tup [(.var 1), (.bin .item (.fld (.var 0) (Str.ofString "counts")) (.var 1))])
def f_House_stock : Fn := { np := 1, ns := 2, pure := false, body := [(.ret (.un .tuple (.comp (.one 1) (.seq (.un .sorted (.fld (.var 0) (Str.ofString "counts")))) none e_House_stock_1)))] }
class H_House_stock (T : Tab) : Prop where
  eq : T (dot (Str.ofString "House") (Str.ofString "stock")) = some f_House_stock
theorem c_House_stock {L : Nat} {T : Tab} [h : H_House_stock T] (n : Nat) (as : List Val) (S : Store) : callF L T (n + 1) (dot (Str.ofString "House") (Str.ofString "stock")) as S = runFn L (callF L T n) f_House_stock as S := by
  simp only [callF, h.eq]
def f_House_room : Fn := { np := 2, ns := 2, pure := false, body := [(.expr (.meth (.var 0) (Str.ofString "House") (Str.ofString "look_key") [(.var 1)])), (.ret (.meth (.var 0) (Str.ofString "House") (Str.ofString "space") [(.var 1)]))] }
class H_House_room (T : Tab) : Prop where
  eq : T (dot (Str.ofString "House") (Str.ofString "room")) = some f_House_room
theorem c_House_room {L : Nat} {T : Tab} [h : H_House_room T] (n : Nat) (as : List Val) (S : Store) : callF L T (n + 1) (dot (Str.ofString "House") (Str.ofString "room")) as S = runFn L (callF L T n) f_House_room as S := by
  simp only [callF, h.eq]
def f_House_holds : Fn := { np := 1, ns := 1, pure := false, body := [(.ret (.un .sorted (.fld (.var 0) (Str.ofString "held"))))] }
class H_House_holds (T : Tab) : Prop where
  eq : T (dot (Str.ofString "House") (Str.ofString "holds")) = some f_House_holds
theorem c_House_holds {L : Nat} {T : Tab} [h : H_House_holds T] (n : Nat) (as : List Val) (S : Store) : callF L T (n + 1) (dot (Str.ofString "House") (Str.ofString "holds")) as S = runFn L (callF L T n) f_House_holds as S := by
  simp only [callF, h.eq]
def f_House_keeps : Fn := { np := 1, ns := 1, pure := false, body := [(.ret (.un .sorted (.fld (.var 0) (Str.ofString "kept"))))] }
class H_House_keeps (T : Tab) : Prop where
  eq : T (dot (Str.ofString "House") (Str.ofString "keeps")) = some f_House_keeps
theorem c_House_keeps {L : Nat} {T : Tab} [h : H_House_keeps T] (n : Nat) (as : List Val) (S : Store) : callF L T (n + 1) (dot (Str.ofString "House") (Str.ofString "keeps")) as S = runFn L (callF L T n) f_House_keeps as S := by
  simp only [callF, h.eq]
def f_House_bars : Fn := { np := 1, ns := 1, pure := false, body := [(.ret (.un .sorted (.fld (.var 0) (Str.ofString "barred"))))] }
class H_House_bars (T : Tab) : Prop where
  eq : T (dot (Str.ofString "House") (Str.ofString "bars")) = some f_House_bars
theorem c_House_bars {L : Nat} {T : Tab} [h : H_House_bars T] (n : Nat) (as : List Val) (S : Store) : callF L T (n + 1) (dot (Str.ofString "House") (Str.ofString "bars")) as S = runFn L (callF L T n) f_House_bars as S := by
  simp only [callF, h.eq]
def f_House_notes : Fn := { np := 1, ns := 1, pure := false, body := [(.ret (.un .list (.fld (.var 0) (Str.ofString "words"))))] }
class H_House_notes (T : Tab) : Prop where
  eq : T (dot (Str.ofString "House") (Str.ofString "notes")) = some f_House_notes
theorem c_House_notes {L : Nat} {T : Tab} [h : H_House_notes T] (n : Nat) (as : List Val) (S : Store) : callF L T (n + 1) (dot (Str.ofString "House") (Str.ofString "notes")) as S = runFn L (callF L T n) f_House_notes as S := by
  simp only [callF, h.eq]
def b__law_behind_1 : List HI.S := [(.set (.tup [(.one 7), (.one 8), (.one 9)]) (.call (Str.ofString "_law_act") [(.call (Str.ofString "_law_seed") [(.bin .add (.call (Str.ofString "_law_cell") [(.var 0), (.bin .add (.bin .add (.var 1) (.lit (.int 1))) (.bin .mod (.var 6) (.lit (.int 5))))]) (.bin .mul (.lit (.int 47)) (.var 6))), (.var 6)])])), (.expr (.call (Str.ofString "_law_at") [(.var 4), (.var 7), (.var 8), (.var 9)])), (.expr (.call (Str.ofString "_law_told") [(.var 5), (.var 7), (.var 8), (.var 9)]))]
def r__law_behind_1 : List HI.S := [(.ret (.tup [(.var 4), (.var 5)]))]
def f__law_behind : Fn := { np := 4, ns := 10, pure := false, body := ((.set (.one 4) (.make (Str.ofString "House") [(.var 2)])) :: (.set (.one 5) (.call (Str.ofString "_law_house") [(.var 2)])) :: (.forS (.one 6) (.range1 (.call (Str.ofString "_law_mix") [(.call (Str.ofString "_law_cell") [(.var 0), (.var 1)]), (.lit (.int 9949)), (.bin .add (.var 3) (.lit (.int 1)))])) b__law_behind_1) :: r__law_behind_1) }
class H__law_behind (T : Tab) : Prop where
  eq : T (Str.ofString "_law_behind") = some f__law_behind
theorem c__law_behind {L : Nat} {T : Tab} [h : H__law_behind T] (n : Nat) (as : List Val) (S : Store) : callF L T (n + 1) (Str.ofString "_law_behind") as S = runFn L (callF L T n) f__law_behind as S := by
  simp only [callF, h.eq]
def e__law_bounds_1 : E := (.tup [(.var 3), (.var 5)])
def b__law_bounds_1 : List HI.S := [(.ifS (.or (.bin .lt (.var 4) (.lit (.int 0))) (.or (.bin .gt (.var 4) (.bin .item (.var 2) (.var 3))) (.bin .lt (.meth (.var 0) (Str.ofString "House") (Str.ofString "room") [(.var 3)]) (.lit (.int 0))))) [(.ret (.lit (.bool false)))] [])]
def r__law_bounds_1 : List HI.S := [(.ret (.bin .eq (.un .len (.meth (.var 0) (Str.ofString "House") (Str.ofString "stock") [])) (.un .len (.var 1))))]
def f__law_bounds : Fn := { np := 2, ns := 6, pure := true, body := ((.set (.one 2) (.dictOf (.comp (.tup [(.one 3), (.one 4), (.one 5)]) (.seq (.var 1)) none e__law_bounds_1))) :: (.forS (.tup [(.one 3), (.one 4)]) (.seq (.meth (.var 0) (Str.ofString "House") (Str.ofString "stock") [])) b__law_bounds_1) :: r__law_bounds_1) }
class H__law_bounds (T : Tab) : Prop where
  eq : T (Str.ofString "_law_bounds") = some f__law_bounds
theorem c__law_bounds {L : Nat} {T : Tab} [h : H__law_bounds T] (n : Nat) (as : List Val) (S : Store) : callF L T (n + 1) (Str.ofString "_law_bounds") as S = runFn L (callF L T n) f__law_bounds as S := by
  simp only [callF, h.eq]
def b_leaves_left_1 : List HI.S := [(.ifS (.bin .ge (.var 1) (.lit (.int 0))) [(.set (.one 1) (.call (Str.ofString "leaves_left") [(.var 3), (.var 1), (.bin .add (.var 2) (.lit (.int 1)))]))] [])]
def r_leaves_left_1 : List HI.S := [(.ret (.var 1))]
def f_leaves_left : Fn := { np := 3, ns := 4, pure := false, body := ((.ifS (.or (.not (.isI (.var 0) (Str.ofString "tuple"))) (.or (.not (.var 0)) (.or (.not (.isI (.bin .item (.var 0) (.lit (.int 0))) (Str.ofString "str"))) (.bin .gt (.var 2) (.lit (.int 4)))))) [(.ret (.un .neg (.lit (.int 1))))] []) :: (.ifS (.bin .eq (.bin .item (.var 0) (.lit (.int 0))) (.lit (.str (Str.ofString "do")))) [(.ifS (.or (.bin .ne (.un .len (.var 0)) (.lit (.int 3))) (.or (.not (.call (Str.ofString "is_within") [(.bin .item (.var 0) (.lit (.int 1))), (.lit (.int 0)), (.bin .sub (.lit (.int 5)) (.lit (.int 1)))])) (.not (.call (Str.ofString "is_deed") [(.bin .item (.var 0) (.lit (.int 2)))])))) [(.ret (.un .neg (.lit (.int 1))))] []), (.ret (.bin .sub (.var 1) (.lit (.int 1))))] []) :: (.ifS (.or (.bin .notin (.bin .item (.var 0) (.lit (.int 0))) (.tup [(.lit (.str (Str.ofString "all"))), (.lit (.str (Str.ofString "any")))])) (.or (.bin .ne (.un .len (.var 0)) (.lit (.int 2))) (.not (.isI (.bin .item (.var 0) (.lit (.int 1))) (Str.ofString "tuple"))))) [(.ret (.un .neg (.lit (.int 1))))] []) :: (.ifS (.not (.chain .le .le (.lit (.int 1)) (.un .len (.bin .item (.var 0) (.lit (.int 1)))) (.lit (.int 4)))) [(.ret (.un .neg (.lit (.int 1))))] []) :: (.forS (.one 3) (.seq (.bin .item (.var 0) (.lit (.int 1)))) b_leaves_left_1) :: r_leaves_left_1) }
class H_leaves_left (T : Tab) : Prop where
  eq : T (Str.ofString "leaves_left") = some f_leaves_left
theorem c_leaves_left {L : Nat} {T : Tab} [h : H_leaves_left T] (n : Nat) (as : List Val) (S : Store) : callF L T (n + 1) (Str.ofString "leaves_left") as S = runFn L (callF L T n) f_leaves_left as S := by
  simp only [callF, h.eq]
def f_is_errand : Fn := { np := 1, ns := 1, pure := false, body := [(.ret (.bin .ge (.call (Str.ofString "leaves_left") [(.var 0), (.lit (.int 12)), (.lit (.int 1))]) (.lit (.int 0))))] }
class H_is_errand (T : Tab) : Prop where
  eq : T (Str.ofString "is_errand") = some f_is_errand
theorem c_is_errand {L : Nat} {T : Tab} [h : H_is_errand T] (n : Nat) (as : List Val) (S : Store) : callF L T (n + 1) (Str.ofString "is_errand") as S = runFn L (callF L T n) f_is_errand as S := by
  simp only [callF, h.eq]
def b_leaves_of_1 : List HI.S := [(.extend (.var 1) (.call (Str.ofString "leaves_of") [(.var 2)]))]
def r_leaves_of_1 : List HI.S := [(.ret (.var 1))]
def f_leaves_of : Fn := { np := 1, ns := 3, pure := true, body := ((.ifS (.bin .eq (.bin .item (.var 0) (.lit (.int 0))) (.lit (.str (Str.ofString "do")))) [(.ret (.lst [(.slice (.var 0) (some (.lit (.int 1))) none)]))] []) :: (.set (.one 1) (.box [])) :: (.forS (.one 2) (.seq (.bin .item (.var 0) (.lit (.int 1)))) b_leaves_of_1) :: r_leaves_of_1) }
class H_leaves_of (T : Tab) : Prop where
  eq : T (Str.ofString "leaves_of") = some f_leaves_of
theorem c_leaves_of {L : Nat} {T : Tab} [h : H_leaves_of T] (n : Nat) (as : List Val) (S : Store) : callF L T (n + 1) (Str.ofString "leaves_of") as S = runFn L (callF L T n) f_leaves_of as S := by
  simp only [callF, h.eq]
def f_look : Fn := { np := 1, ns := 1, pure := false, body := [(.ifS (.not (.call (Str.ofString "is_errand") [(.var 0)])) [(.raise (Str.ofString "BadErrand"))] [])] }
class H_look (T : Tab) : Prop where
  eq : T (Str.ofString "look") = some f_look
theorem c_look {L : Nat} {T : Tab} [h : H_look T] (n : Nat) (as : List Val) (S : Store) : callF L T (n + 1) (Str.ofString "look") as S = runFn L (callF L T n) f_look as S := by
  simp only [callF, h.eq]
def f_leaves : Fn := { np := 1, ns := 1, pure := false, body := [(.expr (.call (Str.ofString "look") [(.var 0)])), (.ret (.call (Str.ofString "leaves_of") [(.var 0)]))] }
class H_leaves (T : Tab) : Prop where
  eq : T (Str.ofString "leaves") = some f_leaves
theorem c_leaves {L : Nat} {T : Tab} [h : H_leaves T] (n : Nat) (as : List Val) (S : Store) : callF L T (n + 1) (Str.ofString "leaves") as S = runFn L (callF L T n) f_leaves as S := by
  simp only [callF, h.eq]
def f_of_leaf : Fn := { np := 2, ns := 2, pure := false, body := [(.ifS (.bin .eq (.var 0) (.lit (.str (Str.ofString "new")))) [(.ret (.tup [(.lit (.str (Str.ofString "open"))), (.tup [(.lit (.str (Str.ofString "try"))), (.var 1)])]))] []), (.ifS (.bin .eq (.var 0) (.lit (.str (Str.ofString "doubt")))) [(.ret (.tup [(.lit (.str (Str.ofString "open"))), (.tup [(.lit (.str (Str.ofString "cancel"))), (.var 1)])]))] []), (.ifS (.bin .isin (.var 0) (.tup [(.lit (.str (Str.ofString "refused"))), (.lit (.str (Str.ofString "left")))])) [(.ret (.tup [(.lit (.str (Str.ofString "failed"))), (.lit .non)]))] []), (.ret (.tup [(.lit (.str (Str.ofString "good"))), (.lit .non)]))] }
class H_of_leaf (T : Tab) : Prop where
  eq : T (Str.ofString "of_leaf") = some f_of_leaf
theorem c_of_leaf {L : Nat} {T : Tab} [h : H_of_leaf T] (n : Nat) (as : List Val) (S : Store) : callF L T (n + 1) (Str.ofString "of_leaf") as S = runFn L (callF L T n) f_of_leaf as S := by
  simp only [callF, h.eq]
def q_how_1 : E := (.bin .eq (.bin .item (.var 1) (.var 9)) (.lit (.str (Str.ofString "tried"))))
def b_how_1 : List HI.S := [(.set (.tup [(.one 3), (.one 4), (.one 2)]) (.call (Str.ofString "how") [(.var 7), (.var 1), (.var 2)])), (.ifS (.or (.bin .eq (.var 3) (.lit (.str (Str.ofString "open")))) (.and (.bin .eq (.bin .item (.var 0) (.lit (.int 0))) (.lit (.str (Str.ofString "any")))) (.bin .eq (.var 3) (.lit (.str (Str.ofString "good")))))) [(.ret (.tup [(.var 3), (.var 4), (.var 6)]))] []), (.ifS (.and (.bin .eq (.bin .item (.var 0) (.lit (.int 0))) (.lit (.str (Str.ofString "all")))) (.bin .eq (.var 3) (.lit (.str (Str.ofString "failed"))))) [(.set (.one 8) (.comp (.one 9) (.range2 (.var 5) (.var 6)) (some q_how_1) (.var 9))), (.ifS (.var 8) [(.ret (.tup [(.lit (.str (Str.ofString "open"))), (.tup [(.lit (.str (Str.ofString "cancel"))), (.bin .item (.var 8) (.un .neg (.lit (.int 1))))]), (.var 6)]))] []), (.ret (.tup [(.lit (.str (Str.ofString "failed"))), (.lit .non), (.var 6)]))] [])]
def r_how_1 : List HI.S := [(.ret (.tup [(.bin .item (.newD [Str.ofString "all", Str.ofString "any"] [(.lit (.str (Str.ofString "good"))), (.lit (.str (Str.ofString "failed")))]) (.bin .item (.var 0) (.lit (.int 0)))), (.lit .non), (.var 6)]))]
def f_how : Fn := { np := 3, ns := 10, pure := true, body := ((.ifS (.bin .eq (.bin .item (.var 0) (.lit (.int 0))) (.lit (.str (Str.ofString "do")))) [(.set (.tup [(.one 3), (.one 4)]) (.call (Str.ofString "of_leaf") [(.bin .item (.var 1) (.var 2)), (.var 2)])), (.ret (.tup [(.var 3), (.var 4), (.bin .add (.var 2) (.lit (.int 1)))]))] []) :: (.set (.one 5) (.var 2)) :: (.set (.one 6) (.bin .add (.var 2) (.un .len (.call (Str.ofString "leaves_of") [(.var 0)])))) :: (.forS (.one 7) (.seq (.bin .item (.var 0) (.lit (.int 1)))) b_how_1) :: r_how_1) }
class H_how (T : Tab) : Prop where
  eq : T (Str.ofString "how") = some f_how
theorem c_how {L : Nat} {T : Tab} [h : H_how T] (n : Nat) (as : List Val) (S : Store) : callF L T (n + 1) (Str.ofString "how") as S = runFn L (callF L T n) f_how as S := by
  simp only [callF, h.eq]
def f_next_of : Fn := { np := 2, ns := 5, pure := false, body := [(.set (.tup [(.one 2), (.one 3), (.one 4)]) (.call (Str.ofString "how") [(.var 0), (.var 1), (.lit (.int 0))])), (.ifS (.bin .eq (.var 2) (.lit (.str (Str.ofString "open")))) [(.ret (.var 3))] []), (.ret (.ite (.bin .eq (.var 2) (.lit (.str (Str.ofString "good")))) (.tup [(.lit (.str (Str.ofString "sure")))]) (.tup [(.lit (.str (Str.ofString "not")))])))] }
class H_next_of (T : Tab) : Prop where
  eq : T (Str.ofString "next_of") = some f_next_of
theorem c_next_of {L : Nat} {T : Tab} [h : H_next_of T] (n : Nat) (as : List Val) (S : Store) : callF L T (n + 1) (Str.ofString "next_of") as S = runFn L (callF L T n) f_next_of as S := by
  simp only [callF, h.eq]
def q_look_known_1 : E := (.or (.not (.isI (.var 2) (Str.ofString "str"))) (.inG true (.var 2) (Str.ofString "WORDS") [Str.ofString "new", Str.ofString "tried", Str.ofString "refused", Str.ofString "doubt", Str.ofString "gone", Str.ofString "left"]))
def f_look_known : Fn := { np := 2, ns := 3, pure := false, body := [(.expr (.call (Str.ofString "look") [(.var 0)])), (.ifS (.or (.not (.isI (.var 1) (Str.ofString "tuple"))) (.bin .ne (.un .len (.var 1)) (.un .len (.call (Str.ofString "leaves_of") [(.var 0)])))) [(.raise (Str.ofString "BadKnown"))] []), (.ifS (.comp (.one 2) (.seq (.var 1)) (some q_look_known_1) (.var 2)) [(.raise (Str.ofString "BadKnown"))] [])] }
class H_look_known (T : Tab) : Prop where
  eq : T (Str.ofString "look_known") = some f_look_known
theorem c_look_known {L : Nat} {T : Tab} [h : H_look_known T] (n : Nat) (as : List Val) (S : Store) : callF L T (n + 1) (Str.ofString "look_known") as S = runFn L (callF L T n) f_look_known as S := by
  simp only [callF, h.eq]
def f_next_move : Fn := { np := 2, ns := 2, pure := false, body := [(.expr (.call (Str.ofString "look_known") [(.var 0), (.var 1)])), (.ret (.call (Str.ofString "next_of") [(.var 0), (.var 1)]))] }
class H_next_move (T : Tab) : Prop where
  eq : T (Str.ofString "next_move") = some f_next_move
theorem c_next_move {L : Nat} {T : Tab} [h : H_next_move T] (n : Nat) (as : List Val) (S : Store) : callF L T (n + 1) (Str.ofString "next_move") as S = runFn L (callF L T n) f_next_move as S := by
  simp only [callF, h.eq]
def q_chosen_1 : E := (.bin .eq (.var 3) (.lit (.str (Str.ofString "tried"))))
def f_chosen : Fn := { np := 2, ns := 4, pure := false, body := [(.expr (.call (Str.ofString "look_known") [(.var 0), (.var 1)])), (.ret (.comp (.tup [(.one 2), (.one 3)]) (.enum (.var 1)) (some q_chosen_1) (.var 2)))] }
class H_chosen (T : Tab) : Prop where
  eq : T (Str.ofString "chosen") = some f_chosen
theorem c_chosen {L : Nat} {T : Tab} [h : H_chosen T] (n : Nat) (as : List Val) (S : Store) : callF L T (n + 1) (Str.ofString "chosen") as S = runFn L (callF L T n) f_chosen as S := by
  simp only [callF, h.eq]
def f_is_row : Fn := { np := 1, ns := 2, pure := true, body := [(.set (.one 1) (.newD [Str.ofString "begin", Str.ofString "tried", Str.ofString "refused", Str.ofString "doubt", Str.ofString "gone", Str.ofString "sure", Str.ofString "kept", Str.ofString "end"] [(.lit (.int 3)), (.lit (.int 3)), (.lit (.int 3)), (.lit (.int 3)), (.lit (.int 3)), (.lit (.int 2)), (.lit (.int 3)), (.lit (.int 3))])), (.ifS (.or (.not (.isI (.var 0) (Str.ofString "tuple"))) (.or (.not (.var 0)) (.or (.not (.isI (.bin .item (.var 0) (.lit (.int 0))) (Str.ofString "str"))) (.bin .notin (.bin .item (.var 0) (.lit (.int 0))) (.var 1))))) [(.ret (.lit (.bool false)))] []), (.ifS (.or (.bin .ne (.un .len (.var 0)) (.bin .item (.var 1) (.bin .item (.var 0) (.lit (.int 0))))) (.not (.call (Str.ofString "is_within") [(.bin .item (.var 0) (.lit (.int 1))), (.lit (.int 0)), (.lit (.int 9999))]))) [(.ret (.lit (.bool false)))] []), (.ifS (.bin .eq (.bin .item (.var 0) (.lit (.int 0))) (.lit (.str (Str.ofString "begin")))) [(.ret (.call (Str.ofString "is_errand") [(.bin .item (.var 0) (.lit (.int 2)))]))] []), (.ifS (.bin .eq (.bin .item (.var 0) (.lit (.int 0))) (.lit (.str (Str.ofString "end")))) [(.ret (.and (.isI (.bin .item (.var 0) (.lit (.int 2))) (Str.ofString "str")) (.bin .isin (.bin .item (.var 0) (.lit (.int 2))) (.tup [(.lit (.str (Str.ofString "done"))), (.lit (.str (Str.ofString "not")))]))))] []), (.ret (.or (.bin .eq (.un .len (.var 0)) (.lit (.int 2))) (.call (Str.ofString "is_within") [(.bin .item (.var 0) (.lit (.int 2))), (.lit (.int 0)), (.lit (.int 11))])))] }
class H_is_row (T : Tab) : Prop where
  eq : T (Str.ofString "is_row") = some f_is_row
theorem c_is_row {L : Nat} {T : Tab} [h : H_is_row T] (n : Nat) (as : List Val) (S : Store) : callF L T (n + 1) (Str.ofString "is_row") as S = runFn L (callF L T n) f_is_row as S := by
  simp only [callF, h.eq]
def q_are_houses_1 : E := (.not (.isI (.var 1) (Str.ofString "House")))
def f_are_houses : Fn := { np := 1, ns := 2, pure := false, body := [(.ifS (.or (.not (.isI (.var 0) (Str.ofString "tuple"))) (.not (.chain .le .le (.lit (.int 1)) (.un .len (.var 0)) (.lit (.int 5))))) [(.ret (.lit (.bool false)))] []), (.ret (.not (.comp (.one 1) (.seq (.var 0)) (some q_are_houses_1) (.var 1))))] }
class H_are_houses (T : Tab) : Prop where
  eq : T (Str.ofString "are_houses") = some f_are_houses
theorem c_are_houses {L : Nat} {T : Tab} [h : H_are_houses T] (n : Nat) (as : List Val) (S : Store) : callF L T (n + 1) (Str.ofString "are_houses") as S = runFn L (callF L T n) f_are_houses as S := by
  simp only [callF, h.eq]
def q_look_rooms_1 : E := (.not (.call (Str.ofString "are_rooms") [(.var 1)]))
def f_look_rooms : Fn := { np := 1, ns := 2, pure := false, body := [(.ifS (.or (.not (.isI (.var 0) (Str.ofString "tuple"))) (.not (.chain .le .le (.lit (.int 1)) (.un .len (.var 0)) (.lit (.int 5))))) [(.raise (Str.ofString "BadRooms"))] []), (.ifS (.comp (.one 1) (.seq (.var 0)) (some q_look_rooms_1) (.var 1)) [(.raise (Str.ofString "BadRooms"))] [])] }
class H_look_rooms (T : Tab) : Prop where
  eq : T (Str.ofString "look_rooms") = some f_look_rooms
theorem c_look_rooms {L : Nat} {T : Tab} [h : H_look_rooms T] (n : Nat) (as : List Val) (S : Store) : callF L T (n + 1) (Str.ofString "look_rooms") as S = runFn L (callF L T n) f_look_rooms as S := by
  simp only [callF, h.eq]
def q_alone_1 : E := (.bin .ge (.bin .item (.var 2) (.lit (.int 0))) (.un .len (.var 0)))
def e_alone_1 : E := (.make (Str.ofString "House") [(.var 4)])
def q_alone_2 : E := (.bin .eq (.bin .item (.var 8) (.lit (.int 0))) (.lit (.str (Str.ofString "kept"))))
def e_alone_2 : E := (.bin .item (.var 8) (.lit (.int 2)))
def e_alone_3 : E := (.meth (.var 9) (Str.ofString "House") (Str.ofString "stock") [])
def f_alone : Fn := { np := 2, ns := 10, pure := true, body := [(.expr (.call (Str.ofString "look_rooms") [(.var 0)])), (.ifS (.or (.not (.call (Str.ofString "is_errand") [(.var 1)])) (.comp (.one 2) (.seq (.call (Str.ofString "leaves_of") [(.var 1)])) (some q_alone_1) (.var 2))) [(.raise (Str.ofString "BadErrand"))] []), (.set (.one 3) (.un .tuple (.comp (.one 4) (.seq (.var 0)) none e_alone_1))), (.set (.one 5) (.make (Str.ofString "Book") [(.lst [])])), (.set (.one 6) (.make (Str.ofString "Runner") [(.var 3), (.var 5), (.make (Str.ofString "Road") [(.tup [])]), (.lit (.int 0)), (.lit .non)])), (.expr (.meth (.var 6) (Str.ofString "Runner") (Str.ofString "begin") [(.var 1)])), (.expr (.meth (.var 6) (Str.ofString "Runner") (Str.ofString "finish") [])), (.set (.one 7) (.comp (.one 8) (.seq (.meth (.var 5) (Str.ofString "Book") (Str.ofString "rows") [])) (some q_alone_2) e_alone_2)), (.ret (.tup [(.bin .item (.bin .item (.meth (.var 5) (Str.ofString "Book") (Str.ofString "stands") []) (.lit (.int 0))) (.lit (.int 2))), (.var 7), (.un .tuple (.comp (.one 9) (.seq (.var 3)) none e_alone_3))]))] }
class H_alone (T : Tab) : Prop where
  eq : T (Str.ofString "alone") = some f_alone
theorem c_alone {L : Nat} {T : Tab} [h : H_alone T] (n : Nat) (as : List Val) (S : Store) : callF L T (n + 1) (Str.ofString "alone") as S = runFn L (callF L T n) f_alone as S := by
  simp only [callF, h.eq]
def e_text_of_1 : E := (.un .str (.var 1))
def e_text_of_2 : E := (.call (Str.ofString "text_of") [(.var 1)])
def f_text_of : Fn := { np := 1, ns := 2, pure := false, body := [(.ifS (.bin .eq (.bin .item (.var 0) (.lit (.int 0))) (.lit (.str (Str.ofString "do")))) [(.ret (.bin .joinT (.lit (.str (Str.ofString " "))) (.comp (.one 1) (.seq (.bin .add (.tup [(.lit (.str (Str.ofString "do"))), (.bin .item (.var 0) (.lit (.int 1)))]) (.bin .item (.var 0) (.lit (.int 2))))) none e_text_of_1)))] []), (.ret (.bin .add (.bin .add (.bin .add (.bin .item (.var 0) (.lit (.int 0))) (.lit (.str (Str.ofString "(")))) (.bin .joinT (.lit (.str (Str.ofString "; "))) (.comp (.one 1) (.seq (.bin .item (.var 0) (.lit (.int 1)))) none e_text_of_2))) (.lit (.str (Str.ofString ")")))))] }
class H_text_of (T : Tab) : Prop where
  eq : T (Str.ofString "text_of") = some f_text_of
theorem c_text_of {L : Nat} {T : Tab} [h : H_text_of T] (n : Nat) (as : List Val) (S : Store) : callF L T (n + 1) (Str.ofString "text_of") as S = runFn L (callF L T n) f_text_of as S := by
  simp only [callF, h.eq]
def f_shown : Fn := { np := 1, ns := 1, pure := false, body := [(.expr (.call (Str.ofString "look") [(.var 0)])), (.ret (.call (Str.ofString "text_of") [(.var 0)]))] }
class H_shown (T : Tab) : Prop where
  eq : T (Str.ofString "shown") = some f_shown
theorem c_shown {L : Nat} {T : Tab} [h : H_shown T] (n : Nat) (as : List Val) (S : Store) : callF L T (n + 1) (Str.ofString "shown") as S = runFn L (callF L T n) f_shown as S := by
  simp only [callF, h.eq]
def f__law_leaf : Fn := { np := 2, ns := 2, pure := false, body := [(.ret (.tup [(.lit (.str (Str.ofString "do"))), (.call (Str.ofString "_law_pick") [(.call (Str.ofString "_law_seed") [(.var 0), (.lit (.int 3))]), (.var 1)]), (.call (Str.ofString "_law_deed") [(.call (Str.ofString "_law_seed") [(.var 0), (.lit (.int 4))])])]))] }
class H__law_leaf (T : Tab) : Prop where
  eq : T (Str.ofString "_law_leaf") = some f__law_leaf
theorem c__law_leaf {L : Nat} {T : Tab} [h : H__law_leaf T] (n : Nat) (as : List Val) (S : Store) : callF L T (n + 1) (Str.ofString "_law_leaf") as S = runFn L (callF L T n) f__law_leaf as S := by
  simp only [callF, h.eq]
def b__law_errand_1 : List HI.S := [(.ifS (.bin .gt (.var 3) (.lit (.int 0))) [(.set (.tup [(.one 6), (.one 3)]) (.call (Str.ofString "_law_errand") [(.call (Str.ofString "_law_seed") [(.var 0), (.bin .add (.lit (.int 10)) (.var 5))]), (.var 1), (.bin .sub (.var 2) (.lit (.int 1))), (.var 3)])), (.append (.var 4) (.var 6))] [])]
def r__law_errand_1 : List HI.S := [(.ret (.tup [(.tup [(.bin .item (.lst [(.lit (.str (Str.ofString "all"))), (.lit (.str (Str.ofString "any"))), (.lit (.str (Str.ofString "all")))]) (.bin .mod (.bin .fdiv (.var 0) (.lit (.int 11))) (.lit (.int 3)))), (.un .tuple (.var 4))]), (.var 3)]))]
def f__law_errand : Fn := { np := 4, ns := 7, pure := true, body := ((.ifS (.or (.bin .eq (.var 2) (.lit (.int 1))) (.or (.bin .eq (.var 3) (.lit (.int 1))) (.bin .eq (.call (Str.ofString "_law_pick") [(.var 0), (.lit (.int 4))]) (.lit (.int 0))))) [(.ret (.tup [(.call (Str.ofString "_law_leaf") [(.var 0), (.var 1)]), (.bin .sub (.var 3) (.lit (.int 1)))]))] []) :: (.set (.one 4) (.box [])) :: (.forS (.one 5) (.range1 (.bin .add (.lit (.int 1)) (.bin .mod (.bin .fdiv (.var 0) (.lit (.int 7))) (.lit (.int 4))))) b__law_errand_1) :: r__law_errand_1) }
class H__law_errand (T : Tab) : Prop where
  eq : T (Str.ofString "_law_errand") = some f__law_errand
theorem c__law_errand {L : Nat} {T : Tab} [h : H__law_errand T] (n : Nat) (as : List Val) (S : Store) : callF L T (n + 1) (Str.ofString "_law_errand") as S = runFn L (callF L T n) f__law_errand as S := by
  simp only [callF, h.eq]
def f__law_some : Fn := { np := 2, ns := 2, pure := false, body := [(.ret (.bin .item (.call (Str.ofString "_law_errand") [(.bin .add (.bin .add (.bin .mul (.var 0) (.lit (.int 4))) (.lit (.int 1))) (.bin .mod (.var 0) (.lit (.int 3)))), (.var 1), (.lit (.int 4)), (.bin .add (.lit (.int 1)) (.bin .mod (.bin .fdiv (.var 0) (.lit (.int 5))) (.lit (.int 12))))]) (.lit (.int 0))))] }
class H__law_some (T : Tab) : Prop where
  eq : T (Str.ofString "_law_some") = some f__law_some
theorem c__law_some {L : Nat} {T : Tab} [h : H__law_some T] (n : Nat) (as : List Val) (S : Store) : callF L T (n + 1) (Str.ofString "_law_some") as S = runFn L (callF L T n) f__law_some as S := by
  simp only [callF, h.eq]
def b__law_leaves_1 : List HI.S := [(.set (.one 1) (.bin .add (.var 1) (.call (Str.ofString "_law_leaves") [(.var 2)])))]
def r__law_leaves_1 : List HI.S := [(.ret (.var 1))]
def f__law_leaves : Fn := { np := 1, ns := 3, pure := false, body := ((.ifS (.bin .eq (.bin .item (.var 0) (.lit (.int 0))) (.lit (.str (Str.ofString "do")))) [(.ret (.lst [(.tup [(.bin .item (.var 0) (.lit (.int 1))), (.bin .item (.var 0) (.lit (.int 2)))])]))] []) :: (.set (.one 1) (.lst [])) :: (.forS (.one 2) (.seq (.bin .item (.var 0) (.lit (.int 1)))) b__law_leaves_1) :: r__law_leaves_1) }
class H__law_leaves (T : Tab) : Prop where
  eq : T (Str.ofString "_law_leaves") = some f__law_leaves
theorem c__law_leaves {L : Nat} {T : Tab} [h : H__law_leaves T] (n : Nat) (as : List Val) (S : Store) : callF L T (n + 1) (Str.ofString "_law_leaves") as S = runFn L (callF L T n) f__law_leaves as S := by
  simp only [callF, h.eq]
def f__law_is_errand : Fn := { np := 1, ns := 1, pure := false, body := [(.ret (.and (.call (Str.ofString "_law_is_made") [(.var 0), (.lit (.int 1))]) (.bin .le (.un .len (.call (Str.ofString "_law_leaves") [(.var 0)])) (.lit (.int 12)))))] }
class H__law_is_errand (T : Tab) : Prop where
  eq : T (Str.ofString "_law_is_errand") = some f__law_is_errand
theorem c__law_is_errand {L : Nat} {T : Tab} [h : H__law_is_errand T] (n : Nat) (as : List Val) (S : Store) : callF L T (n + 1) (Str.ofString "_law_is_errand") as S = runFn L (callF L T n) f__law_is_errand as S := by
  simp only [callF, h.eq]
def q__law_is_made_1 : E := (.not (.call (Str.ofString "_law_is_made") [(.var 2), (.bin .add (.var 1) (.lit (.int 1)))]))
def f__law_is_made : Fn := { np := 2, ns := 3, pure := false, body := [(.ifS (.or (.not (.isI (.var 0) (Str.ofString "tuple"))) (.or (.bin .eq (.var 0) (.tup [])) (.or (.not (.isI (.bin .item (.var 0) (.lit (.int 0))) (Str.ofString "str"))) (.bin .gt (.var 1) (.lit (.int 4)))))) [(.ret (.lit (.bool false)))] []), (.ifS (.bin .eq (.bin .item (.var 0) (.lit (.int 0))) (.lit (.str (Str.ofString "do")))) [(.ret (.and (.bin .eq (.un .len (.var 0)) (.lit (.int 3))) (.and (.call (Str.ofString "_law_number") [(.bin .item (.var 0) (.lit (.int 1))), (.lit (.int 0)), (.lit (.int 4))]) (.call (Str.ofString "_law_is_deed") [(.bin .item (.var 0) (.lit (.int 2)))]))))] []), (.ifS (.or (.bin .notin (.bin .item (.var 0) (.lit (.int 0))) (.tup [(.lit (.str (Str.ofString "all"))), (.lit (.str (Str.ofString "any")))])) (.or (.bin .ne (.un .len (.var 0)) (.lit (.int 2))) (.not (.isI (.bin .item (.var 0) (.lit (.int 1))) (Str.ofString "tuple"))))) [(.ret (.lit (.bool false)))] []), (.ret (.and (.chain .le .le (.lit (.int 1)) (.un .len (.bin .item (.var 0) (.lit (.int 1)))) (.lit (.int 4))) (.bin .eq (.comp (.one 2) (.seq (.bin .item (.var 0) (.lit (.int 1)))) (some q__law_is_made_1) (.var 2)) (.lst []))))] }
class H__law_is_made (T : Tab) : Prop where
  eq : T (Str.ofString "_law_is_made") = some f__law_is_made
theorem c__law_is_made {L : Nat} {T : Tab} [h : H__law_is_made T] (n : Nat) (as : List Val) (S : Store) : callF L T (n + 1) (Str.ofString "_law_is_made") as S = runFn L (callF L T n) f__law_is_made as S := by
  simp only [callF, h.eq]
def f__law_number : Fn := { np := 3, ns := 3, pure := false, body := [(.ret (.and (.isI (.var 0) (Str.ofString "int")) (.and (.not (.isI (.var 0) (Str.ofString "bool"))) (.chain .le .le (.var 1) (.var 0) (.var 2)))))] }
class H__law_number (T : Tab) : Prop where
  eq : T (Str.ofString "_law_number") = some f__law_number
theorem c__law_number {L : Nat} {T : Tab} [h : H__law_number T] (n : Nat) (as : List Val) (S : Store) : callF L T (n + 1) (Str.ofString "_law_number") as S = runFn L (callF L T n) f__law_number as S := by
  simp only [callF, h.eq]
def q__law_is_deed_1 : E := (.not (.chain .le .le (.lit (.str (Str.ofString "a"))) (.var 1) (.lit (.str (Str.ofString "z")))))
def f__law_is_deed : Fn := { np := 1, ns := 2, pure := false, body := [(.ifS (.or (.not (.isI (.var 0) (Str.ofString "tuple"))) (.or (.bin .lt (.un .len (.var 0)) (.lit (.int 2))) (.or (.not (.isI (.bin .item (.var 0) (.lit (.int 0))) (Str.ofString "str"))) (.not (.isI (.bin .item (.var 0) (.lit (.int 1))) (Str.ofString "str")))))) [(.ret (.lit (.bool false)))] []), (.ifS (.or (.not (.chain .le .le (.lit (.int 1)) (.un .len (.bin .item (.var 0) (.lit (.int 1)))) (.lit (.int 4)))) (.bin .ne (.comp (.one 1) (.seq (.bin .item (.var 0) (.lit (.int 1)))) (some q__law_is_deed_1) (.var 1)) (.lst []))) [(.ret (.lit (.bool false)))] []), (.ifS (.bin .eq (.bin .item (.var 0) (.lit (.int 0))) (.lit (.str (Str.ofString "note")))) [(.ret (.bin .eq (.un .len (.var 0)) (.lit (.int 2))))] []), (.ret (.and (.bin .isin (.bin .item (.var 0) (.lit (.int 0))) (.tup [(.lit (.str (Str.ofString "take"))), (.lit (.str (Str.ofString "give"))), (.lit (.str (Str.ofString "need")))])) (.and (.bin .eq (.un .len (.var 0)) (.lit (.int 3))) (.call (Str.ofString "_law_number") [(.bin .item (.var 0) (.lit (.int 2))), (.lit (.int 1)), (.lit (.int 999))]))))] }
class H__law_is_deed (T : Tab) : Prop where
  eq : T (Str.ofString "_law_is_deed") = some f__law_is_deed
theorem c__law_is_deed {L : Nat} {T : Tab} [h : H__law_is_deed T] (n : Nat) (as : List Val) (S : Store) : callF L T (n + 1) (Str.ofString "_law_is_deed") as S = runFn L (callF L T n) f__law_is_deed as S := by
  simp only [callF, h.eq]
def f__law_of_errand : Fn := { np := 2, ns := 2, pure := false, body := [(.ifS (.bin .eq (.var 0) (.lit (.int 0))) [(.ret (.call (Str.ofString "leaves") [(.var 1)]))] []), (.ifS (.bin .eq (.var 0) (.lit (.int 1))) [(.ret (.call (Str.ofString "next_move") [(.var 1), (.lit .non)]))] []), (.ifS (.bin .eq (.var 0) (.lit (.int 2))) [(.ret (.call (Str.ofString "chosen") [(.var 1), (.lit .non)]))] []), (.ifS (.bin .eq (.var 0) (.lit (.int 3))) [(.ret (.meth (.make (Str.ofString "Runner") [(.tup [(.make (Str.ofString "House") [(.tup [])])]), (.make (Str.ofString "Book") [(.lst [])]), (.make (Str.ofString "Road") [(.tup [])]), (.lit (.int 0)), (.lit (.int 0))]) (Str.ofString "Runner") (Str.ofString "begin") [(.var 1)]))] []), (.ret (.ite (.bin .eq (.var 0) (.lit (.int 4))) (.call (Str.ofString "alone") [(.tup [(.tup [])]), (.var 1)]) (.call (Str.ofString "shown") [(.var 1)])))] }
class H__law_of_errand (T : Tab) : Prop where
  eq : T (Str.ofString "_law_of_errand") = some f__law_of_errand
theorem c__law_of_errand {L : Nat} {T : Tab} [h : H__law_of_errand T] (n : Nat) (as : List Val) (S : Store) : callF L T (n + 1) (Str.ofString "_law_of_errand") as S = runFn L (callF L T n) f__law_of_errand as S := by
  simp only [callF, h.eq]
def f_Record_init : Fn := { np := 2, ns := 3, pure := false, body := [(.setF (.var 0) (Str.ofString "errand") (.var 1)), (.setF (.var 0) (Str.ofString "known") (.un .tuple (.comp (.one 2) (.seq (.call (Str.ofString "leaves_of") [(.var 1)])) none (.lit (.str (Str.ofString "new")))))), (.setF (.var 0) (Str.ofString "word") (.lit (.str (Str.ofString "open")))), (.setF (.var 0) (Str.ofString "kept") (.box []))] }
class H_Record_init (T : Tab) : Prop where
  eq : T (dot (Str.ofString "Record") (Str.ofString "__init__")) = some f_Record_init
theorem c_Record_init {L : Nat} {T : Tab} [h : H_Record_init T] (n : Nat) (as : List Val) (S : Store) : callF L T (n + 1) (dot (Str.ofString "Record") (Str.ofString "__init__")) as S = runFn L (callF L T n) f_Record_init as S := by
  simp only [callF, h.eq]
def f_Record_with_leaf : Fn := { np := 3, ns := 3, pure := false, body := [(.setF (.var 0) (Str.ofString "known") (.bin .add (.bin .add (.slice (.fld (.var 0) (Str.ofString "known")) none (some (.var 1))) (.tup [(.var 2)])) (.slice (.fld (.var 0) (Str.ofString "known")) (some (.bin .add (.var 1) (.lit (.int 1)))) none)))] }
class H_Record_with_leaf (T : Tab) : Prop where
  eq : T (dot (Str.ofString "Record") (Str.ofString "with_leaf")) = some f_Record_with_leaf
theorem c_Record_with_leaf {L : Nat} {T : Tab} [h : H_Record_with_leaf T] (n : Nat) (as : List Val) (S : Store) : callF L T (n + 1) (dot (Str.ofString "Record") (Str.ofString "with_leaf")) as S = runFn L (callF L T n) f_Record_with_leaf as S := by
  simp only [callF, h.eq]
def q_Record_due_1 : E := (.and (.bin .eq (.var 4) (.lit (.str (Str.ofString "tried")))) (.bin .notin (.var 3) (.fld (.var 0) (Str.ofString "kept"))))
def f_Record_due : Fn := { np := 1, ns := 5, pure := false, body := [(.ifS (.bin .eq (.fld (.var 0) (Str.ofString "word")) (.lit (.str (Str.ofString "open")))) [(.set (.one 1) (.call (Str.ofString "next_of") [(.fld (.var 0) (Str.ofString "errand")), (.fld (.var 0) (Str.ofString "known"))])), (.ret (.ite (.bin .eq (.var 1) (.tup [(.lit (.str (Str.ofString "not")))])) (.tup [(.lit (.str (Str.ofString "end"))), (.lit (.str (Str.ofString "not")))]) (.var 1)))] []), (.ifS (.bin .eq (.fld (.var 0) (Str.ofString "word")) (.lit (.str (Str.ofString "sure")))) [(.set (.one 2) (.comp (.tup [(.one 3), (.one 4)]) (.enum (.fld (.var 0) (Str.ofString "known"))) (some q_Record_due_1) (.var 3))), (.ret (.ite (.var 2) (.tup [(.lit (.str (Str.ofString "keep"))), (.bin .item (.var 2) (.lit (.int 0)))]) (.tup [(.lit (.str (Str.ofString "end"))), (.lit (.str (Str.ofString "done")))])))] []), (.ret (.lit .non))] }
class H_Record_due (T : Tab) : Prop where
  eq : T (dot (Str.ofString "Record") (Str.ofString "due")) = some f_Record_due
theorem c_Record_due {L : Nat} {T : Tab} [h : H_Record_due T] (n : Nat) (as : List Val) (S : Store) : callF L T (n + 1) (dot (Str.ofString "Record") (Str.ofString "due")) as S = runFn L (callF L T n) f_Record_due as S := by
  simp only [callF, h.eq]
def f_Record_fits : Fn := { np := 2, ns := 4, pure := true, body := [(.set (.one 2) (.meth (.var 0) (Str.ofString "Record") (Str.ofString "due") [])), (.ifS (.or (.un .isNone (.var 2)) (.bin .isin (.bin .item (.var 1) (.lit (.int 0))) (.tup [(.lit (.str (Str.ofString "sure"))), (.lit (.str (Str.ofString "end")))]))) [(.ret (.and (.un .notNone (.var 2)) (.bin .eq (.bin .add (.tup [(.bin .item (.var 1) (.lit (.int 0)))]) (.slice (.var 1) (some (.lit (.int 2))) none)) (.var 2))))] []), (.set (.one 3) (.newD [Str.ofString "try", Str.ofString "cancel", Str.ofString "keep"] [(.tup [(.lit (.str (Str.ofString "tried"))), (.lit (.str (Str.ofString "refused"))), (.lit (.str (Str.ofString "doubt")))]), (.tup [(.lit (.str (Str.ofString "gone")))]), (.tup [(.lit (.str (Str.ofString "kept")))])])), (.ret (.and (.bin .isin (.bin .item (.var 1) (.lit (.int 0))) (.get2 (.var 3) (.bin .item (.var 2) (.lit (.int 0))) (.tup []))) (.bin .eq (.slice (.var 1) (some (.lit (.int 2))) none) (.slice (.var 2) (some (.lit (.int 1))) none))))] }
class H_Record_fits (T : Tab) : Prop where
  eq : T (dot (Str.ofString "Record") (Str.ofString "fits")) = some f_Record_fits
theorem c_Record_fits {L : Nat} {T : Tab} [h : H_Record_fits T] (n : Nat) (as : List Val) (S : Store) : callF L T (n + 1) (dot (Str.ofString "Record") (Str.ofString "fits")) as S = runFn L (callF L T n) f_Record_fits as S := by
  simp only [callF, h.eq]
def f_Record_follow : Fn := { np := 2, ns := 2, pure := false, body := [(.ifS (.bin .isin (.bin .item (.var 1) (.lit (.int 0))) (.tup [(.lit (.str (Str.ofString "tried"))), (.lit (.str (Str.ofString "refused"))), (.lit (.str (Str.ofString "doubt")))])) [(.expr (.meth (.var 0) (Str.ofString "Record") (Str.ofString "with_leaf") [(.bin .item (.var 1) (.lit (.int 2))), (.bin .item (.var 1) (.lit (.int 0)))]))] []), (.ifS (.bin .eq (.bin .item (.var 1) (.lit (.int 0))) (.lit (.str (Str.ofString "gone")))) [(.expr (.meth (.var 0) (Str.ofString "Record") (Str.ofString "with_leaf") [(.bin .item (.var 1) (.lit (.int 2))), (.ite (.bin .eq (.bin .item (.fld (.var 0) (Str.ofString "known")) (.bin .item (.var 1) (.lit (.int 2)))) (.lit (.str (Str.ofString "tried")))) (.lit (.str (Str.ofString "gone"))) (.lit (.str (Str.ofString "left"))))]))] []), (.ifS (.bin .eq (.bin .item (.var 1) (.lit (.int 0))) (.lit (.str (Str.ofString "kept")))) [(.append (.fld (.var 0) (Str.ofString "kept")) (.bin .item (.var 1) (.lit (.int 2))))] []), (.ifS (.bin .eq (.bin .item (.var 1) (.lit (.int 0))) (.lit (.str (Str.ofString "sure")))) [(.setF (.var 0) (Str.ofString "word") (.lit (.str (Str.ofString "sure"))))] []), (.ifS (.bin .eq (.bin .item (.var 1) (.lit (.int 0))) (.lit (.str (Str.ofString "end")))) [(.setF (.var 0) (Str.ofString "word") (.bin .item (.var 1) (.lit (.int 2))))] [])] }
class H_Record_follow (T : Tab) : Prop where
  eq : T (dot (Str.ofString "Record") (Str.ofString "follow")) = some f_Record_follow
theorem c_Record_follow {L : Nat} {T : Tab} [h : H_Record_follow T] (n : Nat) (as : List Val) (S : Store) : callF L T (n + 1) (dot (Str.ofString "Record") (Str.ofString "follow")) as S = runFn L (callF L T n) f_Record_follow as S := by
  simp only [callF, h.eq]
def b_Book_init_1 : List HI.S := [(.expr (.meth (.var 0) (Str.ofString "Book") (Str.ofString "add") [(.var 2)]))]
def f_Book_init : Fn := { np := 2, ns := 3, pure := false, body := [(.ifS (.not (.isI (.var 1) (Str.ofString "list"))) [(.raise (Str.ofString "BadRow"))] []), (.setF (.var 0) (Str.ofString "lines") (.box [])), (.setF (.var 0) (Str.ofString "records") (.box [])), (.forS (.one 2) (.seq (.var 1)) b_Book_init_1)] }
class H_Book_init (T : Tab) : Prop where
  eq : T (dot (Str.ofString "Book") (Str.ofString "__init__")) = some f_Book_init
theorem c_Book_init {L : Nat} {T : Tab} [h : H_Book_init T] (n : Nat) (as : List Val) (S : Store) : callF L T (n + 1) (dot (Str.ofString "Book") (Str.ofString "__init__")) as S = runFn L (callF L T n) f_Book_init as S := by
  simp only [callF, h.eq]
def f_Book_add : Fn := { np := 2, ns := 2, pure := false, body := [(.ifS (.not (.call (Str.ofString "is_row") [(.var 1)])) [(.raise (Str.ofString "BadRow"))] []), (.ifS (.bin .eq (.bin .item (.var 1) (.lit (.int 0))) (.lit (.str (Str.ofString "begin")))) [(.ifS (.bin .ne (.bin .item (.var 1) (.lit (.int 1))) (.un .len (.fld (.var 0) (Str.ofString "records")))) [(.raise (Str.ofString "BadRow"))] []), (.append (.fld (.var 0) (Str.ofString "records")) (.make (Str.ofString "Record") [(.bin .item (.var 1) (.lit (.int 2)))]))] [(.ifS (.or (.bin .ge (.bin .item (.var 1) (.lit (.int 1))) (.un .len (.fld (.var 0) (Str.ofString "records")))) (.not (.meth (.bin .item (.fld (.var 0) (Str.ofString "records")) (.bin .item (.var 1) (.lit (.int 1)))) (Str.ofString "Record") (Str.ofString "fits") [(.var 1)]))) [(.raise (Str.ofString "BadRow"))] []), (.expr (.meth (.bin .item (.fld (.var 0) (Str.ofString "records")) (.bin .item (.var 1) (.lit (.int 1)))) (Str.ofString "Record") (Str.ofString "follow") [(.var 1)]))]), (.append (.fld (.var 0) (Str.ofString "lines")) (.var 1))] }
class H_Book_add (T : Tab) : Prop where
  eq : T (dot (Str.ofString "Book") (Str.ofString "add")) = some f_Book_add
theorem c_Book_add {L : Nat} {T : Tab} [h : H_Book_add T] (n : Nat) (as : List Val) (S : Store) : callF L T (n + 1) (dot (Str.ofString "Book") (Str.ofString "add")) as S = runFn L (callF L T n) f_Book_add as S := by
  simp only [callF, h.eq]
def f_Book_rows : Fn := { np := 1, ns := 1, pure := false, body := [(.ret (.un .list (.fld (.var 0) (Str.ofString "lines"))))] }
class H_Book_rows (T : Tab) : Prop where
  eq : T (dot (Str.ofString "Book") (Str.ofString "rows")) = some f_Book_rows
theorem c_Book_rows {L : Nat} {T : Tab} [h : H_Book_rows T] (n : Nat) (as : List Val) (S : Store) : callF L T (n + 1) (dot (Str.ofString "Book") (Str.ofString "rows")) as S = runFn L (callF L T n) f_Book_rows as S := by
  simp only [callF, h.eq]
def q_Book_opens_1 : E := (.bin .isin (.fld (.var 2) (Str.ofString "word")) (.tup [(.lit (.str (Str.ofString "open"))), (.lit (.str (Str.ofString "sure")))]))
def f_Book_opens : Fn := { np := 1, ns := 3, pure := false, body := [(.ret (.comp (.tup [(.one 1), (.one 2)]) (.enum (.fld (.var 0) (Str.ofString "records"))) (some q_Book_opens_1) (.var 1)))] }
class H_Book_opens (T : Tab) : Prop where
  eq : T (dot (Str.ofString "Book") (Str.ofString "opens")) = some f_Book_opens
theorem c_Book_opens {L : Nat} {T : Tab} [h : H_Book_opens T] (n : Nat) (as : List Val) (S : Store) : callF L T (n + 1) (dot (Str.ofString "Book") (Str.ofString "opens")) as S = runFn L (callF L T n) f_Book_opens as S := by
  simp only [callF, h.eq]
def e_Book_stands_1 : E := (.tup [(.fld (.var 1) (Str.ofString "errand")), (.fld (.var 1) (Str.ofString "known")), (.fld (.var 1) (Str.ofString "word"))])
def f_Book_stands : Fn := { np := 1, ns := 2, pure := false, body := [(.ret (.comp (.one 1) (.seq (.fld (.var 0) (Str.ofString "records"))) none e_Book_stands_1))] }
class H_Book_stands (T : Tab) : Prop where
  eq : T (dot (Str.ofString "Book") (Str.ofString "stands")) = some f_Book_stands
theorem c_Book_stands {L : Nat} {T : Tab} [h : H_Book_stands T] (n : Nat) (as : List Val) (S : Store) : callF L T (n + 1) (dot (Str.ofString "Book") (Str.ofString "stands")) as S = runFn L (callF L T n) f_Book_stands as S := by
  simp only [callF, h.eq]
def q_Road_init_1 : E := (.not (.isI (.var 2) (Str.ofString "str")))
def q_Road_init_2 : E := (.bin .notin (.var 2) (.tup [(.lit (.str (Str.ofString "good"))), (.lit (.str (Str.ofString "lost"))), (.lit (.str (Str.ofString "deaf")))]))
def f_Road_init : Fn := { np := 2, ns := 3, pure := false, body := [(.ifS (.or (.not (.isI (.var 1) (Str.ofString "tuple"))) (.comp (.one 2) (.seq (.var 1)) (some q_Road_init_1) (.var 2))) [(.raise (Str.ofString "BadRoad"))] []), (.ifS (.comp (.one 2) (.seq (.var 1)) (some q_Road_init_2) (.var 2)) [(.raise (Str.ofString "BadRoad"))] []), (.setF (.var 0) (Str.ofString "words") (.var 1)), (.setF (.var 0) (Str.ofString "at") (.lit (.int 0)))] }
class H_Road_init (T : Tab) : Prop where
  eq : T (dot (Str.ofString "Road") (Str.ofString "__init__")) = some f_Road_init
theorem c_Road_init {L : Nat} {T : Tab} [h : H_Road_init T] (n : Nat) (as : List Val) (S : Store) : callF L T (n + 1) (dot (Str.ofString "Road") (Str.ofString "__init__")) as S = runFn L (callF L T n) f_Road_init as S := by
  simp only [callF, h.eq]
def f_Road_use : Fn := { np := 1, ns := 1, pure := false, body := [(.augF (.var 0) (Str.ofString "at") .add 1), (.ret (.ite (.bin .le (.fld (.var 0) (Str.ofString "at")) (.un .len (.fld (.var 0) (Str.ofString "words")))) (.bin .item (.fld (.var 0) (Str.ofString "words")) (.bin .sub (.fld (.var 0) (Str.ofString "at")) (.lit (.int 1)))) (.lit (.str (Str.ofString "good")))))] }
class H_Road_use (T : Tab) : Prop where
  eq : T (dot (Str.ofString "Road") (Str.ofString "use")) = some f_Road_use
theorem c_Road_use {L : Nat} {T : Tab} [h : H_Road_use T] (n : Nat) (as : List Val) (S : Store) : callF L T (n + 1) (dot (Str.ofString "Road") (Str.ofString "use")) as S = runFn L (callF L T n) f_Road_use as S := by
  simp only [callF, h.eq]
def f_Road_used : Fn := { np := 1, ns := 1, pure := false, body := [(.ret (.fld (.var 0) (Str.ofString "at")))] }
class H_Road_used (T : Tab) : Prop where
  eq : T (dot (Str.ofString "Road") (Str.ofString "used")) = some f_Road_used
theorem c_Road_used {L : Nat} {T : Tab} [h : H_Road_used T] (n : Nat) (as : List Val) (S : Store) : callF L T (n + 1) (dot (Str.ofString "Road") (Str.ofString "used")) as S = runFn L (callF L T n) f_Road_used as S := by
  simp only [callF, h.eq]
def f_Runner_init : Fn := { np := 6, ns := 6, pure := false, body := [(.ifS (.or (.not (.call (Str.ofString "are_houses") [(.var 1)])) (.or (.not (.isI (.var 2) (Str.ofString "Book"))) (.not (.isI (.var 3) (Str.ofString "Road"))))) [(.raise (Str.ofString "BadRoad"))] []), (.ifS (.or (.not (.call (Str.ofString "is_within") [(.var 4), (.lit (.int 0)), (.lit (.int 9))])) (.and (.un .notNone (.var 5)) (.not (.call (Str.ofString "is_within") [(.var 5), (.lit (.int 0)), (.lit (.int 100000))])))) [(.raise (Str.ofString "BadRoad"))] []), (.setF (.var 0) (Str.ofString "houses") (.var 1)), (.setF (.var 0) (Str.ofString "book") (.var 2)), (.setF (.var 0) (Str.ofString "road") (.var 3)), (.setF (.var 0) (Str.ofString "again") (.var 4)), (.setF (.var 0) (Str.ofString "left") (.var 5))] }
class H_Runner_init (T : Tab) : Prop where
  eq : T (dot (Str.ofString "Runner") (Str.ofString "__init__")) = some f_Runner_init
theorem c_Runner_init {L : Nat} {T : Tab} [h : H_Runner_init T] (n : Nat) (as : List Val) (S : Store) : callF L T (n + 1) (dot (Str.ofString "Runner") (Str.ofString "__init__")) as S = runFn L (callF L T n) f_Runner_init as S := by
  simp only [callF, h.eq]
def f_Runner_spend : Fn := { np := 1, ns := 1, pure := false, body := [(.ifS (.bin .eq (.fld (.var 0) (Str.ofString "left")) (.lit (.int 0))) [(.raise (Str.ofString "Stopped"))] []), (.ifS (.un .notNone (.fld (.var 0) (Str.ofString "left"))) [(.augF (.var 0) (Str.ofString "left") .sub 1)] [])] }
class H_Runner_spend (T : Tab) : Prop where
  eq : T (dot (Str.ofString "Runner") (Str.ofString "spend")) = some f_Runner_spend
theorem c_Runner_spend {L : Nat} {T : Tab} [h : H_Runner_spend T] (n : Nat) (as : List Val) (S : Store) : callF L T (n + 1) (dot (Str.ofString "Runner") (Str.ofString "spend")) as S = runFn L (callF L T n) f_Runner_spend as S := by
  simp only [callF, h.eq]
def f_Runner_write : Fn := { np := 2, ns := 2, pure := false, body := [(.expr (.meth (.var 0) (Str.ofString "Runner") (Str.ofString "spend") [])), (.expr (.meth (.fld (.var 0) (Str.ofString "book")) (Str.ofString "Book") (Str.ofString "add") [(.var 1)])), (.ret (.var 1))] }
class H_Runner_write (T : Tab) : Prop where
  eq : T (dot (Str.ofString "Runner") (Str.ofString "write")) = some f_Runner_write
theorem c_Runner_write {L : Nat} {T : Tab} [h : H_Runner_write T] (n : Nat) (as : List Val) (S : Store) : callF L T (n + 1) (dot (Str.ofString "Runner") (Str.ofString "write")) as S = runFn L (callF L T n) f_Runner_write as S := by
  simp only [callF, h.eq]
def f_Runner_call : Fn := { np := 4, ns := 7, pure := false, body := [(.expr (.meth (.var 0) (Str.ofString "Runner") (Str.ofString "spend") [])), (.set (.one 4) (.meth (.fld (.var 0) (Str.ofString "road")) (Str.ofString "Road") (Str.ofString "use") [])), (.ifS (.bin .eq (.var 4) (.lit (.str (Str.ofString "lost")))) [(.ret (.lit .non))] []), (.set (.one 5) (.bin .item (.fld (.var 0) (Str.ofString "houses")) (.bin .item (.var 2) (.lit (.int 0))))), (.ifS (.bin .eq (.var 1) (.lit (.str (Str.ofString "try")))) [(.set (.one 6) (.meth (.var 5) (Str.ofString "House") (Str.ofString "attempt") [(.var 3), (.bin .item (.var 2) (.lit (.int 1)))]))] [(.ifS (.bin .eq (.var 1) (.lit (.str (Str.ofString "keep")))) [(.set (.one 6) (.meth (.var 5) (Str.ofString "House") (Str.ofString "confirm") [(.var 3)]))] [(.set (.one 6) (.meth (.var 5) (Str.ofString "House") (Str.ofString "cancel") [(.var 3)]))])]), (.ret (.ite (.bin .eq (.var 4) (.lit (.str (Str.ofString "good")))) (.var 6) (.lit .non)))] }
class H_Runner_call (T : Tab) : Prop where
  eq : T (dot (Str.ofString "Runner") (Str.ofString "call")) = some f_Runner_call
theorem c_Runner_call {L : Nat} {T : Tab} [h : H_Runner_call T] (n : Nat) (as : List Val) (S : Store) : callF L T (n + 1) (dot (Str.ofString "Runner") (Str.ofString "call")) as S = runFn L (callF L T n) f_Runner_call as S := by
  simp only [callF, h.eq]
def q_Runner_begin_1 : E := (.bin .ge (.bin .item (.var 2) (.lit (.int 0))) (.un .len (.fld (.var 0) (Str.ofString "houses"))))
def f_Runner_begin : Fn := { np := 2, ns := 4, pure := false, body := [(.ifS (.or (.not (.call (Str.ofString "is_errand") [(.var 1)])) (.comp (.one 2) (.seq (.call (Str.ofString "leaves_of") [(.var 1)])) (some q_Runner_begin_1) (.var 2))) [(.raise (Str.ofString "BadErrand"))] []), (.set (.one 3) (.un .len (.meth (.fld (.var 0) (Str.ofString "book")) (Str.ofString "Book") (Str.ofString "stands") []))), (.expr (.meth (.var 0) (Str.ofString "Runner") (Str.ofString "write") [(.tup [(.lit (.str (Str.ofString "begin"))), (.var 3), (.var 1)])])), (.ret (.var 3))] }
class H_Runner_begin (T : Tab) : Prop where
  eq : T (dot (Str.ofString "Runner") (Str.ofString "begin")) = some f_Runner_begin
theorem c_Runner_begin {L : Nat} {T : Tab} [h : H_Runner_begin T] (n : Nat) (as : List Val) (S : Store) : callF L T (n + 1) (dot (Str.ofString "Runner") (Str.ofString "begin")) as S = runFn L (callF L T n) f_Runner_begin as S := by
  simp only [callF, h.eq]
def w_Runner_move_1 : E := (.and (.un .isNone (.var 6)) (.or (.bin .ne (.bin .item (.var 3) (.lit (.int 0))) (.lit (.str (Str.ofString "try")))) (.bin .le (.var 7) (.fld (.var 0) (Str.ofString "again")))))
def b_Runner_move_1 : List HI.S := [(.set (.one 6) (.meth (.var 0) (Str.ofString "Runner") (Str.ofString "call") [(.bin .item (.var 3) (.lit (.int 0))), (.var 4), (.var 5)])), (.augV 7 .add (.lit (.int 1)))]
def r_Runner_move_1 : List HI.S := [(.ifS (.bin .eq (.bin .item (.var 3) (.lit (.int 0))) (.lit (.str (Str.ofString "cancel")))) [(.ret (.meth (.var 0) (Str.ofString "Runner") (Str.ofString "write") [(.tup [(.lit (.str (Str.ofString "gone"))), (.var 1), (.bin .item (.var 3) (.lit (.int 1)))])]))] []), (.ifS (.bin .eq (.bin .item (.var 3) (.lit (.int 0))) (.lit (.str (Str.ofString "keep")))) [(.ret (.meth (.var 0) (Str.ofString "Runner") (Str.ofString "write") [(.tup [(.lit (.str (Str.ofString "kept"))), (.var 1), (.bin .item (.var 3) (.lit (.int 1)))])]))] []), (.set (.one 8) (.dlook [some (Str.ofString "ok"), none] [(.lit (.str (Str.ofString "tried"))), (.lit (.str (Str.ofString "doubt")))] (.var 6) (some (.lit (.str (Str.ofString "refused")))))), (.ret (.meth (.var 0) (Str.ofString "Runner") (Str.ofString "write") [(.tup [(.var 8), (.var 1), (.bin .item (.var 3) (.lit (.int 1)))])]))]
def f_Runner_move : Fn := { np := 2, ns := 9, pure := false, body := ((.ifS (.or (.not (.call (Str.ofString "is_within") [(.var 1), (.lit (.int 0)), (.lit (.int 9999))])) (.bin .notin (.var 1) (.meth (.fld (.var 0) (Str.ofString "book")) (Str.ofString "Book") (Str.ofString "opens") []))) [(.raise (Str.ofString "NoErrand"))] []) :: (.set (.one 2) (.bin .item (.fld (.fld (.var 0) (Str.ofString "book")) (Str.ofString "records")) (.var 1))) :: (.set (.one 3) (.meth (.var 2) (Str.ofString "Record") (Str.ofString "due") [])) :: (.ifS (.bin .eq (.var 3) (.tup [(.lit (.str (Str.ofString "sure")))])) [(.ret (.meth (.var 0) (Str.ofString "Runner") (Str.ofString "write") [(.tup [(.lit (.str (Str.ofString "sure"))), (.var 1)])]))] []) :: (.ifS (.bin .eq (.bin .item (.var 3) (.lit (.int 0))) (.lit (.str (Str.ofString "end")))) [(.ret (.meth (.var 0) (Str.ofString "Runner") (Str.ofString "write") [(.tup [(.lit (.str (Str.ofString "end"))), (.var 1), (.bin .item (.var 3) (.lit (.int 1)))])]))] []) :: (.set (.one 4) (.bin .item (.call (Str.ofString "leaves_of") [(.fld (.var 2) (Str.ofString "errand"))]) (.bin .item (.var 3) (.lit (.int 1))))) :: (.set (.one 5) (.tup [(.var 1), (.bin .item (.var 3) (.lit (.int 1)))])) :: (.set (.one 6) (.meth (.var 0) (Str.ofString "Runner") (Str.ofString "call") [(.bin .item (.var 3) (.lit (.int 0))), (.var 4), (.var 5)])) :: (.set (.one 7) (.lit (.int 1))) :: (.whileS w_Runner_move_1 b_Runner_move_1) :: r_Runner_move_1) }
class H_Runner_move (T : Tab) : Prop where
  eq : T (dot (Str.ofString "Runner") (Str.ofString "move")) = some f_Runner_move
theorem c_Runner_move {L : Nat} {T : Tab} [h : H_Runner_move T] (n : Nat) (as : List Val) (S : Store) : callF L T (n + 1) (dot (Str.ofString "Runner") (Str.ofString "move")) as S = runFn L (callF L T n) f_Runner_move as S := by
  simp only [callF, h.eq]
def w_Runner_finish_1 : E := (.bin .isin (.var 2) (.meth (.fld (.var 0) (Str.ofString "book")) (Str.ofString "Book") (Str.ofString "opens") []))
def b_Runner_finish_1 : List HI.S := [(.append (.var 1) (.meth (.var 0) (Str.ofString "Runner") (Str.ofString "move") [(.var 2)]))]
def b_Runner_finish_2 : List HI.S := [(.whileS w_Runner_finish_1 b_Runner_finish_1)]
def r_Runner_finish_1 : List HI.S := [(.ret (.var 1))]
def f_Runner_finish : Fn := { np := 1, ns := 3, pure := false, body := ((.set (.one 1) (.box [])) :: (.forS (.one 2) (.seq (.meth (.fld (.var 0) (Str.ofString "book")) (Str.ofString "Book") (Str.ofString "opens") [])) b_Runner_finish_2) :: r_Runner_finish_1) }
class H_Runner_finish (T : Tab) : Prop where
  eq : T (dot (Str.ofString "Runner") (Str.ofString "finish")) = some f_Runner_finish
theorem c_Runner_finish {L : Nat} {T : Tab} [h : H_Runner_finish T] (n : Nat) (as : List Val) (S : Store) : callF L T (n + 1) (dot (Str.ofString "Runner") (Str.ofString "finish")) as S = runFn L (callF L T n) f_Runner_finish as S := by
  simp only [callF, h.eq]
def b__law_known_1 : List HI.S := [(.set (.one 6) (.call (Str.ofString "_law_seed") [(.call (Str.ofString "_law_cell") [(.var 0), (.bin .add (.var 1) (.bin .mod (.var 5) (.lit (.int 4))))]), (.var 5)])), (.append (.var 4) (.bin .item (.var 3) (.bin .item (.lst [(.call (Str.ofString "_law_pick") [(.var 6), (.lit (.int 6))]), (.lit (.int 1)), (.lit (.int 1)), (.lit (.int 0))]) (.bin .mod (.bin .fdiv (.var 6) (.lit (.int 7))) (.lit (.int 4))))))]
def r__law_known_1 : List HI.S := [(.ret (.un .tuple (.var 4)))]
def f__law_known : Fn := { np := 3, ns := 7, pure := true, body := ((.set (.one 3) (.lst [(.lit (.str (Str.ofString "new"))), (.lit (.str (Str.ofString "tried"))), (.lit (.str (Str.ofString "refused"))), (.lit (.str (Str.ofString "doubt"))), (.lit (.str (Str.ofString "gone"))), (.lit (.str (Str.ofString "left")))])) :: (.set (.one 4) (.box [])) :: (.forS (.one 5) (.range1 (.var 2)) b__law_known_1) :: r__law_known_1) }
class H__law_known (T : Tab) : Prop where
  eq : T (Str.ofString "_law_known") = some f__law_known
theorem c__law_known {L : Nat} {T : Tab} [h : H__law_known T] (n : Nat) (as : List Val) (S : Store) : callF L T (n + 1) (Str.ofString "_law_known") as S = runFn L (callF L T n) f__law_known as S := by
  simp only [callF, h.eq]
def q__law_how_1 : E := (.bin .eq (.bin .item (.var 1) (.var 9)) (.lit (.str (Str.ofString "tried"))))
def e__law_how_1 : E := (.tup [(.lit (.str (Str.ofString "cancel"))), (.var 9)])
def b__law_how_1 : List HI.S := [(.set (.tup [(.one 7), (.one 5)]) (.call (Str.ofString "_law_how") [(.var 6), (.var 1), (.var 5)])), (.ifS (.or (.isI (.var 7) (Str.ofString "tuple")) (.and (.bin .eq (.var 7) (.lit (.str (Str.ofString "good")))) (.bin .eq (.bin .item (.var 0) (.lit (.int 0))) (.lit (.str (Str.ofString "any")))))) [(.ret (.tup [(.var 7), (.var 4)]))] []), (.ifS (.and (.bin .eq (.var 7) (.lit (.str (Str.ofString "failed")))) (.bin .eq (.bin .item (.var 0) (.lit (.int 0))) (.lit (.str (Str.ofString "all"))))) [(.set (.one 8) (.comp (.one 9) (.range2 (.var 2) (.var 4)) (some q__law_how_1) e__law_how_1)), (.ret (.tup [(.bin .item (.or (.var 8) (.lst [(.lit (.str (Str.ofString "failed")))])) (.un .neg (.lit (.int 1)))), (.var 4)]))] [])]
def r__law_how_1 : List HI.S := [(.ret (.tup [(.ite (.bin .eq (.bin .item (.var 0) (.lit (.int 0))) (.lit (.str (Str.ofString "all")))) (.lit (.str (Str.ofString "good"))) (.lit (.str (Str.ofString "failed")))), (.var 4)]))]
def f__law_how : Fn := { np := 3, ns := 10, pure := true, body := ((.ifS (.bin .eq (.bin .item (.var 0) (.lit (.int 0))) (.lit (.str (Str.ofString "do")))) [(.set (.one 3) (.newD [Str.ofString "new", Str.ofString "doubt", Str.ofString "refused", Str.ofString "left"] [(.tup [(.lit (.str (Str.ofString "try"))), (.var 2)]), (.tup [(.lit (.str (Str.ofString "cancel"))), (.var 2)]), (.lit (.str (Str.ofString "failed"))), (.lit (.str (Str.ofString "failed")))])), (.ret (.tup [(.get2 (.var 3) (.bin .item (.var 1) (.var 2)) (.lit (.str (Str.ofString "good")))), (.bin .add (.var 2) (.lit (.int 1)))]))] []) :: (.set (.one 4) (.bin .add (.var 2) (.un .len (.call (Str.ofString "_law_leaves") [(.var 0)])))) :: (.set (.one 5) (.var 2)) :: (.forS (.one 6) (.seq (.bin .item (.var 0) (.lit (.int 1)))) b__law_how_1) :: r__law_how_1) }
class H__law_how (T : Tab) : Prop where
  eq : T (Str.ofString "_law_how") = some f__law_how
theorem c__law_how {L : Nat} {T : Tab} [h : H__law_how T] (n : Nat) (as : List Val) (S : Store) : callF L T (n + 1) (Str.ofString "_law_how") as S = runFn L (callF L T n) f__law_how as S := by
  simp only [callF, h.eq]
def f__law_next : Fn := { np := 2, ns := 3, pure := false, body := [(.set (.one 2) (.bin .item (.call (Str.ofString "_law_how") [(.var 0), (.var 1), (.lit (.int 0))]) (.lit (.int 0)))), (.ifS (.isI (.var 2) (Str.ofString "tuple")) [(.ret (.var 2))] []), (.ret (.ite (.bin .eq (.var 2) (.lit (.str (Str.ofString "good")))) (.tup [(.lit (.str (Str.ofString "sure")))]) (.tup [(.lit (.str (Str.ofString "not")))])))] }
class H__law_next (T : Tab) : Prop where
  eq : T (Str.ofString "_law_next") = some f__law_next
theorem c__law_next {L : Nat} {T : Tab} [h : H__law_next T] (n : Nat) (as : List Val) (S : Store) : callF L T (n + 1) (Str.ofString "_law_next") as S = runFn L (callF L T n) f__law_next as S := by
  simp only [callF, h.eq]
def q__law_is_good_1 : E := (.chain .le .lt (.var 5) (.var 8) (.var 2))
def b__law_is_good_1 : List HI.S := [(.set (.one 5) (.var 2)), (.set (.tup [(.one 6), (.one 2)]) (.call (Str.ofString "_law_is_good") [(.var 4), (.var 1), (.var 2)])), (.set (.one 7) (.comp (.one 8) (.seq (.var 1)) (some q__law_is_good_1) (.var 8))), (.append (.var 3) (.ite (.or (.var 6) (.bin .eq (.var 7) (.lst []))) (.var 6) (.lit .non)))]
def r__law_is_good_1 : List HI.S := [(.ifS (.bin .eq (.bin .item (.var 0) (.lit (.int 0))) (.lit (.str (Str.ofString "all")))) [(.ret (.tup [(.bin .eq (.var 3) (.bin .mul (.lst [(.lit (.bool true))]) (.un .len (.var 3)))), (.var 2)]))] []), (.ret (.tup [(.and (.bin .notin (.lit .non) (.var 3)) (.bin .eq (.bin .count (.var 3) (.lit (.bool true))) (.lit (.int 1)))), (.var 2)]))]
def f__law_is_good : Fn := { np := 3, ns := 9, pure := true, body := ((.ifS (.bin .eq (.bin .item (.var 0) (.lit (.int 0))) (.lit (.str (Str.ofString "do")))) [(.ret (.tup [(.bin .isin (.var 2) (.var 1)), (.bin .add (.var 2) (.lit (.int 1)))]))] []) :: (.set (.one 3) (.box [])) :: (.forS (.one 4) (.seq (.bin .item (.var 0) (.lit (.int 1)))) b__law_is_good_1) :: r__law_is_good_1) }
class H__law_is_good (T : Tab) : Prop where
  eq : T (Str.ofString "_law_is_good") = some f__law_is_good
theorem c__law_is_good {L : Nat} {T : Tab} [h : H__law_is_good T] (n : Nat) (as : List Val) (S : Store) : callF L T (n + 1) (Str.ofString "_law_is_good") as S = runFn L (callF L T n) f__law_is_good as S := by
  simp only [callF, h.eq]
def f__law_record : Fn := { np := 1, ns := 1, pure := false, body := [(.ret (.newD [Str.ofString "errand", Str.ofString "known", Str.ofString "word", Str.ofString "kept"] [(.var 0), (.un .tuple (.bin .mul (.lst [(.lit (.str (Str.ofString "new")))]) (.un .len (.call (Str.ofString "_law_leaves") [(.var 0)])))), (.lit (.str (Str.ofString "open"))), (.box [])]))] }
class H__law_record (T : Tab) : Prop where
  eq : T (Str.ofString "_law_record") = some f__law_record
theorem c__law_record {L : Nat} {T : Tab} [h : H__law_record T] (n : Nat) (as : List Val) (S : Store) : callF L T (n + 1) (Str.ofString "_law_record") as S = runFn L (callF L T n) f__law_record as S := by
  simp only [callF, h.eq]
def q__law_due_1 : E := (.and (.bin .eq (.var 4) (.lit (.str (Str.ofString "tried")))) (.bin .notin (.var 3) (.bin .item (.var 0) (.lit (.str (Str.ofString "kept"))))))
def e__law_due_1 : E := (.tup [(.lit (.str (Str.ofString "kept"))), (.var 3)])
def f__law_due : Fn := { np := 1, ns := 5, pure := false, body := [(.ifS (.bin .eq (.bin .item (.var 0) (.lit (.str (Str.ofString "word")))) (.lit (.str (Str.ofString "open")))) [(.set (.one 1) (.call (Str.ofString "_law_next") [(.bin .item (.var 0) (.lit (.str (Str.ofString "errand")))), (.bin .item (.var 0) (.lit (.str (Str.ofString "known"))))])), (.ifS (.bin .eq (.bin .item (.var 1) (.lit (.int 0))) (.lit (.str (Str.ofString "try")))) [(.ret (.lst [(.tup [(.lit (.str (Str.ofString "tried"))), (.bin .item (.var 1) (.lit (.int 1)))]), (.tup [(.lit (.str (Str.ofString "refused"))), (.bin .item (.var 1) (.lit (.int 1)))]), (.tup [(.lit (.str (Str.ofString "doubt"))), (.bin .item (.var 1) (.lit (.int 1)))])]))] []), (.ret (.ite (.bin .eq (.bin .item (.var 1) (.lit (.int 0))) (.lit (.str (Str.ofString "cancel")))) (.lst [(.tup [(.lit (.str (Str.ofString "gone"))), (.bin .item (.var 1) (.lit (.int 1)))])]) (.ite (.bin .eq (.bin .item (.var 1) (.lit (.int 0))) (.lit (.str (Str.ofString "sure")))) (.lst [(.tup [(.lit (.str (Str.ofString "sure")))])]) (.lst [(.tup [(.lit (.str (Str.ofString "end"))), (.lit (.str (Str.ofString "not")))])]))))] []), (.ifS (.bin .ne (.bin .item (.var 0) (.lit (.str (Str.ofString "word")))) (.lit (.str (Str.ofString "sure")))) [(.ret (.lst []))] []), (.set (.one 2) (.comp (.tup [(.one 3), (.one 4)]) (.enum (.bin .item (.var 0) (.lit (.str (Str.ofString "known"))))) (some q__law_due_1) (.var 3))), (.ret (.or (.comp (.one 3) (.seq (.slice (.var 2) none (some (.lit (.int 1))))) none e__law_due_1) (.lst [(.tup [(.lit (.str (Str.ofString "end"))), (.lit (.str (Str.ofString "done")))])])))] }
class H__law_due (T : Tab) : Prop where
  eq : T (Str.ofString "_law_due") = some f__law_due
theorem c__law_due {L : Nat} {T : Tab} [h : H__law_due T] (n : Nat) (as : List Val) (S : Store) : callF L T (n + 1) (Str.ofString "_law_due") as S = runFn L (callF L T n) f__law_due as S := by
  simp only [callF, h.eq]
def f__law_follow : Fn := { np := 2, ns := 5, pure := false, body := [(.set (.one 2) (.bin .item (.var 1) (.lit (.int 0)))), (.set (.one 3) (.bin .item (.var 0) (.lit (.str (Str.ofString "known"))))), (.ifS (.bin .isin (.var 2) (.tup [(.lit (.str (Str.ofString "tried"))), (.lit (.str (Str.ofString "refused"))), (.lit (.str (Str.ofString "doubt")))])) [(.setI (.var 0) (.lit (.str (Str.ofString "known"))) (.bin .add (.bin .add (.slice (.var 3) none (some (.bin .item (.var 1) (.lit (.int 1))))) (.tup [(.var 2)])) (.slice (.var 3) (some (.bin .add (.bin .item (.var 1) (.lit (.int 1))) (.lit (.int 1)))) none)))] []), (.ifS (.bin .eq (.var 2) (.lit (.str (Str.ofString "gone")))) [(.set (.one 4) (.bin .item (.newD [Str.ofString "tried", Str.ofString "doubt"] [(.lit (.str (Str.ofString "gone"))), (.lit (.str (Str.ofString "left")))]) (.bin .item (.var 3) (.bin .item (.var 1) (.lit (.int 1)))))), (.setI (.var 0) (.lit (.str (Str.ofString "known"))) (.bin .add (.bin .add (.slice (.var 3) none (some (.bin .item (.var 1) (.lit (.int 1))))) (.tup [(.var 4)])) (.slice (.var 3) (some (.bin .add (.bin .item (.var 1) (.lit (.int 1))) (.lit (.int 1)))) none)))] []), (.ifS (.bin .eq (.var 2) (.lit (.str (Str.ofString "kept")))) [(.append (.bin .item (.var 0) (.lit (.str (Str.ofString "kept")))) (.bin .item (.var 1) (.lit (.int 1))))] []), (.ifS (.bin .eq (.var 2) (.lit (.str (Str.ofString "sure")))) [(.setI (.var 0) (.lit (.str (Str.ofString "word"))) (.lit (.str (Str.ofString "sure"))))] []), (.ifS (.bin .eq (.var 2) (.lit (.str (Str.ofString "end")))) [(.setI (.var 0) (.lit (.str (Str.ofString "word"))) (.bin .item (.var 1) (.lit (.int 1))))] [])] }
class H__law_follow (T : Tab) : Prop where
  eq : T (Str.ofString "_law_follow") = some f__law_follow
theorem c__law_follow {L : Nat} {T : Tab} [h : H__law_follow T] (n : Nat) (as : List Val) (S : Store) : callF L T (n + 1) (Str.ofString "_law_follow") as S = runFn L (callF L T n) f__law_follow as S := by
  simp only [callF, h.eq]
def q__law_book_1 : E := (.bin .ne (.call (Str.ofString "_law_due") [(.var 10)]) (.lst []))
def b__law_book_1 : List HI.S := [(.set (.one 7) (.call (Str.ofString "_law_seed") [(.bin .add (.call (Str.ofString "_law_cell") [(.var 0), (.bin .add (.bin .add (.var 1) (.lit (.int 1))) (.bin .mod (.var 6) (.lit (.int 5))))]) (.bin .mul (.lit (.int 53)) (.var 6))), (.var 6)])), (.set (.one 8) (.comp (.tup [(.one 9), (.one 10)]) (.enum (.var 5)) (some q__law_book_1) (.var 9))), (.ifS (.or (.bin .eq (.var 8) (.lst [])) (.and (.bin .lt (.un .len (.var 5)) (.lit (.int 6))) (.bin .eq (.call (Str.ofString "_law_pick") [(.var 7), (.lit (.int 12))]) (.lit (.int 0))))) [(.append (.var 4) (.tup [(.lit (.str (Str.ofString "begin"))), (.un .len (.var 5)), (.call (Str.ofString "_law_some") [(.var 7), (.var 3)])])), (.append (.var 5) (.call (Str.ofString "_law_record") [(.bin .item (.bin .item (.var 4) (.un .neg (.lit (.int 1)))) (.lit (.int 2)))]))] [(.set (.one 9) (.bin .item (.var 8) (.bin .mod (.bin .fdiv (.var 7) (.lit (.int 7))) (.un .len (.var 8))))), (.set (.one 11) (.call (Str.ofString "_law_due") [(.bin .item (.var 5) (.var 9))])), (.set (.one 12) (.bin .item (.var 11) (.bin .mod (.bin .item (.lst [(.lit (.int 0)), (.lit (.int 0)), (.lit (.int 1)), (.lit (.int 2)), (.lit (.int 0))]) (.bin .mod (.bin .fdiv (.var 7) (.lit (.int 11))) (.lit (.int 5)))) (.un .len (.var 11))))), (.append (.var 4) (.bin .add (.bin .add (.slice (.var 12) none (some (.lit (.int 1)))) (.tup [(.var 9)])) (.slice (.var 12) (some (.lit (.int 1))) none))), (.expr (.call (Str.ofString "_law_follow") [(.bin .item (.var 5) (.var 9)), (.var 12)]))])]
def r__law_book_1 : List HI.S := [(.ret (.tup [(.var 4), (.var 5)]))]
def f__law_book : Fn := { np := 4, ns := 13, pure := false, body := ((.set (.one 4) (.box [])) :: (.set (.one 5) (.box [])) :: (.forS (.one 6) (.range1 (.call (Str.ofString "_law_mix") [(.call (Str.ofString "_law_cell") [(.var 0), (.var 1)]), (.lit (.int 9949)), (.bin .add (.var 2) (.lit (.int 1)))])) b__law_book_1) :: r__law_book_1) }
class H__law_book (T : Tab) : Prop where
  eq : T (Str.ofString "_law_book") = some f__law_book
theorem c__law_book {L : Nat} {T : Tab} [h : H__law_book T] (n : Nat) (as : List Val) (S : Store) : callF L T (n + 1) (Str.ofString "_law_book") as S = runFn L (callF L T n) f__law_book as S := by
  simp only [callF, h.eq]
def f__law_opened : Fn := { np := 1, ns := 2, pure := false, body := [(.set (.one 1) (.lit .non)), (.tryS [(.set (.one 1) (.make (Str.ofString "Book") [(.var 0)]))] [Str.ofString "BadRow"] [[(.set (.one 1) (.lit .non))]]), (.ret (.var 1))] }
class H__law_opened (T : Tab) : Prop where
  eq : T (Str.ofString "_law_opened") = some f__law_opened
theorem c__law_opened {L : Nat} {T : Tab} [h : H__law_opened T] (n : Nat) (as : List Val) (S : Store) : callF L T (n + 1) (Str.ofString "_law_opened") as S = runFn L (callF L T n) f__law_opened as S := by
  simp only [callF, h.eq]
def e__law_world_1 : E := (.call (Str.ofString "_law_house") [(.var 5)])
def f__law_world : Fn := { np := 4, ns := 6, pure := false, body := [(.set (.one 4) (.comp (.one 5) (.seq (.var 0)) none e__law_world_1)), (.ret (.newD [Str.ofString "houses", Str.ofString "records", Str.ofString "rows", Str.ofString "road", Str.ofString "used", Str.ofString "again", Str.ofString "left"] [(.var 4), (.box []), (.box []), (.var 1), (.lit (.int 0)), (.var 2), (.var 3)]))] }
class H__law_world (T : Tab) : Prop where
  eq : T (Str.ofString "_law_world") = some f__law_world
theorem c__law_world {L : Nat} {T : Tab} [h : H__law_world T] (n : Nat) (as : List Val) (S : Store) : callF L T (n + 1) (Str.ofString "_law_world") as S = runFn L (callF L T n) f__law_world as S := by
  simp only [callF, h.eq]
def f__law_spent : Fn := { np := 1, ns := 1, pure := false, body := [(.ifS (.bin .eq (.bin .item (.var 0) (.lit (.str (Str.ofString "left")))) (.lit (.int 0))) [(.ret (.lit (.bool false)))] []), (.ifS (.un .notNone (.bin .item (.var 0) (.lit (.str (Str.ofString "left"))))) [(.augI (.var 0) (.lit (.str (Str.ofString "left"))) .sub (.lit (.int 1)))] []), (.ret (.lit (.bool true)))] }
class H__law_spent (T : Tab) : Prop where
  eq : T (Str.ofString "_law_spent") = some f__law_spent
theorem c__law_spent {L : Nat} {T : Tab} [h : H__law_spent T] (n : Nat) (as : List Val) (S : Store) : callF L T (n + 1) (Str.ofString "_law_spent") as S = runFn L (callF L T n) f__law_spent as S := by
  simp only [callF, h.eq]
def f__law_write : Fn := { np := 2, ns := 2, pure := false, body := [(.ifS (.not (.call (Str.ofString "_law_spent") [(.var 0)])) [(.ret (.lit (.str (Str.ofString "stopped"))))] []), (.append (.bin .item (.var 0) (.lit (.str (Str.ofString "rows")))) (.var 1)), (.ifS (.bin .eq (.bin .item (.var 1) (.lit (.int 0))) (.lit (.str (Str.ofString "begin")))) [(.append (.bin .item (.var 0) (.lit (.str (Str.ofString "records")))) (.call (Str.ofString "_law_record") [(.bin .item (.var 1) (.lit (.int 2)))]))] [(.expr (.call (Str.ofString "_law_follow") [(.bin .item (.bin .item (.var 0) (.lit (.str (Str.ofString "records")))) (.bin .item (.var 1) (.lit (.int 1)))), (.bin .add (.slice (.var 1) none (some (.lit (.int 1)))) (.slice (.var 1) (some (.lit (.int 2))) none))]))]), (.ret (.var 1))] }
class H__law_write (T : Tab) : Prop where
  eq : T (Str.ofString "_law_write") = some f__law_write
theorem c__law_write {L : Nat} {T : Tab} [h : H__law_write T] (n : Nat) (as : List Val) (S : Store) : callF L T (n + 1) (Str.ofString "_law_write") as S = runFn L (callF L T n) f__law_write as S := by
  simp only [callF, h.eq]
def f__law_called : Fn := { np := 5, ns := 7, pure := false, body := [(.ifS (.not (.call (Str.ofString "_law_spent") [(.var 0)])) [(.ret (.lit (.str (Str.ofString "stopped"))))] []), (.set (.one 5) (.lit (.str (Str.ofString "good")))), (.ifS (.bin .lt (.bin .item (.var 0) (.lit (.str (Str.ofString "used")))) (.un .len (.bin .item (.var 0) (.lit (.str (Str.ofString "road")))))) [(.set (.one 5) (.bin .item (.bin .item (.var 0) (.lit (.str (Str.ofString "road")))) (.bin .item (.var 0) (.lit (.str (Str.ofString "used"))))))] []), (.augI (.var 0) (.lit (.str (Str.ofString "used"))) .add (.lit (.int 1))), (.ifS (.bin .eq (.var 5) (.lit (.str (Str.ofString "lost")))) [(.ret (.lit .non))] []), (.set (.one 6) (.call (Str.ofString "_law_told") [(.bin .item (.bin .item (.var 0) (.lit (.str (Str.ofString "houses")))) (.var 2)), (.var 1), (.var 3), (.var 4)])), (.ret (.ite (.bin .eq (.var 5) (.lit (.str (Str.ofString "deaf")))) (.lit .non) (.var 6)))] }
class H__law_called (T : Tab) : Prop where
  eq : T (Str.ofString "_law_called") = some f__law_called
theorem c__law_called {L : Nat} {T : Tab} [h : H__law_called T] (n : Nat) (as : List Val) (S : Store) : callF L T (n + 1) (Str.ofString "_law_called") as S = runFn L (callF L T n) f__law_called as S := by
  simp only [callF, h.eq]
def w__law_moved_1 : E := (.and (.un .isNone (.var 8)) (.or (.bin .ne (.var 4) (.lit (.str (Str.ofString "try")))) (.bin .le (.var 7) (.bin .item (.var 0) (.lit (.str (Str.ofString "again")))))))
def b__law_moved_1 : List HI.S := [(.set (.one 8) (.call (Str.ofString "_law_called") [(.var 0), (.var 4), (.var 5), (.tup [(.var 1), (.bin .item (.var 3) (.lit (.int 1)))]), (.var 6)])), (.augV 7 .add (.lit (.int 1)))]
def r__law_moved_1 : List HI.S := [(.ifS (.bin .eq (.var 8) (.lit (.str (Str.ofString "stopped")))) [(.ret (.lit (.str (Str.ofString "stopped"))))] []), (.set (.one 9) (.bin .item (.var 3) (.lit (.int 0)))), (.ifS (.bin .eq (.var 4) (.lit (.str (Str.ofString "try")))) [(.set (.one 9) (.dlook [some (Str.ofString "ok"), none] [(.lit (.str (Str.ofString "tried"))), (.lit (.str (Str.ofString "doubt")))] (.var 8) (some (.lit (.str (Str.ofString "refused"))))))] []), (.ret (.call (Str.ofString "_law_write") [(.var 0), (.tup [(.var 9), (.var 1), (.bin .item (.var 3) (.lit (.int 1)))])]))]
def f__law_moved : Fn := { np := 2, ns := 10, pure := false, body := ((.ifS (.or (.bin .ge (.var 1) (.un .len (.bin .item (.var 0) (.lit (.str (Str.ofString "records")))))) (.bin .eq (.call (Str.ofString "_law_due") [(.bin .item (.bin .item (.var 0) (.lit (.str (Str.ofString "records")))) (.var 1))]) (.lst []))) [(.ret (.lit (.str (Str.ofString "none"))))] []) :: (.set (.one 2) (.bin .item (.bin .item (.var 0) (.lit (.str (Str.ofString "records")))) (.var 1))) :: (.set (.one 3) (.bin .item (.call (Str.ofString "_law_due") [(.var 2)]) (.lit (.int 0)))) :: (.ifS (.bin .isin (.bin .item (.var 3) (.lit (.int 0))) (.tup [(.lit (.str (Str.ofString "sure"))), (.lit (.str (Str.ofString "end")))])) [(.ret (.call (Str.ofString "_law_write") [(.var 0), (.bin .add (.bin .add (.slice (.var 3) none (some (.lit (.int 1)))) (.tup [(.var 1)])) (.slice (.var 3) (some (.lit (.int 1))) none))]))] []) :: (.set (.one 4) (.bin .item (.newD [Str.ofString "tried", Str.ofString "gone", Str.ofString "kept"] [(.lit (.str (Str.ofString "try"))), (.lit (.str (Str.ofString "back"))), (.lit (.str (Str.ofString "keep")))]) (.bin .item (.var 3) (.lit (.int 0))))) :: (.set (.tup [(.one 5), (.one 6)]) (.bin .item (.call (Str.ofString "_law_leaves") [(.bin .item (.var 2) (.lit (.str (Str.ofString "errand"))))]) (.bin .item (.var 3) (.lit (.int 1))))) :: (.set (.one 7) (.lit (.int 0))) :: (.set (.one 8) (.lit .non)) :: (.whileS w__law_moved_1 b__law_moved_1) :: r__law_moved_1) }
class H__law_moved (T : Tab) : Prop where
  eq : T (Str.ofString "_law_moved") = some f__law_moved
theorem c__law_moved {L : Nat} {T : Tab} [h : H__law_moved T] (n : Nat) (as : List Val) (S : Store) : callF L T (n + 1) (Str.ofString "_law_moved") as S = runFn L (callF L T n) f__law_moved as S := by
  simp only [callF, h.eq]
def b__law_road_1 : List HI.S := [(.append (.var 3) (.bin .item (.tup [(.lit (.str (Str.ofString "good"))), (.lit (.str (Str.ofString "lost"))), (.lit (.str (Str.ofString "deaf")))]) (.call (Str.ofString "_law_pick") [(.call (Str.ofString "_law_seed") [(.var 2), (.var 4)]), (.bin .item (.lst [(.lit (.int 2)), (.lit (.int 3)), (.lit (.int 3))]) (.bin .mod (.bin .fdiv (.var 2) (.lit (.int 4))) (.lit (.int 3))))])))]
def r__law_road_1 : List HI.S := [(.ret (.un .tuple (.var 3)))]
def f__law_road : Fn := { np := 2, ns := 5, pure := true, body := ((.set (.one 2) (.call (Str.ofString "_law_cell") [(.var 0), (.var 1)])) :: (.set (.one 3) (.box [])) :: (.forS (.one 4) (.range1 (.bin .item (.lst [(.lit (.int 0)), (.lit (.int 8)), (.lit (.int 30)), (.lit (.int 60))]) (.bin .mod (.var 2) (.lit (.int 4))))) b__law_road_1) :: r__law_road_1) }
class H__law_road (T : Tab) : Prop where
  eq : T (Str.ofString "_law_road") = some f__law_road
theorem c__law_road {L : Nat} {T : Tab} [h : H__law_road T] (n : Nat) (as : List Val) (S : Store) : callF L T (n + 1) (Str.ofString "_law_road") as S = runFn L (callF L T n) f__law_road as S := by
  simp only [callF, h.eq]
def e__law_all_rooms_1 : E := (.call (Str.ofString "_law_rooms") [(.call (Str.ofString "_law_seed") [(.bin .add (.call (Str.ofString "_law_cell") [(.var 0), (.var 1)]) (.bin .mul (.lit (.int 3)) (.var 3))), (.var 3)])])
def f__law_all_rooms : Fn := { np := 2, ns := 4, pure := false, body := [(.set (.one 2) (.bin .add (.lit (.int 1)) (.bin .mod (.call (Str.ofString "_law_cell") [(.var 0), (.var 1)]) (.lit (.int 5))))), (.ret (.un .tuple (.comp (.one 3) (.range1 (.var 2)) none e__law_all_rooms_1)))] }
class H__law_all_rooms (T : Tab) : Prop where
  eq : T (Str.ofString "_law_all_rooms") = some f__law_all_rooms
theorem c__law_all_rooms {L : Nat} {T : Tab} [h : H__law_all_rooms T] (n : Nat) (as : List Val) (S : Store) : callF L T (n + 1) (Str.ofString "_law_all_rooms") as S = runFn L (callF L T n) f__law_all_rooms as S := by
  simp only [callF, h.eq]
def f__law_do : Fn := { np := 2, ns := 3, pure := false, body := [(.set (.one 2) (.lit (.str (Str.ofString "none")))), (.tryS [(.set (.one 2) (.meth (.var 0) (Str.ofString "Runner") (Str.ofString "move") [(.var 1)]))] [Str.ofString "NoErrand", Str.ofString "Stopped"] [[(.set (.one 2) (.lit (.str (Str.ofString "none"))))], [(.set (.one 2) (.lit (.str (Str.ofString "stopped"))))]]), (.ret (.var 2))] }
class H__law_do (T : Tab) : Prop where
  eq : T (Str.ofString "_law_do") = some f__law_do
theorem c__law_do {L : Nat} {T : Tab} [h : H__law_do T] (n : Nat) (as : List Val) (S : Store) : callF L T (n + 1) (Str.ofString "_law_do") as S = runFn L (callF L T n) f__law_do as S := by
  simp only [callF, h.eq]
def f__law_begun : Fn := { np := 2, ns := 3, pure := false, body := [(.set (.one 2) (.lit (.str (Str.ofString "stopped")))), (.tryS [(.set (.one 2) (.meth (.var 0) (Str.ofString "Runner") (Str.ofString "begin") [(.var 1)]))] [Str.ofString "Stopped"] [[(.set (.one 2) (.lit (.str (Str.ofString "stopped"))))]]), (.ret (.var 2))] }
class H__law_begun (T : Tab) : Prop where
  eq : T (Str.ofString "_law_begun") = some f__law_begun
theorem c__law_begun {L : Nat} {T : Tab} [h : H__law_begun T] (n : Nat) (as : List Val) (S : Store) : callF L T (n + 1) (Str.ofString "_law_begun") as S = runFn L (callF L T n) f__law_begun as S := by
  simp only [callF, h.eq]
def f_Runner_moves_left : Fn := { np := 1, ns := 1, pure := false, body := [(.ret (.fld (.var 0) (Str.ofString "left")))] }
class H_Runner_moves_left (T : Tab) : Prop where
  eq : T (dot (Str.ofString "Runner") (Str.ofString "moves_left")) = some f_Runner_moves_left
theorem c_Runner_moves_left {L : Nat} {T : Tab} [h : H_Runner_moves_left T] (n : Nat) (as : List Val) (S : Store) : callF L T (n + 1) (dot (Str.ofString "Runner") (Str.ofString "moves_left")) as S = runFn L (callF L T n) f_Runner_moves_left as S := by
  simp only [callF, h.eq]
def e_counted_1 : E := (.tup [(.var 4), (.var 5)])
def e_counted_2 : E := (.dictOf (.comp (.tup [(.one 4), (.one 5), (.one 6)]) (.seq (.var 7)) none e_counted_1))
def b_counted_1 : List HI.S := [(.ifS (.and (.bin .eq (.var 12) (.lit (.str (Str.ofString "tried")))) (.bin .isin (.bin .item (.bin .item (.var 11) (.lit (.int 1))) (.lit (.int 0))) (.tup [(.lit (.str (Str.ofString "take"))), (.lit (.str (Str.ofString "give")))]))) [(.set (.one 13) (.bin .item (.newD [Str.ofString "take", Str.ofString "give"] [(.un .neg (.lit (.int 1))), (.lit (.int 1))]) (.bin .item (.bin .item (.var 11) (.lit (.int 1))) (.lit (.int 0))))), (.augI (.bin .item (.var 3) (.bin .item (.var 11) (.lit (.int 0)))) (.bin .item (.bin .item (.var 11) (.lit (.int 1))) (.lit (.int 1))) .add (.bin .mul (.var 13) (.bin .item (.bin .item (.var 11) (.lit (.int 1))) (.lit (.int 2)))))] [])]
def b_counted_2 : List HI.S := [(.ifS (.bin .isin (.var 10) (.tup [(.lit (.str (Str.ofString "sure"))), (.lit (.str (Str.ofString "done")))])) [(.forS (.tup [(.one 11), (.one 12)]) (.zip (.call (Str.ofString "leaves_of") [(.var 8)]) (.var 9)) b_counted_1)] [])]
def e_counted_3 : E := (.tup [(.var 4), (.bin .item (.var 7) (.var 4))])
def e_counted_4 : E := (.un .tuple (.comp (.one 4) (.seq (.un .sorted (.var 7))) none e_counted_3))
def r_counted_1 : List HI.S := [(.ret (.un .tuple (.comp (.one 7) (.seq (.var 3)) none e_counted_4)))]
def f_counted : Fn := { np := 2, ns := 14, pure := true, body := ((.expr (.call (Str.ofString "look_rooms") [(.var 0)])) :: (.set (.one 2) (.make (Str.ofString "Book") [(.var 1)])) :: (.set (.one 3) (.boxc (.one 7) (.seq (.var 0)) none e_counted_2)) :: (.forS (.tup [(.one 8), (.one 9), (.one 10)]) (.seq (.meth (.var 2) (Str.ofString "Book") (Str.ofString "stands") [])) b_counted_2) :: r_counted_1) }
class H_counted (T : Tab) : Prop where
  eq : T (Str.ofString "counted") = some f_counted
theorem c_counted {L : Nat} {T : Tab} [h : H_counted T] (n : Nat) (as : List Val) (S : Store) : callF L T (n + 1) (Str.ofString "counted") as S = runFn L (callF L T n) f_counted as S := by
  simp only [callF, h.eq]
def e__law_runs_1 : E := (.call (Str.ofString "_law_mix") [(.bin .pow (.bin .add (.call (Str.ofString "_law_cell") [(.var 0), (.var 1)]) (.bin .mul (.lit (.int 7)) (.var 8))) (.lit (.int 2))), (.lit (.int 9949)), (.var 6)])
def b__law_runs_1 : List HI.S := [(.ifS (.and (.not (.var 12)) (.or (.bin .ne (.meth (.var 4) (Str.ofString "Book") (Str.ofString "opens") []) (.lst [])) (.bin .lt (.un .len (.meth (.var 4) (Str.ofString "Book") (Str.ofString "stands") [])) (.un .len (.var 9))))) [(.set (.one 13) (.call (Str.ofString "_law_seed") [(.bin .add (.call (Str.ofString "_law_cell") [(.var 0), (.bin .add (.var 1) (.lit (.int 4)))]) (.bin .mul (.lit (.int 61)) (.var 8))), (.var 8)])), (.set (.one 12) (.bin .eq (.call (Str.ofString "_law_goes") [(.var 11), (.var 4), (.var 9), (.var 13)]) (.lit (.str (Str.ofString "stopped")))))] [])]
def b__law_runs_2 : List HI.S := [(.set (.one 11) (.make (Str.ofString "Runner") [(.var 3), (.var 4), (.var 5), (.bin .mod (.call (Str.ofString "_law_cell") [(.var 0), (.bin .add (.var 1) (.lit (.int 3)))]) (.lit (.int 3))), (.var 10)])), (.set (.one 12) (.lit (.bool false))), (.forS (.one 8) (.range1 (.lit (.int 400))) b__law_runs_1)]
def r__law_runs_1 : List HI.S := [(.ret (.var 9))]
def f__law_runs : Fn := { np := 7, ns := 14, pure := false, body := ((.set (.one 7) (.comp (.one 8) (.range1 (.bin .mod (.call (Str.ofString "_law_cell") [(.var 0), (.bin .add (.var 1) (.lit (.int 1)))]) (.lit (.int 6)))) none e__law_runs_1)) :: (.set (.one 9) (.call (Str.ofString "_law_errands") [(.var 0), (.bin .add (.var 1) (.lit (.int 2))), (.un .len (.var 2))])) :: (.forS (.one 10) (.seq (.bin .add (.var 7) (.lst [(.lit .non)]))) b__law_runs_2) :: r__law_runs_1) }
class H__law_runs (T : Tab) : Prop where
  eq : T (Str.ofString "_law_runs") = some f__law_runs
theorem c__law_runs {L : Nat} {T : Tab} [h : H__law_runs T] (n : Nat) (as : List Val) (S : Store) : callF L T (n + 1) (Str.ofString "_law_runs") as S = runFn L (callF L T n) f__law_runs as S := by
  simp only [callF, h.eq]
def f__law_goes : Fn := { np := 4, ns := 5, pure := false, body := [(.set (.one 4) (.meth (.var 1) (Str.ofString "Book") (Str.ofString "opens") [])), (.ifS (.and (.bin .lt (.un .len (.meth (.var 1) (Str.ofString "Book") (Str.ofString "stands") [])) (.un .len (.var 2))) (.or (.bin .eq (.var 4) (.lst [])) (.bin .eq (.call (Str.ofString "_law_pick") [(.var 3), (.lit (.int 5))]) (.lit (.int 0))))) [(.ret (.call (Str.ofString "_law_begun") [(.var 0), (.bin .item (.var 2) (.un .len (.meth (.var 1) (Str.ofString "Book") (Str.ofString "stands") [])))]))] []), (.ret (.call (Str.ofString "_law_do") [(.var 0), (.bin .item (.var 4) (.bin .mod (.bin .fdiv (.var 3) (.lit (.int 7))) (.un .len (.var 4))))]))] }
class H__law_goes (T : Tab) : Prop where
  eq : T (Str.ofString "_law_goes") = some f__law_goes
theorem c__law_goes {L : Nat} {T : Tab} [h : H__law_goes T] (n : Nat) (as : List Val) (S : Store) : callF L T (n + 1) (Str.ofString "_law_goes") as S = runFn L (callF L T n) f__law_goes as S := by
  simp only [callF, h.eq]
def e__law_errands_1 : E := (.call (Str.ofString "_law_some") [(.call (Str.ofString "_law_seed") [(.bin .add (.var 3) (.bin .mul (.lit (.int 13)) (.var 4))), (.var 4)]), (.var 2)])
def f__law_errands : Fn := { np := 3, ns := 5, pure := true, body := [(.set (.one 3) (.call (Str.ofString "_law_cell") [(.var 0), (.var 1)])), (.ret (.comp (.one 4) (.range1 (.bin .add (.lit (.int 1)) (.bin .mod (.var 3) (.lit (.int 4))))) none e__law_errands_1))] }
class H__law_errands (T : Tab) : Prop where
  eq : T (Str.ofString "_law_errands") = some f__law_errands
theorem c__law_errands {L : Nat} {T : Tab} [h : H__law_errands T] (n : Nat) (as : List Val) (S : Store) : callF L T (n + 1) (Str.ofString "_law_errands") as S = runFn L (callF L T n) f__law_errands as S := by
  simp only [callF, h.eq]
def b__law_kept_marks_1 : List HI.S := [(.ifS (.and (.bin .eq (.var 8) (.lit (.str (Str.ofString "tried")))) (.bin .eq (.bin .item (.bin .item (.call (Str.ofString "_law_leaves") [(.var 4)]) (.var 7)) (.lit (.int 0))) (.var 1))) [(.append (.var 2) (.tup [(.var 3), (.var 7)]))] [])]
def b__law_kept_marks_2 : List HI.S := [(.ifS (.bin .eq (.var 6) (.lit (.str (Str.ofString "done")))) [(.forS (.tup [(.one 7), (.one 8)]) (.enum (.var 5)) b__law_kept_marks_1)] [])]
def r__law_kept_marks_1 : List HI.S := [(.ret (.var 2))]
def f__law_kept_marks : Fn := { np := 2, ns := 9, pure := true, body := ((.set (.one 2) (.box [])) :: (.forS (.tup [(.one 3), (.tup [(.one 4), (.one 5), (.one 6)])]) (.enum (.meth (.var 0) (Str.ofString "Book") (Str.ofString "stands") [])) b__law_kept_marks_2) :: r__law_kept_marks_1) }
class H__law_kept_marks (T : Tab) : Prop where
  eq : T (Str.ofString "_law_kept_marks") = some f__law_kept_marks
theorem c__law_kept_marks {L : Nat} {T : Tab} [h : H__law_kept_marks T] (n : Nat) (as : List Val) (S : Store) : callF L T (n + 1) (Str.ofString "_law_kept_marks") as S = runFn L (callF L T n) f__law_kept_marks as S := by
  simp only [callF, h.eq]
def q_number_of_1 : E := (.bin .notin (.var 1) (.lit (.str (Str.ofString "0123456789"))))
def f_number_of : Fn := { np := 1, ns := 2, pure := false, body := [(.ifS (.and (.bin .ne (.var 0) (.lit (.str (Str.ofString "")))) (.and (.bin .lt (.un .len (.var 0)) (.lit (.int 4))) (.not (.comp (.one 1) (.seq (.var 0)) (some q_number_of_1) (.var 1))))) [(.ret (.un .int (.var 0)))] []), (.ret (.var 0))] }
class H_number_of (T : Tab) : Prop where
  eq : T (Str.ofString "number_of") = some f_number_of
theorem c_number_of {L : Nat} {T : Tab} [h : H_number_of T] (n : Nat) (as : List Val) (S : Store) : callF L T (n + 1) (Str.ofString "number_of") as S = runFn L (callF L T n) f_number_of as S := by
  simp only [callF, h.eq]
def w_read_do_1 : E := (.and (.bin .lt (.var 2) (.un .len (.var 0))) (.bin .notin (.bin .item (.var 0) (.var 2)) (.lit (.str (Str.ofString ";)")))))
def b_read_do_1 : List HI.S := [(.augV 2 .add (.lit (.int 1)))]
def e_read_do_1 : E := (.call (Str.ofString "number_of") [(.var 4)])
def r_read_do_1 : List HI.S := [(.set (.one 3) (.comp (.one 4) (.seq (.bin .splitT (.slice (.var 0) (some (.var 1)) (some (.var 2))) (.lit (.str (Str.ofString " "))))) none e_read_do_1)), (.ret (.tup [(.bin .add (.un .tuple (.slice (.var 3) none (some (.lit (.int 2))))) (.tup [(.un .tuple (.slice (.var 3) (some (.lit (.int 2))) none))])), (.var 2)]))]
def f_read_do : Fn := { np := 2, ns := 5, pure := false, body := ((.set (.one 2) (.var 1)) :: (.whileS w_read_do_1 b_read_do_1) :: r_read_do_1) }
class H_read_do (T : Tab) : Prop where
  eq : T (Str.ofString "read_do") = some f_read_do
theorem c_read_do {L : Nat} {T : Tab} [h : H_read_do T] (n : Nat) (as : List Val) (S : Store) : callF L T (n + 1) (Str.ofString "read_do") as S = runFn L (callF L T n) f_read_do as S := by
  simp only [callF, h.eq]
def w_read_at_1 : E := (.bin .eq (.slice (.var 0) (some (.var 1)) (some (.bin .add (.var 1) (.lit (.int 2))))) (.lit (.str (Str.ofString "; "))))
def b_read_at_1 : List HI.S := [(.set (.tup [(.one 5), (.one 1)]) (.call (Str.ofString "read_at") [(.var 0), (.bin .add (.var 1) (.lit (.int 2))), (.bin .add (.var 2) (.lit (.int 1)))])), (.append (.var 4) (.var 5))]
def r_read_at_1 : List HI.S := [(.ifS (.bin .ne (.slice (.var 0) (some (.var 1)) (some (.bin .add (.var 1) (.lit (.int 1))))) (.lit (.str (Str.ofString ")")))) [(.raise (Str.ofString "BadText"))] []), (.ret (.tup [(.tup [(.var 3), (.un .tuple (.var 4))]), (.bin .add (.var 1) (.lit (.int 1)))]))]
def f_read_at : Fn := { np := 3, ns := 6, pure := true, body := ((.ifS (.bin .gt (.var 2) (.lit (.int 4))) [(.raise (Str.ofString "BadText"))] []) :: (.ifS (.bin .notin (.slice (.var 0) (some (.var 1)) (some (.bin .add (.var 1) (.lit (.int 4))))) (.tup [(.lit (.str (Str.ofString "all("))), (.lit (.str (Str.ofString "any(")))])) [(.ret (.call (Str.ofString "read_do") [(.var 0), (.var 1)]))] []) :: (.set (.one 3) (.slice (.var 0) (some (.var 1)) (some (.bin .add (.var 1) (.lit (.int 3)))))) :: (.set (.one 4) (.box [])) :: (.set (.tup [(.one 5), (.one 1)]) (.call (Str.ofString "read_at") [(.var 0), (.bin .add (.var 1) (.lit (.int 4))), (.bin .add (.var 2) (.lit (.int 1)))])) :: (.append (.var 4) (.var 5)) :: (.whileS w_read_at_1 b_read_at_1) :: r_read_at_1) }
class H_read_at (T : Tab) : Prop where
  eq : T (Str.ofString "read_at") = some f_read_at
theorem c_read_at {L : Nat} {T : Tab} [h : H_read_at T] (n : Nat) (as : List Val) (S : Store) : callF L T (n + 1) (Str.ofString "read_at") as S = runFn L (callF L T n) f_read_at as S := by
  simp only [callF, h.eq]
def f_read : Fn := { np := 1, ns := 3, pure := false, body := [(.ifS (.not (.isI (.var 0) (Str.ofString "str"))) [(.raise (Str.ofString "BadText"))] []), (.set (.tup [(.one 1), (.one 2)]) (.call (Str.ofString "read_at") [(.var 0), (.lit (.int 0)), (.lit (.int 1))])), (.ifS (.or (.bin .ne (.var 2) (.un .len (.var 0))) (.or (.not (.call (Str.ofString "is_errand") [(.var 1)])) (.bin .ne (.call (Str.ofString "text_of") [(.var 1)]) (.var 0)))) [(.raise (Str.ofString "BadText"))] []), (.ret (.var 1))] }
class H_read (T : Tab) : Prop where
  eq : T (Str.ofString "read") = some f_read
theorem c_read {L : Nat} {T : Tab} [h : H_read T] (n : Nat) (as : List Val) (S : Store) : callF L T (n + 1) (Str.ofString "read") as S = runFn L (callF L T n) f_read as S := by
  simp only [callF, h.eq]
def e__law_text_1 : E := (.un .str (.var 1))
def e__law_text_2 : E := (.call (Str.ofString "_law_text") [(.var 1)])
def f__law_text : Fn := { np := 1, ns := 2, pure := false, body := [(.ifS (.bin .eq (.bin .item (.var 0) (.lit (.int 0))) (.lit (.str (Str.ofString "do")))) [(.ret (.bin .add (.bin .add (.bin .add (.lit (.str (Str.ofString "do "))) (.un .str (.bin .item (.var 0) (.lit (.int 1))))) (.lit (.str (Str.ofString " ")))) (.bin .joinT (.lit (.str (Str.ofString " "))) (.comp (.one 1) (.seq (.bin .item (.var 0) (.lit (.int 2)))) none e__law_text_1))))] []), (.ret (.bin .add (.bin .add (.bin .add (.bin .item (.var 0) (.lit (.int 0))) (.lit (.str (Str.ofString "(")))) (.bin .joinT (.lit (.str (Str.ofString "; "))) (.comp (.one 1) (.seq (.bin .item (.var 0) (.lit (.int 1)))) none e__law_text_2))) (.lit (.str (Str.ofString ")")))))] }
class H__law_text (T : Tab) : Prop where
  eq : T (Str.ofString "_law_text") = some f__law_text
theorem c__law_text {L : Nat} {T : Tab} [h : H__law_text T] (n : Nat) (as : List Val) (S : Store) : callF L T (n + 1) (Str.ofString "_law_text") as S = runFn L (callF L T n) f__law_text as S := by
  simp only [callF, h.eq]
def b__law_on_the_way_1 : List HI.S := [(.set (.one 5) (.call (Str.ofString "_law_next") [(.var 2), (.var 3)])), (.ifS (.bin .gt (.un .len (.var 5)) (.lit (.int 1))) [(.set (.one 6) (.call (Str.ofString "_law_mix") [(.bin .pow (.bin .add (.call (Str.ofString "_law_cell") [(.var 0), (.bin .add (.var 1) (.lit (.int 1)))]) (.bin .mul (.lit (.int 7)) (.var 4))) (.lit (.int 2))), (.lit (.int 9949)), (.lit (.int 5))])), (.set (.one 7) (.bin .item (.lst [(.lit (.str (Str.ofString "tried"))), (.lit (.str (Str.ofString "refused"))), (.lit (.str (Str.ofString "tried"))), (.lit (.str (Str.ofString "doubt"))), (.lit (.str (Str.ofString "tried")))]) (.var 6))), (.ifS (.bin .eq (.bin .item (.var 5) (.lit (.int 0))) (.lit (.str (Str.ofString "cancel")))) [(.set (.one 7) (.bin .item (.newD [Str.ofString "tried", Str.ofString "doubt"] [(.lit (.str (Str.ofString "gone"))), (.lit (.str (Str.ofString "left")))]) (.bin .item (.var 3) (.bin .item (.var 5) (.lit (.int 1))))))] []), (.set (.one 3) (.bin .add (.bin .add (.slice (.var 3) none (some (.bin .item (.var 5) (.lit (.int 1))))) (.tup [(.var 7)])) (.slice (.var 3) (some (.bin .add (.bin .item (.var 5) (.lit (.int 1))) (.lit (.int 1)))) none)))] [])]
def r__law_on_the_way_1 : List HI.S := [(.ret (.var 3))]
def f__law_on_the_way : Fn := { np := 3, ns := 8, pure := true, body := ((.set (.one 3) (.un .tuple (.bin .mul (.lst [(.lit (.str (Str.ofString "new")))]) (.un .len (.call (Str.ofString "_law_leaves") [(.var 2)]))))) :: (.forS (.one 4) (.range1 (.bin .mod (.call (Str.ofString "_law_cell") [(.var 0), (.var 1)]) (.lit (.int 25)))) b__law_on_the_way_1) :: r__law_on_the_way_1) }
class H__law_on_the_way (T : Tab) : Prop where
  eq : T (Str.ofString "_law_on_the_way") = some f__law_on_the_way
theorem c__law_on_the_way {L : Nat} {T : Tab} [h : H__law_on_the_way T] (n : Nat) (as : List Val) (S : Store) : callF L T (n + 1) (Str.ofString "_law_on_the_way") as S = runFn L (callF L T n) f__law_on_the_way as S := by
  simp only [callF, h.eq]
def q__law_side_by_side_1 : E := (.and (.bin .eq (.bin .item (.var 7) (.lit (.int 0))) (.lit (.str (Str.ofString "kept")))) (.bin .eq (.bin .item (.var 7) (.lit (.int 1))) (.var 2)))
def e__law_side_by_side_1 : E := (.bin .item (.var 7) (.lit (.int 2)))
def q__law_side_by_side_2 : E := (.bin .gt (.un .len (.var 7)) (.lit (.int 1)))
def e__law_side_by_side_2 : E := (.bin .item (.var 7) (.lit (.int 1)))
def b__law_side_by_side_1 : List HI.S := [(.set (.one 12) (.tup [(.var 2), (.var 9)])), (.set (.one 13) (.tup [(.bin .isin (.var 12) (.meth (.bin .item (.var 0) (.var 10)) (Str.ofString "House") (Str.ofString "holds") [])), (.bin .isin (.var 12) (.meth (.bin .item (.var 0) (.var 10)) (Str.ofString "House") (Str.ofString "keeps") [])), (.bin .isin (.var 12) (.meth (.bin .item (.var 0) (.var 10)) (Str.ofString "House") (Str.ofString "bars") []))])), (.ifS (.bin .notin (.var 9) (.var 8)) [(.ifS (.and (.bin .eq (.bin .item (.var 4) (.var 9)) (.lit (.str (Str.ofString "tried")))) (.bin .ne (.var 13) (.tup [(.bin .notin (.var 9) (.var 6)), (.bin .isin (.var 9) (.var 6)), (.lit (.bool false))]))) [(.ret (.lit (.bool false)))] []), (.ifS (.and (.bin .isin (.bin .item (.var 4) (.var 9)) (.tup [(.lit (.str (Str.ofString "gone"))), (.lit (.str (Str.ofString "left")))])) (.bin .ne (.var 13) (.tup [(.lit (.bool false)), (.lit (.bool false)), (.lit (.bool true))]))) [(.ret (.lit (.bool false)))] []), (.ifS (.and (.bin .isin (.bin .item (.var 4) (.var 9)) (.tup [(.lit (.str (Str.ofString "new"))), (.lit (.str (Str.ofString "refused")))])) (.bin .ne (.var 13) (.tup [(.lit (.bool false)), (.lit (.bool false)), (.lit (.bool false))]))) [(.ret (.lit (.bool false)))] [])] [(.ifS (.and (.bin .eq (.bin .item (.var 4) (.var 9)) (.lit (.str (Str.ofString "new")))) (.or (.bin .item (.var 13) (.lit (.int 1))) (.bin .item (.var 13) (.lit (.int 2))))) [(.ret (.lit (.bool false)))] [])])]
def r__law_side_by_side_1 : List HI.S := [(.ret (.lit (.bool true)))]
def f__law_side_by_side : Fn := { np := 3, ns := 14, pure := false, body := ((.set (.tup [(.one 3), (.one 4), (.one 5)]) (.bin .item (.meth (.var 1) (Str.ofString "Book") (Str.ofString "stands") []) (.var 2))) :: (.set (.one 6) (.comp (.one 7) (.seq (.meth (.var 1) (Str.ofString "Book") (Str.ofString "rows") [])) (some q__law_side_by_side_1) e__law_side_by_side_1)) :: (.set (.one 8) (.comp (.one 7) (.seq (.call (Str.ofString "_law_due") [(.newD [Str.ofString "errand", Str.ofString "known", Str.ofString "word", Str.ofString "kept"] [(.var 3), (.var 4), (.var 5), (.var 6)])])) (some q__law_side_by_side_2) e__law_side_by_side_2)) :: (.forS (.tup [(.one 9), (.tup [(.one 10), (.one 11)])]) (.enum (.call (Str.ofString "_law_leaves") [(.var 3)])) b__law_side_by_side_1) :: r__law_side_by_side_1) }
class H__law_side_by_side (T : Tab) : Prop where
  eq : T (Str.ofString "_law_side_by_side") = some f__law_side_by_side
theorem c__law_side_by_side {L : Nat} {T : Tab} [h : H__law_side_by_side T] (n : Nat) (as : List Val) (S : Store) : callF L T (n + 1) (Str.ofString "_law_side_by_side") as S = runFn L (callF L T n) f__law_side_by_side as S := by
  simp only [callF, h.eq]
def f__law_deeds_of : Fn := { np := 1, ns := 3, pure := false, body := [(.set (.one 1) (.make (Str.ofString "House") [(.tup [(.tup [(.lit (.str (Str.ofString "a"))), (.lit (.int 1)), (.lit (.int 5))])])])), (.ifS (.bin .eq (.var 0) (.lit (.int 0))) [(.ret (.make (Str.ofString "House") [(.lit .non)]))] []), (.ifS (.bin .eq (.var 0) (.lit (.int 1))) [(.ret (.meth (.var 1) (Str.ofString "House") (Str.ofString "confirm") [(.lit .non)]))] []), (.ifS (.bin .eq (.var 0) (.lit (.int 2))) [(.ret (.meth (.var 1) (Str.ofString "House") (Str.ofString "attempt") [(.tup [(.lit (.int 0)), (.lit (.int 0))]), (.lit .non)]))] []), (.ifS (.bin .eq (.var 0) (.lit (.int 3))) [(.ret (.meth (.var 1) (Str.ofString "House") (Str.ofString "confirm") [(.tup [(.lit (.int 0)), (.lit (.int 0))])]))] []), (.ifS (.bin .eq (.var 0) (.lit (.int 4))) [(.ret (.meth (.var 1) (Str.ofString "House") (Str.ofString "room") [(.lit (.str (Str.ofString "b")))]))] []), (.ifS (.bin .eq (.var 0) (.lit (.int 5))) [(.ret (.call (Str.ofString "leaves") [(.lit .non)]))] []), (.ifS (.bin .eq (.var 0) (.lit (.int 6))) [(.ret (.call (Str.ofString "next_move") [(.tup [(.lit (.str (Str.ofString "do"))), (.lit (.int 0)), (.tup [(.lit (.str (Str.ofString "note"))), (.lit (.str (Str.ofString "a")))])]), (.lit .non)]))] []), (.ifS (.bin .eq (.var 0) (.lit (.int 7))) [(.ret (.make (Str.ofString "Book") [(.lst [(.lit .non)])]))] []), (.ifS (.bin .eq (.var 0) (.lit (.int 8))) [(.ret (.make (Str.ofString "Road") [(.lit .non)]))] []), (.ifS (.bin .eq (.var 0) (.lit (.int 11))) [(.ret (.call (Str.ofString "read") [(.lit .non)]))] []), (.set (.one 2) (.make (Str.ofString "Runner") [(.tup [(.var 1)]), (.make (Str.ofString "Book") [(.lst [])]), (.make (Str.ofString "Road") [(.tup [])]), (.lit (.int 0)), (.lit (.int 0))])), (.ret (.ite (.bin .eq (.var 0) (.lit (.int 9))) (.meth (.var 2) (Str.ofString "Runner") (Str.ofString "move") [(.lit (.int 0))]) (.meth (.var 2) (Str.ofString "Runner") (Str.ofString "begin") [(.tup [(.lit (.str (Str.ofString "do"))), (.lit (.int 0)), (.tup [(.lit (.str (Str.ofString "note"))), (.lit (.str (Str.ofString "a")))])])])))] }
class H__law_deeds_of (T : Tab) : Prop where
  eq : T (Str.ofString "_law_deeds_of") = some f__law_deeds_of
theorem c__law_deeds_of {L : Nat} {T : Tab} [h : H__law_deeds_of T] (n : Nat) (as : List Val) (S : Store) : callF L T (n + 1) (Str.ofString "_law_deeds_of") as S = runFn L (callF L T n) f__law_deeds_of as S := by
  simp only [callF, h.eq]
def f__law_kinds_of : Fn := { np := 1, ns := 3, pure := true, body := [(.set (.one 1) (.box [])), (.tryA 2 1 [(.expr (.call (Str.ofString "_law_deeds_of") [(.var 0)]))] [Str.ofString "BadRooms", Str.ofString "BadMark", Str.ofString "BadDeed", Str.ofString "NoHold", Str.ofString "NoKey", Str.ofString "BadErrand", Str.ofString "BadKnown", Str.ofString "BadRow", Str.ofString "BadRoad", Str.ofString "NoErrand", Str.ofString "Stopped", Str.ofString "BadText"]), (.ret (.var 1))] }
class H__law_kinds_of (T : Tab) : Prop where
  eq : T (Str.ofString "_law_kinds_of") = some f__law_kinds_of
theorem c__law_kinds_of {L : Nat} {T : Tab} [h : H__law_kinds_of T] (n : Nat) (as : List Val) (S : Store) : callF L T (n + 1) (Str.ofString "_law_kinds_of") as S = runFn L (callF L T n) f__law_kinds_of as S := by
  simp only [callF, h.eq]
def q__law_total_1 : E := (.bin .eq (.bin .item (.var 2) (.lit (.int 0))) (.var 1))
def e__law_total_1 : E := (.bin .item (.var 2) (.lit (.int 2)))
def f__law_total : Fn := { np := 2, ns := 3, pure := false, body := [(.ret (.un .sum (.comp (.one 2) (.seq (.var 0)) (some q__law_total_1) e__law_total_1)))] }
class H__law_total (T : Tab) : Prop where
  eq : T (Str.ofString "_law_total") = some f__law_total
theorem c__law_total {L : Nat} {T : Tab} [h : H__law_total T] (n : Nat) (as : List Val) (S : Store) : callF L T (n + 1) (Str.ofString "_law_total") as S = runFn L (callF L T n) f__law_total as S := by
  simp only [callF, h.eq]
end HP
set_option Elab.async false
set_option linter.all false
set_option maxRecDepth 100000
namespace K29
open PySem PySem.Spec PyProof.Rows L2 HI
def b__wall_1 : List HI.S := [.pass]
def f__wall : Fn := { np := 1, ns := 1, pure := false, body := [(.whileS (.lit (.bool true)) b__wall_1)] }
def f_House_stock : Fn := { np := 1, ns := 1, pure := false, body := [(.expr (.call (Str.ofString "_wall") [(.lit (.int 0))]))] }
def f_House_holds : Fn := { np := 1, ns := 1, pure := false, body := [(.expr (.call (Str.ofString "_wall") [(.lit (.int 1))]))] }
def f_House_keeps : Fn := { np := 1, ns := 1, pure := false, body := [(.expr (.call (Str.ofString "_wall") [(.lit (.int 2))]))] }
def f_House_bars : Fn := { np := 1, ns := 1, pure := false, body := [(.expr (.call (Str.ofString "_wall") [(.lit (.int 3))]))] }
def f_House_notes : Fn := { np := 1, ns := 1, pure := false, body := [(.expr (.call (Str.ofString "_wall") [(.lit (.int 4))]))] }
def f_Runner_moves_left : Fn := { np := 1, ns := 1, pure := false, body := [(.expr (.call (Str.ofString "_wall") [(.lit (.int 5))]))] }
def e_law_1 : E := (.bin .eq (.var 2) (.var 1))
def b_law_1 : List HI.S := [(.set (.one 9) (.make (Str.ofString "Runner") [(.tup [(.var 3)]), (.var 4), (.var 5), (.lit (.int 0)), (.var 8)])), (.ifS (.bin .eq (.meth (.var 4) (Str.ofString "Book") (Str.ofString "rows") []) (.lst [])) [(.append (.var 7) (.call (Str.ofString "_law_begun") [(.var 9), (.var 6)]))] [(.append (.var 7) (.call (Str.ofString "_law_do") [(.var 9), (.lit (.int 0))]))])]
def r_law_1 : List HI.S := [(.set (.one 10) (.bin .lt (.bin .item (.bin .item (.var 6) (.lit (.int 2))) (.lit (.int 2))) (.lit (.int 5)))), (.ifS (.bin .ne (.var 7) (.lst [(.lit (.str (Str.ofString "stopped"))), (.lit (.int 0)), (.lit (.str (Str.ofString "stopped"))), (.lit (.str (Str.ofString "stopped"))), (.tup [(.bin .item (.lst [(.lit (.str (Str.ofString "refused"))), (.lit (.str (Str.ofString "tried")))]) (.un .int (.var 10))), (.lit (.int 0)), (.lit (.int 0))])])) [(.ret (.lit (.bool false)))] []), (.ret (.bin .eq (.bin .item (.meth (.make (Str.ofString "Runner") [(.tup [(.var 3)]), (.var 4), (.var 5), (.lit (.int 0)), (.lit .non)]) (Str.ofString "Runner") (Str.ofString "finish") []) (.un .neg (.lit (.int 1)))) (.tup [(.lit (.str (Str.ofString "end"))), (.lit (.int 0)), (.bin .item (.lst [(.lit (.str (Str.ofString "not"))), (.lit (.str (Str.ofString "done")))]) (.un .int (.var 10)))])))]
def f_law : Fn := { np := 1, ns := 11, pure := false, body := ((.set (.one 1) (.bin .mod (.call (Str.ofString "_law_cell") [(.var 0), (.lit (.int 0))]) (.lit (.int 12)))) :: (.ifS (.bin .ne (.call (Str.ofString "_law_kinds_of") [(.var 1)]) (.bin .add (.comp (.one 2) (.range1 (.lit (.int 12))) none e_law_1) (.lst [(.lit (.bool true))]))) [(.ret (.lit (.bool false)))] []) :: (.set (.one 3) (.make (Str.ofString "House") [(.tup [(.tup [(.lit (.str (Str.ofString "a"))), (.lit (.int 1)), (.lit (.int 5))])])])) :: (.set (.one 4) (.make (Str.ofString "Book") [(.lst [])])) :: (.set (.one 5) (.make (Str.ofString "Road") [(.tup [])])) :: (.set (.one 6) (.tup [(.lit (.str (Str.ofString "do"))), (.lit (.int 0)), (.tup [(.lit (.str (Str.ofString "give"))), (.lit (.str (Str.ofString "a"))), (.bin .add (.lit (.int 1)) (.bin .mod (.call (Str.ofString "_law_cell") [(.var 0), (.lit (.int 1))]) (.lit (.int 5))))])])) :: (.set (.one 7) (.box [])) :: (.forS (.one 8) (.seq (.tup [(.lit (.int 0)), (.lit (.int 1)), (.lit (.int 0)), (.lit (.int 1)), (.lit (.int 2))])) b_law_1) :: r_law_1) }
def tab : List (Str × Fn) := [((Str.ofString "_wall"), f__wall), ((Str.ofString "is_within"), HP.f_is_within), ((Str.ofString "is_word"), HP.f_is_word), ((Str.ofString "is_deed"), HP.f_is_deed), ((Str.ofString "leaves_left"), HP.f_leaves_left), ((Str.ofString "is_errand"), HP.f_is_errand), ((Str.ofString "leaves_of"), HP.f_leaves_of), ((Str.ofString "look"), HP.f_look), ((Str.ofString "leaves"), HP.f_leaves), ((Str.ofString "of_leaf"), HP.f_of_leaf), ((Str.ofString "how"), HP.f_how), ((Str.ofString "next_of"), HP.f_next_of), ((Str.ofString "look_known"), HP.f_look_known), ((Str.ofString "next_move"), HP.f_next_move), ((dot (Str.ofString "Record") (Str.ofString "__init__")), HP.f_Record_init), ((dot (Str.ofString "Record") (Str.ofString "with_leaf")), HP.f_Record_with_leaf), ((dot (Str.ofString "Record") (Str.ofString "due")), HP.f_Record_due), ((dot (Str.ofString "Record") (Str.ofString "fits")), HP.f_Record_fits), ((dot (Str.ofString "Record") (Str.ofString "follow")), HP.f_Record_follow), ((Str.ofString "is_row"), HP.f_is_row), ((dot (Str.ofString "Book") (Str.ofString "__init__")), HP.f_Book_init), ((dot (Str.ofString "Book") (Str.ofString "add")), HP.f_Book_add), ((dot (Str.ofString "Book") (Str.ofString "rows")), HP.f_Book_rows), ((dot (Str.ofString "Book") (Str.ofString "opens")), HP.f_Book_opens), ((dot (Str.ofString "Book") (Str.ofString "stands")), HP.f_Book_stands), ((Str.ofString "are_rooms"), HP.f_are_rooms), ((Str.ofString "is_mark"), HP.f_is_mark), ((Str.ofString "look_mark"), HP.f_look_mark), ((dot (Str.ofString "House") (Str.ofString "__init__")), HP.f_House_init), ((dot (Str.ofString "House") (Str.ofString "look_key")), HP.f_House_look_key), ((dot (Str.ofString "House") (Str.ofString "of_held")), HP.f_House_of_held), ((dot (Str.ofString "House") (Str.ofString "space")), HP.f_House_space), ((dot (Str.ofString "House") (Str.ofString "can")), HP.f_House_can), ((dot (Str.ofString "House") (Str.ofString "attempt")), HP.f_House_attempt), ((dot (Str.ofString "House") (Str.ofString "confirm")), HP.f_House_confirm), ((dot (Str.ofString "House") (Str.ofString "cancel")), HP.f_House_cancel), ((dot (Str.ofString "House") (Str.ofString "stock")), f_House_stock), ((dot (Str.ofString "House") (Str.ofString "room")), HP.f_House_room), ((dot (Str.ofString "House") (Str.ofString "holds")), f_House_holds), ((dot (Str.ofString "House") (Str.ofString "keeps")), f_House_keeps), ((dot (Str.ofString "House") (Str.ofString "bars")), f_House_bars), ((dot (Str.ofString "House") (Str.ofString "notes")), f_House_notes), ((dot (Str.ofString "Road") (Str.ofString "__init__")), HP.f_Road_init), ((dot (Str.ofString "Road") (Str.ofString "use")), HP.f_Road_use), ((dot (Str.ofString "Road") (Str.ofString "used")), HP.f_Road_used), ((Str.ofString "are_houses"), HP.f_are_houses), ((dot (Str.ofString "Runner") (Str.ofString "__init__")), HP.f_Runner_init), ((dot (Str.ofString "Runner") (Str.ofString "spend")), HP.f_Runner_spend), ((dot (Str.ofString "Runner") (Str.ofString "write")), HP.f_Runner_write), ((dot (Str.ofString "Runner") (Str.ofString "call")), HP.f_Runner_call), ((dot (Str.ofString "Runner") (Str.ofString "begin")), HP.f_Runner_begin), ((dot (Str.ofString "Runner") (Str.ofString "move")), HP.f_Runner_move), ((dot (Str.ofString "Runner") (Str.ofString "finish")), HP.f_Runner_finish), ((dot (Str.ofString "Runner") (Str.ofString "moves_left")), f_Runner_moves_left), ((Str.ofString "text_of"), HP.f_text_of), ((Str.ofString "number_of"), HP.f_number_of), ((Str.ofString "read_do"), HP.f_read_do), ((Str.ofString "read_at"), HP.f_read_at), ((Str.ofString "read"), HP.f_read), ((Str.ofString "_law_cell"), HP.f__law_cell), ((Str.ofString "_law_do"), HP.f__law_do), ((Str.ofString "_law_begun"), HP.f__law_begun), ((Str.ofString "_law_deeds_of"), HP.f__law_deeds_of), ((Str.ofString "_law_kinds_of"), HP.f__law_kinds_of), ((Str.ofString "law"), f_law)]
def T : Tab := fun x => (tab.find? fun p => decide (p.1 = x)).map (·.2)
theorem T__wall : T (Str.ofString "_wall") = some f__wall := by kernel_rfl
instance : HP.H_is_within T := ⟨by kernel_rfl⟩
instance : HP.H_is_word T := ⟨by kernel_rfl⟩
instance : HP.H_is_deed T := ⟨by kernel_rfl⟩
instance : HP.H_leaves_left T := ⟨by kernel_rfl⟩
instance : HP.H_is_errand T := ⟨by kernel_rfl⟩
instance : HP.H_leaves_of T := ⟨by kernel_rfl⟩
instance : HP.H_look T := ⟨by kernel_rfl⟩
instance : HP.H_leaves T := ⟨by kernel_rfl⟩
instance : HP.H_of_leaf T := ⟨by kernel_rfl⟩
instance : HP.H_how T := ⟨by kernel_rfl⟩
instance : HP.H_next_of T := ⟨by kernel_rfl⟩
instance : HP.H_look_known T := ⟨by kernel_rfl⟩
instance : HP.H_next_move T := ⟨by kernel_rfl⟩
instance : HP.H_Record_init T := ⟨by kernel_rfl⟩
instance : HP.H_Record_with_leaf T := ⟨by kernel_rfl⟩
instance : HP.H_Record_due T := ⟨by kernel_rfl⟩
instance : HP.H_Record_fits T := ⟨by kernel_rfl⟩
instance : HP.H_Record_follow T := ⟨by kernel_rfl⟩
instance : HP.H_is_row T := ⟨by kernel_rfl⟩
instance : HP.H_Book_init T := ⟨by kernel_rfl⟩
instance : HP.H_Book_add T := ⟨by kernel_rfl⟩
instance : HP.H_Book_rows T := ⟨by kernel_rfl⟩
instance : HP.H_Book_opens T := ⟨by kernel_rfl⟩
instance : HP.H_Book_stands T := ⟨by kernel_rfl⟩
instance : HP.H_are_rooms T := ⟨by kernel_rfl⟩
instance : HP.H_is_mark T := ⟨by kernel_rfl⟩
instance : HP.H_look_mark T := ⟨by kernel_rfl⟩
instance : HP.H_House_init T := ⟨by kernel_rfl⟩
instance : HP.H_House_look_key T := ⟨by kernel_rfl⟩
instance : HP.H_House_of_held T := ⟨by kernel_rfl⟩
instance : HP.H_House_space T := ⟨by kernel_rfl⟩
instance : HP.H_House_can T := ⟨by kernel_rfl⟩
instance : HP.H_House_attempt T := ⟨by kernel_rfl⟩
instance : HP.H_House_confirm T := ⟨by kernel_rfl⟩
instance : HP.H_House_cancel T := ⟨by kernel_rfl⟩
theorem T_House_stock : T (dot (Str.ofString "House") (Str.ofString "stock")) = some f_House_stock := by kernel_rfl
instance : HP.H_House_room T := ⟨by kernel_rfl⟩
theorem T_House_holds : T (dot (Str.ofString "House") (Str.ofString "holds")) = some f_House_holds := by kernel_rfl
theorem T_House_keeps : T (dot (Str.ofString "House") (Str.ofString "keeps")) = some f_House_keeps := by kernel_rfl
theorem T_House_bars : T (dot (Str.ofString "House") (Str.ofString "bars")) = some f_House_bars := by kernel_rfl
theorem T_House_notes : T (dot (Str.ofString "House") (Str.ofString "notes")) = some f_House_notes := by kernel_rfl
instance : HP.H_Road_init T := ⟨by kernel_rfl⟩
instance : HP.H_Road_use T := ⟨by kernel_rfl⟩
instance : HP.H_Road_used T := ⟨by kernel_rfl⟩
instance : HP.H_are_houses T := ⟨by kernel_rfl⟩
instance : HP.H_Runner_init T := ⟨by kernel_rfl⟩
instance : HP.H_Runner_spend T := ⟨by kernel_rfl⟩
instance : HP.H_Runner_write T := ⟨by kernel_rfl⟩
instance : HP.H_Runner_call T := ⟨by kernel_rfl⟩
instance : HP.H_Runner_begin T := ⟨by kernel_rfl⟩
instance : HP.H_Runner_move T := ⟨by kernel_rfl⟩
instance : HP.H_Runner_finish T := ⟨by kernel_rfl⟩
theorem T_Runner_moves_left : T (dot (Str.ofString "Runner") (Str.ofString "moves_left")) = some f_Runner_moves_left := by kernel_rfl
instance : HP.H_text_of T := ⟨by kernel_rfl⟩
instance : HP.H_number_of T := ⟨by kernel_rfl⟩
instance : HP.H_read_do T := ⟨by kernel_rfl⟩
instance : HP.H_read_at T := ⟨by kernel_rfl⟩
instance : HP.H_read T := ⟨by kernel_rfl⟩
instance : HP.H__law_cell T := ⟨by kernel_rfl⟩
instance : HP.H__law_do T := ⟨by kernel_rfl⟩
instance : HP.H__law_begun T := ⟨by kernel_rfl⟩
instance : HP.H__law_deeds_of T := ⟨by kernel_rfl⟩
instance : HP.H__law_kinds_of T := ⟨by kernel_rfl⟩
theorem T_law : T (Str.ofString "law") = some f_law := by kernel_rfl
def G : GI where
  fns := [(Str.ofString "_wall"), (Str.ofString "is_within"), (Str.ofString "is_word"), (Str.ofString "is_deed"), (Str.ofString "leaves_left"), (Str.ofString "is_errand"), (Str.ofString "leaves_of"), (Str.ofString "look"), (Str.ofString "leaves"), (Str.ofString "of_leaf"), (Str.ofString "how"), (Str.ofString "next_of"), (Str.ofString "look_known"), (Str.ofString "next_move"), (Str.ofString "is_row"), (Str.ofString "are_rooms"), (Str.ofString "is_mark"), (Str.ofString "look_mark"), (Str.ofString "are_houses"), (Str.ofString "text_of"), (Str.ofString "number_of"), (Str.ofString "read_do"), (Str.ofString "read_at"), (Str.ofString "read"), (Str.ofString "_law_cell"), (Str.ofString "_law_do"), (Str.ofString "_law_begun"), (Str.ofString "_law_deeds_of"), (Str.ofString "_law_kinds_of"), (Str.ofString "law")]
  mks := [(Str.ofString "Record"), (Str.ofString "Book"), (Str.ofString "House"), (Str.ofString "Road"), (Str.ofString "Runner")]
  mes := [((Str.ofString "Record"), (Str.ofString "with_leaf")), ((Str.ofString "Record"), (Str.ofString "due")), ((Str.ofString "Record"), (Str.ofString "fits")), ((Str.ofString "Record"), (Str.ofString "follow")), ((Str.ofString "Book"), (Str.ofString "add")), ((Str.ofString "Book"), (Str.ofString "rows")), ((Str.ofString "Book"), (Str.ofString "opens")), ((Str.ofString "Book"), (Str.ofString "stands")), ((Str.ofString "House"), (Str.ofString "look_key")), ((Str.ofString "House"), (Str.ofString "of_held")), ((Str.ofString "House"), (Str.ofString "space")), ((Str.ofString "House"), (Str.ofString "can")), ((Str.ofString "House"), (Str.ofString "attempt")), ((Str.ofString "House"), (Str.ofString "confirm")), ((Str.ofString "House"), (Str.ofString "cancel")), ((Str.ofString "House"), (Str.ofString "stock")), ((Str.ofString "House"), (Str.ofString "room")), ((Str.ofString "House"), (Str.ofString "holds")), ((Str.ofString "House"), (Str.ofString "keeps")), ((Str.ofString "House"), (Str.ofString "bars")), ((Str.ofString "House"), (Str.ofString "notes")), ((Str.ofString "Road"), (Str.ofString "use")), ((Str.ofString "Road"), (Str.ofString "used")), ((Str.ofString "Runner"), (Str.ofString "spend")), ((Str.ofString "Runner"), (Str.ofString "write")), ((Str.ofString "Runner"), (Str.ofString "call")), ((Str.ofString "Runner"), (Str.ofString "begin")), ((Str.ofString "Runner"), (Str.ofString "move")), ((Str.ofString "Runner"), (Str.ofString "finish")), ((Str.ofString "Runner"), (Str.ofString "moves_left"))]
  exs := [(Str.ofString "BadDeed"), (Str.ofString "BadErrand"), (Str.ofString "BadKnown"), (Str.ofString "BadMark"), (Str.ofString "BadRoad"), (Str.ofString "BadRooms"), (Str.ofString "BadRow"), (Str.ofString "BadText"), (Str.ofString "NoErrand"), (Str.ofString "NoHold"), (Str.ofString "NoKey"), (Str.ofString "Stopped")]
  hns := ["HoldError", "NoErrand", "Stopped"]
  isi := [(Str.ofString "Book"), (Str.ofString "House"), (Str.ofString "Road"), (Str.ofString "bool"), (Str.ofString "int"), (Str.ofString "list"), (Str.ofString "str"), (Str.ofString "tuple")]
  free := [(Str.ofString "ValueError"), (Str.ofString "bool"), (Str.ofString "dict"), (Str.ofString "enumerate"), (Str.ofString "int"), (Str.ofString "isinstance"), (Str.ofString "len"), (Str.ofString "list"), (Str.ofString "range"), (Str.ofString "str"), (Str.ofString "sum"), (Str.ofString "tuple")]
  cis := [((Str.ofString "MOST"), 999), ((Str.ofString "MOST_HOUSES"), 5), ((Str.ofString "MOST_PARTS"), 4), ((Str.ofString "MOST_LEAVES"), 12), ((Str.ofString "MOST_DEEP"), 4), ((Str.ofString "MOST_KEYS"), 6), ((Str.ofString "MOST_NUMBER"), 9999), ((Str.ofString "MOST_TRIES"), 9), ((Str.ofString "MOST_MOVES"), 100000)]
  css := [((Str.ofString "SMALL"), (Str.ofString "abcdefghijklmnopqrstuvwxyz")), ((Str.ofString "FIGURES"), (Str.ofString "0123456789"))]
  flds := [(Str.ofString "again"), (Str.ofString "at"), (Str.ofString "barred"), (Str.ofString "book"), (Str.ofString "counts"), (Str.ofString "errand"), (Str.ofString "held"), (Str.ofString "houses"), (Str.ofString "kept"), (Str.ofString "known"), (Str.ofString "left"), (Str.ofString "lines"), (Str.ofString "records"), (Str.ofString "road"), (Str.ofString "tops"), (Str.ofString "word"), (Str.ofString "words")]
  ise := [(Str.ofString "BadRooms"), (Str.ofString "BadMark"), (Str.ofString "BadDeed"), (Str.ofString "NoHold"), (Str.ofString "NoKey"), (Str.ofString "BadErrand"), (Str.ofString "BadKnown"), (Str.ofString "BadRow"), (Str.ofString "BadRoad"), (Str.ofString "NoErrand"), (Str.ofString "Stopped"), (Str.ofString "BadText")]
  tups := [((Str.ofString "WORDS"), [(Str.ofString "new"), (Str.ofString "tried"), (Str.ofString "refused"), (Str.ofString "doubt"), (Str.ofString "gone"), (Str.ofString "left")])]
end K29
set_option Elab.async false
set_option linter.all false
set_option maxRecDepth 100000
set_option maxHeartbeats 0
namespace K29
open PySem PySem.Spec PyProof.Rows L2 HI
def top (i : Nat) : Stmt := PySem.Challenge.pw_holdall_k29_refusals_stand_apart.main.body.getD i (.Pass ⟨0, 0, 0, 0⟩)
def e__wall : De := ⟨⟨((Str.ofString "_wall"), none), (Str.ofString "_wall"), (Str.ofString "_wall"), defArgs (top 0), defBody (top 0), defScope (top 0), [], []⟩, (Str.ofString "_wall"), [(Str.ofString "k")], [(Str.ofString "k")]⟩
def e_is_within : De := ⟨⟨((Str.ofString "is_within"), none), (Str.ofString "is_within"), (Str.ofString "is_within"), defArgs (top 22), defBody (top 22), defScope (top 22), [], []⟩, (Str.ofString "is_within"), [(Str.ofString "thing"), (Str.ofString "low"), (Str.ofString "high")], [(Str.ofString "thing"), (Str.ofString "low"), (Str.ofString "high")]⟩
def e_is_word : De := ⟨⟨((Str.ofString "is_word"), none), (Str.ofString "is_word"), (Str.ofString "is_word"), defArgs (top 23), defBody (top 23), defScope (top 23), [], []⟩, (Str.ofString "is_word"), [(Str.ofString "thing"), (Str.ofString "sign")], [(Str.ofString "thing")]⟩
def e_is_deed : De := ⟨⟨((Str.ofString "is_deed"), none), (Str.ofString "is_deed"), (Str.ofString "is_deed"), defArgs (top 24), defBody (top 24), defScope (top 24), [], []⟩, (Str.ofString "is_deed"), [(Str.ofString "thing")], [(Str.ofString "thing")]⟩
def e_leaves_left : De := ⟨⟨((Str.ofString "leaves_left"), none), (Str.ofString "leaves_left"), (Str.ofString "leaves_left"), defArgs (top 25), defBody (top 25), defScope (top 25), [], []⟩, (Str.ofString "leaves_left"), [(Str.ofString "thing"), (Str.ofString "left"), (Str.ofString "deep"), (Str.ofString "part")], [(Str.ofString "thing"), (Str.ofString "left"), (Str.ofString "deep")]⟩
def e_is_errand : De := ⟨⟨((Str.ofString "is_errand"), none), (Str.ofString "is_errand"), (Str.ofString "is_errand"), defArgs (top 26), defBody (top 26), defScope (top 26), [], []⟩, (Str.ofString "is_errand"), [(Str.ofString "thing")], [(Str.ofString "thing")]⟩
def e_leaves_of : De := ⟨⟨((Str.ofString "leaves_of"), none), (Str.ofString "leaves_of"), (Str.ofString "leaves_of"), defArgs (top 27), defBody (top 27), defScope (top 27), [], []⟩, (Str.ofString "leaves_of"), [(Str.ofString "errand"), (Str.ofString "found"), (Str.ofString "part")], [(Str.ofString "errand")]⟩
def e_look : De := ⟨⟨((Str.ofString "look"), none), (Str.ofString "look"), (Str.ofString "look"), defArgs (top 28), defBody (top 28), defScope (top 28), [], []⟩, (Str.ofString "look"), [(Str.ofString "errand")], [(Str.ofString "errand")]⟩
def e_leaves : De := ⟨⟨((Str.ofString "leaves"), none), (Str.ofString "leaves"), (Str.ofString "leaves"), defArgs (top 29), defBody (top 29), defScope (top 29), [], []⟩, (Str.ofString "leaves"), [(Str.ofString "errand")], [(Str.ofString "errand")]⟩
def e_of_leaf : De := ⟨⟨((Str.ofString "of_leaf"), none), (Str.ofString "of_leaf"), (Str.ofString "of_leaf"), defArgs (top 32), defBody (top 32), defScope (top 32), [], []⟩, (Str.ofString "of_leaf"), [(Str.ofString "word"), (Str.ofString "at")], [(Str.ofString "word"), (Str.ofString "at")]⟩
def e_how : De := ⟨⟨((Str.ofString "how"), none), (Str.ofString "how"), (Str.ofString "how"), defArgs (top 33), defBody (top 33), defScope (top 33), [], []⟩, (Str.ofString "how"), [(Str.ofString "errand"), (Str.ofString "known"), (Str.ofString "at"), (Str.ofString "stands"), (Str.ofString "move"), (Str.ofString "first"), (Str.ofString "end"), (Str.ofString "part"), (Str.ofString "some"), (Str.ofString "leaf")], [(Str.ofString "errand"), (Str.ofString "known"), (Str.ofString "at")]⟩
def e_next_of : De := ⟨⟨((Str.ofString "next_of"), none), (Str.ofString "next_of"), (Str.ofString "next_of"), defArgs (top 34), defBody (top 34), defScope (top 34), [], []⟩, (Str.ofString "next_of"), [(Str.ofString "errand"), (Str.ofString "known"), (Str.ofString "stands"), (Str.ofString "move"), (Str.ofString "end")], [(Str.ofString "errand"), (Str.ofString "known")]⟩
def e_look_known : De := ⟨⟨((Str.ofString "look_known"), none), (Str.ofString "look_known"), (Str.ofString "look_known"), defArgs (top 35), defBody (top 35), defScope (top 35), [], []⟩, (Str.ofString "look_known"), [(Str.ofString "errand"), (Str.ofString "known"), (Str.ofString "word")], [(Str.ofString "errand"), (Str.ofString "known")]⟩
def e_next_move : De := ⟨⟨((Str.ofString "next_move"), none), (Str.ofString "next_move"), (Str.ofString "next_move"), defArgs (top 36), defBody (top 36), defScope (top 36), [], []⟩, (Str.ofString "next_move"), [(Str.ofString "errand"), (Str.ofString "known")], [(Str.ofString "errand"), (Str.ofString "known")]⟩
def e_Record_init : De := ⟨⟨((Str.ofString "Record"), some (Str.ofString "__init__")), (Str.ofString "__init__"), (Str.ofString "Record.__init__"), defArgs (inClass (top 38) 0), defBody (inClass (top 38) 0), defScope (inClass (top 38) 0), [], []⟩, (dot (Str.ofString "Record") (Str.ofString "__init__")), [(Str.ofString "self"), (Str.ofString "errand"), (Str.ofString "leaf")], [(Str.ofString "self"), (Str.ofString "errand")]⟩
def e_Record_with_leaf : De := ⟨⟨((Str.ofString "Record"), some (Str.ofString "with_leaf")), (Str.ofString "with_leaf"), (Str.ofString "Record.with_leaf"), defArgs (inClass (top 38) 1), defBody (inClass (top 38) 1), defScope (inClass (top 38) 1), [], []⟩, (dot (Str.ofString "Record") (Str.ofString "with_leaf")), [(Str.ofString "self"), (Str.ofString "leaf"), (Str.ofString "word")], [(Str.ofString "self"), (Str.ofString "leaf"), (Str.ofString "word")]⟩
def e_Record_due : De := ⟨⟨((Str.ofString "Record"), some (Str.ofString "due")), (Str.ofString "due"), (Str.ofString "Record.due"), defArgs (inClass (top 38) 2), defBody (inClass (top 38) 2), defScope (inClass (top 38) 2), [], []⟩, (dot (Str.ofString "Record") (Str.ofString "due")), [(Str.ofString "self"), (Str.ofString "move"), (Str.ofString "some"), (Str.ofString "leaf"), (Str.ofString "word")], [(Str.ofString "self")]⟩
def e_Record_fits : De := ⟨⟨((Str.ofString "Record"), some (Str.ofString "fits")), (Str.ofString "fits"), (Str.ofString "Record.fits"), defArgs (inClass (top 38) 3), defBody (inClass (top 38) 3), defScope (inClass (top 38) 3), [], []⟩, (dot (Str.ofString "Record") (Str.ofString "fits")), [(Str.ofString "self"), (Str.ofString "row"), (Str.ofString "due"), (Str.ofString "words")], [(Str.ofString "self"), (Str.ofString "row")]⟩
def e_Record_follow : De := ⟨⟨((Str.ofString "Record"), some (Str.ofString "follow")), (Str.ofString "follow"), (Str.ofString "Record.follow"), defArgs (inClass (top 38) 4), defBody (inClass (top 38) 4), defScope (inClass (top 38) 4), [], []⟩, (dot (Str.ofString "Record") (Str.ofString "follow")), [(Str.ofString "self"), (Str.ofString "row")], [(Str.ofString "self"), (Str.ofString "row")]⟩
def e_is_row : De := ⟨⟨((Str.ofString "is_row"), none), (Str.ofString "is_row"), (Str.ofString "is_row"), defArgs (top 39), defBody (top 39), defScope (top 39), [], []⟩, (Str.ofString "is_row"), [(Str.ofString "thing"), (Str.ofString "sizes")], [(Str.ofString "thing")]⟩
def e_Book_init : De := ⟨⟨((Str.ofString "Book"), some (Str.ofString "__init__")), (Str.ofString "__init__"), (Str.ofString "Book.__init__"), defArgs (inClass (top 40) 0), defBody (inClass (top 40) 0), defScope (inClass (top 40) 0), [], []⟩, (dot (Str.ofString "Book") (Str.ofString "__init__")), [(Str.ofString "self"), (Str.ofString "rows"), (Str.ofString "row")], [(Str.ofString "self"), (Str.ofString "rows")]⟩
def e_Book_add : De := ⟨⟨((Str.ofString "Book"), some (Str.ofString "add")), (Str.ofString "add"), (Str.ofString "Book.add"), defArgs (inClass (top 40) 1), defBody (inClass (top 40) 1), defScope (inClass (top 40) 1), [], []⟩, (dot (Str.ofString "Book") (Str.ofString "add")), [(Str.ofString "self"), (Str.ofString "row")], [(Str.ofString "self"), (Str.ofString "row")]⟩
def e_Book_rows : De := ⟨⟨((Str.ofString "Book"), some (Str.ofString "rows")), (Str.ofString "rows"), (Str.ofString "Book.rows"), defArgs (inClass (top 40) 2), defBody (inClass (top 40) 2), defScope (inClass (top 40) 2), [], []⟩, (dot (Str.ofString "Book") (Str.ofString "rows")), [(Str.ofString "self")], [(Str.ofString "self")]⟩
def e_Book_opens : De := ⟨⟨((Str.ofString "Book"), some (Str.ofString "opens")), (Str.ofString "opens"), (Str.ofString "Book.opens"), defArgs (inClass (top 40) 3), defBody (inClass (top 40) 3), defScope (inClass (top 40) 3), [], []⟩, (dot (Str.ofString "Book") (Str.ofString "opens")), [(Str.ofString "self"), (Str.ofString "at"), (Str.ofString "record")], [(Str.ofString "self")]⟩
def e_Book_stands : De := ⟨⟨((Str.ofString "Book"), some (Str.ofString "stands")), (Str.ofString "stands"), (Str.ofString "Book.stands"), defArgs (inClass (top 40) 4), defBody (inClass (top 40) 4), defScope (inClass (top 40) 4), [], []⟩, (dot (Str.ofString "Book") (Str.ofString "stands")), [(Str.ofString "self"), (Str.ofString "record")], [(Str.ofString "self")]⟩
def e_are_rooms : De := ⟨⟨((Str.ofString "are_rooms"), none), (Str.ofString "are_rooms"), (Str.ofString "are_rooms"), defArgs (top 44), defBody (top 44), defScope (top 44), [], []⟩, (Str.ofString "are_rooms"), [(Str.ofString "thing"), (Str.ofString "one"), (Str.ofString "at")], [(Str.ofString "thing")]⟩
def e_is_mark : De := ⟨⟨((Str.ofString "is_mark"), none), (Str.ofString "is_mark"), (Str.ofString "is_mark"), defArgs (top 45), defBody (top 45), defScope (top 45), [], []⟩, (Str.ofString "is_mark"), [(Str.ofString "thing")], [(Str.ofString "thing")]⟩
def e_look_mark : De := ⟨⟨((Str.ofString "look_mark"), none), (Str.ofString "look_mark"), (Str.ofString "look_mark"), defArgs (top 46), defBody (top 46), defScope (top 46), [], []⟩, (Str.ofString "look_mark"), [(Str.ofString "mark")], [(Str.ofString "mark")]⟩
def e_House_init : De := ⟨⟨((Str.ofString "House"), some (Str.ofString "__init__")), (Str.ofString "__init__"), (Str.ofString "House.__init__"), defArgs (inClass (top 47) 0), defBody (inClass (top 47) 0), defScope (inClass (top 47) 0), [], []⟩, (dot (Str.ofString "House") (Str.ofString "__init__")), [(Str.ofString "self"), (Str.ofString "rooms"), (Str.ofString "key"), (Str.ofString "many"), (Str.ofString "top")], [(Str.ofString "self"), (Str.ofString "rooms")]⟩
def e_House_look_key : De := ⟨⟨((Str.ofString "House"), some (Str.ofString "look_key")), (Str.ofString "look_key"), (Str.ofString "House.look_key"), defArgs (inClass (top 47) 1), defBody (inClass (top 47) 1), defScope (inClass (top 47) 1), [], []⟩, (dot (Str.ofString "House") (Str.ofString "look_key")), [(Str.ofString "self"), (Str.ofString "key")], [(Str.ofString "self"), (Str.ofString "key")]⟩
def e_House_of_held : De := ⟨⟨((Str.ofString "House"), some (Str.ofString "of_held")), (Str.ofString "of_held"), (Str.ofString "House.of_held"), defArgs (inClass (top 47) 2), defBody (inClass (top 47) 2), defScope (inClass (top 47) 2), [], []⟩, (dot (Str.ofString "House") (Str.ofString "of_held")), [(Str.ofString "self"), (Str.ofString "key"), (Str.ofString "word"), (Str.ofString "some"), (Str.ofString "mark"), (Str.ofString "deed")], [(Str.ofString "self"), (Str.ofString "key"), (Str.ofString "word")]⟩
def e_House_space : De := ⟨⟨((Str.ofString "House"), some (Str.ofString "space")), (Str.ofString "space"), (Str.ofString "House.space"), defArgs (inClass (top 47) 3), defBody (inClass (top 47) 3), defScope (inClass (top 47) 3), [], []⟩, (dot (Str.ofString "House") (Str.ofString "space")), [(Str.ofString "self"), (Str.ofString "key"), (Str.ofString "held")], [(Str.ofString "self"), (Str.ofString "key")]⟩
def e_House_can : De := ⟨⟨((Str.ofString "House"), some (Str.ofString "can")), (Str.ofString "can"), (Str.ofString "House.can"), defArgs (inClass (top 47) 4), defBody (inClass (top 47) 4), defScope (inClass (top 47) 4), [], []⟩, (dot (Str.ofString "House") (Str.ofString "can")), [(Str.ofString "self"), (Str.ofString "deed")], [(Str.ofString "self"), (Str.ofString "deed")]⟩
def e_House_attempt : De := ⟨⟨((Str.ofString "House"), some (Str.ofString "attempt")), (Str.ofString "attempt"), (Str.ofString "House.attempt"), defArgs (inClass (top 47) 5), defBody (inClass (top 47) 5), defScope (inClass (top 47) 5), [], []⟩, (dot (Str.ofString "House") (Str.ofString "attempt")), [(Str.ofString "self"), (Str.ofString "mark"), (Str.ofString "deed")], [(Str.ofString "self"), (Str.ofString "mark"), (Str.ofString "deed")]⟩
def e_House_confirm : De := ⟨⟨((Str.ofString "House"), some (Str.ofString "confirm")), (Str.ofString "confirm"), (Str.ofString "House.confirm"), defArgs (inClass (top 47) 6), defBody (inClass (top 47) 6), defScope (inClass (top 47) 6), [], []⟩, (dot (Str.ofString "House") (Str.ofString "confirm")), [(Str.ofString "self"), (Str.ofString "mark"), (Str.ofString "deed")], [(Str.ofString "self"), (Str.ofString "mark")]⟩
def e_House_cancel : De := ⟨⟨((Str.ofString "House"), some (Str.ofString "cancel")), (Str.ofString "cancel"), (Str.ofString "House.cancel"), defArgs (inClass (top 47) 7), defBody (inClass (top 47) 7), defScope (inClass (top 47) 7), [], []⟩, (dot (Str.ofString "House") (Str.ofString "cancel")), [(Str.ofString "self"), (Str.ofString "mark"), (Str.ofString "deed")], [(Str.ofString "self"), (Str.ofString "mark")]⟩
def e_House_stock : De := ⟨⟨((Str.ofString "House"), some (Str.ofString "stock")), (Str.ofString "stock"), (Str.ofString "House.stock"), defArgs (inClass (top 47) 8), defBody (inClass (top 47) 8), defScope (inClass (top 47) 8), [], []⟩, (dot (Str.ofString "House") (Str.ofString "stock")), [(Str.ofString "self")], [(Str.ofString "self")]⟩
def e_House_room : De := ⟨⟨((Str.ofString "House"), some (Str.ofString "room")), (Str.ofString "room"), (Str.ofString "House.room"), defArgs (inClass (top 47) 9), defBody (inClass (top 47) 9), defScope (inClass (top 47) 9), [], []⟩, (dot (Str.ofString "House") (Str.ofString "room")), [(Str.ofString "self"), (Str.ofString "key")], [(Str.ofString "self"), (Str.ofString "key")]⟩
def e_House_holds : De := ⟨⟨((Str.ofString "House"), some (Str.ofString "holds")), (Str.ofString "holds"), (Str.ofString "House.holds"), defArgs (inClass (top 47) 10), defBody (inClass (top 47) 10), defScope (inClass (top 47) 10), [], []⟩, (dot (Str.ofString "House") (Str.ofString "holds")), [(Str.ofString "self")], [(Str.ofString "self")]⟩
def e_House_keeps : De := ⟨⟨((Str.ofString "House"), some (Str.ofString "keeps")), (Str.ofString "keeps"), (Str.ofString "House.keeps"), defArgs (inClass (top 47) 11), defBody (inClass (top 47) 11), defScope (inClass (top 47) 11), [], []⟩, (dot (Str.ofString "House") (Str.ofString "keeps")), [(Str.ofString "self")], [(Str.ofString "self")]⟩
def e_House_bars : De := ⟨⟨((Str.ofString "House"), some (Str.ofString "bars")), (Str.ofString "bars"), (Str.ofString "House.bars"), defArgs (inClass (top 47) 12), defBody (inClass (top 47) 12), defScope (inClass (top 47) 12), [], []⟩, (dot (Str.ofString "House") (Str.ofString "bars")), [(Str.ofString "self")], [(Str.ofString "self")]⟩
def e_House_notes : De := ⟨⟨((Str.ofString "House"), some (Str.ofString "notes")), (Str.ofString "notes"), (Str.ofString "House.notes"), defArgs (inClass (top 47) 13), defBody (inClass (top 47) 13), defScope (inClass (top 47) 13), [], []⟩, (dot (Str.ofString "House") (Str.ofString "notes")), [(Str.ofString "self")], [(Str.ofString "self")]⟩
def e_Road_init : De := ⟨⟨((Str.ofString "Road"), some (Str.ofString "__init__")), (Str.ofString "__init__"), (Str.ofString "Road.__init__"), defArgs (inClass (top 51) 0), defBody (inClass (top 51) 0), defScope (inClass (top 51) 0), [], []⟩, (dot (Str.ofString "Road") (Str.ofString "__init__")), [(Str.ofString "self"), (Str.ofString "words"), (Str.ofString "one")], [(Str.ofString "self"), (Str.ofString "words")]⟩
def e_Road_use : De := ⟨⟨((Str.ofString "Road"), some (Str.ofString "use")), (Str.ofString "use"), (Str.ofString "Road.use"), defArgs (inClass (top 51) 1), defBody (inClass (top 51) 1), defScope (inClass (top 51) 1), [], []⟩, (dot (Str.ofString "Road") (Str.ofString "use")), [(Str.ofString "self")], [(Str.ofString "self")]⟩
def e_Road_used : De := ⟨⟨((Str.ofString "Road"), some (Str.ofString "used")), (Str.ofString "used"), (Str.ofString "Road.used"), defArgs (inClass (top 51) 2), defBody (inClass (top 51) 2), defScope (inClass (top 51) 2), [], []⟩, (dot (Str.ofString "Road") (Str.ofString "used")), [(Str.ofString "self")], [(Str.ofString "self")]⟩
def e_are_houses : De := ⟨⟨((Str.ofString "are_houses"), none), (Str.ofString "are_houses"), (Str.ofString "are_houses"), defArgs (top 52), defBody (top 52), defScope (top 52), [], []⟩, (Str.ofString "are_houses"), [(Str.ofString "thing"), (Str.ofString "one")], [(Str.ofString "thing")]⟩
def e_Runner_init : De := ⟨⟨((Str.ofString "Runner"), some (Str.ofString "__init__")), (Str.ofString "__init__"), (Str.ofString "Runner.__init__"), defArgs (inClass (top 53) 0), defBody (inClass (top 53) 0), defScope (inClass (top 53) 0), [], []⟩, (dot (Str.ofString "Runner") (Str.ofString "__init__")), [(Str.ofString "self"), (Str.ofString "houses"), (Str.ofString "book"), (Str.ofString "road"), (Str.ofString "again"), (Str.ofString "left")], [(Str.ofString "self"), (Str.ofString "houses"), (Str.ofString "book"), (Str.ofString "road"), (Str.ofString "again"), (Str.ofString "left")]⟩
def e_Runner_spend : De := ⟨⟨((Str.ofString "Runner"), some (Str.ofString "spend")), (Str.ofString "spend"), (Str.ofString "Runner.spend"), defArgs (inClass (top 53) 1), defBody (inClass (top 53) 1), defScope (inClass (top 53) 1), [], []⟩, (dot (Str.ofString "Runner") (Str.ofString "spend")), [(Str.ofString "self")], [(Str.ofString "self")]⟩
def e_Runner_write : De := ⟨⟨((Str.ofString "Runner"), some (Str.ofString "write")), (Str.ofString "write"), (Str.ofString "Runner.write"), defArgs (inClass (top 53) 2), defBody (inClass (top 53) 2), defScope (inClass (top 53) 2), [], []⟩, (dot (Str.ofString "Runner") (Str.ofString "write")), [(Str.ofString "self"), (Str.ofString "row")], [(Str.ofString "self"), (Str.ofString "row")]⟩
def e_Runner_call : De := ⟨⟨((Str.ofString "Runner"), some (Str.ofString "call")), (Str.ofString "call"), (Str.ofString "Runner.call"), defArgs (inClass (top 53) 3), defBody (inClass (top 53) 3), defScope (inClass (top 53) 3), [], []⟩, (dot (Str.ofString "Runner") (Str.ofString "call")), [(Str.ofString "self"), (Str.ofString "word"), (Str.ofString "leaf"), (Str.ofString "mark"), (Str.ofString "became"), (Str.ofString "house"), (Str.ofString "answer")], [(Str.ofString "self"), (Str.ofString "word"), (Str.ofString "leaf"), (Str.ofString "mark")]⟩
def e_Runner_begin : De := ⟨⟨((Str.ofString "Runner"), some (Str.ofString "begin")), (Str.ofString "begin"), (Str.ofString "Runner.begin"), defArgs (inClass (top 53) 4), defBody (inClass (top 53) 4), defScope (inClass (top 53) 4), [], []⟩, (dot (Str.ofString "Runner") (Str.ofString "begin")), [(Str.ofString "self"), (Str.ofString "errand"), (Str.ofString "leaf"), (Str.ofString "number")], [(Str.ofString "self"), (Str.ofString "errand")]⟩
def e_Runner_move : De := ⟨⟨((Str.ofString "Runner"), some (Str.ofString "move")), (Str.ofString "move"), (Str.ofString "Runner.move"), defArgs (inClass (top 53) 5), defBody (inClass (top 53) 5), defScope (inClass (top 53) 5), [], []⟩, (dot (Str.ofString "Runner") (Str.ofString "move")), [(Str.ofString "self"), (Str.ofString "number"), (Str.ofString "record"), (Str.ofString "due"), (Str.ofString "leaf"), (Str.ofString "mark"), (Str.ofString "answer"), (Str.ofString "calls"), (Str.ofString "word")], [(Str.ofString "self"), (Str.ofString "number")]⟩
def e_Runner_finish : De := ⟨⟨((Str.ofString "Runner"), some (Str.ofString "finish")), (Str.ofString "finish"), (Str.ofString "Runner.finish"), defArgs (inClass (top 53) 6), defBody (inClass (top 53) 6), defScope (inClass (top 53) 6), [], []⟩, (dot (Str.ofString "Runner") (Str.ofString "finish")), [(Str.ofString "self"), (Str.ofString "found"), (Str.ofString "number")], [(Str.ofString "self")]⟩
def e_Runner_moves_left : De := ⟨⟨((Str.ofString "Runner"), some (Str.ofString "moves_left")), (Str.ofString "moves_left"), (Str.ofString "Runner.moves_left"), defArgs (inClass (top 53) 7), defBody (inClass (top 53) 7), defScope (inClass (top 53) 7), [], []⟩, (dot (Str.ofString "Runner") (Str.ofString "moves_left")), [(Str.ofString "self")], [(Str.ofString "self")]⟩
def e_text_of : De := ⟨⟨((Str.ofString "text_of"), none), (Str.ofString "text_of"), (Str.ofString "text_of"), defArgs (top 56), defBody (top 56), defScope (top 56), [], []⟩, (Str.ofString "text_of"), [(Str.ofString "errand"), (Str.ofString "part")], [(Str.ofString "errand")]⟩
def e_number_of : De := ⟨⟨((Str.ofString "number_of"), none), (Str.ofString "number_of"), (Str.ofString "number_of"), defArgs (top 57), defBody (top 57), defScope (top 57), [], []⟩, (Str.ofString "number_of"), [(Str.ofString "word"), (Str.ofString "sign")], [(Str.ofString "word")]⟩
def e_read_do : De := ⟨⟨((Str.ofString "read_do"), none), (Str.ofString "read_do"), (Str.ofString "read_do"), defArgs (top 58), defBody (top 58), defScope (top 58), [], []⟩, (Str.ofString "read_do"), [(Str.ofString "text"), (Str.ofString "at"), (Str.ofString "end"), (Str.ofString "words"), (Str.ofString "word")], [(Str.ofString "text"), (Str.ofString "at")]⟩
def e_read_at : De := ⟨⟨((Str.ofString "read_at"), none), (Str.ofString "read_at"), (Str.ofString "read_at"), defArgs (top 59), defBody (top 59), defScope (top 59), [], []⟩, (Str.ofString "read_at"), [(Str.ofString "text"), (Str.ofString "at"), (Str.ofString "deep"), (Str.ofString "word"), (Str.ofString "parts"), (Str.ofString "part")], [(Str.ofString "text"), (Str.ofString "at"), (Str.ofString "deep")]⟩
def e_read : De := ⟨⟨((Str.ofString "read"), none), (Str.ofString "read"), (Str.ofString "read"), defArgs (top 60), defBody (top 60), defScope (top 60), [], []⟩, (Str.ofString "read"), [(Str.ofString "text"), (Str.ofString "found"), (Str.ofString "end")], [(Str.ofString "text")]⟩
def e__law_cell : De := ⟨⟨((Str.ofString "_law_cell"), none), (Str.ofString "_law_cell"), (Str.ofString "_law_cell"), defArgs (top 62), defBody (top 62), defScope (top 62), [], []⟩, (Str.ofString "_law_cell"), [(Str.ofString "script"), (Str.ofString "k")], [(Str.ofString "script"), (Str.ofString "k")]⟩
def e__law_do : De := ⟨⟨((Str.ofString "_law_do"), none), (Str.ofString "_law_do"), (Str.ofString "_law_do"), defArgs (top 63), defBody (top 63), defScope (top 63), [], []⟩, (Str.ofString "_law_do"), [(Str.ofString "runner"), (Str.ofString "number"), (Str.ofString "told")], [(Str.ofString "runner"), (Str.ofString "number")]⟩
def e__law_begun : De := ⟨⟨((Str.ofString "_law_begun"), none), (Str.ofString "_law_begun"), (Str.ofString "_law_begun"), defArgs (top 64), defBody (top 64), defScope (top 64), [], []⟩, (Str.ofString "_law_begun"), [(Str.ofString "runner"), (Str.ofString "errand"), (Str.ofString "told")], [(Str.ofString "runner"), (Str.ofString "errand")]⟩
def e__law_deeds_of : De := ⟨⟨((Str.ofString "_law_deeds_of"), none), (Str.ofString "_law_deeds_of"), (Str.ofString "_law_deeds_of"), defArgs (top 65), defBody (top 65), defScope (top 65), [], []⟩, (Str.ofString "_law_deeds_of"), [(Str.ofString "way"), (Str.ofString "house"), (Str.ofString "runner")], [(Str.ofString "way")]⟩
def e__law_kinds_of : De := ⟨⟨((Str.ofString "_law_kinds_of"), none), (Str.ofString "_law_kinds_of"), (Str.ofString "_law_kinds_of"), defArgs (top 66), defBody (top 66), defScope (top 66), [], []⟩, (Str.ofString "_law_kinds_of"), [(Str.ofString "way"), (Str.ofString "some"), (Str.ofString "e")], [(Str.ofString "way")]⟩
def e_law : De := ⟨⟨((Str.ofString "law"), none), (Str.ofString "law"), (Str.ofString "law"), defArgs (top 67), defBody (top 67), defScope (top 67), [], []⟩, (Str.ofString "law"), [(Str.ofString "script"), (Str.ofString "way"), (Str.ofString "k"), (Str.ofString "house"), (Str.ofString "book"), (Str.ofString "road"), (Str.ofString "do"), (Str.ofString "found"), (Str.ofString "left"), (Str.ofString "runner"), (Str.ofString "good")], [(Str.ofString "script")]⟩
theorem ok__wall : De.ok G T e__wall = true := by kernel_rfl
theorem ok_is_within : De.ok G T e_is_within = true := by kernel_rfl
theorem ok_is_word : De.ok G T e_is_word = true := by kernel_rfl
theorem ok_is_deed : De.ok G T e_is_deed = true := by kernel_rfl
theorem ok_leaves_left : De.ok G T e_leaves_left = true := by kernel_rfl
theorem ok_is_errand : De.ok G T e_is_errand = true := by kernel_rfl
theorem ok_leaves_of : De.ok G T e_leaves_of = true := by kernel_rfl
theorem ok_look : De.ok G T e_look = true := by kernel_rfl
theorem ok_leaves : De.ok G T e_leaves = true := by kernel_rfl
theorem ok_of_leaf : De.ok G T e_of_leaf = true := by kernel_rfl
theorem ok_how : De.ok G T e_how = true := by kernel_rfl
theorem ok_next_of : De.ok G T e_next_of = true := by kernel_rfl
theorem ok_look_known : De.ok G T e_look_known = true := by kernel_rfl
theorem ok_next_move : De.ok G T e_next_move = true := by kernel_rfl
theorem ok_Record_init : De.ok G T e_Record_init = true := by kernel_rfl
theorem ok_Record_with_leaf : De.ok G T e_Record_with_leaf = true := by kernel_rfl
theorem ok_Record_due : De.ok G T e_Record_due = true := by kernel_rfl
theorem ok_Record_fits : De.ok G T e_Record_fits = true := by kernel_rfl
theorem ok_Record_follow : De.ok G T e_Record_follow = true := by kernel_rfl
theorem ok_is_row : De.ok G T e_is_row = true := by kernel_rfl
theorem ok_Book_init : De.ok G T e_Book_init = true := by kernel_rfl
theorem ok_Book_add : De.ok G T e_Book_add = true := by kernel_rfl
theorem ok_Book_rows : De.ok G T e_Book_rows = true := by kernel_rfl
theorem ok_Book_opens : De.ok G T e_Book_opens = true := by kernel_rfl
theorem ok_Book_stands : De.ok G T e_Book_stands = true := by kernel_rfl
theorem ok_are_rooms : De.ok G T e_are_rooms = true := by kernel_rfl
theorem ok_is_mark : De.ok G T e_is_mark = true := by kernel_rfl
theorem ok_look_mark : De.ok G T e_look_mark = true := by kernel_rfl
theorem ok_House_init : De.ok G T e_House_init = true := by kernel_rfl
theorem ok_House_look_key : De.ok G T e_House_look_key = true := by kernel_rfl
theorem ok_House_of_held : De.ok G T e_House_of_held = true := by kernel_rfl
theorem ok_House_space : De.ok G T e_House_space = true := by kernel_rfl
theorem ok_House_can : De.ok G T e_House_can = true := by kernel_rfl
theorem ok_House_attempt : De.ok G T e_House_attempt = true := by kernel_rfl
theorem ok_House_confirm : De.ok G T e_House_confirm = true := by kernel_rfl
theorem ok_House_cancel : De.ok G T e_House_cancel = true := by kernel_rfl
theorem ok_House_stock : De.ok G T e_House_stock = true := by kernel_rfl
theorem ok_House_room : De.ok G T e_House_room = true := by kernel_rfl
theorem ok_House_holds : De.ok G T e_House_holds = true := by kernel_rfl
theorem ok_House_keeps : De.ok G T e_House_keeps = true := by kernel_rfl
theorem ok_House_bars : De.ok G T e_House_bars = true := by kernel_rfl
theorem ok_House_notes : De.ok G T e_House_notes = true := by kernel_rfl
theorem ok_Road_init : De.ok G T e_Road_init = true := by kernel_rfl
theorem ok_Road_use : De.ok G T e_Road_use = true := by kernel_rfl
theorem ok_Road_used : De.ok G T e_Road_used = true := by kernel_rfl
theorem ok_are_houses : De.ok G T e_are_houses = true := by kernel_rfl
theorem ok_Runner_init : De.ok G T e_Runner_init = true := by kernel_rfl
theorem ok_Runner_spend : De.ok G T e_Runner_spend = true := by kernel_rfl
theorem ok_Runner_write : De.ok G T e_Runner_write = true := by kernel_rfl
theorem ok_Runner_call : De.ok G T e_Runner_call = true := by kernel_rfl
theorem ok_Runner_begin : De.ok G T e_Runner_begin = true := by kernel_rfl
theorem ok_Runner_move : De.ok G T e_Runner_move = true := by kernel_rfl
theorem ok_Runner_finish : De.ok G T e_Runner_finish = true := by kernel_rfl
theorem ok_Runner_moves_left : De.ok G T e_Runner_moves_left = true := by kernel_rfl
theorem ok_text_of : De.ok G T e_text_of = true := by kernel_rfl
theorem ok_number_of : De.ok G T e_number_of = true := by kernel_rfl
theorem ok_read_do : De.ok G T e_read_do = true := by kernel_rfl
theorem ok_read_at : De.ok G T e_read_at = true := by kernel_rfl
theorem ok_read : De.ok G T e_read = true := by kernel_rfl
theorem ok__law_cell : De.ok G T e__law_cell = true := by kernel_rfl
theorem ok__law_do : De.ok G T e__law_do = true := by kernel_rfl
theorem ok__law_begun : De.ok G T e__law_begun = true := by kernel_rfl
theorem ok__law_deeds_of : De.ok G T e__law_deeds_of = true := by kernel_rfl
theorem ok__law_kinds_of : De.ok G T e__law_kinds_of = true := by kernel_rfl
theorem ok_law : De.ok G T e_law = true := by kernel_rfl
def des : List De := [e__wall, e_is_within, e_is_word, e_is_deed, e_leaves_left, e_is_errand, e_leaves_of, e_look, e_leaves, e_of_leaf, e_how, e_next_of, e_look_known, e_next_move, e_Record_init, e_Record_with_leaf, e_Record_due, e_Record_fits, e_Record_follow, e_is_row, e_Book_init, e_Book_add, e_Book_rows, e_Book_opens, e_Book_stands, e_are_rooms, e_is_mark, e_look_mark, e_House_init, e_House_look_key, e_House_of_held, e_House_space, e_House_can, e_House_attempt, e_House_confirm, e_House_cancel, e_House_stock, e_House_room, e_House_holds, e_House_keeps, e_House_bars, e_House_notes, e_Road_init, e_Road_use, e_Road_used, e_are_houses, e_Runner_init, e_Runner_spend, e_Runner_write, e_Runner_call, e_Runner_begin, e_Runner_move, e_Runner_finish, e_Runner_moves_left, e_text_of, e_number_of, e_read_do, e_read_at, e_read, e__law_cell, e__law_do, e__law_begun, e__law_deeds_of, e__law_kinds_of, e_law]
theorem oks : ∀ e ∈ des, De.ok G T e = true := by
  intro e he
  simp only [des, List.mem_cons, List.mem_nil_iff, or_false] at he
  rcases he with rfl | rfl | rfl | rfl | rfl | rfl | rfl | rfl | rfl | rfl | rfl | rfl | rfl | rfl | rfl | rfl | rfl | rfl | rfl | rfl | rfl | rfl | rfl | rfl | rfl | rfl | rfl | rfl | rfl | rfl | rfl | rfl | rfl | rfl | rfl | rfl | rfl | rfl | rfl | rfl | rfl | rfl | rfl | rfl | rfl | rfl | rfl | rfl | rfl | rfl | rfl | rfl | rfl | rfl | rfl | rfl | rfl | rfl | rfl | rfl | rfl | rfl | rfl | rfl | rfl
  · exact ok__wall
  · exact ok_is_within
  · exact ok_is_word
  · exact ok_is_deed
  · exact ok_leaves_left
  · exact ok_is_errand
  · exact ok_leaves_of
  · exact ok_look
  · exact ok_leaves
  · exact ok_of_leaf
  · exact ok_how
  · exact ok_next_of
  · exact ok_look_known
  · exact ok_next_move
  · exact ok_Record_init
  · exact ok_Record_with_leaf
  · exact ok_Record_due
  · exact ok_Record_fits
  · exact ok_Record_follow
  · exact ok_is_row
  · exact ok_Book_init
  · exact ok_Book_add
  · exact ok_Book_rows
  · exact ok_Book_opens
  · exact ok_Book_stands
  · exact ok_are_rooms
  · exact ok_is_mark
  · exact ok_look_mark
  · exact ok_House_init
  · exact ok_House_look_key
  · exact ok_House_of_held
  · exact ok_House_space
  · exact ok_House_can
  · exact ok_House_attempt
  · exact ok_House_confirm
  · exact ok_House_cancel
  · exact ok_House_stock
  · exact ok_House_room
  · exact ok_House_holds
  · exact ok_House_keeps
  · exact ok_House_bars
  · exact ok_House_notes
  · exact ok_Road_init
  · exact ok_Road_use
  · exact ok_Road_used
  · exact ok_are_houses
  · exact ok_Runner_init
  · exact ok_Runner_spend
  · exact ok_Runner_write
  · exact ok_Runner_call
  · exact ok_Runner_begin
  · exact ok_Runner_move
  · exact ok_Runner_finish
  · exact ok_Runner_moves_left
  · exact ok_text_of
  · exact ok_number_of
  · exact ok_read_do
  · exact ok_read_at
  · exact ok_read
  · exact ok__law_cell
  · exact ok__law_do
  · exact ok__law_begun
  · exact ok__law_deeds_of
  · exact ok__law_kinds_of
  · exact ok_law
theorem lnks : lnk G des = true := by kernel_rfl
theorem lnkr : lnk G.ro des = true := by kernel_rfl
theorem ros : roOk G T des = true := by kernel_rfl
def loose0 : List PySem.Str := [(Str.ofString "_wall"), (Str.ofString "__name__"), (Str.ofString "HoldError"), (Str.ofString "BadRooms"), (Str.ofString "BadMark"), (Str.ofString "BadDeed"), (Str.ofString "NoHold"), (Str.ofString "NoKey"), (Str.ofString "BadErrand"), (Str.ofString "BadKnown"), (Str.ofString "BadRow"), (Str.ofString "BadRoad"), (Str.ofString "NoErrand"), (Str.ofString "Stopped"), (Str.ofString "BadText"), (Str.ofString "SMALL"), (Str.ofString "MOST"), (Str.ofString "MOST_HOUSES"), (Str.ofString "MOST_PARTS"), (Str.ofString "MOST_LEAVES")]
def loose1 : List PySem.Str := [(Str.ofString "MOST_DEEP"), (Str.ofString "is_within"), (Str.ofString "is_word"), (Str.ofString "is_deed"), (Str.ofString "leaves_left"), (Str.ofString "is_errand"), (Str.ofString "leaves_of"), (Str.ofString "look"), (Str.ofString "leaves"), (Str.ofString "WORDS"), (Str.ofString "of_leaf"), (Str.ofString "how"), (Str.ofString "next_of"), (Str.ofString "look_known"), (Str.ofString "next_move"), (Str.ofString "Record"), (Str.ofString "is_row"), (Str.ofString "Book"), (Str.ofString "MOST_KEYS"), (Str.ofString "MOST_NUMBER")]
def loose2 : List PySem.Str := [(Str.ofString "are_rooms"), (Str.ofString "is_mark"), (Str.ofString "look_mark"), (Str.ofString "House"), (Str.ofString "MOST_TRIES"), (Str.ofString "MOST_MOVES"), (Str.ofString "Road"), (Str.ofString "are_houses"), (Str.ofString "Runner"), (Str.ofString "FIGURES"), (Str.ofString "text_of"), (Str.ofString "number_of"), (Str.ofString "read_do"), (Str.ofString "read_at"), (Str.ofString "read"), (Str.ofString "_law_cell"), (Str.ofString "_law_do"), (Str.ofString "_law_begun"), (Str.ofString "_law_deeds_of"), (Str.ofString "_law_kinds_of")]
def loose : List PySem.Str := loose0 ++ loose1 ++ loose2
def fn : List He.DefD := des.map (·.d)
abbrev R : PySem.W.OpenRow := PySem.W.OpenLaw.row PySem.Challenge.rw_holdall_k29_refusals_stand_apart
abbrev hk : PySem.W.Hook := He.hookX 5 [] fn [] [] (exB G)
def ob (s : PySem.W.SharedT) : He.AlX := He.obsX 5 [] fn [] [] (exB G) (HandSHeadRun.getT s)
theorem ob_eq (s : PySem.W.SharedT) : ob s = hk.obs s.abs := He.obsX_eq (HandSHeadRun.getT_eq s)
theorem run1 (w : World) : HRN.At R 6000 w (fun s => HandSHeadRun.looksF R.prog (PySem.W.boot_heap w.params) s.abs) true := by
  intro os
  kernel_rfl
theorem run2 (w : World) : HRN.At R 6000 w (fun s => HandSHeadRun.seenQ (PySem.W.view R.prog [67]) loose (importedModules R.prog.main.body) (fun s => PySem.W.xlAt (PySem.W.view R.prog [67]) [] s && PySem.W.recOk R.toRowW.records s) s.abs) (PySem.W.openGood (PySem.W.view R.prog [67]) loose) := by
  intro os
  kernel_rfl
theorem run3a (w : World) : HRN.At R 6000 w (HRN.Ok (fn.take (fn.length / 2))) true := by
  intro os
  kernel_rfl
theorem run3b (w : World) : HRN.At R 6000 w (HRN.Ok (fn.drop (fn.length / 2))) true := by
  intro os
  kernel_rfl
theorem run3 (w : World) : HRN.At R 6000 w (HRN.Ok fn) true := HRN.Ok.of (fn.length / 2) (run3a w) (run3b w)
theorem run4a (w : World) : HRN.At R 6000 w (HRN.Fn (fn.take (fn.length / 2))) ((fn.take (fn.length / 2)).map He.DefD.val) := by
  intro os
  kernel_rfl
theorem run4b (w : World) : HRN.At R 6000 w (HRN.Fn (fn.drop (fn.length / 2))) ((fn.drop (fn.length / 2)).map He.DefD.val) := by
  intro os
  kernel_rfl
theorem run4 (w : World) : HRN.At R 6000 w (HRN.Fn fn) (fn.map He.DefD.val) := HRN.Fn.of (fn.length / 2) (run4a w) (run4b w)
def Ga (g : GI) : GI := { g with mes := [], flds := [], tups := [] }
def Gb (g : GI) : GI := { fns := [], mks := [], mes := g.mes, exs := [], hns := [], isi := [], free := [], cis := [], css := [], flds := g.flds, tups := g.tups }
theorem exB_two (g : GI) (K : PySem.W.Frag) : exB g K = (exB (Ga g) K && exB (Gb g) K) := by
  simp only [exB, Ga, Gb, List.all_nil, Bool.and_true, Bool.true_and]
  ac_rfl
theorem ex_two {r : PySem.W.OpenRow} {M : Nat} {w : World} (g : GI) (h1 : HRN.At r M w (HRN.Ex (exB (Ga g))) true) (h2 : HRN.At r M w (HRN.Ex (exB (Gb g))) true) : HRN.At r M w (HRN.Ex (exB g)) true := fun os => by
  have e := h1.both h2 (fun a b => a && b) os
  rw [Bool.and_self] at e
  rw [← e]
  congr 1
  funext s
  exact exB_two g (HRN.Fr s)
theorem run5a (w : World) : HRN.At R 6000 w (HRN.Ex (exB (Ga G))) true := by
  intro os
  kernel_rfl
theorem run5b (w : World) : HRN.At R 6000 w (HRN.Ex (exB (Gb G))) true := by
  intro os
  kernel_rfl
theorem run5 (w : World) : HRN.At R 6000 w (HRN.Ex (exB G)) true := ex_two G (run5a w) (run5b w)
theorem run (w : World) : HandSHeadRun.RunEq R (PySem.W.view R.prog [67]) hk ob 6000 loose w := HRN.run_of (run1 w) (run2 w) (run3 w) (run4 w) (run5 w)
end K29
section
open PySem PySem.W PySem.Calls PyProof.Rows
theorem K29.holds (LL : Nat) (says : HI.Says LL K29.T 40) : PySem.Challenge.rw_holdall_k29_refusals_stand_apart.Holds := by
  w_on; o_law
  refine HandSHeadRun.head_any (r := OpenLaw.row PySem.Challenge.rw_holdall_k29_refusals_stand_apart) (q := view (OpenLaw.row PySem.Challenge.rw_holdall_k29_refusals_stand_apart).prog [67]) (H := K29.hk) (ob := K29.ob) (M := 6000) (loose := K29.loose) (d := HandSHeadRun.topDef (OpenLaw.row PySem.Challenge.rw_holdall_k29_refusals_stand_apart).prog 67) (kwd := []) K29.ob_eq
    (by kernel_rfl) (fun s => by kernel_rfl) K29.run (by kernel_rfl) (by kernel_rfl) (by kernel_rfl) (by rfl) (by first | assumption | decide +kernel) (by decide +kernel) ⟨rfl, rfl, rfl, rfl, rfl, by decide +kernel⟩ ?hw ?hc
  case hw => w_witness2
  case hc =>
    refine HI.walk_EB (l := PySem.Challenge.rw_holdall_k29_refusals_stand_apart) (n := 63) (k := 80) (x := "script") (CX := L2.CX0) rfl (by decide) (by kernel_rfl) ⟨rfl, by decide, by decide⟩ ?F (fun _ _ _ _ z => z)
    intro w mg fa h Y G hmg0
    have hmg : mg ("law" : PySem.Str) = some (.ref fa) := by
      have e : (HandSHeadRun.topDef (OpenLaw.row PySem.Challenge.rw_holdall_k29_refusals_stand_apart).prog 67).name = ("law" : PySem.Str) := by kernel_rfl
      rw [← e]
      exact hmg0
    exact HI.law_F (e := K29.e_law) says K29.lnks K29.lnkr K29.ros K29.oks (by simp [K29.des]) rfl rfl rfl (by decide +kernel) w mg fa h Y G hmg
end
set_option Elab.async false
set_option linter.all false
set_option maxRecDepth 100000
namespace HM
open PySem HI
@[simp] theorem ev_var (C : CallT) (i : Nat) (ρ : HI.Env) (S : Store) : ev C (.var i) ρ S = ((match ρ[i]? with | some (some v) => .ok v S | _ => .stuck)) := by first | (simp only [ev]; done) | (simp only [ev]; rfl)
@[simp] theorem ev_lit (C : CallT) (v : Val) (ρ : HI.Env) (S : Store) : ev C (.lit v) ρ S = (.ok v S) := by first | (simp only [ev]; done) | (simp only [ev]; rfl)
@[simp] theorem ev_un (C : CallT) (op : U1) (a : E) (ρ : HI.Env) (S : Store) : ev C (.un op a) ρ S = ((ev C a ρ S).bind fun x S1 => ofO (op1 S1 op x) S1) := by first | (simp only [ev]; done) | (simp only [ev]; rfl)
@[simp] theorem ev_bin (C : CallT) (op : B2) (a : E) (b : E) (ρ : HI.Env) (S : Store) : ev C (.bin op a b) ρ S = ((ev C a ρ S).bind fun x S1 => (ev C b ρ S1).bind fun y S2 => ofO (op2 S2 op x y) S2) := by first | (simp only [ev]; done) | (simp only [ev]; rfl)
@[simp] theorem ev_chain (C : CallT) (o1 : B2) (o2 : B2) (a : E) (b : E) (c : E) (ρ : HI.Env) (S : Store) : ev C (.chain o1 o2 a b c) ρ S = ((ev C a ρ S).bind fun x S1 => (ev C b ρ S1).bind fun y S2 =>
      (match op2 S2 o1 x y with
      | some (.bool true) => (ev C c ρ S2).bind fun z S3 => ofO (op2 S3 o2 y z) S3
      | some (.bool false) => .ok (.bool false) S2
      | _ => .stuck)) := by first | (simp only [ev]; done) | (simp only [ev]; rfl)
@[simp] theorem ev_and (C : CallT) (a : E) (b : E) (ρ : HI.Env) (S : Store) : ev C (.and a b) ρ S = ((ev C a ρ S).bind fun x S1 => (match x with
      | .bool true => ev C b ρ S1
      | .bool false => .ok (.bool false) S1
      | _ => .stuck)) := by first | (simp only [ev]; done) | (simp only [ev]; rfl)
@[simp] theorem ev_or (C : CallT) (a : E) (b : E) (ρ : HI.Env) (S : Store) : ev C (.or a b) ρ S = ((ev C a ρ S).bind fun x S1 => (match HI.truthy S1 x with
      | some true => .ok x S1
      | some false => ev C b ρ S1
      | none => .stuck)) := by first | (simp only [ev]; done) | (simp only [ev]; rfl)
@[simp] theorem ev_not (C : CallT) (a : E) (ρ : HI.Env) (S : Store) : ev C (.not a) ρ S = ((ev C a ρ S).bind fun x S1 => (match HI.truthy S1 x with
      | some b => .ok (.bool (!b)) S1
      | none => .stuck)) := by first | (simp only [ev]; done) | (simp only [ev]; rfl)
@[simp] theorem ev_ite (C : CallT) (c : E) (a : E) (b : E) (ρ : HI.Env) (S : Store) : ev C (.ite c a b) ρ S = ((evT C c ρ S).bind fun t S1 => if t = true then ev C a ρ S1 else ev C b ρ S1) := by first | (simp only [ev]; done) | (simp only [ev]; rfl)
@[simp] theorem ev_tup (C : CallT) (es : List E) (ρ : HI.Env) (S : Store) : ev C (.tup es) ρ S = ((evs C es ρ S).bind fun vs S1 => .ok (.tup vs) S1) := by first | (simp only [ev]; done) | (simp only [ev]; rfl)
@[simp] theorem ev_lst (C : CallT) (es : List E) (ρ : HI.Env) (S : Store) : ev C (.lst es) ρ S = ((evs C es ρ S).bind fun vs S1 => .ok (.lst vs) S1) := by first | (simp only [ev]; done) | (simp only [ev]; rfl)
@[simp] theorem ev_slice (C : CallT) (a : E) (lo : Option E) (hi : Option E) (ρ : HI.Env) (S : Store) : ev C (.slice a lo hi) ρ S = ((ev C a ρ S).bind fun x S1 => (evO C lo ρ S1).bind fun l S2 => (match bnd l with
      | some l => (evO C hi ρ S2).bind fun h S3 => (match bnd h with
        | some h => ofO (sliceV S3 x l h) S3
        | none => .stuck)
      | none => .stuck)) := by first | (simp only [ev]; done) | (simp only [ev]; rfl)
@[simp] theorem ev_call (C : CallT) (f : Str) (es : List E) (ρ : HI.Env) (S : Store) : ev C (.call f es) ρ S = ((evs C es ρ S).bind fun vs S1 => C f vs S1) := by first | (simp only [ev]; done) | (simp only [ev]; rfl)
@[simp] theorem ev_meth (C : CallT) (a : E) (c : Str) (m : Str) (es : List E) (ρ : HI.Env) (S : Store) : ev C (.meth a c m es) ρ S = ((ev C a ρ S).bind fun x S1 => if isOf S1 c m x = true then (evs C es ρ S1).bind fun vs S2 => C (dot c m) (x :: vs) S2 else .stuck) := by first | (simp only [ev]; done) | (simp only [ev]; rfl)
@[simp] theorem ev_make (C : CallT) (c : Str) (es : List E) (ρ : HI.Env) (S : Store) : ev C (.make c es) ρ S = ((evs C es ρ S).bind fun vs S1 =>
      (C (dot c (Str.ofString "__init__")) (.loc S1.length :: vs) (S1 ++ [.inst c []])).bind fun v S2 => (match v with
        | .non => .ok (.loc S1.length) S2
        | _ => .stuck)) := by first | (simp only [ev]; done) | (simp only [ev]; rfl)
@[simp] theorem ev_fld (C : CallT) (a : E) (f : Str) (ρ : HI.Env) (S : Store) : ev C (.fld a f) ρ S = ((ev C a ρ S).bind fun x S1 => (match x with
      | .loc n => (match S1[n]? with
        | some (.inst _ fs) => ofO (fldGet fs f) S1
        | _ => .stuck)
      | _ => .stuck)) := by first | (simp only [ev]; done) | (simp only [ev]; rfl)
@[simp] theorem ev_isI (C : CallT) (a : E) (t : Str) (ρ : HI.Env) (S : Store) : ev C (.isI a t) ρ S = ((ev C a ρ S).bind fun x S1 => (match HI.isInst S1 t x with
      | some b => .ok (.bool b) S1
      | none => .stuck)) := by first | (simp only [ev]; done) | (simp only [ev]; rfl)
@[simp] theorem ev_dlook (C : CallT) (ks : List (Option Str)) (vs : List E) (k : E) (d : Option E) (ρ : HI.Env) (S : Store) : ev C (.dlook ks vs k d) ρ S = ((evs C vs ρ S).bind fun us S1 => (ev C k ρ S1).bind fun x S2 => (evO C d ρ S2).bind fun y S3 =>
      if okLook ks x then (match lookD ks us x with
        | some v => .ok v S3
        | none => ofO y S3) else .stuck) := by first | (simp only [ev]; done) | (simp only [ev]; rfl)
@[simp] theorem ev_inG (C : CallT) (neg : Bool) (a : E) (z2 : Str) (vs : List Str) (ρ : HI.Env) (S : Store) : ev C (.inG neg a z2 vs) ρ S = ((ev C a ρ S).bind fun x S1 => (match x with
      | .str s => if fine 60 (.str s) = true then .ok (.bool (neg != vs.contains s)) S1 else .stuck
      | _ => .stuck)) := by first | (simp only [ev]; done) | (simp only [ev]; rfl)
@[simp] theorem ev_box (C : CallT) (es : List E) (ρ : HI.Env) (S : Store) : ev C (.box es) ρ S = ((evs C es ρ S).bind fun vs S1 => .ok (.loc S1.length) (S1 ++ [.list vs])) := by first | (simp only [ev]; done) | (simp only [ev]; rfl)
@[simp] theorem ev_boxa (C : CallT) (a : E) (b : E) (ρ : HI.Env) (S : Store) : ev C (.boxa a b) ρ S = ((ev C a ρ S).bind fun x S1 => (ev C b ρ S1).bind fun y S2 => (match lstOf S2 x, lstOf S2 y with
      | some xs, some ys => if xs.length + ys.length ≤ LIM then .ok (.loc S2.length) (S2 ++ [.list (xs ++ ys)]) else .stuck
      | _, _ => .stuck)) := by first | (simp only [ev]; done) | (simp only [ev]; rfl)
@[simp] theorem ev_newK (C : CallT) (ρ : HI.Env) (S : Store) : ev C (.newK) ρ S = (.ok (.loc S.length) (S ++ [.dictK []])) := by first | (simp only [ev]; done) | (simp only [ev]; rfl)
@[simp] theorem ev_newT (C : CallT) (ρ : HI.Env) (S : Store) : ev C (.newT) ρ S = (.ok (.loc S.length) (S ++ [.dictT []])) := by first | (simp only [ev]; done) | (simp only [ev]; rfl)
@[simp] theorem ev_newD (C : CallT) (ks : List Str) (vs : List E) (ρ : HI.Env) (S : Store) : ev C (.newD ks vs) ρ S = ((evs C vs ρ S).bind fun us S1 => .ok (.loc S1.length) (S1 ++ [.dictK (mergeK [] ((ks.map Sum.inr).zip us))])) := by first | (simp only [ev]; done) | (simp only [ev]; rfl)
@[simp] theorem ev_dictOf (C : CallT) (a : E) (ρ : HI.Env) (S : Store) : ev C (.dictOf a) ρ S = ((ev C a ρ S).bind fun x S1 => (match lstOf S1 x with
      | some vs => (match pairsK vs with
        | some kvs => .ok (.loc S1.length) (S1 ++ [.dictK (mergeK [] kvs)])
        | none => .stuck)
      | none => .stuck)) := by first | (simp only [ev]; done) | (simp only [ev]; rfl)
@[simp] theorem ev_pop (C : CallT) (d : E) (k : E) (ρ : HI.Env) (S : Store) : ev C (.pop d k) ρ S = ((ev C d ρ S).bind fun x S1 => if isDK S1 x = true then (ev C k ρ S1).bind fun y S2 => (match x with
      | .loc n => (match S2[n]? with
        | some (.dictT kvs) => (match y with
          | .tup ks => (match keysOf ks with
            | some k => (match getK kvs k with
              | some v => .ok v (S2.set n (.dictT (dropK kvs k)))
              | none => .stuck)
            | none => .stuck)
          | _ => .stuck)
        | _ => .stuck)
      | _ => .stuck) else .stuck) := by first | (simp only [ev]; done) | (simp only [ev]; rfl)
@[simp] theorem ev_get2 (C : CallT) (d : E) (k : E) (x : E) (ρ : HI.Env) (S : Store) : ev C (.get2 d k x) ρ S = ((ev C d ρ S).bind fun x0 S1 => if isDK S1 x0 = true then (ev C k ρ S1).bind fun y S2 => (ev C x ρ S2).bind fun z S3 => (match x0 with
      | .loc n => (match S3[n]? with
        | some (.dictK kvs) => (match keyOf y with
          | some k => .ok ((getK kvs k).getD z) S3
          | none => .stuck)
        | _ => .stuck)
      | _ => .stuck) else .stuck) := by first | (simp only [ev]; done) | (simp only [ev]; rfl)
@[simp] theorem ev_join (C : CallT) (s : E) (a : E) (ρ : HI.Env) (S : Store) : ev C (.join s a) ρ S = ((ev C s ρ S).bind fun x S1 => (ev C a ρ S1).bind fun y S2 => (match x, y with
      | .str sep, .lst vs => (match strsOf vs with
        | some ss => if (joinS sep ss).length ≤ LIM then .ok (.str (joinS sep ss)) S2 else .stuck
        | none => .stuck)
      | _, _ => .stuck)) := by first | (simp only [ev]; done) | (simp only [ev]; rfl)
@[simp] theorem ev_split (C : CallT) (z0 : E) (z1 : E) (ρ : HI.Env) (S : Store) : ev C (.split z0 z1) ρ S = (.stuck) := by first | (simp only [ev]; done) | (simp only [ev]; rfl)
@[simp] theorem ev_itemsS (C : CallT) (a : E) (ρ : HI.Env) (S : Store) : ev C (.itemsS a) ρ S = ((ev C a ρ S).bind fun x S1 => (match x with
      | .loc n => (match S1[n]? with
        | some (.dictK kvs) => (match strInts kvs with
          | some ps => if ps.length < 64 then .ok (.lst ((sortBy (fun a b => ltS a.1 b.1) ps).map fun p => .tup [.str p.1, .int p.2])) S1 else .stuck
          | none => .stuck)
        | _ => .stuck)
      | _ => .stuck)) := by first | (simp only [ev]; done) | (simp only [ev]; rfl)
end HM
set_option Elab.async false
set_option linter.all false
set_option maxRecDepth 100000
set_option maxHeartbeats 0
namespace HM
open PySem HI HP
theorem ofString_inj {a b : String} : Str.ofString a = Str.ofString b ↔ a = b := by
  constructor
  · intro h
    rw [Str.ofString_eq_toList, Str.ofString_eq_toList] at h
    have h1 : (a.toList.map Char.toNat) = (b.toList.map Char.toNat) := by
      have := congrArg (fun s => s.cps.toList) h
      simpa using this
    have h2 : a.toList = b.toList := by
      have inj : ∀ (l r : List Char), l.map Char.toNat = r.map Char.toNat → l = r := by
        intro l
        induction l with
        | nil => intro r h; cases r with | nil => rfl | cons _ _ => simp at h
        | cons c l ih =>
          intro r h
          cases r with
          | nil => simp at h
          | cons d r =>
            simp only [List.map_cons, List.cons.injEq] at h
            rw [ih r h.2, Char.toNat_inj.mp h.1]
      exact inj _ _ h1
    exact String.toList_inj.mp h2
  · rintro rfl; rfl
@[simp] theorem ofString_beq (a b : String) : (Str.ofString a == Str.ofString b) = decide (a = b) := by
  by_cases h : a = b
  · subst h; simp
  · have : Str.ofString a ≠ Str.ofString b := fun z => h (ofString_inj.mp z)
    simp [h, this]
@[simp] theorem ofString_eq (a b : String) : (Str.ofString a = Str.ofString b) = (a = b) := propext ofString_inj
@[simp] theorem op2_addI (S : Store) (a b : Int) : op2 S .add (.int a) (.int b) = some (.int (a + b)) := rfl
@[simp] theorem op2_addS (S : Store) (a b : Str) : op2 S .add (.str a) (.str b) = if a.length + b.length ≤ LIM then some (.str (a ++ b)) else none := rfl
@[simp] theorem op2_addT (S : Store) (a b : List Val) : op2 S .add (.tup a) (.tup b) = if a.length + b.length ≤ LIM then some (.tup (a ++ b)) else none := rfl
@[simp] theorem op2_addL (S : Store) (a b : List Val) : op2 S .add (.lst a) (.lst b) = if a.length + b.length ≤ LIM then some (.lst (a ++ b)) else none := rfl
@[simp] theorem op2_subI (S : Store) (a b : Int) : op2 S .sub (.int a) (.int b) = some (.int (a - b)) := rfl
@[simp] theorem op2_mulI (S : Store) (a b : Int) : op2 S .mul (.int a) (.int b) = if small64 a || small64 b then some (.int (a * b)) else none := rfl
@[simp] theorem op2_mulT (S : Store) (a : List Val) (k : Int) : op2 S .mul (.tup a) (.int k) = if decide (1 ≤ k) && decide (k ≤ 1000) && decide (a.length ≤ 1000) && !a.isEmpty then some (.tup (repL k a)) else none := rfl
@[simp] theorem op2_mulL (S : Store) (a : List Val) (k : Int) : op2 S .mul (.lst a) (.int k) = if decide (-1000 ≤ k) && decide (k ≤ 1000) && decide (a.length ≤ 1000) then some (.lst (repL k a)) else none := rfl
@[simp] theorem op2_fdiv (S : Store) (a b : Int) : op2 S .fdiv (.int a) (.int b) = if decide (0 < b) && decide (b < 1073741824) then some (.int (a / b)) else none := rfl
@[simp] theorem op2_mod (S : Store) (a b : Int) : op2 S .mod (.int a) (.int b) = if decide (0 < b) then some (.int (a % b)) else none := rfl
@[simp] theorem op2_pow (S : Store) (a b : Int) : op2 S .pow (.int a) (.int b) = if decide (0 ≤ b) && decide ((PySem.Builtin.Int.intBits a : Int) * b ≤ 2 ^ 27) then some (.int (a ^ b.toNat)) else none := rfl
@[simp] theorem op2_eq (S : Store) (a b : Val) : op2 S .eq a b = (eqS S a b).map .bool := rfl
@[simp] theorem op2_ne (S : Store) (a b : Val) : op2 S .ne a b = (eqS S a b).map fun c => .bool (!c) := rfl
@[simp] theorem op2_ltI (S : Store) (a b : Int) : op2 S .lt (.int a) (.int b) = some (.bool (decide (a < b))) := rfl
@[simp] theorem op2_leI (S : Store) (a b : Int) : op2 S .le (.int a) (.int b) = some (.bool (decide (a ≤ b))) := rfl
@[simp] theorem op2_gtI (S : Store) (a b : Int) : op2 S .gt (.int a) (.int b) = some (.bool (decide (b < a))) := rfl
@[simp] theorem op2_geI (S : Store) (a b : Int) : op2 S .ge (.int a) (.int b) = some (.bool (decide (b ≤ a))) := rfl
@[simp] theorem op2_ltS (S : Store) (a b : Str) : op2 S .lt (.str a) (.str b) = some (.bool (decide (a.cps.toList < b.cps.toList))) := rfl
@[simp] theorem op2_leS (S : Store) (a b : Str) : op2 S .le (.str a) (.str b) = some (.bool (!decide (b.cps.toList < a.cps.toList))) := rfl
@[simp] theorem op2_gtS (S : Store) (a b : Str) : op2 S .gt (.str a) (.str b) = some (.bool (decide (b.cps.toList < a.cps.toList))) := rfl
@[simp] theorem op2_geS (S : Store) (a b : Str) : op2 S .ge (.str a) (.str b) = some (.bool (!decide (a.cps.toList < b.cps.toList))) := rfl
@[simp] theorem op2_isin (S : Store) (a b : Val) : op2 S .isin a b = (isIn S a b).map .bool := rfl
@[simp] theorem op2_notin (S : Store) (a b : Val) : op2 S .notin a b = (isIn S a b).map fun c => .bool (!c) := rfl
@[simp] theorem op2_item (S : Store) (a b : Val) : op2 S .item a b = HI.getItem S a b := rfl
@[simp] theorem op2_min2 (S : Store) (a b : Int) : op2 S .min2 (.int a) (.int b) = some (.int (if b < a then b else a)) := rfl
@[simp] theorem op2_count (S : Store) (a b : Val) : op2 S .count a b = countV S a b := by cases a <;> rfl
@[simp] theorem op2_zipL (S : Store) (a b : Val) : op2 S .zipL a b = zipLV S a b := by cases a <;> rfl
@[simp] theorem op2_splitT (S : Store) (a b : Val) : op2 S .splitT a b = splitV a b := by cases a <;> rfl
@[simp] theorem op2_joinT (S : Store) (a b : Val) : op2 S .joinT a b = joinV S a b := by cases a <;> rfl
@[simp] theorem op2_eqD (S : Store) (a b : Val) : op2 S .eqD a b = (HI.eqD S a b).map .bool := by cases a <;> rfl
@[simp] theorem op2_neD (S : Store) (a b : Val) : op2 S .neD a b = (HI.eqD S a b).map fun c => .bool (!c) := by cases a <;> rfl
@[simp] theorem op1_rangeL (S : Store) (j : Int) : op1 S .rangeL (.int j) = if 0 ≤ j ∧ j ≤ 100000 then some (.lst ((List.range j.toNat).map fun (k : Nat) => .int k)) else none := rfl
@[simp] theorem op1_lenS (S : Store) (s : Str) : op1 S .len (.str s) = if s.length ≤ LIM then some (.int s.length) else none := rfl
@[simp] theorem op1_lenT (S : Store) (vs : List Val) : op1 S .len (.tup vs) = some (.int vs.length) := rfl
@[simp] theorem op1_lenL (S : Store) (vs : List Val) : op1 S .len (.lst vs) = some (.int vs.length) := rfl
@[simp] theorem op1_lenR (S : Store) (vs : List Int) : op1 S .len (.scr vs) = some (.int vs.length) := rfl
@[simp] theorem op1_lenB (S : Store) (n : Nat) : op1 S .len (.loc n) = (match S[n]? with | some (.list vs) => some (.int vs.length) | _ => none) := rfl
@[simp] theorem op1_tupT (S : Store) (vs : List Val) : op1 S .tuple (.tup vs) = some (.tup vs) := rfl
@[simp] theorem op1_tupL (S : Store) (vs : List Val) : op1 S .tuple (.lst vs) = some (.tup vs) := rfl
@[simp] theorem op1_tupB (S : Store) (n : Nat) : op1 S .tuple (.loc n) = (match S[n]? with | some (.list vs) => some (.tup vs) | _ => none) := rfl
@[simp] theorem op1_lstT (S : Store) (vs : List Val) : op1 S .list (.tup vs) = some (.lst vs) := rfl
@[simp] theorem op1_lstL (S : Store) (vs : List Val) : op1 S .list (.lst vs) = some (.lst vs) := rfl
@[simp] theorem op1_lstB (S : Store) (n : Nat) : op1 S .list (.loc n) = (match S[n]? with | some (.list vs) => some (.lst vs) | _ => none) := rfl
@[simp] theorem op1_sorted (S : Store) (v : Val) : op1 S .sorted v = sortedV S v := rfl
@[simp] theorem op1_sum (S : Store) (vs : List Val) : op1 S .sum (.lst vs) = (intsOf vs).map fun ns => .int ns.sum := rfl
@[simp] theorem op1_strI (S : Store) (i : Int) : op1 S .str (.int i) = if i.natAbs.log2 < 1920 then some (.str (toString i)) else none := rfl
@[simp] theorem op1_strS (S : Store) (s : Str) : op1 S .str (.str s) = some (.str s) := rfl
@[simp] theorem op1_intI (S : Store) (i : Int) : op1 S .int (.int i) = some (.int i) := rfl
@[simp] theorem op1_intB (S : Store) (b : Bool) : op1 S .int (.bool b) = some (.int (if b then 1 else 0)) := rfl
@[simp] theorem op1_intS (S : Store) (s : Str) : op1 S .int (.str s) = (match PySem.intText? s with | some n => if s.length ≤ 640 then some (.int n) else none | none => none) := rfl
@[simp] theorem op1_neg (S : Store) (i : Int) : op1 S .neg (.int i) = some (.int (-i)) := rfl
@[simp] theorem op1_isN_non (S : Store)  : op1 S .isNone .non = some (.bool true) := rfl
@[simp] theorem op1_noN_non (S : Store)  : op1 S .notNone .non = some (.bool false) := rfl
@[simp] theorem op1_isN_bool (S : Store) (b : Bool) : op1 S .isNone (.bool b) = some (.bool false) := rfl
@[simp] theorem op1_noN_bool (S : Store) (b : Bool) : op1 S .notNone (.bool b) = some (.bool true) := rfl
@[simp] theorem op1_isN_int (S : Store) (i : Int) : op1 S .isNone (.int i) = some (.bool false) := rfl
@[simp] theorem op1_noN_int (S : Store) (i : Int) : op1 S .notNone (.int i) = some (.bool true) := rfl
@[simp] theorem op1_isN_str (S : Store) (s : Str) : op1 S .isNone (.str s) = some (.bool false) := rfl
@[simp] theorem op1_noN_str (S : Store) (s : Str) : op1 S .notNone (.str s) = some (.bool true) := rfl
@[simp] theorem op1_isN_tup (S : Store) (vs : List Val) : op1 S .isNone (.tup vs) = some (.bool false) := rfl
@[simp] theorem op1_noN_tup (S : Store) (vs : List Val) : op1 S .notNone (.tup vs) = some (.bool true) := rfl
@[simp] theorem op1_isN_lst (S : Store) (vs : List Val) : op1 S .isNone (.lst vs) = some (.bool false) := rfl
@[simp] theorem op1_noN_lst (S : Store) (vs : List Val) : op1 S .notNone (.lst vs) = some (.bool true) := rfl
@[simp] theorem op1_isN_scr (S : Store) (ns : List Int) : op1 S .isNone (.scr ns) = some (.bool false) := rfl
@[simp] theorem op1_noN_scr (S : Store) (ns : List Int) : op1 S .notNone (.scr ns) = some (.bool true) := rfl
@[simp] theorem op1_isN_loc (S : Store) (n : Nat) : op1 S .isNone (.loc n) = some (.bool false) := rfl
@[simp] theorem op1_noN_loc (S : Store) (n : Nat) : op1 S .notNone (.loc n) = some (.bool true) := rfl
@[simp] theorem op1_isB (S : Store) (b c : Bool) : op1 S (.isB b) (.bool c) = some (.bool (decide (c = b))) := rfl
@[simp] theorem op1_noB (S : Store) (b c : Bool) : op1 S (.notB b) (.bool c) = some (.bool (!decide (c = b))) := rfl
@[simp] theorem tru_non (S : Store)  : HI.truthy S .non = some false := rfl
@[simp] theorem tru_bool (S : Store) (b : Bool) : HI.truthy S (.bool b) = some b := rfl
@[simp] theorem tru_int (S : Store) (i : Int) : HI.truthy S (.int i) = some (i != 0) := rfl
@[simp] theorem tru_str (S : Store) (s : Str) : HI.truthy S (.str s) = if s.length ≤ LIM then some (s.length != 0) else none := rfl
@[simp] theorem tru_tup (S : Store) (vs : List Val) : HI.truthy S (.tup vs) = some (!vs.isEmpty) := rfl
@[simp] theorem tru_lst (S : Store) (vs : List Val) : HI.truthy S (.lst vs) = some (!vs.isEmpty) := rfl
@[simp] theorem tru_loc (S : Store) (n : Nat) : HI.truthy S (.loc n) = (match S[n]? with | some (.list vs) => some (!vs.isEmpty) | _ => none) := rfl
@[simp] theorem isi_non (S : Store) (t : Str)  : HI.isInst S t .non = some (false) := rfl
@[simp] theorem isi_bool (S : Store) (t : Str) (b : Bool) : HI.isInst S t (.bool b) = some (isTy t ["int", "bool"]) := rfl
@[simp] theorem isi_int (S : Store) (t : Str) (i : Int) : HI.isInst S t (.int i) = some (isTy t ["int"]) := rfl
@[simp] theorem isi_str (S : Store) (t : Str) (s : Str) : HI.isInst S t (.str s) = some (isTy t ["str"]) := rfl
@[simp] theorem isi_tup (S : Store) (t : Str) (vs : List Val) : HI.isInst S t (.tup vs) = some (isTy t ["tuple"]) := rfl
@[simp] theorem isi_lst (S : Store) (t : Str) (vs : List Val) : HI.isInst S t (.lst vs) = some (isTy t ["list"]) := rfl
@[simp] theorem isi_loc (S : Store) (t : Str) (n : Nat) : HI.isInst S t (.loc n) = (match S[n]? with | some (.list _) => some (isTy t ["list"]) | some (.inst c _) => if c = t then some true else if isTy t ["int", "bool", "str", "tuple", "list"] then some false else none | _ => none) := rfl
@[simp] theorem get_tup (S : Store) (vs : List Val) (i : Val) : HI.getItem S (.tup vs) i = atV vs i := rfl
@[simp] theorem get_lst (S : Store) (vs : List Val) (i : Val) : HI.getItem S (.lst vs) i = atV vs i := rfl
@[simp] theorem get_scr (S : Store) (ns : List Int) (k : Int) : HI.getItem S (.scr ns) (.int k) = (atI ns k).map .int := rfl
@[simp] theorem get_str (S : Store) (s : Str) (k : Int) : HI.getItem S (.str s) (.int k) = if s.length ≤ LIM then (atI s.cps.toList k).map fun c => .str ⟨#[c]⟩ else none := rfl
@[simp] theorem get_loc (S : Store) (n : Nat) (i : Val) : HI.getItem S (.loc n) i = (match S[n]? with | some (.list vs) => atV vs i | some (.dictK kvs) => (match keyOf i with | some k => getK kvs k | none => none) | some (.dictT kvs) => (match i with | .tup ks => (match keysOf ks with | some k => getK kvs k | none => none) | _ => none) | _ => none) := rfl
@[simp] theorem atV_int (vs : List Val) (k : Int) : atV vs (.int k) = L2.atI vs k := rfl
@[simp] theorem in_str (S : Store) (t : Str) (s : Str) : isIn S (.str t) (.str s) = (match t.cps.toList with | [c] => some (decide (c ∈ s.cps.toList)) | _ => none) := rfl
@[simp] theorem in_tup (S : Store) (x : Val) (vs : List Val) : isIn S x (.tup vs) = if fine 60 x && fines 59 vs then some (memV vs x) else none := rfl
@[simp] theorem in_lst (S : Store) (x : Val) (vs : List Val) : isIn S x (.lst vs) = if fine 60 x && fines 59 vs then some (memV vs x) else none := rfl
@[simp] theorem in_loc (S : Store) (x : Val) (n : Nat) : isIn S x (.loc n) = (match S[n]? with | some (.list vs) => if fine 60 x && fines 59 vs then some (memV vs x) else none | some (.dictK kvs) => (match keyOf x with | some k => some (getK kvs k).isSome | none => none) | some (.dictT kvs) => (match x with | .tup ks => (match keysOf ks with | some k => some (getK kvs k).isSome | none => none) | _ => none) | _ => none) := rfl
@[simp] theorem evT_var (C : CallT) (i : Nat) (ρ : HI.Env) (S : Store) : evT C (.var i) ρ S = (ev C (.var i) ρ S).bind fun x S1 => ofO (HI.truthy S1 x) S1 := by simp only [evT]
@[simp] theorem evT_lit (C : CallT) (v : Val) (ρ : HI.Env) (S : Store) : evT C (.lit v) ρ S = (ev C (.lit v) ρ S).bind fun x S1 => ofO (HI.truthy S1 x) S1 := by simp only [evT]
@[simp] theorem evT_un (C : CallT) (o : U1) (a : E) (ρ : HI.Env) (S : Store) : evT C (.un o a) ρ S = (ev C (.un o a) ρ S).bind fun x S1 => ofO (HI.truthy S1 x) S1 := by simp only [evT]
@[simp] theorem evT_bin (C : CallT) (o : B2) (a b : E) (ρ : HI.Env) (S : Store) : evT C (.bin o a b) ρ S = (ev C (.bin o a b) ρ S).bind fun x S1 => ofO (HI.truthy S1 x) S1 := by simp only [evT]
@[simp] theorem evT_chain (C : CallT) (o p : B2) (a b c : E) (ρ : HI.Env) (S : Store) : evT C (.chain o p a b c) ρ S = (ev C (.chain o p a b c) ρ S).bind fun x S1 => ofO (HI.truthy S1 x) S1 := by simp only [evT]
@[simp] theorem evT_ite (C : CallT) (c a b : E) (ρ : HI.Env) (S : Store) : evT C (.ite c a b) ρ S = (ev C (.ite c a b) ρ S).bind fun x S1 => ofO (HI.truthy S1 x) S1 := by simp only [evT]
@[simp] theorem evT_comp (C : CallT) (tg : Tg) (it : HI.It) (c : Option E) (e : E) (ρ : HI.Env) (S : Store) : evT C (.comp tg it c e) ρ S = (ev C (.comp tg it c e) ρ S).bind fun x S1 => ofO (HI.truthy S1 x) S1 := by simp only [evT]
@[simp] theorem evT_call (C : CallT) (f : Str) (es : List E) (ρ : HI.Env) (S : Store) : evT C (.call f es) ρ S = (ev C (.call f es) ρ S).bind fun x S1 => ofO (HI.truthy S1 x) S1 := by simp only [evT]
@[simp] theorem evT_meth (C : CallT) (a : E) (c m : Str) (es : List E) (ρ : HI.Env) (S : Store) : evT C (.meth a c m es) ρ S = (ev C (.meth a c m es) ρ S).bind fun x S1 => ofO (HI.truthy S1 x) S1 := by simp only [evT]
@[simp] theorem evT_fld (C : CallT) (a : E) (f : Str) (ρ : HI.Env) (S : Store) : evT C (.fld a f) ρ S = (ev C (.fld a f) ρ S).bind fun x S1 => ofO (HI.truthy S1 x) S1 := by simp only [evT]
@[simp] theorem evT_isI (C : CallT) (a : E) (t : Str) (ρ : HI.Env) (S : Store) : evT C (.isI a t) ρ S = (ev C (.isI a t) ρ S).bind fun x S1 => ofO (HI.truthy S1 x) S1 := by simp only [evT]
@[simp] theorem evT_inG (C : CallT) (g : Bool) (a : E) (t : Str) (vs : List Str) (ρ : HI.Env) (S : Store) : evT C (.inG g a t vs) ρ S = (ev C (.inG g a t vs) ρ S).bind fun x S1 => ofO (HI.truthy S1 x) S1 := by simp only [evT]
@[simp] theorem evT_and (C : CallT) (a b : E) (ρ : HI.Env) (S : Store) : evT C (.and a b) ρ S = (evT C a ρ S).bind fun x S1 => if x = true then evT C b ρ S1 else .ok false S1 := by simp only [evT]
@[simp] theorem evT_or (C : CallT) (a b : E) (ρ : HI.Env) (S : Store) : evT C (.or a b) ρ S = (evT C a ρ S).bind fun x S1 => if x = true then .ok true S1 else evT C b ρ S1 := by simp only [evT]
@[simp] theorem evT_not (C : CallT) (a : E) (ρ : HI.Env) (S : Store) : evT C (.not a) ρ S = (evT C a ρ S).bind fun x S1 => .ok (!x) S1 := by simp only [evT]
class Kr (α β : Type) where
  f : α → Store → Res β
class Kt (α : Type) where
  ρ : HI.Env
  f : α → Store → SR
class Kn where
  f : HI.Env → Store → SR
def bI {α β : Type} (r : Res α) [k : Kr α β] : Res β := r.bind k.f
def tI {α : Type} (r : Res α) [k : Kt α] : SR := r.to k.ρ k.f
def nI (r : SR) [k : Kn] : SR := r.andThen k.f
def oI (r : SR) [k : Kn] : SR := r.loop k.f
@[simp ↓] theorem hide_bind {α β : Type} (r : Res α) (f : α → Store → Res β) : r.bind f = @bI α β r ⟨f⟩ := rfl
@[simp ↓] theorem hide_to {α : Type} (r : Res α) (ρ : HI.Env) (f : α → Store → SR) : r.to ρ f = @tI α r ⟨ρ, f⟩ := rfl
@[simp ↓] theorem hide_then (r : SR) (f : HI.Env → Store → SR) : r.andThen f = @nI r ⟨f⟩ := rfl
@[simp ↓] theorem hide_loop (r : SR) (f : HI.Env → Store → SR) : r.loop f = @oI r ⟨f⟩ := rfl
@[simp] theorem bI_ok {α β : Type} (a : α) (S : Store) (f : α → Store → Res β) : @bI α β (.ok a S) ⟨f⟩ = f a S := rfl
@[simp] theorem bI_exc {α β : Type} (c : Str) (S : Store) (f : α → Store → Res β) : @bI α β (.exc c S) ⟨f⟩ = .exc c S := rfl
@[simp] theorem bI_st {α β : Type} (f : α → Store → Res β) : @bI α β .stuck ⟨f⟩ = .stuck := rfl
@[simp] theorem tI_ok {α : Type} (a : α) (S : Store) (ρ : HI.Env) (f : α → Store → SR) : @tI α (.ok a S) ⟨ρ, f⟩ = f a S := rfl
@[simp] theorem tI_exc {α : Type} (c : Str) (S : Store) (ρ : HI.Env) (f : α → Store → SR) : @tI α (.exc c S) ⟨ρ, f⟩ = .exc c ρ S := rfl
@[simp] theorem tI_st {α : Type} (ρ : HI.Env) (f : α → Store → SR) : @tI α .stuck ⟨ρ, f⟩ = .stuck := rfl
@[simp] theorem nI_next (ρ : HI.Env) (S : Store) (f : HI.Env → Store → SR) : @nI (.next ρ S) ⟨f⟩ = f ρ S := rfl
@[simp] theorem nI_ret (v : Val) (S : Store) (f : HI.Env → Store → SR) : @nI (.ret v S) ⟨f⟩ = .ret v S := rfl
@[simp] theorem nI_brk (ρ : HI.Env) (S : Store) (f : HI.Env → Store → SR) : @nI (.brk ρ S) ⟨f⟩ = .brk ρ S := rfl
@[simp] theorem nI_exc (c : Str) (ρ : HI.Env) (S : Store) (f : HI.Env → Store → SR) : @nI (.exc c ρ S) ⟨f⟩ = .exc c ρ S := rfl
@[simp] theorem oI_next (ρ : HI.Env) (S : Store) (f : HI.Env → Store → SR) : @oI (.next ρ S) ⟨f⟩ = f ρ S := rfl
@[simp] theorem oI_ret (v : Val) (S : Store) (f : HI.Env → Store → SR) : @oI (.ret v S) ⟨f⟩ = .ret v S := rfl
@[simp] theorem oI_brk (ρ : HI.Env) (S : Store) (f : HI.Env → Store → SR) : @oI (.brk ρ S) ⟨f⟩ = .next ρ S := rfl
@[simp] theorem oI_exc (c : Str) (ρ : HI.Env) (S : Store) (f : HI.Env → Store → SR) : @oI (.exc c ρ S) ⟨f⟩ = .exc c ρ S := rfl
@[simp] theorem eqv_int (i j : Int) : eqv (.int i) (.int j) = decide (i = j) := by
  by_cases h : i = j <;> simp [eqv, h]
@[simp] theorem eqv_str (i j : Str) : eqv (.str i) (.str j) = decide (i = j) := by
  by_cases h : i = j <;> simp [eqv, h]
@[simp] theorem eqv_bool (i j : Bool) : eqv (.bool i) (.bool j) = decide (i = j) := by
  by_cases h : i = j <;> simp [eqv, h]
@[simp] theorem eqv_tup (i j : List Val) : eqv (.tup i) (.tup j) = eqvs i j := by simp [eqv]
@[simp] theorem eqv_lst (i j : List Val) : eqv (.lst i) (.lst j) = eqvs i j := by simp [eqv]
@[simp] theorem eqv_nn : eqv .non .non = true := rfl
@[simp] theorem eqv_ns (i : Str) : eqv .non (.str i) = false := rfl
@[simp] theorem eqv_nt (i : List Val) : eqv .non (.tup i) = false := rfl
@[simp] theorem eqv_tn (i : List Val) : eqv (.tup i) .non = false := rfl
@[simp] theorem eqv_st (i : Str) (j : List Val) : eqv (.str i) (.tup j) = false := rfl
@[simp] theorem eqv_ts (i : Str) (j : List Val) : eqv (.tup j) (.str i) = false := rfl
@[simp] theorem eqv_si (i : Str) (j : Int) : eqv (.str i) (.int j) = false := rfl
@[simp] theorem eqv_is (i : Str) (j : Int) : eqv (.int j) (.str i) = false := rfl
@[simp] theorem eqvs_nil : eqvs [] [] = true := rfl
@[simp] theorem eqvs_cons (a b : Val) (as bs : List Val) : eqvs (a :: as) (b :: bs) = (eqv a b && eqvs as bs) := by simp [eqvs]
@[simp] theorem eqvs_nc (b : Val) (bs : List Val) : eqvs [] (b :: bs) = false := rfl
@[simp] theorem eqvs_cn (b : Val) (bs : List Val) : eqvs (b :: bs) [] = false := rfl
@[simp ↓] theorem p_bind_ok {α β : Type} (a : α) (S : Store) (f : α → Store → Res β) : (Res.ok a S).bind f = f a S := rfl
@[simp ↓] theorem p_bind_exc {α β : Type} (c : Str) (S : Store) (f : α → Store → Res β) : (Res.exc c S : Res α).bind f = .exc c S := rfl
@[simp ↓] theorem p_to_ok {α : Type} (a : α) (S : Store) (ρ : HI.Env) (f : α → Store → SR) : (Res.ok a S).to ρ f = f a S := rfl
@[simp ↓] theorem p_to_exc {α : Type} (c : Str) (S : Store) (ρ : HI.Env) (f : α → Store → SR) : (Res.exc c S : Res α).to ρ f = .exc c ρ S := rfl
@[simp ↓] theorem p_then_next (ρ : HI.Env) (S : Store) (f : HI.Env → Store → SR) : (SR.next ρ S).andThen f = f ρ S := rfl
@[simp ↓] theorem p_then_ret (v : Val) (S : Store) (f : HI.Env → Store → SR) : (SR.ret v S).andThen f = .ret v S := rfl
@[simp ↓] theorem p_then_brk (ρ : HI.Env) (S : Store) (f : HI.Env → Store → SR) : (SR.brk ρ S).andThen f = .brk ρ S := rfl
@[simp ↓] theorem p_then_exc (c : Str) (ρ : HI.Env) (S : Store) (f : HI.Env → Store → SR) : (SR.exc c ρ S).andThen f = .exc c ρ S := rfl
@[simp ↓] theorem p_loop_next (ρ : HI.Env) (S : Store) (f : HI.Env → Store → SR) : (SR.next ρ S).loop f = f ρ S := rfl
@[simp ↓] theorem p_loop_ret (v : Val) (S : Store) (f : HI.Env → Store → SR) : (SR.ret v S).loop f = .ret v S := rfl
@[simp ↓] theorem p_loop_brk (ρ : HI.Env) (S : Store) (f : HI.Env → Store → SR) : (SR.brk ρ S).loop f = .next ρ S := rfl
@[simp] theorem asgT_one (i : Nat) (v : Val) (ρ : HI.Env) : asgT (.one i) v ρ = some (ρ.set i (some v)) := by rw [asgT]
@[simp] theorem asgT_tup (ts : List Tg) (vs : List Val) (ρ : HI.Env) : asgT (.tup ts) (.tup vs) ρ = asgTs ts vs ρ := by rw [asgT]
@[simp] theorem asgTs_nil (ρ : HI.Env) : asgTs [] [] ρ = some ρ := by rw [asgTs]
@[simp] theorem asgTs_cons (t : Tg) (ts : List Tg) (v : Val) (vs : List Val) (ρ : HI.Env) : asgTs (t :: ts) (v :: vs) ρ = (asgT t v ρ).bind fun ρ' => asgTs ts vs ρ' := by
  rw [asgTs]; cases asgT t v ρ <;> rfl
@[simp] theorem evIt_seq (C : CallT) (a : E) (ρ : HI.Env) (S : Store) : evIt C (.seq a) ρ S = (ev C a ρ S).bind fun x S1 => (match itemsOf S1 x with | some vs => .ok (vs, srcOf S1 x) S1 | none => .stuck) := by rw [evIt] <;> rfl
@[simp] theorem evIt_enum (C : CallT) (a : E) (ρ : HI.Env) (S : Store) : evIt C (.enum a) ρ S = (ev C a ρ S).bind fun x S1 => (match seqOf S1 x with | some vs => .ok (enumV vs 0, srcOf S1 x) S1 | none => .stuck) := by rw [evIt] <;> rfl
@[simp] theorem evIt_zip (C : CallT) (a b : E) (ρ : HI.Env) (S : Store) : evIt C (.zip a b) ρ S = (ev C a ρ S).bind fun x S1 => (ev C b ρ S1).bind fun y S2 => (match seqOf S2 x, seqOf S2 y with | some vs, some us => .ok (zipV vs us, srcOf S2 x ++ srcOf S2 y) S2 | _, _ => .stuck) := by rw [evIt] <;> rfl
@[simp] theorem evIt_keys (C : CallT) (a : E) (ρ : HI.Env) (S : Store) : evIt C (.keys a) ρ S = (ev C a ρ S).bind fun x S1 => (match keysOfD S1 x with | some vs => .ok (vs, srcOf S1 x) S1 | none => .stuck) := by rw [evIt] <;> rfl
@[simp] theorem evIt_values (C : CallT) (a : E) (ρ : HI.Env) (S : Store) : evIt C (.values a) ρ S = (ev C a ρ S).bind fun x S1 => (match valuesOf S1 x with | some vs => .ok (vs, srcOf S1 x) S1 | none => .stuck) := by rw [evIt] <;> rfl
def rg1 (x : Val) (S : Store) : Res (List Val × Src) := match x with | .int j => if okR j then .ok (HI.rangeV 0 j.toNat, []) S else .stuck | _ => .stuck
def rg2 (x y : Val) (S : Store) : Res (List Val × Src) := match x, y with | .int i, .int j => if okR i && okR j then .ok (HI.rangeV i (j - i).toNat, []) S else .stuck | _, _ => .stuck
theorem evIt_range1 (C : CallT) (a : E) (ρ : HI.Env) (S : Store) : evIt C (.range1 a) ρ S = (ev C a ρ S).bind fun x S1 => rg1 x S1 := by rw [evIt] <;> rfl
theorem evIt_range2 (C : CallT) (a b : E) (ρ : HI.Env) (S : Store) : evIt C (.range2 a b) ρ S = (ev C a ρ S).bind fun x S1 => (ev C b ρ S1).bind fun y S2 => rg2 x y S2 := by rw [evIt] <;> rfl
theorem okR_nat {k : Nat} (h : k ≤ 100000) : okR (k : Int) = true := by
  simp only [okR, Bool.and_eq_true, decide_eq_true_eq]; omega
theorem rg1_nat {k : Nat} (h : k ≤ 100000) (S : Store) : rg1 (.int (k : Int)) S = .ok ((List.range k).map fun (j : Nat) => Val.int j, []) S := by
  unfold rg1
  simp only [okR_nat h, if_true]
  congr 2
  simp [HI.rangeV]
theorem rg2_nat {i j : Nat} (hi : i ≤ 100000) (hj : j ≤ 100000) (S : Store) : rg2 (.int (i : Int)) (.int (j : Int)) S = .ok ((List.range' i (j - i)).map fun (k : Nat) => Val.int k, []) S := by
  unfold rg2
  simp only [okR_nat hi, okR_nat hj, Bool.and_self, if_true]
  rw [show ((j : Int) - (i : Int)).toNat = j - i from by omega, HI.rangeV, List.range'_eq_map_range, List.map_map]
  congr 2
theorem evIt_r2 {C : CallT} {a b : E} {ρ : HI.Env} {S : Store} {i j : Nat} (ha : ev C a ρ S = .ok (.int (i : Int)) S) (hb : ev C b ρ S = .ok (.int (j : Int)) S) (hi : i ≤ 100000) (hj : j ≤ 100000) : evIt C (.range2 a b) ρ S = .ok ((List.range' i (j - i)).map fun (k : Nat) => Val.int k, []) S := by
  rw [evIt_range2, ha, Res.bind_ok, hb, Res.bind_ok, rg2_nat hi hj]
theorem evIt_r1 {C : CallT} {a : E} {ρ : HI.Env} {S : Store} {i : Nat} (ha : ev C a ρ S = .ok (.int (i : Int)) S) (hi : i ≤ 100000) : evIt C (.range1 a) ρ S = .ok ((List.range i).map fun (k : Nat) => Val.int k, []) S := by
  rw [evIt_range1, ha, Res.bind_ok, rg1_nat hi]
@[simp] theorem atI_nil {α : Type} (i : Int) : L2.atI ([] : List α) i = none := by
  unfold L2.atI L2.ixN
  by_cases h : 0 ≤ i
  · rw [if_pos h, if_neg (by simp; omega)]; rfl
  · rw [if_neg h, if_neg (by simp; omega)]; rfl
theorem atI_nat {α : Type} (xs : List α) (k : Nat) : L2.atI xs (k : Int) = xs[k]? := by
  unfold L2.atI L2.ixN
  by_cases h : k < xs.length
  · rw [if_pos (by omega), if_pos (by omega)]; simp
  · rw [if_pos (by omega), if_neg (by omega)]; simp; omega
@[simp] theorem atI_0 {α : Type} (x : α) (xs : List α) : L2.atI (x :: xs) 0 = some x := atI_nat (x :: xs) 0
@[simp] theorem atI_1 {α : Type} (x : α) (xs : List α) : L2.atI (x :: xs) 1 = xs[0]? := atI_nat (x :: xs) 1
@[simp] theorem atI_2 {α : Type} (x : α) (xs : List α) : L2.atI (x :: xs) 2 = xs[1]? := atI_nat (x :: xs) 2
theorem atI_last {α : Type} (xs : List α) : L2.atI xs (-1) = xs.getLast? := by
  unfold L2.atI L2.ixN
  rw [if_neg (by omega)]
  cases xs with
  | nil => rfl
  | cons x xs =>
    rw [if_pos (by simp; omega)]
    simp only [List.length_cons, Option.bind_some, List.getLast?_eq_getElem?]
    congr 1
    omega
theorem atI_pos {α : Type} (xs : List α) {i : Int} (h : 0 ≤ i) : L2.atI xs i = xs[i.toNat]? := by
  obtain ⟨k, rfl⟩ := Int.eq_ofNat_of_zero_le h
  rw [atI_nat]; rfl
@[simp] theorem top_get (S : Store) (o : HI.Obj) : (S ++ [o])[S.length]? = some o := by simp
@[simp] theorem top_set (S : Store) (o o' : HI.Obj) : (S ++ [o]).set S.length o' = S ++ [o'] := by
  rw [List.set_append_right _ _ (Nat.le_refl _)]; simp
@[simp] theorem top_take (S r : Store) : (S ++ r).take S.length = S := by simp
theorem run_ret {L : Nat} {C : CallT} {fn : Fn} {args : List Val} {S S1 : Store} {v : Val} (ρ : HI.Env) (hl : args.length = fn.np) (hρ : args.map some ++ List.replicate (fn.ns - fn.np) none = ρ) (h : exs L C fn.body ρ S = .ret v S1) : runFn L C fn args S = HI.finish fn S v S1 := by
  unfold runFn; rw [if_pos hl, hρ, h]
theorem run_next {L : Nat} {C : CallT} {fn : Fn} {args : List Val} {S S1 : Store} {ρ' : HI.Env} (ρ : HI.Env) (hl : args.length = fn.np) (hρ : args.map some ++ List.replicate (fn.ns - fn.np) none = ρ) (h : exs L C fn.body ρ S = .next ρ' S1) : runFn L C fn args S = HI.finish fn S .non S1 := by
  unfold runFn; rw [if_pos hl, hρ, h]
theorem run_exc {L : Nat} {C : CallT} {fn : Fn} {args : List Val} {S S1 : Store} {ρ' : HI.Env} {c : Str} (ρ : HI.Env) (hl : args.length = fn.np) (hρ : args.map some ++ List.replicate (fn.ns - fn.np) none = ρ) (h : exs L C fn.body ρ S = .exc c ρ' S1) : runFn L C fn args S = finishX fn S c S1 := by
  unfold runFn; rw [if_pos hl, hρ, h]
theorem exs_cons (L : Nat) (C : CallT) (s : HI.S) (ss : List HI.S) (ρ : HI.Env) (S : Store) : exs L C (s :: ss) ρ S = (exS L C s ρ S).andThen fun ρ' S' => exs L C ss ρ' S' := by simp only [exs]
theorem compGo_pure0 {src : Src} {f : Val → Store → Res (Option Val)} {g : Val → Option Val} {S : Store} (hs : still src S) : ∀ {xs acc : List Val}, (∀ x ∈ xs, f x S = .ok (g x) S) → acc.length + xs.length ≤ LIM → compGo src f xs acc S = .ok (acc ++ xs.filterMap g) S
  | [], acc, _, _ => by simp [compGo, guardS_pos hs]
  | x :: xs, acc, h, hl => by
    simp only [compGo, guardS_pos hs, h x (List.mem_cons_self ..), Res.bind_ok]
    simp only [List.length_cons] at hl
    cases q : g x with
    | none =>
      simp only [List.filterMap_cons, q]
      exact compGo_pure0 hs (fun y hy => h y (List.mem_cons_of_mem _ hy)) (by omega)
    | some v =>
      simp only [List.filterMap_cons, q]
      rw [if_pos (by omega), compGo_pure0 hs (fun y hy => h y (List.mem_cons_of_mem _ hy)) (by simp; omega)]
      simp
theorem compGo_pure {src : Src} {f : Val → Store → Res (Option Val)} (g : Val → Option Val) {S : Store} {xs acc : List Val} (hs : still src S) (h : ∀ x ∈ xs, f x S = .ok (g x) S) (hl : acc.length + xs.length ≤ LIM) : compGo src f xs acc S = .ok (acc ++ xs.filterMap g) S := compGo_pure0 hs h hl
theorem compGo_nil {f : Val → Store → Res (Option Val)} (g : Val → Option Val) {S : Store} {xs acc : List Val} (h : ∀ x ∈ xs, f x S = .ok (g x) S) (hl : acc.length + xs.length ≤ LIM) : compGo [] f xs acc S = .ok (acc ++ xs.filterMap g) S := compGo_pure0 (src := []) (show still [] S from trivial) h hl
theorem ev_comp {C : CallT} {tg : Tg} {it : HI.It} {cond : Option E} {elt : E} {ρ : HI.Env} {S : Store} {α : Type} {val : α → Val} {as : List α} {src : Src} (p : α → Bool) (w : α → Val) (hit : evIt C it ρ S = .ok (as.map val, src) S) (hs : still src S) (hl : as.length ≤ LIM)
    (h : ∀ a ∈ as, ∃ ρ', asgT tg (val a) ρ = some ρ' ∧ evC C cond ρ' S = .ok (p a) S ∧ (p a = true → ev C elt ρ' S = .ok (w a) S)) : ev C (.comp tg it cond elt) ρ S = .ok (.lst ((as.filter p).map w)) S := by
  simp only [ev, hit, Res.bind_ok]
  have : ∀ (bs : List α) (acc : List Val), (∀ b ∈ bs, b ∈ as) → acc.length + bs.length ≤ LIM → ∀ f : Val → Store → Res (Option Val), (∀ a ∈ as, f (val a) S = .ok (if p a = true then some (w a) else none) S) → compGo src f (bs.map val) acc S = .ok (acc ++ (bs.filter p).map w) S := by
    intro bs
    induction bs with
    | nil => intro acc _ _ f _; simp [compGo, guardS_pos hs]
    | cons b bs ih =>
      intro acc hb hl f hf
      simp only [List.length_cons] at hl
      simp only [List.map_cons, compGo, guardS_pos hs, hf b (hb b (List.mem_cons_self ..)), Res.bind_ok]
      cases q : p b with
      | true =>
        simp only [if_true]
        rw [if_pos (by omega), ih _ (fun c hc => hb c (List.mem_cons_of_mem _ hc)) (by simp; omega) f hf]
        simp [q]
      | false =>
        simp only [Bool.false_eq_true, if_false]
        rw [ih _ (fun c hc => hb c (List.mem_cons_of_mem _ hc)) (by omega) f hf]
        simp [q]
  rw [this as [] (fun _ h => h) (by simpa using hl) _ ?_]
  · simp
  · intro a ha
    obtain ⟨ρ', e1, e2, e3⟩ := h a ha
    simp only [e1, e2, Res.bind_ok]
    cases q : p a with
    | true => simp [e3 q, noExc]
    | false => simp
theorem ev_compN {C : CallT} {tg : Tg} {it : HI.It} {elt : E} {ρ : HI.Env} {S : Store} {α : Type} {val : α → Val} {as : List α} {src : Src} (w : α → Val) (hit : evIt C it ρ S = .ok (as.map val, src) S) (hs : still src S) (hl : as.length ≤ LIM)
    (h : ∀ a ∈ as, ∃ ρ', asgT tg (val a) ρ = some ρ' ∧ ev C elt ρ' S = .ok (w a) S) : ev C (.comp tg it none elt) ρ S = .ok (.lst (as.map w)) S := by
  have := ev_comp (cond := none) (fun _ => true) w hit hs hl fun a ha => by
    obtain ⟨ρ', h1, h2⟩ := h a ha
    exact ⟨ρ', h1, by simp only [evC], fun _ => h2⟩
  rw [this, List.filter_eq_self.mpr (by simp)]
theorem fm_map {α β : Type} (f : α → β) : ∀ xs : List α, xs.filterMap (fun x => some (f x)) = xs.map f := by
  intro xs; simp [← List.filterMap_eq_map]
theorem forGo_fold {σ : Type} {tg : Tg} {f : HI.Env → Store → SR} (env : σ → Option Val → HI.Env) (st : σ → Store) (step : σ → Val → σ) (P : σ → Prop) : ∀ (xs : List Val) (s0 : σ) (o0 : Option Val), P s0 →
    (∀ s x o, x ∈ xs → P s → P (step s x) ∧ ∃ ρ', asgT tg x (env s o) = some ρ' ∧ f ρ' (st s) = .next (env (step s x) (some x)) (st (step s x))) →
    P (xs.foldl step s0) ∧ ∃ o, forGo [] tg f xs (env s0 o0) (st s0) = .next (env (xs.foldl step s0) o) (st (xs.foldl step s0))
  | [], s0, o0, hp, _ => ⟨hp, o0, by simp [forGo]⟩
  | x :: xs, s0, o0, hp, h => by
    obtain ⟨p1, ρ', e1, e2⟩ := h s0 x o0 (List.mem_cons_self ..) hp
    obtain ⟨p2, o, e3⟩ := forGo_fold env st step P xs (step s0 x) (some x) p1 fun s y o hy => h s y o (List.mem_cons_of_mem _ hy)
    exact ⟨p2, o, by simp only [forGo, guardS_nil, e1, e2, SR.loop_next, e3, List.foldl_cons]⟩
@[simp] theorem eqS_str (S : Store) (a b : Str) : eqS S (.str a) (.str b) = some (decide (a = b)) := by simp [eqS, sameScal]
@[simp] theorem eqS_int (S : Store) (a b : Int) : eqS S (.int a) (.int b) = some (decide (a = b)) := by simp [eqS, sameScal]
@[simp] theorem eqS_bool (S : Store) (a b : Bool) : eqS S (.bool a) (.bool b) = some (decide (a = b)) := by simp [eqS, sameScal]
@[simp] theorem eqS_nn (S : Store) : eqS S .non .non = some true := by simp [eqS, sameScal]
@[simp] theorem eqS_ni (S : Store) (b : Int) : eqS S .non (.int b) = some false := by simp [eqS, sameScal, eqv]
@[simp] theorem eqS_in (S : Store) (b : Int) : eqS S (.int b) .non = some false := by simp [eqS, sameScal, eqv]
@[simp] theorem eqS_ns (S : Store) (b : Str) : eqS S .non (.str b) = some false := by simp [eqS, sameScal, eqv]
@[simp] theorem eqS_sn (S : Store) (b : Str) : eqS S (.str b) .non = some false := by simp [eqS, sameScal, eqv]
@[simp] theorem eqS_tt (S : Store) (a b : List Val) : eqS S (.tup a) (.tup b) = if fine 60 (.tup a) && fine 60 (.tup b) then some (eqvs a b) else none := by simp [eqS, sameScal, unl]
@[simp] theorem eqS_ll (S : Store) (a b : List Val) : eqS S (.lst a) (.lst b) = if fine 60 (.lst a) && fine 60 (.lst b) then some (eqvs a b) else none := by simp [eqS, sameScal, unl]
@[simp] theorem eqS_tn (S : Store) (a : List Val) : eqS S (.tup a) .non = if fine 60 (.tup a) then some false else none := by
  have h : fine 60 .non = true := rfl
  simp only [eqS, sameScal, unl, h, Bool.and_true]
  cases fine 60 (.tup a) <;> rfl
@[simp] theorem eqS_ts (S : Store) (a : List Val) (b : Str) : eqS S (.tup a) (.str b) = if fine 60 (.tup a) && fine 60 (.str b) then some false else none := by simp [eqS, sameScal, unl]
@[simp] theorem eqS_st (S : Store) (a : List Val) (b : Str) : eqS S (.str b) (.tup a) = if fine 60 (.str b) && fine 60 (.tup a) then some false else none := by simp [eqS, sameScal, unl]
@[simp] theorem eqS_bl (S : Store) (n : Nat) (b : List Val) : eqS S (.loc n) (.lst b) = if fine 60 (unl S (.loc n)) && fine 60 (.lst b) then some (eqv (unl S (.loc n)) (.lst b)) else none := by simp [eqS, sameScal, unl]
mutual
theorem eqv_rfl : ∀ (n : Nat) (v : Val), fine n v = true → eqv v v = true
  | 0, v, h => by simp [fine] at h
  | n + 1, v, h => by
    cases v with
    | non => rfl
    | bool b => simp [eqv]
    | int i => simp [eqv]
    | str s => simp [eqv]
    | tup vs => simp only [fine] at h; simp only [eqv]; exact eqvs_rfl n vs h
    | lst vs => simp only [fine] at h; simp only [eqv]; exact eqvs_rfl n vs h
    | scr _ => simp [fine] at h
    | loc _ => simp [fine] at h
theorem eqvs_rfl : ∀ (n : Nat) (vs : List Val), fines n vs = true → eqvs vs vs = true
  | n, [], h => rfl
  | n, v :: vs, h => by
    simp only [fines, Bool.and_eq_true] at h
    simp only [eqvs, eqv_rfl n v h.1, eqvs_rfl n vs h.2]; rfl
end
end HM
set_option Elab.async false
set_option linter.all false
set_option maxRecDepth 100000
set_option maxHeartbeats 0
namespace HM
open PySem HI HP
variable {L : Nat} {T : Tab}
def okS (s : Str) : Bool := decide (s.length ≤ LIM) && s.cps.all (· < 0x110000)
def top : Val → Bool
  | .str s => okS s
  | .scr _ => false
  | .loc _ => false
  | _ => true
def isWithin (v : Val) (lo hi : Int) : Bool := match v with
  | .int i => decide (lo ≤ i) && decide (i ≤ hi)
  | _ => false
theorem r_is_within [H_is_within T] (n : Nat) (v : Val) (lo hi : Int) (S : Store) (hv : top v = true) : callF L T (n + 1) (Str.ofString "is_within") [v, .int lo, .int hi] S = .ok (.bool (isWithin v lo hi)) S := by
  rw [c_is_within]
  cases v with
  | int i =>
    by_cases h : lo ≤ i <;> simp [runFn, exs, exS, evs, evO, evC, isTy, HI.finish, finishX, fine, fines, unl, itemsOf, srcOf, bnd, sliceV, lstOf, seqOf, unbox, below, belows, keyOf, noExc, isLB, addL, small64, exH, catches, noExcS, anyErr, aug2, f_is_within, isWithin, h]
  | scr _ => simp [top] at hv
  | loc _ => simp [top] at hv
  | _ => simp [runFn, exs, exS, evs, evO, evC, isTy, HI.finish, finishX, fine, fines, unl, itemsOf, srcOf, bnd, sliceV, lstOf, seqOf, unbox, below, belows, keyOf, noExc, isLB, addL, small64, exH, catches, noExcS, anyErr, aug2, f_is_within, isWithin]
def SMALLS : List Nat := (Str.ofString "abcdefghijklmnopqrstuvwxyz").cps.toList
def wordB (s : Str) : Bool := decide (1 ≤ s.length) && decide (s.length ≤ 4) && s.cps.toList.all fun c => decide (c ∈ SMALLS)
def isWord : Val → Bool
  | .str s => wordB s
  | _ => false
theorem filter_empty {α : Type} (p : α → Bool) (l : List α) : (l.filter fun c => !p c).isEmpty = l.all p := by
  induction l with
  | nil => rfl
  | cons a l ih => cases h : p a <;> simp [h] <;> simpa using ih
theorem r_is_word [H_is_word T] (n : Nat) (v : Val) (S : Store) (hv : top v = true) : callF L T (n + 1) (Str.ofString "is_word") [v] S = .ok (.bool (isWord v)) S := by
  rw [c_is_word]
  cases v with
  | str s =>
    simp only [top, okS, Bool.and_eq_true, decide_eq_true_eq] at hv
    by_cases h1 : 1 ≤ s.length
    · by_cases h4 : s.length ≤ 4
      · have k1 : ((1 : Int) ≤ s.length) := by omega
        have k4 : ((s.length : Int) ≤ 4) := by omega
        have ec : ∀ a1, ev (callF L T n) (.comp (.one 1) (.seq (.var 0)) (some q_is_word_1) (.var 1)) [some (.str s), a1] S = .ok (.lst ((s.cps.toList.filter fun c => !decide (c ∈ SMALLS)).map fun c => Val.str ⟨#[c]⟩)) S := fun a1 => by
          refine ev_comp (val := fun c => Val.str ⟨#[c]⟩) (as := s.cps.toList) (src := []) _ _ (by simp [runFn, exs, exS, evs, evO, evC, isTy, HI.finish, finishX, fine, fines, unl, itemsOf, srcOf, bnd, sliceV, lstOf, seqOf, unbox, below, belows, keyOf, noExc, isLB, addL, small64, exH, catches, noExcS, anyErr, aug2, charsOf]) trivial (by simp; exact hv.1) fun c hc => ⟨_, rfl, ?_, fun _ => by simp [runFn, exs, exS, evs, evO, evC, isTy, HI.finish, finishX, fine, fines, unl, itemsOf, srcOf, bnd, sliceV, lstOf, seqOf, unbox, below, belows, keyOf, noExc, isLB, addL, small64, exH, catches, noExcS, anyErr, aug2]⟩
          simp [runFn, exs, exS, evs, evO, evC, isTy, HI.finish, finishX, fine, fines, unl, itemsOf, srcOf, bnd, sliceV, lstOf, seqOf, unbox, below, belows, keyOf, noExc, isLB, addL, small64, exH, catches, noExcS, anyErr, aug2, q_is_word_1, SMALLS]
        simp [k1, k4, ec, runFn, exs, exS, evs, evO, evC, isTy, HI.finish, finishX, fine, fines, unl, itemsOf, srcOf, bnd, sliceV, lstOf, seqOf, unbox, below, belows, keyOf, noExc, isLB, addL, small64, exH, catches, noExcS, anyErr, aug2, f_is_word, isWord, wordB, charsOf, hv.1, h1, h4]
        rw [← Array.all_toList]
        exact filter_empty _ _
      · have : ¬ (s.length : Int) ≤ 4 := by omega
        have : ((1 : Int) ≤ s.length) := by omega
        simp [runFn, exs, exS, evs, evO, evC, isTy, HI.finish, finishX, fine, fines, unl, itemsOf, srcOf, bnd, sliceV, lstOf, seqOf, unbox, below, belows, keyOf, noExc, isLB, addL, small64, exH, catches, noExcS, anyErr, aug2, f_is_word, isWord, wordB, hv.1, h1, h4, *]
    · have h0 : s.length = 0 := by omega
      simp [runFn, exs, exS, evs, evO, evC, isTy, HI.finish, finishX, fine, fines, unl, itemsOf, srcOf, bnd, sliceV, lstOf, seqOf, unbox, below, belows, keyOf, noExc, isLB, addL, small64, exH, catches, noExcS, anyErr, aug2, f_is_word, isWord, wordB, h0]
  | scr _ => simp [top] at hv
  | loc _ => simp [top] at hv
  | _ => simp [runFn, exs, exS, evs, evO, evC, isTy, HI.finish, finishX, fine, fines, unl, itemsOf, srcOf, bnd, sliceV, lstOf, seqOf, unbox, below, belows, keyOf, noExc, isLB, addL, small64, exH, catches, noExcS, anyErr, aug2, f_is_word, isWord]
def okv : Val → Bool
  | .str s => okS s
  | .scr _ => false
  | .loc _ => false
  | .tup vs => okvs vs
  | .lst vs => okvs vs
  | _ => true
where okvs : List Val → Bool
  | [] => true
  | v :: vs => okv v && okvs vs
theorem okv_top {v : Val} (h : okv v = true) : top v = true := by
  cases v <;> simp_all [okv, top]
@[simp] theorem ofString_all (s : String) : ((Str.ofString s).cps.all fun x => decide (x < 1114112)) = true := by
  rw [Str.ofString_eq_toList]
  simp
  intro c hc
  have := c.valid
  simp only [UInt32.isValidChar, Nat.isValidChar] at this
  show c.val.toNat < 1114112
  omega
theorem ofString_len (s : String) : (Str.ofString s).length = s.toList.length := by
  rw [Str.ofString_eq_toList]; simp [Str.length]
def sNote : Str := Str.ofString "note"
def isDeed : Val → Bool
  | .tup (.str w :: r) => if w = Str.ofString "note" then (match r with | [x] => isWord x | _ => false)
    else if w = Str.ofString "take" ∨ w = Str.ofString "give" ∨ w = Str.ofString "need" then (match r with | [x, y] => isWord x && isWithin y 1 999 | _ => false) else false
  | _ => false
theorem r_is_deed [H_is_within T] [H_is_word T] [H_is_deed T] (n : Nat) (v : Val) (S : Store) (hv : okv v = true) : callF L T (n + 2) (Str.ofString "is_deed") [v] S = .ok (.bool (isDeed v)) S := by
  rw [c_is_deed]
  cases v with
  | scr _ => simp [okv] at hv
  | loc _ => simp [okv] at hv
  | tup vs =>
    cases vs with
    | nil => simp [runFn, exs, exS, evs, evO, evC, isTy, HI.finish, finishX, fine, fines, unl, itemsOf, srcOf, bnd, sliceV, lstOf, seqOf, unbox, below, belows, keyOf, noExc, isLB, addL, small64, exH, catches, noExcS, anyErr, aug2, f_is_deed, isDeed]
    | cons x r =>
      simp only [okv, okv.okvs, Bool.and_eq_true] at hv
      cases x with
      | scr _ => simp [okv] at hv
      | loc _ => simp [okv] at hv
      | str w =>
        by_cases h1 : w = Str.ofString "note"
        · subst h1
          match r, hv with
          | [], _ => simp [runFn, exs, exS, evs, evO, evC, isTy, HI.finish, finishX, fine, fines, unl, itemsOf, srcOf, bnd, sliceV, lstOf, seqOf, unbox, below, belows, keyOf, noExc, isLB, addL, small64, exH, catches, noExcS, anyErr, aug2, f_is_deed, isDeed]
          | [x], hv =>
            simp only [okv.okvs, Bool.and_eq_true] at hv
            simp [runFn, exs, exS, evs, evO, evC, isTy, HI.finish, finishX, fine, fines, unl, itemsOf, srcOf, bnd, sliceV, lstOf, seqOf, unbox, below, belows, keyOf, noExc, isLB, addL, small64, exH, catches, noExcS, anyErr, aug2, f_is_deed, isDeed, r_is_word _ x _ (okv_top hv.2.1)]
          | x :: y :: r, hv =>
            have : ¬ ((r.length : Int) + 1 + 1 + 1 = 2) := by omega
            simp [runFn, exs, exS, evs, evO, evC, isTy, HI.finish, finishX, fine, fines, unl, itemsOf, srcOf, bnd, sliceV, lstOf, seqOf, unbox, below, belows, keyOf, noExc, isLB, addL, small64, exH, catches, noExcS, anyErr, aug2, f_is_deed, isDeed, this]
        · have hw : okS w = true := hv.1
          simp only [okS, Bool.and_eq_true, decide_eq_true_eq] at hw
          by_cases h2 : w = Str.ofString "take" ∨ w = Str.ofString "give" ∨ w = Str.ofString "need"
          · have hm : memV [.str (Str.ofString "take"), .str (Str.ofString "give"), .str (Str.ofString "need")] (.str w) = true := by
              rcases h2 with rfl | rfl | rfl <;> simp [memV]
            match r, hv with
            | [], _ => simp [runFn, exs, exS, evs, evO, evC, isTy, HI.finish, finishX, fine, fines, unl, itemsOf, srcOf, bnd, sliceV, lstOf, seqOf, unbox, below, belows, keyOf, noExc, isLB, addL, small64, exH, catches, noExcS, anyErr, aug2, f_is_deed, isDeed, hw, hm, h1, h2]
            | [x], hv => simp [runFn, exs, exS, evs, evO, evC, isTy, HI.finish, finishX, fine, fines, unl, itemsOf, srcOf, bnd, sliceV, lstOf, seqOf, unbox, below, belows, keyOf, noExc, isLB, addL, small64, exH, catches, noExcS, anyErr, aug2, f_is_deed, isDeed, hw, hm, h1, h2]
            | [x, y], hv =>
              simp only [okv.okvs, Bool.and_eq_true] at hv
              cases hx : isWord x <;> simp [runFn, exs, exS, evs, evO, evC, isTy, HI.finish, finishX, fine, fines, unl, itemsOf, srcOf, bnd, sliceV, lstOf, seqOf, unbox, below, belows, keyOf, noExc, isLB, addL, small64, exH, catches, noExcS, anyErr, aug2, f_is_deed, isDeed, hw, hm, h1, h2, r_is_word _ x _ (okv_top hv.2.1), r_is_within _ y _ _ _ (okv_top hv.2.2.1), hx]
            | x :: y :: z :: r, hv =>
              have : ¬ ((r.length : Int) + 1 + 1 + 1 + 1 = 3) := by omega
              simp [runFn, exs, exS, evs, evO, evC, isTy, HI.finish, finishX, fine, fines, unl, itemsOf, srcOf, bnd, sliceV, lstOf, seqOf, unbox, below, belows, keyOf, noExc, isLB, addL, small64, exH, catches, noExcS, anyErr, aug2, f_is_deed, isDeed, hw, hm, h1, h2, this]
          · have hm : memV [.str (Str.ofString "take"), .str (Str.ofString "give"), .str (Str.ofString "need")] (.str w) = false := by
              simp only [not_or] at h2
              simp [memV, Ne.symm h2.1, Ne.symm h2.2.1, Ne.symm h2.2.2]
            simp [runFn, exs, exS, evs, evO, evC, isTy, HI.finish, finishX, fine, fines, unl, itemsOf, srcOf, bnd, sliceV, lstOf, seqOf, unbox, below, belows, keyOf, noExc, isLB, addL, small64, exH, catches, noExcS, anyErr, aug2, f_is_deed, isDeed, hw, hm, h1, h2]
      | _ => simp [runFn, exs, exS, evs, evO, evC, isTy, HI.finish, finishX, fine, fines, unl, itemsOf, srcOf, bnd, sliceV, lstOf, seqOf, unbox, below, belows, keyOf, noExc, isLB, addL, small64, exH, catches, noExcS, anyErr, aug2, f_is_deed, isDeed, HI.getItem, atV]
  | _ => simp [runFn, exs, exS, evs, evO, evC, isTy, HI.finish, finishX, fine, fines, unl, itemsOf, srcOf, bnd, sliceV, lstOf, seqOf, unbox, below, belows, keyOf, noExc, isLB, addL, small64, exH, catches, noExcS, anyErr, aug2, f_is_deed, isDeed]
end HM
set_option Elab.async false
set_option linter.all false
set_option maxRecDepth 100000
set_option maxHeartbeats 0
namespace HM
open PySem HI HP
variable {L : Nat} {T : Tab}
def leftV : Nat → Val → Int → Int
  | 0, _, _ => -1
  | f + 1, .tup (.str w :: r), left => if w = Str.ofString "do" then (match r with
      | [h, d] => if isWithin h 0 4 && isDeed d then left - 1 else -1
      | _ => -1)
    else if w = Str.ofString "all" ∨ w = Str.ofString "any" then (match r with
      | [.tup ps] => if 1 ≤ ps.length ∧ ps.length ≤ 4 then ps.foldl (fun l p => if 0 ≤ l then leftV f p l else l) left else -1
      | _ => -1)
    else -1
  | _ + 1, _, _ => -1
theorem okvs_mem {v : Val} : ∀ {vs : List Val}, okv.okvs vs = true → v ∈ vs → okv v = true
  | x :: vs, h, hm => by
    simp only [okv.okvs, Bool.and_eq_true] at h
    rcases List.mem_cons.mp hm with rfl | hm
    · exact h.1
    · exact okvs_mem h.2 hm
theorem ll_for {C : CallT} {v : Val} {d : Int} {S : Store} {g : Val → Int → Int} (ps : List Val) (h : ∀ p ∈ ps, ∀ l : Int, C (Str.ofString "leaves_left") [p, .int l, .int (d + 1)] S = .ok (.int (g p l)) S) (left : Int) (x : Option Val) :
    ∃ x', forGo [] (.one 3) (fun ρ' S' => exs L C b_leaves_left_1 ρ' S') ps [some v, some (.int left), some (.int d), x] S = .next [some v, some (.int (ps.foldl (fun l p => if 0 ≤ l then g p l else l) left)), some (.int d), x'] S := by
  refine (forGo_fold (f := fun ρ' S' => exs L C b_leaves_left_1 ρ' S') (fun (l : Int) o => [some v, some (.int l), some (.int d), o]) (fun _ => S) (fun l p => if 0 ≤ l then g p l else l) (fun _ => True) ps left x trivial fun l p o hp _ => ⟨trivial, _, rfl, ?_⟩).2
  have h1 := h p hp
  by_cases hl : 0 ≤ l <;> simp [b_leaves_left_1, runFn, exs, exS, evs, evO, evC, isTy, HI.finish, finishX, fine, fines, unl, itemsOf, srcOf, bnd, sliceV, lstOf, seqOf, unbox, below, belows, keyOf, noExc, isLB, addL, small64, exH, catches, noExcS, anyErr, aug2, hl, h1]
theorem r_leaves_left [H_is_within T] [H_is_word T] [H_is_deed T] [H_leaves_left T] (n : Nat) (S : Store) : ∀ (f : Nat) (v : Val) (left d : Int), d = 5 - f → okv v = true →
    callF L T (n + 3 + f) (Str.ofString "leaves_left") [v, .int left, .int d] S = .ok (.int (leftV f v left)) S
  | f, v, left, d, hd, hv => by
    rw [show n + 3 + f = (n + 2 + f) + 1 from by omega, c_leaves_left]
    cases v with
    | scr _ => simp [okv] at hv
    | loc _ => simp [okv] at hv
    | tup vs =>
      cases vs with
      | nil => cases f <;> simp [runFn, exs, exS, evs, evO, evC, isTy, HI.finish, finishX, fine, fines, unl, itemsOf, srcOf, bnd, sliceV, lstOf, seqOf, unbox, below, belows, keyOf, noExc, isLB, addL, small64, exH, catches, noExcS, anyErr, aug2, f_leaves_left, leftV]
      | cons x r =>
        simp only [okv, okv.okvs, Bool.and_eq_true] at hv
        cases x with
        | scr _ => simp [okv] at hv
        | loc _ => simp [okv] at hv
        | str w =>
          cases f with
          | zero =>
            subst hd
            simp [runFn, exs, exS, evs, evO, evC, isTy, HI.finish, finishX, fine, fines, unl, itemsOf, srcOf, bnd, sliceV, lstOf, seqOf, unbox, below, belows, keyOf, noExc, isLB, addL, small64, exH, catches, noExcS, anyErr, aug2, f_leaves_left, leftV]
          | succ f =>
            have hd4 : ¬ (4 < d) := by omega
            have hw : okS w = true := hv.1
            simp only [okS, Bool.and_eq_true, decide_eq_true_eq] at hw
            by_cases h1 : w = Str.ofString "do"
            · subst h1
              match r, hv with
              | [], _ => simp [runFn, exs, exS, evs, evO, evC, isTy, HI.finish, finishX, fine, fines, unl, itemsOf, srcOf, bnd, sliceV, lstOf, seqOf, unbox, below, belows, keyOf, noExc, isLB, addL, small64, exH, catches, noExcS, anyErr, aug2, f_leaves_left, leftV, hd4]
              | [a], _ => simp [runFn, exs, exS, evs, evO, evC, isTy, HI.finish, finishX, fine, fines, unl, itemsOf, srcOf, bnd, sliceV, lstOf, seqOf, unbox, below, belows, keyOf, noExc, isLB, addL, small64, exH, catches, noExcS, anyErr, aug2, f_leaves_left, leftV, hd4]
              | [a, b], hv =>
                simp only [okv.okvs, Bool.and_eq_true] at hv
                have e1 := r_is_within (L := L) (T := T) (n + 2 + f) a 0 4 S (okv_top hv.2.1)
                have e2 := r_is_deed (L := L) (T := T) (n + 1 + f) b S hv.2.2.1
                rw [show n + 2 + f + 1 = n + 2 + (f + 1) from by omega] at e1
                rw [show n + 1 + f + 2 = n + 2 + (f + 1) from by omega] at e2
                cases ha : isWithin a 0 4 <;> cases hb : isDeed b <;> simp [runFn, exs, exS, evs, evO, evC, isTy, HI.finish, finishX, fine, fines, unl, itemsOf, srcOf, bnd, sliceV, lstOf, seqOf, unbox, below, belows, keyOf, noExc, isLB, addL, small64, exH, catches, noExcS, anyErr, aug2, f_leaves_left, leftV, hd4, e1, e2, ha, hb]
              | a :: b :: c :: r, hv =>
                have : ¬ ((r.length : Int) + 1 + 1 + 1 + 1 = 3) := by omega
                simp [runFn, exs, exS, evs, evO, evC, isTy, HI.finish, finishX, fine, fines, unl, itemsOf, srcOf, bnd, sliceV, lstOf, seqOf, unbox, below, belows, keyOf, noExc, isLB, addL, small64, exH, catches, noExcS, anyErr, aug2, f_leaves_left, leftV, hd4, this]
            · by_cases h2 : w = Str.ofString "all" ∨ w = Str.ofString "any"
              · have hm : memV [.str (Str.ofString "all"), .str (Str.ofString "any")] (.str w) = true := by
                  rcases h2 with rfl | rfl <;> simp [memV]
                match r, hv with
                | [], _ => simp [runFn, exs, exS, evs, evO, evC, isTy, HI.finish, finishX, fine, fines, unl, itemsOf, srcOf, bnd, sliceV, lstOf, seqOf, unbox, below, belows, keyOf, noExc, isLB, addL, small64, exH, catches, noExcS, anyErr, aug2, f_leaves_left, leftV, hd4, h1, h2, hm, hw]
                | [a], hv =>
                  simp only [okv.okvs, Bool.and_eq_true] at hv
                  cases a with
                  | scr _ => simp [okv] at hv
                  | loc _ => simp [okv] at hv
                  | tup ps =>
                    by_cases h3 : 1 ≤ ps.length ∧ ps.length ≤ 4
                    · have k1 : (1 : Int) ≤ ps.length := by omega
                      have k2 : (ps.length : Int) ≤ 4 := by omega
                      obtain ⟨x', e⟩ := ll_for (L := L) (C := callF L T (n + 2 + (f + 1))) (v := .tup [.str w, .tup ps]) (d := d) (S := S) (g := leftV f) ps (fun p hp l => by
                        rw [show n + 2 + (f + 1) = n + 3 + f from by omega]
                        exact r_leaves_left n S f p l (d + 1) (by omega) (okvs_mem (by simpa [okv] using hv.2.1) hp)) left none
                      simp [runFn, exs, exS, evs, evO, evC, isTy, HI.finish, finishX, fine, fines, unl, itemsOf, srcOf, bnd, sliceV, lstOf, seqOf, unbox, below, belows, keyOf, noExc, isLB, addL, small64, exH, catches, noExcS, anyErr, aug2, f_leaves_left, leftV, hd4, h1, h2, hm, hw, h3, k1, k2]
                      simp [e, r_leaves_left_1, runFn, exs, exS, evs, evO, evC, isTy, HI.finish, finishX, fine, fines, unl, itemsOf, srcOf, bnd, sliceV, lstOf, seqOf, unbox, below, belows, keyOf, noExc, isLB, addL, small64, exH, catches, noExcS, anyErr, aug2]
                    · by_cases h4 : 1 ≤ ps.length
                      · have k1 : (1 : Int) ≤ ps.length := by omega
                        have k2 : ¬ (ps.length : Int) ≤ 4 := by omega
                        simp [runFn, exs, exS, evs, evO, evC, isTy, HI.finish, finishX, fine, fines, unl, itemsOf, srcOf, bnd, sliceV, lstOf, seqOf, unbox, below, belows, keyOf, noExc, isLB, addL, small64, exH, catches, noExcS, anyErr, aug2, f_leaves_left, leftV, hd4, h1, h2, hm, hw, h3, k1, k2]
                      · have k1 : ¬ (1 : Int) ≤ ps.length := by omega
                        simp [runFn, exs, exS, evs, evO, evC, isTy, HI.finish, finishX, fine, fines, unl, itemsOf, srcOf, bnd, sliceV, lstOf, seqOf, unbox, below, belows, keyOf, noExc, isLB, addL, small64, exH, catches, noExcS, anyErr, aug2, f_leaves_left, leftV, hd4, h1, h2, hm, hw, h3, k1]
                  | _ => simp [runFn, exs, exS, evs, evO, evC, isTy, HI.finish, finishX, fine, fines, unl, itemsOf, srcOf, bnd, sliceV, lstOf, seqOf, unbox, below, belows, keyOf, noExc, isLB, addL, small64, exH, catches, noExcS, anyErr, aug2, f_leaves_left, leftV, hd4, h1, h2, hm, hw]
                | a :: b :: r, hv =>
                  have : ¬ ((r.length : Int) + 1 + 1 + 1 = 2) := by omega
                  simp [runFn, exs, exS, evs, evO, evC, isTy, HI.finish, finishX, fine, fines, unl, itemsOf, srcOf, bnd, sliceV, lstOf, seqOf, unbox, below, belows, keyOf, noExc, isLB, addL, small64, exH, catches, noExcS, anyErr, aug2, f_leaves_left, leftV, hd4, h1, h2, hm, hw, this]
              · have hm : memV [.str (Str.ofString "all"), .str (Str.ofString "any")] (.str w) = false := by
                  simp only [not_or] at h2
                  simp [memV, Ne.symm h2.1, Ne.symm h2.2]
                simp [runFn, exs, exS, evs, evO, evC, isTy, HI.finish, finishX, fine, fines, unl, itemsOf, srcOf, bnd, sliceV, lstOf, seqOf, unbox, below, belows, keyOf, noExc, isLB, addL, small64, exH, catches, noExcS, anyErr, aug2, f_leaves_left, leftV, hd4, h1, h2, hm, hw]
        | _ => cases f <;> simp [runFn, exs, exS, evs, evO, evC, isTy, HI.finish, finishX, fine, fines, unl, itemsOf, srcOf, bnd, sliceV, lstOf, seqOf, unbox, below, belows, keyOf, noExc, isLB, addL, small64, exH, catches, noExcS, anyErr, aug2, f_leaves_left, leftV]
    | _ => cases f <;> simp [runFn, exs, exS, evs, evO, evC, isTy, HI.finish, finishX, fine, fines, unl, itemsOf, srcOf, bnd, sliceV, lstOf, seqOf, unbox, below, belows, keyOf, noExc, isLB, addL, small64, exH, catches, noExcS, anyErr, aug2, f_leaves_left, leftV]
  termination_by f => f
end HM
set_option Elab.async false
set_option linter.all false
set_option maxRecDepth 100000
set_option maxHeartbeats 0
namespace HM
open PySem HI HP
variable {L : Nat} {T : Tab}
inductive Kind where
  | take | give | need
  deriving DecidableEq
def Kind.s : Kind → Str
  | .take => Str.ofString "take"
  | .give => Str.ofString "give"
  | .need => Str.ofString "need"
inductive Deed where
  | note (w : Str)
  | act (k : Kind) (key : Str) (many : Int)
  deriving DecidableEq
def Deed.val : Deed → Val
  | .note w => .tup [.str (Str.ofString "note"), .str w]
  | .act k key many => .tup [.str k.s, .str key, .int many]
def Deed.ok : Deed → Bool
  | .note w => wordB w
  | .act _ key many => wordB key && (decide (1 ≤ many) && decide (many ≤ 999))
inductive Err where
  | leaf (h : Int) (d : Deed)
  | node (al : Bool) (ps : List Err)
def nodeS (al : Bool) : Str := if al then Str.ofString "all" else Str.ofString "any"
mutual
def Err.val : Err → Val
  | .leaf h d => .tup [.str (Str.ofString "do"), .int h, d.val]
  | .node al ps => .tup [.str (nodeS al), .tup (vals ps)]
def vals : List Err → List Val
  | [] => []
  | p :: ps => p.val :: vals ps
end
mutual
def Err.leaves : Err → List (Int × Deed)
  | .leaf h d => [(h, d)]
  | .node _ ps => leavesL ps
def leavesL : List Err → List (Int × Deed)
  | [] => []
  | p :: ps => p.leaves ++ leavesL ps
end
def leafV (p : Int × Deed) : Val := .tup [.int p.1, p.2.val]
def Err.okd : Nat → Err → Bool
  | 0, _ => false
  | _ + 1, .leaf h d => decide (0 ≤ h) && decide (h ≤ 4) && d.ok
  | f + 1, .node _ ps => decide (1 ≤ ps.length) && decide (ps.length ≤ 4) && ps.all (Err.okd f)
structure Err.Ok (e : Err) : Prop where
  deep : e.okd 4 = true
  few : e.leaves.length ≤ 12
@[simp] theorem vals_eq (ps : List Err) : vals ps = ps.map Err.val := by
  induction ps with
  | nil => rfl
  | cons p ps ih => simp [vals, ih]
theorem small_cp {c : Nat} (h : c ∈ SMALLS) : c < 1114112 := by
  have : SMALLS.all (fun c => decide (c < 1114112)) = true := by decide +kernel
  simp only [List.all_eq_true, decide_eq_true_eq] at this
  exact this c h
theorem word_okS {s : Str} (h : wordB s = true) : okS s = true := by
  simp only [wordB, Bool.and_eq_true, decide_eq_true_eq, List.all_eq_true] at h
  obtain ⟨⟨h1, h2⟩, h3⟩ := h
  simp only [okS, Bool.and_eq_true, decide_eq_true_eq]
  refine ⟨Nat.le_trans h2 (by decide), ?_⟩
  rw [Array.all_eq_true_iff_forall_mem]
  intro c hc
  simpa using small_cp (h3 c (by simpa using hc))
theorem ofString_okS (s : String) (h : s.toList.length ≤ LIM) : okS (Str.ofString s) = true := by
  simp only [okS, ofString_len, ofString_all, Bool.and_true, decide_eq_true_eq]
  exact h
theorem Deed.okv {d : Deed} (h : d.ok = true) : okv d.val = true := by
  cases d with
  | note w => simp only [Deed.ok] at h; simp [Deed.val, HM.okv, HM.okv.okvs, word_okS h]; exact ofString_okS _ (by decide)
  | act k key m =>
    simp only [Deed.ok, Bool.and_eq_true] at h
    cases k <;> simp [Deed.val, HM.okv, HM.okv.okvs, word_okS h.1, Kind.s] <;> exact ofString_okS _ (by decide)
theorem Deed.isDeed {d : Deed} (h : d.ok = true) : HM.isDeed d.val = true := by
  cases d with
  | note w => simp only [Deed.ok] at h; simp [Deed.val, HM.isDeed, isWord, h]
  | act k key m =>
    simp only [Deed.ok, Bool.and_eq_true, decide_eq_true_eq] at h
    cases k <;> simp [Deed.val, HM.isDeed, isWord, isWithin, h, Kind.s]
theorem Err.okv : ∀ {f : Nat} {e : Err}, e.okd f = true → okv e.val = true
  | 0, _, h => by simp [Err.okd] at h
  | f + 1, .leaf a d, h => by
    simp only [Err.okd, Bool.and_eq_true] at h
    simp [Err.val, HM.okv, HM.okv.okvs, Deed.okv h.2]; exact ofString_okS _ (by decide)
  | f + 1, .node al ps, h => by
    simp only [Err.okd, Bool.and_eq_true, List.all_eq_true] at h
    have : ∀ qs : List Err, (∀ p ∈ qs, p ∈ ps) → HM.okv.okvs (qs.map Err.val) = true := by
      intro qs
      induction qs with
      | nil => intro _; rfl
      | cons q qs ih =>
        intro hq
        simp only [List.map_cons, HM.okv.okvs, Bool.and_eq_true]
        exact ⟨Err.okv (h.2 q (hq q (List.mem_cons_self ..))), ih fun p hp => hq p (List.mem_cons_of_mem _ hp)⟩
    cases al <;> simp [Err.val, HM.okv, HM.okv.okvs, this ps (fun _ h => h), nodeS] <;> exact ofString_okS _ (by decide)
theorem left_ok : ∀ {f : Nat} {e : Err} {left : Int}, e.okd f = true → (e.leaves.length : Int) ≤ left → leftV f e.val left = left - e.leaves.length
  | 0, _, _, h, _ => by simp [Err.okd] at h
  | f + 1, .leaf a d, left, h, _ => by
    simp only [Err.okd, Bool.and_eq_true, decide_eq_true_eq] at h
    simp [Err.val, leftV, Err.leaves, isWithin, h.1, Deed.isDeed h.2]
  | f + 1, .node al ps, left, h, hl => by
    simp only [Err.okd, Bool.and_eq_true, List.all_eq_true, decide_eq_true_eq] at h
    have : ∀ (qs : List Err) (left : Int), (∀ p ∈ qs, p ∈ ps) → ((leavesL qs).length : Int) ≤ left → (qs.map Err.val).foldl (fun l p => if 0 ≤ l then leftV f p l else l) left = left - (leavesL qs).length := by
      intro qs
      induction qs with
      | nil => intro left _ _; simp [leavesL]
      | cons q qs ih =>
        intro left hq hl
        simp only [leavesL, List.length_append] at hl
        simp only [List.map_cons, List.foldl_cons, leavesL, List.length_append]
        rw [if_pos (by omega), left_ok (h.2 q (hq q (List.mem_cons_self ..))) (by omega), ih _ (fun p hp => hq p (List.mem_cons_of_mem _ hp)) (by omega)]
        omega
    simp only [Err.leaves] at hl
    cases al <;> simp [Err.val, leftV, Err.leaves, nodeS] <;> rw [this ps left (fun _ h => h) hl] <;> (simp; intro h1 ; have := h.1; omega)
theorem r_is_errandV [H_is_within T] [H_is_word T] [H_is_deed T] [H_leaves_left T] [H_is_errand T] (n : Nat) (v : Val) (S : Store) (hv : okv v = true) : callF L T (n + 8) (Str.ofString "is_errand") [v] S = .ok (.bool (decide (0 ≤ leftV 4 v 12))) S := by
  rw [c_is_errand]
  have e := r_leaves_left (L := L) (T := T) n S 4 v 12 1 (by omega) hv
  simp [runFn, exs, exS, evs, evO, evC, isTy, HI.finish, finishX, fine, fines, unl, itemsOf, srcOf, bnd, sliceV, lstOf, seqOf, unbox, below, belows, keyOf, noExc, isLB, addL, small64, exH, catches, noExcS, anyErr, aug2, f_is_errand, e]
theorem r_is_errand [H_is_within T] [H_is_word T] [H_is_deed T] [H_leaves_left T] [H_is_errand T] (n : Nat) {e : Err} (he : e.Ok) (S : Store) : callF L T (n + 8) (Str.ofString "is_errand") [e.val] S = .ok (.bool true) S := by
  rw [r_is_errandV n e.val S (Err.okv he.deep), left_ok he.deep (by have := he.few; omega)]
  have := he.few
  simp; omega
end HM
set_option Elab.async false
set_option linter.all false
set_option maxRecDepth 100000
set_option maxHeartbeats 0
namespace HM
open PySem HI HP
variable {L : Nat} {T : Tab}
theorem leaves_le {ps : List Err} {p : Err} (h : p ∈ ps) : p.leaves.length ≤ (leavesL ps).length := by
  induction ps with
  | nil => cases h
  | cons q ps ih =>
    simp only [leavesL, List.length_append]
    rcases List.mem_cons.mp h with rfl | h
    · omega
    · have := ih h; omega
theorem node_ne {al : Bool} : (nodeS al = Str.ofString "do") = False := by cases al <;> simp [nodeS]
theorem lo_for {C : CallT} {v : Val} {S : Store} : ∀ (ps : List Err) (acc : List Val), (∀ p ∈ ps, ∀ S', C (Str.ofString "leaves_of") [p.val] S' = .ok (.lst (p.leaves.map leafV)) S') → acc.length + (leavesL ps).length ≤ LIM → ∀ x, ∃ x',
    forGo [] (.one 2) (fun ρ' S' => exs L C b_leaves_of_1 ρ' S') (ps.map Err.val) [some v, some (.loc S.length), x] (S ++ [.list acc]) = .next [some v, some (.loc S.length), x'] (S ++ [.list (acc ++ (leavesL ps).map leafV)])
  | [], acc, _, _, x => ⟨x, by simp [forGo, leavesL]⟩
  | p :: ps, acc, h, hl, x => by
    simp only [leavesL, List.length_append] at hl
    obtain ⟨x', e⟩ := lo_for (v := v) (S := S) ps (acc ++ p.leaves.map leafV) (fun q hq => h q (List.mem_cons_of_mem _ hq)) (by simp; omega) (some p.val)
    refine ⟨x', ?_⟩
    have h1 := h p (List.mem_cons_self ..)
    have st : exs L C b_leaves_of_1 [some v, some (.loc S.length), some p.val] (S ++ [.list acc]) = .next [some v, some (.loc S.length), some p.val] (S ++ [.list (acc ++ p.leaves.map leafV)]) := by
      have : acc.length + p.leaves.length ≤ LIM := by omega
      simp [runFn, exs, exS, evs, evO, evC, isTy, HI.finish, finishX, fine, fines, unl, itemsOf, srcOf, bnd, sliceV, lstOf, seqOf, unbox, below, belows, keyOf, noExc, isLB, addL, small64, exH, catches, noExcS, anyErr, aug2, b_leaves_of_1, h1, this]
    simp [forGo, st, e, leavesL]
theorem r_leaves_of [H_leaves_of T] (n : Nat) : ∀ (f : Nat) (e : Err), e.okd f = true → e.leaves.length ≤ LIM → ∀ S : Store, callF L T (n + f) (Str.ofString "leaves_of") [e.val] S = .ok (.lst (e.leaves.map leafV)) S
  | 0, _, h, _, _ => by simp [Err.okd] at h
  | f + 1, .leaf a d, h, _, S => by
    rw [← Nat.add_assoc, c_leaves_of]
    simp [runFn, exs, exS, evs, evO, evC, isTy, HI.finish, finishX, fine, fines, unl, itemsOf, srcOf, bnd, sliceV, lstOf, seqOf, unbox, below, belows, keyOf, noExc, isLB, addL, small64, exH, catches, noExcS, anyErr, aug2, f_leaves_of, Err.val, Err.leaves, leafV, cut, sIx, HT.sIx]
    cases d <;> simp [Deed.val, belows, below]
  | f + 1, .node al ps, h, hl, S => by
    rw [← Nat.add_assoc, c_leaves_of]
    simp only [Err.okd, Bool.and_eq_true, List.all_eq_true, decide_eq_true_eq] at h
    simp only [Err.leaves] at hl
    obtain ⟨x', e⟩ := lo_for (L := L) (C := callF L T (n + f)) (v := Val.tup [Val.str (nodeS al), Val.tup (ps.map Err.val)]) (S := S) ps [] (fun p hp S' => r_leaves_of n f p (h.2 p hp) (Nat.le_trans (leaves_le hp) hl) S') (by simpa using hl) none
    have hb : belows S.length ((leavesL ps).map leafV) = true := by
      generalize leavesL ps = l
      induction l with
      | nil => rfl
      | cons q l ih =>
        simp only [List.map_cons, belows, ih, Bool.and_true]
        obtain ⟨a, d⟩ := q
        cases d <;> simp [leafV, Deed.val, below, belows]
    simp [runFn, exs, exS, evs, evO, evC, isTy, HI.finish, finishX, fine, fines, unl, itemsOf, srcOf, bnd, sliceV, lstOf, seqOf, unbox, below, belows, keyOf, noExc, isLB, addL, small64, exH, catches, noExcS, anyErr, aug2, f_leaves_of, r_leaves_of_1, Err.val, Err.leaves, node_ne, e, hb]
theorem ll2_for {C : CallT} {v : Val} {S : Store} : ∀ (ps : List Err) (acc : List Val), (∀ p ∈ ps, ∀ S', C (Str.ofString "_law_leaves") [p.val] S' = .ok (.lst (p.leaves.map leafV)) S') → acc.length + (leavesL ps).length ≤ LIM → ∀ x, ∃ x',
    forGo [] (.one 2) (fun ρ' S' => exs L C b__law_leaves_1 ρ' S') (ps.map Err.val) [some v, some (.lst acc), x] S = .next [some v, some (.lst (acc ++ (leavesL ps).map leafV)), x'] S
  | [], acc, _, _, x => ⟨x, by simp [forGo, leavesL]⟩
  | p :: ps, acc, h, hl, x => by
    simp only [leavesL, List.length_append] at hl
    obtain ⟨x', e⟩ := ll2_for (v := v) (S := S) ps (acc ++ p.leaves.map leafV) (fun q hq => h q (List.mem_cons_of_mem _ hq)) (by simp; omega) (some p.val)
    refine ⟨x', ?_⟩
    have h1 := h p (List.mem_cons_self ..)
    have st : exs L C b__law_leaves_1 [some v, some (.lst acc), some p.val] S = .next [some v, some (.lst (acc ++ p.leaves.map leafV)), some p.val] S := by
      have : acc.length + p.leaves.length ≤ LIM := by omega
      simp [runFn, exs, exS, evs, evO, evC, isTy, HI.finish, finishX, fine, fines, unl, itemsOf, srcOf, bnd, sliceV, lstOf, seqOf, unbox, below, belows, keyOf, noExc, isLB, addL, small64, exH, catches, noExcS, anyErr, aug2, b__law_leaves_1, h1, this]
    simp [forGo, st, e, leavesL]
theorem r__law_leaves [H__law_leaves T] (n : Nat) : ∀ (f : Nat) (e : Err), e.okd f = true → e.leaves.length ≤ LIM → ∀ S : Store, callF L T (n + f) (Str.ofString "_law_leaves") [e.val] S = .ok (.lst (e.leaves.map leafV)) S
  | 0, _, h, _, _ => by simp [Err.okd] at h
  | f + 1, .leaf a d, h, _, S => by
    rw [← Nat.add_assoc, c__law_leaves]
    simp [runFn, exs, exS, evs, evO, evC, isTy, HI.finish, finishX, fine, fines, unl, itemsOf, srcOf, bnd, sliceV, lstOf, seqOf, unbox, below, belows, keyOf, noExc, isLB, addL, small64, exH, catches, noExcS, anyErr, aug2, f__law_leaves, Err.val, Err.leaves, leafV]
  | f + 1, .node al ps, h, hl, S => by
    rw [← Nat.add_assoc, c__law_leaves]
    simp only [Err.okd, Bool.and_eq_true, List.all_eq_true, decide_eq_true_eq] at h
    simp only [Err.leaves] at hl
    obtain ⟨x', e⟩ := ll2_for (L := L) (C := callF L T (n + f)) (v := Val.tup [Val.str (nodeS al), Val.tup (ps.map Err.val)]) (S := S) ps [] (fun p hp S' => r__law_leaves n f p (h.2 p hp) (Nat.le_trans (leaves_le hp) hl) S') (by simpa using hl) none
    simp [runFn, exs, exS, evs, evO, evC, isTy, HI.finish, finishX, fine, fines, unl, itemsOf, srcOf, bnd, sliceV, lstOf, seqOf, unbox, below, belows, keyOf, noExc, isLB, addL, small64, exH, catches, noExcS, anyErr, aug2, f__law_leaves, r__law_leaves_1, Err.val, Err.leaves, node_ne, e]
inductive Word where
  | new | tried | refused | doubt | gone | left
  deriving DecidableEq
def Word.s : Word → Str
  | .new => Str.ofString "new"
  | .tried => Str.ofString "tried"
  | .refused => Str.ofString "refused"
  | .doubt => Str.ofString "doubt"
  | .gone => Str.ofString "gone"
  | .left => Str.ofString "left"
def Word.val (w : Word) : Val := .str w.s
def knV (kn : List Word) : Val := .tup (kn.map Word.val)
inductive Move where
  | try_ (k : Nat) | cancel (k : Nat)
  deriving DecidableEq
def Move.val : Move → Val
  | .try_ k => .tup [.str (Str.ofString "try"), .int k]
  | .cancel k => .tup [.str (Str.ofString "cancel"), .int k]
inductive Std where
  | opn (m : Move) | good | failed
  deriving DecidableEq
def Std.s : Std → Str
  | .opn _ => Str.ofString "open"
  | .good => Str.ofString "good"
  | .failed => Str.ofString "failed"
def Std.mv : Std → Val
  | .opn m => m.val
  | _ => .non
def leafStd (w : Word) (k : Nat) : Std := match w with
  | .new => .opn (.try_ k)
  | .doubt => .opn (.cancel k)
  | .refused => .failed
  | .left => .failed
  | _ => .good
def triedIn (kn : List Word) (lo n : Nat) : List Nat := (List.range' lo n).filter fun k => decide (kn[k]? = some .tried)
mutual
def howE (kn : List Word) : Err → Nat → Std
  | .leaf _ _, k => leafStd (kn.getD k .new) k
  | .node al ps, k => howL kn al k (leavesL ps).length ps k
def howL (kn : List Word) (al : Bool) (lo n : Nat) : List Err → Nat → Std
  | [], _ => if al then .good else .failed
  | p :: ps, k => match howE kn p k with
    | .opn m => .opn m
    | .good => if al then howL kn al lo n ps (k + p.leaves.length) else .good
    | .failed => if al then (match (triedIn kn lo n).getLast? with
      | some j => .opn (.cancel j)
      | none => .failed) else howL kn al lo n ps (k + p.leaves.length)
end
theorem Word.of_leaf_ok [H_of_leaf T] (n : Nat) (w : Word) (k : Nat) (S : Store) : callF L T (n + 1) (Str.ofString "of_leaf") [w.val, .int k] S = .ok (.tup [.str (leafStd w k).s, (leafStd w k).mv]) S := by
  rw [c_of_leaf]
  cases w <;> simp [runFn, exs, exS, evs, evO, evC, isTy, HI.finish, finishX, fine, fines, unl, itemsOf, srcOf, bnd, sliceV, lstOf, seqOf, unbox, below, belows, keyOf, noExc, isLB, addL, small64, exH, catches, noExcS, anyErr, aug2, f_of_leaf, Word.val, Word.s, leafStd, Std.s, Std.mv, Move.val, memV]
theorem kn_get {kn : List Word} {k : Nat} (h : k < kn.length) : L2.atI (kn.map Word.val) (k : Int) = some (kn.getD k .new).val := by
  rw [atI_nat]; simp [h]
theorem word_tried (w : Word) : (w.s = Str.ofString "tried") = (w = .tried) := by cases w <;> simp [Word.s]
theorem comp_tried {C : CallT} {kn : List Word} {lo n : Nat} (h : lo + n ≤ kn.length) (hk : kn.length ≤ 1000) {ρ : HI.Env} (h1 : ρ[1]? = some (some (knV kn))) (h9 : 9 < ρ.length) {S : Store} {it : HI.It} (hit : evIt C it ρ S = .ok ((List.range' lo n).map fun (k : Nat) => Val.int k, []) S) :
    ev C (.comp (.one 9) it (some q_how_1) (.var 9)) ρ S = .ok (.lst ((triedIn kn lo n).map fun (k : Nat) => Val.int k)) S := by
  refine ev_comp (fun k => decide (kn[k]? = some .tried)) (fun (k : Nat) => Val.int k) hit trivial (by simp; exact Nat.le_trans (by omega) (show 1000 ≤ LIM by decide)) fun k hk => ?_
  simp only [List.mem_range'_1] at hk
  have e1 : (ρ.set 9 (some (.int (k : Int))))[1]? = some (some (knV kn)) := by rw [List.getElem?_set_ne (by decide)]; exact h1
  have e9 : (ρ.set 9 (some (.int (k : Int))))[9]? = some (some (.int (k : Int))) := by rw [List.getElem?_set_self h9]
  have e2 := kn_get (show k < kn.length by omega)
  have e4 : kn[k]? = some (kn.getD k .new) := by
    rw [List.getD_eq_getElem?_getD, List.getElem?_eq_getElem (show k < kn.length by omega)]; rfl
  rw [e4]
  generalize kn.getD k .new = w at e2 e4 ⊢
  exact ⟨_, rfl, by simp [runFn, exs, exS, evs, evO, evC, isTy, HI.finish, finishX, fine, fines, unl, itemsOf, srcOf, bnd, sliceV, lstOf, seqOf, unbox, below, belows, keyOf, noExc, isLB, addL, small64, exH, catches, noExcS, anyErr, aug2, q_how_1, e1, e9, knV, e2, Word.val, word_tried], fun _ => by simp [runFn, exs, exS, evs, evO, evC, isTy, HI.finish, finishX, fine, fines, unl, itemsOf, srcOf, bnd, sliceV, lstOf, seqOf, unbox, below, belows, keyOf, noExc, isLB, addL, small64, exH, catches, noExcS, anyErr, aug2, e9]⟩
abbrev hEnv (v : Val) (kn : List Word) (k : Option Val) (lo e : Nat) (a3 a4 a7 a8 a9 : Option Val) : HI.Env := [some v, some (knV kn), k, a3, a4, some (.int lo), some (.int e), a7, a8, a9]
def stdV (r : Std) (e : Nat) : Val := .tup [.str r.s, r.mv, .int e]
theorem how_for {C : CallT} {kn : List Word} {al : Bool} {vs : List Val} {lo n e : Nat} {S : Store} {K : HI.Env → Store → SR} (he : lo + n = e) (hn : e ≤ kn.length) (hk : kn.length ≤ 1000)
    (hK : ∀ k a3 a4 a7 a8 a9, ∃ R, K (hEnv (.tup [.str (nodeS al), .tup vs]) kn k lo e a3 a4 a7 a8 a9) S = .ret (stdV (if al then .good else .failed) e) (S ++ R)) (ps : List Err) : ∀ (k : Nat), k + (leavesL ps).length ≤ kn.length →
    (∀ p ∈ ps, ∀ k : Nat, k + p.leaves.length ≤ kn.length → C (Str.ofString "how") [p.val, knV kn, .int k] S = .ok (stdV (howE kn p k) (k + p.leaves.length)) S) → ∀ a3 a4 a7 a8 a9,
    ∃ R, (forGo [] (.one 7) (fun ρ' S' => exs L C b_how_1 ρ' S') (ps.map Err.val) (hEnv (.tup [.str (nodeS al), .tup vs]) kn (some (.int k)) lo e a3 a4 a7 a8 a9) S).andThen K = .ret (stdV (howL kn al lo n ps k) e) (S ++ R) := by
  induction ps with
  | nil =>
    intro k _ _ a3 a4 a7 a8 a9
    simp only [List.map_nil, forGo, guardS_nil, SR.then_next, howL]
    exact hK _ _ _ _ _ _
  | cons p ps ihp =>
    intro k hl h a3 a4 a7 a8 a9
    simp only [leavesL, List.length_append] at hl
    have h1 := h p (List.mem_cons_self ..) k (by omega)
    have ih := fun a3 a4 a7 a8 a9 => ihp (k + p.leaves.length) (by omega) (fun q hq => h q (List.mem_cons_of_mem _ hq)) a3 a4 a7 a8 a9
    simp only [List.map_cons, forGo, guardS_nil, asgT_one, List.set_cons_succ, List.set_cons_zero]
    generalize hk' : k + p.leaves.length = k' at h1 ih
    cases q : howE kn p k with
    | opn m =>
      rw [q] at h1
      have st : exs L C b_how_1 (hEnv (.tup [.str (nodeS al), .tup vs]) kn (some (.int k)) lo e a3 a4 (some p.val) a8 a9) S = .ret (stdV (.opn m) e) S := by
        simp [runFn, exs, exS, evs, evO, evC, isTy, HI.finish, finishX, fine, fines, unl, itemsOf, srcOf, bnd, sliceV, lstOf, seqOf, unbox, below, belows, keyOf, noExc, isLB, addL, small64, exH, catches, noExcS, anyErr, aug2, b_how_1, h1, stdV, Std.s]
      exact ⟨[], by rw [st]; simp [howL, q]⟩
    | good =>
      rw [q] at h1
      cases al with
      | true =>
        have st : exs L C b_how_1 (hEnv (.tup [.str (nodeS true), .tup vs]) kn (some (.int k)) lo e a3 a4 (some p.val) a8 a9) S = .next (hEnv (.tup [.str (nodeS true), .tup vs]) kn (some (.int k')) lo e (some (.str Std.good.s)) (some Std.good.mv) (some p.val) a8 a9) S := by
          simp [runFn, exs, exS, evs, evO, evC, isTy, HI.finish, finishX, fine, fines, unl, itemsOf, srcOf, bnd, sliceV, lstOf, seqOf, unbox, below, belows, keyOf, noExc, isLB, addL, small64, exH, catches, noExcS, anyErr, aug2, b_how_1, h1, stdV, Std.s, nodeS]
        rw [st, SR.loop_next]
        obtain ⟨R, er⟩ := ih (some (.str Std.good.s)) (some Std.good.mv) (some p.val) a8 a9
        exact ⟨R, by rw [er]; simp [howL, q, hk']⟩
      | false =>
        have st : exs L C b_how_1 (hEnv (.tup [.str (nodeS false), .tup vs]) kn (some (.int k)) lo e a3 a4 (some p.val) a8 a9) S = .ret (stdV .good e) S := by
          simp [runFn, exs, exS, evs, evO, evC, isTy, HI.finish, finishX, fine, fines, unl, itemsOf, srcOf, bnd, sliceV, lstOf, seqOf, unbox, below, belows, keyOf, noExc, isLB, addL, small64, exH, catches, noExcS, anyErr, aug2, b_how_1, h1, stdV, Std.s, nodeS]
        exact ⟨[], by rw [st]; simp [howL, q]⟩
    | failed =>
      rw [q] at h1
      cases al with
      | false =>
        have st : exs L C b_how_1 (hEnv (.tup [.str (nodeS false), .tup vs]) kn (some (.int k)) lo e a3 a4 (some p.val) a8 a9) S = .next (hEnv (.tup [.str (nodeS false), .tup vs]) kn (some (.int k')) lo e (some (.str Std.failed.s)) (some Std.failed.mv) (some p.val) a8 a9) S := by
          simp [runFn, exs, exS, evs, evO, evC, isTy, HI.finish, finishX, fine, fines, unl, itemsOf, srcOf, bnd, sliceV, lstOf, seqOf, unbox, below, belows, keyOf, noExc, isLB, addL, small64, exH, catches, noExcS, anyErr, aug2, b_how_1, h1, stdV, Std.s, nodeS]
        rw [st, SR.loop_next]
        obtain ⟨R, er⟩ := ih (some (.str Std.failed.s)) (some Std.failed.mv) (some p.val) a8 a9
        exact ⟨R, by rw [er]; simp [howL, q, hk']⟩
      | true =>
        have et : e - lo = n := by omega
        have s2 : ∀ a0 a2 a3 a4 a7 a8 a9, ev C (.comp (.one 9) (.range2 (.var 5) (.var 6)) (some q_how_1) (.var 9)) (hEnv a0 kn a2 lo e a3 a4 a7 a8 a9) S = .ok (.lst ((triedIn kn lo n).map fun (k : Nat) => Val.int k)) S := by
          intro a0 a2 a3 a4 a7 a8 a9
          refine comp_tried (by omega) hk rfl (by simp) ?_
          rw [← et]
          exact evIt_r2 (by simp) (by simp) (by omega) (by omega)
        have ex : exs L C b_how_1 (hEnv (.tup [.str (nodeS true), .tup vs]) kn (some (.int k)) lo e a3 a4 (some p.val) a8 a9) S = .ret (stdV (howL kn true lo n (p :: ps) k) e) S := by
          cases t : (triedIn kn lo n).getLast? with
          | none =>
            have t' := List.getLast?_eq_none_iff.mp t
            simp [b_how_1, ↓s2, runFn, exs, exS, evs, evO, evC, isTy, HI.finish, finishX, fine, fines, unl, itemsOf, srcOf, bnd, sliceV, lstOf, seqOf, unbox, below, belows, keyOf, noExc, isLB, addL, small64, exH, catches, noExcS, anyErr, aug2, h1, t', stdV, Std.s, Std.mv, nodeS, howL, q]
          | some j =>
            have t' : triedIn kn lo n ≠ [] := fun z => by rw [z] at t; cases t
            simp [b_how_1, ↓s2, runFn, exs, exS, evs, evO, evC, isTy, HI.finish, finishX, fine, fines, unl, itemsOf, srcOf, bnd, sliceV, lstOf, seqOf, unbox, below, belows, keyOf, noExc, isLB, addL, small64, exH, catches, noExcS, anyErr, aug2, h1, t', stdV, Std.s, Std.mv, nodeS, howL, q, atI_last, t, Move.val]
        exact ⟨[], by rw [ex]; simp⟩
theorem mg_all : HI.getK (mergeK [] [(Sum.inr (Str.ofString "all"), Val.str (Str.ofString "good")), (Sum.inr (Str.ofString "any"), Val.str (Str.ofString "failed"))]) (Sum.inr (nodeS true)) = some (.str (Str.ofString "good")) := by decide +kernel
theorem mg_any : HI.getK (mergeK [] [(Sum.inr (Str.ofString "all"), Val.str (Str.ofString "good")), (Sum.inr (Str.ofString "any"), Val.str (Str.ofString "failed"))]) (Sum.inr (nodeS false)) = some (.str (Str.ofString "failed")) := by decide +kernel
theorem below_mv (lo : Nat) (r : Std) : below lo r.mv = true := by
  cases r with
  | opn m => cases m <;> simp [Std.mv, Move.val, below, belows]
  | _ => rfl
theorem r_how [H_leaves_of T] [H_of_leaf T] [H_how T] (n : Nat) {kn : List Word} (hk : kn.length ≤ 1000) : ∀ (f : Nat) (e : Err), e.okd f = true → ∀ (k : Nat), k + e.leaves.length ≤ kn.length → ∀ S : Store,
    callF L T (n + 1 + f) (Str.ofString "how") [e.val, knV kn, .int k] S = .ok (stdV (howE kn e k) (k + e.leaves.length)) S
  | 0, _, h, _, _, _ => by simp [Err.okd] at h
  | f + 1, .leaf a d, h, k, hl, S => by
    rw [← Nat.add_assoc, c_how]
    simp only [Err.leaves, List.length_cons, List.length_nil] at hl
    have e1 := kn_get (show k < kn.length by omega)
    have e2 := Word.of_leaf_ok (L := L) (T := T) (n + f) (kn.getD k .new) k S
    rw [show n + f + 1 = n + 1 + f from by omega] at e2
    simp only [knV, Err.val] at *
    simp only [howE, Err.leaves]
    generalize kn.getD k .new = w at e1 e2 ⊢
    simp [runFn, exs, exS, evs, evO, evC, isTy, HI.finish, finishX, fine, fines, unl, itemsOf, srcOf, bnd, sliceV, lstOf, seqOf, unbox, below, belows, keyOf, noExc, isLB, addL, small64, exH, catches, noExcS, anyErr, aug2, f_how, e1, e2, stdV, below_mv]
  | f + 1, .node al ps, h, k, hl, S => by
    rw [← Nat.add_assoc, c_how]
    have hlo := r_leaves_of (L := L) (T := T) n (f + 1) (.node al ps) h (by have : (1000 : Nat) ≤ LIM := by decide
                                                                            omega) S
    rw [show n + (f + 1) = n + 1 + f from by omega] at hlo
    simp only [Err.okd, Bool.and_eq_true, List.all_eq_true, decide_eq_true_eq] at h
    simp only [Err.leaves] at hl
    have hf := how_for (L := L) (C := callF L T (n + 1 + f)) (kn := kn) (al := al) (vs := ps.map Err.val) (lo := k) (n := (leavesL ps).length) (S := S) (K := fun ρ' S' => exs L (callF L T (n + 1 + f)) r_how_1 ρ' S') rfl hl hk
      (fun k' a3 a4 a7 a8 a9 => by
        cases al
        · exact ⟨[.dictK (mergeK [] [(Sum.inr (Str.ofString "all"), Val.str (Str.ofString "good")), (Sum.inr (Str.ofString "any"), Val.str (Str.ofString "failed"))])], by simp [runFn, exs, exS, evs, evO, evC, isTy, HI.finish, finishX, fine, fines, unl, itemsOf, srcOf, bnd, sliceV, lstOf, seqOf, unbox, below, belows, keyOf, noExc, isLB, addL, small64, exH, catches, noExcS, anyErr, aug2, r_how_1, mg_any, stdV, Std.s, Std.mv]⟩
        · exact ⟨[.dictK (mergeK [] [(Sum.inr (Str.ofString "all"), Val.str (Str.ofString "good")), (Sum.inr (Str.ofString "any"), Val.str (Str.ofString "failed"))])], by simp [runFn, exs, exS, evs, evO, evC, isTy, HI.finish, finishX, fine, fines, unl, itemsOf, srcOf, bnd, sliceV, lstOf, seqOf, unbox, below, belows, keyOf, noExc, isLB, addL, small64, exH, catches, noExcS, anyErr, aug2, r_how_1, mg_all, stdV, Std.s, Std.mv]⟩) ps k hl (fun p hp k' hk' => r_how n hk f p (h.2 p hp) k' hk' S) none none none none none
    obtain ⟨R, er⟩ := hf
    simp only [Err.val, vals_eq, Err.leaves] at hlo
    have hh : exs L (callF L T (n + 1 + f)) f_how.body [some (.tup [.str (nodeS al), .tup (ps.map Err.val)]), some (knV kn), some (.int k), none, none, none, none, none, none, none] S = .ret (stdV (howL kn al k (leavesL ps).length ps k) (k + (leavesL ps).length)) (S ++ R) := by
      rw [← er]
      have he : (k : Int) + ((leavesL ps).length : Int) = ((k + (leavesL ps).length : Nat) : Int) := by simp
      generalize k + (leavesL ps).length = e at he ⊢
      simp [runFn, exs, exS, evs, evO, evC, isTy, HI.finish, finishX, fine, fines, unl, itemsOf, srcOf, bnd, sliceV, lstOf, seqOf, unbox, below, belows, keyOf, noExc, isLB, addL, small64, exH, catches, noExcS, anyErr, aug2, f_how, node_ne, hlo, he]
    refine (run_ret _ rfl (by simp only [Err.val, vals_eq]; rfl) hh).trans ?_
    simp [runFn, exs, exS, evs, evO, evC, isTy, HI.finish, finishX, fine, fines, unl, itemsOf, srcOf, bnd, sliceV, lstOf, seqOf, unbox, below, belows, keyOf, noExc, isLB, addL, small64, exH, catches, noExcS, anyErr, aug2, stdV, below_mv, Err.leaves, f_how, howE]
end HM
set_option Elab.async false
set_option linter.all false
set_option maxRecDepth 100000
set_option maxHeartbeats 0
namespace HM
open PySem HI HP
variable {L : Nat} {T : Tab}
def Std.fv : Std → Val
  | .opn m => m.val
  | .good => .str (Str.ofString "good")
  | .failed => .str (Str.ofString "failed")
def fndV (r : Std) (e : Nat) : Val := .tup [r.fv, .int e]
theorem lcomp_tried {C : CallT} {kn : List Word} {lo n : Nat} (h : lo + n ≤ kn.length) (hk : kn.length ≤ 1000) {ρ : HI.Env} (h1 : ρ[1]? = some (some (knV kn))) (h9 : 9 < ρ.length) {S : Store} {it : HI.It} (hit : evIt C it ρ S = .ok ((List.range' lo n).map fun (k : Nat) => Val.int k, []) S) :
    ev C (.comp (.one 9) it (some q__law_how_1) e__law_how_1) ρ S = .ok (.lst ((triedIn kn lo n).map fun (k : Nat) => (Move.cancel k).val)) S := by
  refine ev_comp (fun k => decide (kn[k]? = some .tried)) (fun (k : Nat) => (Move.cancel k).val) hit trivial (by simp; exact Nat.le_trans (by omega) (show 1000 ≤ LIM by decide)) fun k hk => ?_
  simp only [List.mem_range'_1] at hk
  have e1 : (ρ.set 9 (some (.int (k : Int))))[1]? = some (some (knV kn)) := by rw [List.getElem?_set_ne (by decide)]; exact h1
  have e9 : (ρ.set 9 (some (.int (k : Int))))[9]? = some (some (.int (k : Int))) := by rw [List.getElem?_set_self h9]
  have e2 := kn_get (show k < kn.length by omega)
  have e4 : kn[k]? = some (kn.getD k .new) := by
    rw [List.getD_eq_getElem?_getD, List.getElem?_eq_getElem (show k < kn.length by omega)]; rfl
  rw [e4]
  generalize kn.getD k .new = w at e2 e4 ⊢
  exact ⟨_, rfl, by simp [runFn, exs, exS, evs, evO, evC, isTy, HI.finish, finishX, fine, fines, unl, itemsOf, srcOf, bnd, sliceV, lstOf, seqOf, unbox, below, belows, keyOf, noExc, isLB, addL, small64, exH, catches, noExcS, anyErr, aug2, q__law_how_1, e1, e9, knV, e2, Word.val, word_tried], fun _ => by simp [runFn, exs, exS, evs, evO, evC, isTy, HI.finish, finishX, fine, fines, unl, itemsOf, srcOf, bnd, sliceV, lstOf, seqOf, unbox, below, belows, keyOf, noExc, isLB, addL, small64, exH, catches, noExcS, anyErr, aug2, e__law_how_1, e9, Move.val]⟩
abbrev gEnv (v : Val) (kn : List Word) (lo e k : Nat) (a3 a6 a7 a8 a9 : Option Val) : HI.Env := [some v, some (knV kn), some (.int lo), a3, some (.int e), some (.int k), a6, a7, a8, a9]
theorem lhow_for {C : CallT} {kn : List Word} {al : Bool} {vs : List Val} {lo n e : Nat} {S : Store} {K : HI.Env → Store → SR} (he : lo + n = e) (hn : e ≤ kn.length) (hk : kn.length ≤ 1000)
    (hK : ∀ k a3 a6 a7 a8 a9, K (gEnv (.tup [.str (nodeS al), .tup vs]) kn lo e k a3 a6 a7 a8 a9) S = .ret (fndV (if al then .good else .failed) e) S) (ps : List Err) : ∀ (k : Nat), k + (leavesL ps).length ≤ kn.length →
    (∀ p ∈ ps, ∀ k : Nat, k + p.leaves.length ≤ kn.length → C (Str.ofString "_law_how") [p.val, knV kn, .int k] S = .ok (fndV (howE kn p k) (k + p.leaves.length)) S) → ∀ a3 a6 a7 a8 a9,
    (forGo [] (.one 6) (fun ρ' S' => exs L C b__law_how_1 ρ' S') (ps.map Err.val) (gEnv (.tup [.str (nodeS al), .tup vs]) kn lo e k a3 a6 a7 a8 a9) S).andThen K = .ret (fndV (howL kn al lo n ps k) e) S := by
  induction ps with
  | nil =>
    intro k _ _ a3 a6 a7 a8 a9
    simp only [List.map_nil, forGo, guardS_nil, SR.then_next, howL]
    exact hK _ _ _ _ _ _
  | cons p ps ihp =>
    intro k hl h a3 a6 a7 a8 a9
    simp only [leavesL, List.length_append] at hl
    have h1 := h p (List.mem_cons_self ..) k (by omega)
    have ih := fun a3 a6 a7 a8 a9 => ihp (k + p.leaves.length) (by omega) (fun q hq => h q (List.mem_cons_of_mem _ hq)) a3 a6 a7 a8 a9
    simp only [List.map_cons, forGo, guardS_nil, asgT_one, List.set_cons_succ, List.set_cons_zero]
    generalize hk' : k + p.leaves.length = k' at h1 ih
    cases q : howE kn p k with
    | opn m =>
      rw [q] at h1
      have st : exs L C b__law_how_1 (gEnv (.tup [.str (nodeS al), .tup vs]) kn lo e k a3 (some p.val) a7 a8 a9) S = .ret (fndV (.opn m) e) S := by
        cases m <;> simp [runFn, exs, exS, evs, evO, evC, isTy, HI.finish, finishX, fine, fines, unl, itemsOf, srcOf, bnd, sliceV, lstOf, seqOf, unbox, below, belows, keyOf, noExc, isLB, addL, small64, exH, catches, noExcS, anyErr, aug2, b__law_how_1, h1, fndV, Std.fv, Move.val]
      rw [st]; simp [howL, q]
    | good =>
      rw [q] at h1
      cases al with
      | true =>
        have st : exs L C b__law_how_1 (gEnv (.tup [.str (nodeS true), .tup vs]) kn lo e k a3 (some p.val) a7 a8 a9) S = .next (gEnv (.tup [.str (nodeS true), .tup vs]) kn lo e k' a3 (some p.val) (some Std.good.fv) a8 a9) S := by
          simp [runFn, exs, exS, evs, evO, evC, isTy, HI.finish, finishX, fine, fines, unl, itemsOf, srcOf, bnd, sliceV, lstOf, seqOf, unbox, below, belows, keyOf, noExc, isLB, addL, small64, exH, catches, noExcS, anyErr, aug2, b__law_how_1, h1, fndV, Std.fv, nodeS]
        rw [st, SR.loop_next, ih]; simp [howL, q, hk']
      | false =>
        have st : exs L C b__law_how_1 (gEnv (.tup [.str (nodeS false), .tup vs]) kn lo e k a3 (some p.val) a7 a8 a9) S = .ret (fndV .good e) S := by
          simp [runFn, exs, exS, evs, evO, evC, isTy, HI.finish, finishX, fine, fines, unl, itemsOf, srcOf, bnd, sliceV, lstOf, seqOf, unbox, below, belows, keyOf, noExc, isLB, addL, small64, exH, catches, noExcS, anyErr, aug2, b__law_how_1, h1, fndV, Std.fv, nodeS]
        rw [st]; simp [howL, q]
    | failed =>
      rw [q] at h1
      cases al with
      | false =>
        have st : exs L C b__law_how_1 (gEnv (.tup [.str (nodeS false), .tup vs]) kn lo e k a3 (some p.val) a7 a8 a9) S = .next (gEnv (.tup [.str (nodeS false), .tup vs]) kn lo e k' a3 (some p.val) (some Std.failed.fv) a8 a9) S := by
          simp [runFn, exs, exS, evs, evO, evC, isTy, HI.finish, finishX, fine, fines, unl, itemsOf, srcOf, bnd, sliceV, lstOf, seqOf, unbox, below, belows, keyOf, noExc, isLB, addL, small64, exH, catches, noExcS, anyErr, aug2, b__law_how_1, h1, fndV, Std.fv, nodeS]
        rw [st, SR.loop_next, ih]; simp [howL, q, hk']
      | true =>
        have et : e - lo = n := by omega
        have s2 : ∀ a0 k a3 a6 a7 a8 a9, ev C (.comp (.one 9) (.range2 (.var 2) (.var 4)) (some q__law_how_1) e__law_how_1) (gEnv a0 kn lo e k a3 a6 a7 a8 a9) S = .ok (.lst ((triedIn kn lo n).map fun (k : Nat) => (Move.cancel k).val)) S := by
          intro a0 k a3 a6 a7 a8 a9
          refine lcomp_tried (by omega) hk rfl (by simp) ?_
          rw [← et]
          exact evIt_r2 (by simp) (by simp) (by omega) (by omega)
        have ex : exs L C b__law_how_1 (gEnv (.tup [.str (nodeS true), .tup vs]) kn lo e k a3 (some p.val) a7 a8 a9) S = .ret (fndV (howL kn true lo n (p :: ps) k) e) S := by
          cases t : (triedIn kn lo n).getLast? with
          | none =>
            have t' := List.getLast?_eq_none_iff.mp t
            simp [b__law_how_1, s2, runFn, exs, exS, evs, evO, evC, isTy, HI.finish, finishX, fine, fines, unl, itemsOf, srcOf, bnd, sliceV, lstOf, seqOf, unbox, below, belows, keyOf, noExc, isLB, addL, small64, exH, catches, noExcS, anyErr, aug2, h1, t', fndV, Std.fv, nodeS, howL, q, atI_last]
          | some j =>
            have t' : (triedIn kn lo n).isEmpty = false := by cases z : triedIn kn lo n with | nil => rw [z] at t; cases t | cons _ _ => rfl
            simp [b__law_how_1, s2, runFn, exs, exS, evs, evO, evC, isTy, HI.finish, finishX, fine, fines, unl, itemsOf, srcOf, bnd, sliceV, lstOf, seqOf, unbox, below, belows, keyOf, noExc, isLB, addL, small64, exH, catches, noExcS, anyErr, aug2, h1, t', fndV, Std.fv, nodeS, howL, q, atI_last, t]
        rw [ex]; simp
theorem below_fv (lo : Nat) (r : Std) : below lo r.fv = true := by
  cases r with
  | opn m => cases m <;> simp [Std.fv, Move.val, below, belows]
  | _ => rfl
theorem r__law_how [H__law_leaves T] [H__law_how T] (n : Nat) {kn : List Word} (hk : kn.length ≤ 1000) : ∀ (f : Nat) (e : Err), e.okd f = true → ∀ (k : Nat), k + e.leaves.length ≤ kn.length → ∀ S : Store,
    callF L T (n + 1 + f) (Str.ofString "_law_how") [e.val, knV kn, .int k] S = .ok (fndV (howE kn e k) (k + e.leaves.length)) S
  | 0, _, h, _, _, _ => by simp [Err.okd] at h
  | f + 1, .leaf a d, h, k, hl, S => by
    rw [← Nat.add_assoc, c__law_how]
    simp only [Err.leaves, List.length_cons, List.length_nil] at hl
    have e1 := kn_get (show k < kn.length by omega)
    simp only [knV, Err.val] at *
    simp only [howE, Err.leaves]
    generalize kn.getD k .new = w at e1 ⊢
    cases w <;> simp [runFn, exs, exS, evs, evO, evC, isTy, HI.finish, finishX, fine, fines, unl, itemsOf, srcOf, bnd, sliceV, lstOf, seqOf, unbox, below, belows, keyOf, noExc, isLB, addL, small64, exH, catches, noExcS, anyErr, aug2, f__law_how, e1, fndV, below_fv, isDK, Word.val, Word.s, mergeK, putK, HI.getK, leafStd, Std.fv, Move.val]
  | f + 1, .node al ps, h, k, hl, S => by
    rw [← Nat.add_assoc, c__law_how]
    have hlo := r__law_leaves (L := L) (T := T) n (f + 1) (.node al ps) h (Nat.le_trans (by omega) (show 1000 ≤ LIM by decide)) S
    rw [show n + (f + 1) = n + 1 + f from by omega] at hlo
    simp only [Err.okd, Bool.and_eq_true, List.all_eq_true, decide_eq_true_eq] at h
    simp only [Err.leaves] at hl
    have hf := lhow_for (L := L) (C := callF L T (n + 1 + f)) (kn := kn) (al := al) (vs := ps.map Err.val) (lo := k) (n := (leavesL ps).length) (S := S) (K := fun ρ' S' => exs L (callF L T (n + 1 + f)) r__law_how_1 ρ' S') rfl hl hk
      (fun k' a3 a4 a7 a8 a9 => by cases al <;> simp [runFn, exs, exS, evs, evO, evC, isTy, HI.finish, finishX, fine, fines, unl, itemsOf, srcOf, bnd, sliceV, lstOf, seqOf, unbox, below, belows, keyOf, noExc, isLB, addL, small64, exH, catches, noExcS, anyErr, aug2, r__law_how_1, fndV, Std.fv, nodeS]) ps k hl (fun p hp k' hk' => r__law_how n hk f p (h.2 p hp) k' hk' S) none none none none none
    simp only [Err.val, vals_eq, Err.leaves] at hlo
    have hh : exs L (callF L T (n + 1 + f)) f__law_how.body [some (.tup [.str (nodeS al), .tup (ps.map Err.val)]), some (knV kn), some (.int k), none, none, none, none, none, none, none] S = .ret (fndV (howL kn al k (leavesL ps).length ps k) (k + (leavesL ps).length)) S := by
      rw [← hf]
      have he : (k : Int) + ((leavesL ps).length : Int) = ((k + (leavesL ps).length : Nat) : Int) := by simp
      generalize k + (leavesL ps).length = e at he ⊢
      simp [runFn, exs, exS, evs, evO, evC, isTy, HI.finish, finishX, fine, fines, unl, itemsOf, srcOf, bnd, sliceV, lstOf, seqOf, unbox, below, belows, keyOf, noExc, isLB, addL, small64, exH, catches, noExcS, anyErr, aug2, f__law_how, node_ne, hlo, he]
    refine (run_ret _ rfl (by simp only [Err.val, vals_eq]; rfl) hh).trans ?_
    simp [runFn, exs, exS, evs, evO, evC, isTy, HI.finish, finishX, fine, fines, unl, itemsOf, srcOf, bnd, sliceV, lstOf, seqOf, unbox, below, belows, keyOf, noExc, isLB, addL, small64, exH, catches, noExcS, anyErr, aug2, fndV, below_fv, Err.leaves, f__law_how, howE]
def nextV : Std → Val
  | .opn m => m.val
  | .good => .tup [.str (Str.ofString "sure")]
  | .failed => .tup [.str (Str.ofString "not")]
theorem r__law_next [H__law_leaves T] [H__law_how T] [H__law_next T] (n : Nat) {kn : List Word} (hk : kn.length ≤ 1000) {f : Nat} {e : Err} (h : e.okd f = true) (hl : e.leaves.length ≤ kn.length) (S : Store) :
    callF L T (n + 2 + f) (Str.ofString "_law_next") [e.val, knV kn] S = .ok (nextV (howE kn e 0)) S := by
  rw [show n + 2 + f = (n + 1 + f) + 1 from by omega, c__law_next]
  have e1 := r__law_how (L := L) (T := T) n hk f e h 0 (by omega) S
  rw [show ((0 : Nat) : Int) = 0 from rfl] at e1
  generalize howE kn e 0 = r at e1 ⊢
  cases r with
  | opn m => cases m <;> simp [runFn, exs, exS, evs, evO, evC, isTy, HI.finish, finishX, fine, fines, unl, itemsOf, srcOf, bnd, sliceV, lstOf, seqOf, unbox, below, belows, keyOf, noExc, isLB, addL, small64, exH, catches, noExcS, anyErr, aug2, f__law_next, e1, fndV, Std.fv, nextV, Move.val]
  | good => simp [runFn, exs, exS, evs, evO, evC, isTy, HI.finish, finishX, fine, fines, unl, itemsOf, srcOf, bnd, sliceV, lstOf, seqOf, unbox, below, belows, keyOf, noExc, isLB, addL, small64, exH, catches, noExcS, anyErr, aug2, f__law_next, e1, fndV, Std.fv, nextV]
  | failed => simp [runFn, exs, exS, evs, evO, evC, isTy, HI.finish, finishX, fine, fines, unl, itemsOf, srcOf, bnd, sliceV, lstOf, seqOf, unbox, below, belows, keyOf, noExc, isLB, addL, small64, exH, catches, noExcS, anyErr, aug2, f__law_next, e1, fndV, Std.fv, nextV]
theorem r_next_of [H_leaves_of T] [H_of_leaf T] [H_how T] [H_next_of T] (n : Nat) {kn : List Word} (hk : kn.length ≤ 1000) {f : Nat} {e : Err} (h : e.okd f = true) (hl : e.leaves.length ≤ kn.length) (S : Store) :
    callF L T (n + 2 + f) (Str.ofString "next_of") [e.val, knV kn] S = .ok (nextV (howE kn e 0)) S := by
  rw [show n + 2 + f = (n + 1 + f) + 1 from by omega, c_next_of]
  have e1 := r_how (L := L) (T := T) n hk f e h 0 (by omega) S
  rw [show ((0 : Nat) : Int) = 0 from rfl] at e1
  generalize howE kn e 0 = r at e1 ⊢
  cases r <;> simp [runFn, exs, exS, evs, evO, evC, isTy, HI.finish, finishX, fine, fines, unl, itemsOf, srcOf, bnd, sliceV, lstOf, seqOf, unbox, below, belows, keyOf, noExc, isLB, addL, small64, exH, catches, noExcS, anyErr, aug2, f_next_of, e1, stdV, Std.s, Std.mv, nextV]
theorem r_look [H_is_within T] [H_is_word T] [H_is_deed T] [H_leaves_left T] [H_is_errand T] [H_look T] (n : Nat) {e : Err} (he : e.Ok) (S : Store) : callF L T (n + 9) (Str.ofString "look") [e.val] S = .ok .non S := by
  rw [c_look]
  have e1 := r_is_errand (L := L) (T := T) n he S
  simp [runFn, exs, exS, evs, evO, evC, isTy, HI.finish, finishX, fine, fines, unl, itemsOf, srcOf, bnd, sliceV, lstOf, seqOf, unbox, below, belows, keyOf, noExc, isLB, addL, small64, exH, catches, noExcS, anyErr, aug2, f_look, e1]
theorem r_leaves [H_is_within T] [H_is_word T] [H_is_deed T] [H_leaves_left T] [H_is_errand T] [H_look T] [H_leaves_of T] [H_leaves T] (n : Nat) {e : Err} (he : e.Ok) (S : Store) : callF L T (n + 10) (Str.ofString "leaves") [e.val] S = .ok (.lst (e.leaves.map leafV)) S := by
  rw [c_leaves]
  have e1 := r_look (L := L) (T := T) n he S
  have e2 := r_leaves_of (L := L) (T := T) (n + 5) 4 e he.deep (Nat.le_trans he.few (by decide)) S
  simp [runFn, exs, exS, evs, evO, evC, isTy, HI.finish, finishX, fine, fines, unl, itemsOf, srcOf, bnd, sliceV, lstOf, seqOf, unbox, below, belows, keyOf, noExc, isLB, addL, small64, exH, catches, noExcS, anyErr, aug2, f_leaves, e1, e2]
theorem word_in (w : Word) : [Str.ofString "new", Str.ofString "tried", Str.ofString "refused", Str.ofString "doubt", Str.ofString "gone", Str.ofString "left"].contains w.s = true := by
  cases w <;> simp [Word.s]
theorem word_fine (w : Word) : fine 60 (.str w.s) = true := by cases w <;> simp [Word.s, fine]
theorem r_look_known [H_is_within T] [H_is_word T] [H_is_deed T] [H_leaves_left T] [H_is_errand T] [H_look T] [H_leaves_of T] [H_look_known T] (n : Nat) {e : Err} (he : e.Ok) {kn : List Word} (hk : kn.length = e.leaves.length) (S : Store) : callF L T (n + 10) (Str.ofString "look_known") [e.val, knV kn] S = .ok .non S := by
  rw [c_look_known]
  have e1 := r_look (L := L) (T := T) n he S
  have e2 := r_leaves_of (L := L) (T := T) (n + 5) 4 e he.deep (Nat.le_trans he.few (by decide)) S
  have ec : ∀ a2, ev (callF L T (n + 9)) (.comp (.one 2) (.seq (.var 1)) (some q_look_known_1) (.var 2)) [some e.val, some (knV kn), a2] S = .ok (.lst []) S := fun a2 => by
    have := ev_comp (C := callF L T (n + 9)) (tg := .one 2) (it := .seq (.var 1)) (cond := some q_look_known_1) (elt := .var 2) (ρ := [some e.val, some (knV kn), a2]) (S := S) (val := Word.val) (as := kn) (src := []) (fun _ => false) (fun w => w.val) (by simp [runFn, exs, exS, evs, evO, evC, isTy, HI.finish, finishX, fine, fines, unl, itemsOf, srcOf, bnd, sliceV, lstOf, seqOf, unbox, below, belows, keyOf, noExc, isLB, addL, small64, exH, catches, noExcS, anyErr, aug2, knV]) trivial (by rw [hk]; exact Nat.le_trans he.few (by decide)) fun w _ => ⟨_, rfl, by
      have h1 := word_in w
      have h2 := word_fine w
      simp only [List.set_cons_succ, List.set_cons_zero, evC, q_look_known_1, evT_or, evT_not, evT_isI, evT_inG, ev_isI, ev_var, ev_inG, List.getElem?_cons_succ, List.getElem?_cons_zero, Res.bind_ok, Word.val, h1, h2, if_true, isi_str, isTy, List.any_cons, List.any_nil]
      simp [noExc], fun z => by cases z⟩
    rw [this, show kn.filter (fun _ => false) = [] from List.filter_eq_nil_iff.mpr (by simp)]; rfl
  simp only [knV] at ec e1 ⊢
  simp [runFn, exs, exS, evs, evO, evC, isTy, HI.finish, finishX, fine, fines, unl, itemsOf, srcOf, bnd, sliceV, lstOf, seqOf, unbox, below, belows, keyOf, noExc, isLB, addL, small64, exH, catches, noExcS, anyErr, aug2, f_look_known, e1, e2, ec, hk]
theorem r_next_move [H_is_within T] [H_is_word T] [H_is_deed T] [H_leaves_left T] [H_is_errand T] [H_look T] [H_leaves_of T] [H_look_known T] [H_of_leaf T] [H_how T] [H_next_of T] [H_next_move T] (n : Nat) {e : Err} (he : e.Ok) {kn : List Word} (hk : kn.length = e.leaves.length) (S : Store) :
    callF L T (n + 11) (Str.ofString "next_move") [e.val, knV kn] S = .ok (nextV (howE kn e 0)) S := by
  rw [c_next_move]
  have e1 := r_look_known (L := L) (T := T) n he hk S
  have e2 := r_next_of (L := L) (T := T) (n + 4) (f := 4) (kn := kn) (by have := he.few; omega) he.deep (by omega) S
  simp [runFn, exs, exS, evs, evO, evC, isTy, HI.finish, finishX, fine, fines, unl, itemsOf, srcOf, bnd, sliceV, lstOf, seqOf, unbox, below, belows, keyOf, noExc, isLB, addL, small64, exH, catches, noExcS, anyErr, aug2, f_next_move, e1, e2]
def chosenE (kn : List Word) : List Nat := (List.range kn.length).filter fun k => decide (kn[k]? = some .tried)
theorem enum_eq (kn : List Word) : ∀ k, enumV (kn.map Word.val) k = ((List.range' k kn.length).zip kn).map fun p => Val.tup [.int ((p.1 : Nat) : Int), p.2.val] := by
  induction kn with
  | nil => intro k; rfl
  | cons w kn ih => intro k; simp only [List.map_cons, enumV, ih, List.length_cons, List.range'_succ, List.zip_cons_cons]
theorem zip_tried (kn : List Word) : ∀ k, (((List.range' k kn.length).zip kn).filter fun p => decide (p.2 = .tried)).map (fun p => Val.int ((p.1 : Nat) : Int)) = ((List.range' k kn.length).filter fun j => decide (kn[j - k]? = some .tried)).map fun (j : Nat) => Val.int j := by
  induction kn with
  | nil => intro k; rfl
  | cons w kn ih =>
    intro k
    simp only [List.length_cons, List.range'_succ, List.zip_cons_cons, List.filter_cons]
    have e : ∀ j ∈ List.range' (k + 1) kn.length, decide ((w :: kn)[j - k]? = some Word.tried) = decide (kn[j - (k + 1)]? = some Word.tried) := by
      intro j hj
      simp only [List.mem_range'_1] at hj
      rw [show j - k = (j - (k + 1)) + 1 from by omega]
      simp
    rw [List.filter_congr e]
    by_cases h : w = .tried <;> simp [h, ih]
theorem r_chosen [H_is_within T] [H_is_word T] [H_is_deed T] [H_leaves_left T] [H_is_errand T] [H_look T] [H_leaves_of T] [H_look_known T] [H_chosen T] (n : Nat) {e : Err} (he : e.Ok) {kn : List Word} (hk : kn.length = e.leaves.length) (S : Store) :
    callF L T (n + 11) (Str.ofString "chosen") [e.val, knV kn] S = .ok (.lst ((chosenE kn).map fun (k : Nat) => Val.int k)) S := by
  rw [c_chosen]
  have e1 := r_look_known (L := L) (T := T) n he hk S
  have ec : ∀ a2 a3, ev (callF L T (n + 10)) (.comp (.tup [.one 2, .one 3]) (.enum (.var 1)) (some q_chosen_1) (.var 2)) [some e.val, some (knV kn), a2, a3] S = .ok (.lst ((chosenE kn).map fun (k : Nat) => Val.int k)) S := fun a2 a3 => by
    have := ev_comp (C := callF L T (n + 10)) (tg := .tup [.one 2, .one 3]) (it := .enum (.var 1)) (cond := some q_chosen_1) (elt := .var 2) (ρ := [some e.val, some (knV kn), a2, a3]) (S := S) (val := fun p : Nat × Word => Val.tup [.int ((p.1 : Nat) : Int), p.2.val]) (as := (List.range' 0 kn.length).zip kn) (src := []) (fun p => decide (p.2 = .tried)) (fun p => .int (p.1 : Nat)) (by simp [runFn, exs, exS, evs, evO, evC, isTy, HI.finish, finishX, fine, fines, unl, itemsOf, srcOf, bnd, sliceV, lstOf, seqOf, unbox, below, belows, keyOf, noExc, isLB, addL, small64, exH, catches, noExcS, anyErr, aug2, knV, enum_eq]) trivial (by simp [hk]; exact Nat.le_trans he.few (by decide)) fun w _ => ⟨_, rfl, by simp [runFn, exs, exS, evs, evO, evC, isTy, HI.finish, finishX, fine, fines, unl, itemsOf, srcOf, bnd, sliceV, lstOf, seqOf, unbox, below, belows, keyOf, noExc, isLB, addL, small64, exH, catches, noExcS, anyErr, aug2, q_chosen_1, Word.val, word_tried], fun z => by simp [runFn, exs, exS, evs, evO, evC, isTy, HI.finish, finishX, fine, fines, unl, itemsOf, srcOf, bnd, sliceV, lstOf, seqOf, unbox, below, belows, keyOf, noExc, isLB, addL, small64, exH, catches, noExcS, anyErr, aug2]⟩
    rw [this, zip_tried]
    simp [chosenE, List.range_eq_range']
  simp [runFn, exs, exS, evs, evO, evC, isTy, HI.finish, finishX, fine, fines, unl, itemsOf, srcOf, bnd, sliceV, lstOf, seqOf, unbox, below, belows, keyOf, noExc, isLB, addL, small64, exH, catches, noExcS, anyErr, aug2, f_chosen, e1, ec]
end HM
set_option Elab.async false
set_option linter.all false
set_option maxRecDepth 100000
set_option maxHeartbeats 0
namespace HM
open PySem HI HP
variable {L : Nat} {T : Tab}
def cell (ns : List Int) (i : Int) : Int := ns.getD i.toNat 0
theorem r_cell [H__law_cell T] (n : Nat) (ns : List Int) (i : Int) (hi : 0 ≤ i) (S : Store) : callF L T (n + 1) (Str.ofString "_law_cell") [.scr ns, .int i] S = .ok (.int (cell ns i)) S := by
  rw [c__law_cell]
  obtain ⟨k, rfl⟩ := Int.eq_ofNat_of_zero_le hi
  by_cases h : k < ns.length
  · have h' : (k : Int) < (ns.length : Int) := by omega
    simp [runFn, exs, exS, evs, evO, evC, isTy, HI.finish, finishX, fine, fines, unl, itemsOf, srcOf, bnd, sliceV, lstOf, seqOf, unbox, below, belows, keyOf, noExc, isLB, addL, small64, exH, catches, noExcS, anyErr, aug2, f__law_cell, h, h', cell, atI_nat]
  · have h' : ¬ (k : Int) < (ns.length : Int) := by omega
    simp [runFn, exs, exS, evs, evO, evC, isTy, HI.finish, finishX, fine, fines, unl, itemsOf, srcOf, bnd, sliceV, lstOf, seqOf, unbox, below, belows, keyOf, noExc, isLB, addL, small64, exH, catches, noExcS, anyErr, aug2, f__law_cell, h, h', cell]
def seedF (s k : Int) : Int := ((s * 1103515245 + 7919 * k + 12345) % 2147483647) ^ 5 % 2147483647
def pickF (s m : Int) : Int := s / 97 % m
def mixF (c p m : Int) : Int := (c * 48271 % p) ^ 3 % p % m
theorem seedF_nonneg (s k : Int) : 0 ≤ seedF s k := Int.emod_nonneg _ (by decide)
theorem bits_mod {a b : Int} (hb : 0 < b) (h : b < 2 ^ 64) {k : Int} (hk : 0 ≤ k) (hk8 : k ≤ 8) : (PySem.Builtin.Int.intBits (a % b) : Int) * k ≤ 134217728 := by
  have h1 := Int.emod_nonneg a (b := b) (by omega)
  have h2 := Int.emod_lt_of_pos a hb
  have := PyProof.Rows.intBits_le (a := a % b) (k := 64) (by omega)
  have h3 : (PySem.Builtin.Int.intBits (a % b) : Int) ≤ 64 := by omega
  calc (PySem.Builtin.Int.intBits (a % b) : Int) * k ≤ 64 * k := Int.mul_le_mul_of_nonneg_right h3 hk
    _ ≤ 134217728 := by omega
theorem r_seed [H__law_seed T] (n : Nat) (s k : Int) (S : Store) : callF L T (n + 1) (Str.ofString "_law_seed") [.int s, .int k] S = .ok (.int (seedF s k)) S := by
  rw [c__law_seed]
  have h := bits_mod (a := s * 1103515245 + 7919 * k + 12345) (b := 2147483647) (by decide) (by decide) (k := 5) (by decide) (by decide)
  simp [runFn, exs, exS, evs, evO, evC, isTy, HI.finish, finishX, fine, fines, unl, itemsOf, srcOf, bnd, sliceV, lstOf, seqOf, unbox, below, belows, keyOf, noExc, isLB, addL, small64, exH, catches, noExcS, anyErr, aug2, f__law_seed, h, seedF]
theorem r_pick [H__law_pick T] (n : Nat) (s : Int) {m : Int} (hm : 0 < m) (S : Store) : callF L T (n + 1) (Str.ofString "_law_pick") [.int s, .int m] S = .ok (.int (pickF s m)) S := by
  rw [c__law_pick]
  simp [runFn, exs, exS, evs, evO, evC, isTy, HI.finish, finishX, fine, fines, unl, itemsOf, srcOf, bnd, sliceV, lstOf, seqOf, unbox, below, belows, keyOf, noExc, isLB, addL, small64, exH, catches, noExcS, anyErr, aug2, f__law_pick, hm, pickF]
theorem r_mix [H__law_mix T] (n : Nat) (c : Int) {p m : Int} (hp : 0 < p) (hp' : p < 2 ^ 64) (hm : 0 < m) (S : Store) : callF L T (n + 1) (Str.ofString "_law_mix") [.int c, .int p, .int m] S = .ok (.int (mixF c p m)) S := by
  rw [c__law_mix]
  have h := bits_mod (a := c * 48271) (b := p) hp hp' (k := 3) (by decide) (by decide)
  simp [runFn, exs, exS, evs, evO, evC, isTy, HI.finish, finishX, fine, fines, unl, itemsOf, srcOf, bnd, sliceV, lstOf, seqOf, unbox, below, belows, keyOf, noExc, isLB, addL, small64, exH, catches, noExcS, anyErr, aug2, f__law_mix, h, hp, hm, mixF]
theorem mod_range (a : Int) {m : Int} (hm : 0 < m) : 0 ≤ a % m ∧ a % m < m := ⟨Int.emod_nonneg _ (by omega), Int.emod_lt_of_pos _ hm⟩
theorem pick_range (a : Int) {m : Int} (hm : 0 < m) : 0 ≤ pickF a m ∧ pickF a m < m := mod_range _ hm
theorem mix_range (a p : Int) {m : Int} (hm : 0 < m) : 0 ≤ mixF a p m ∧ mixF a p m < m := mod_range _ hm
theorem atI_ix {α β : Type} (f : α → β) (l : List α) (d : α) {i : Int} (h : 0 ≤ i ∧ i < l.length) : L2.atI (l.map f) i = some (f (l.getD i.toNat d)) := by
  obtain ⟨k, rfl⟩ := Int.eq_ofNat_of_zero_le h.1
  have : k < l.length := by omega
  rw [atI_nat]
  simp [this]
def KEYS9 : List Str := [Str.ofString "a", Str.ofString "b", Str.ofString "c", Str.ofString "d", Str.ofString "a", Str.ofString "b", Str.ofString "q", Str.ofString "mmmm", Str.ofString "z"]
def WORDS6 : List (Option Kind) := [some .take, some .give, some .take, some .give, some .need, none]
def wd : Option Kind → Str
  | some k => k.s
  | none => Str.ofString "note"
def deedKey (s : Int) : Str := KEYS9.getD (pickF s 9).toNat (Str.ofString "a")
def deedMany (s : Int) : Int := [1 + s / 7 % 4, 1 + s / 7 % 9, 1 + s / 7 % 999].getD (s / 11 % 3).toNat 1
def deedOf (s : Int) : Deed := match WORDS6.getD (s / 13 % 6).toNat none with
  | some k => .act k (deedKey s) (deedMany s)
  | none => .note (deedKey s)
theorem r_deed [H__law_pick T] [H__law_deed T] (n : Nat) (s : Int) (S : Store) : callF L T (n + 2) (Str.ofString "_law_deed") [.int s] S = .ok (deedOf s).val S := by
  rw [c__law_deed]
  have e1 := r_pick (L := L) (T := T) n s (m := 9) (by decide) S
  have e2 := atI_ix Val.str KEYS9 (Str.ofString "a") (i := pickF s 9) (pick_range s (by decide))
  have e3 := atI_ix Val.int [1 + s / 7 % 4, 1 + s / 7 % 9, 1 + s / 7 % 999] 1 (i := s / 11 % 3) (mod_range _ (by decide))
  have e4 := atI_ix (fun w => Val.str (wd w)) WORDS6 none (i := s / 13 % 6) (mod_range _ (by decide))
  unfold deedOf deedKey deedMany
  generalize KEYS9.getD (pickF s 9).toNat (Str.ofString "a") = kk at e2 ⊢
  generalize [1 + s / 7 % 4, 1 + s / 7 % 9, 1 + s / 7 % 999].getD (s / 11 % 3).toNat 1 = mm at e3 ⊢
  generalize WORDS6.getD (s / 13 % 6).toNat none = ww at e4 ⊢
  simp only [KEYS9, WORDS6, List.map_cons, List.map_nil, wd, Kind.s] at e2 e3 e4
  cases ww with
  | none => simp [runFn, exs, exS, evs, evO, evC, isTy, HI.finish, finishX, fine, fines, unl, itemsOf, srcOf, bnd, sliceV, lstOf, seqOf, unbox, below, belows, keyOf, noExc, isLB, addL, small64, exH, catches, noExcS, anyErr, aug2, f__law_deed, e1, e2, e3, e4, Deed.val]
  | some k => cases k <;> simp [runFn, exs, exS, evs, evO, evC, isTy, HI.finish, finishX, fine, fines, unl, itemsOf, srcOf, bnd, sliceV, lstOf, seqOf, unbox, below, belows, keyOf, noExc, isLB, addL, small64, exH, catches, noExcS, anyErr, aug2, f__law_deed, e1, e2, e3, e4, Deed.val, Kind.s]
theorem keys9_ok {k : Str} (h : k ∈ KEYS9) : wordB k = true := by
  have : KEYS9.all wordB = true := by decide +kernel
  exact List.all_eq_true.mp this k h
theorem getD_mem {α : Type} {l : List α} {d : α} {i : Nat} (h : i < l.length) : l.getD i d ∈ l := by
  rw [List.getD_eq_getElem?_getD, List.getElem?_eq_getElem h]; exact List.getElem_mem h
theorem deedKey_mem (s : Int) : deedKey s ∈ KEYS9 := by
  have h := pick_range s (m := 9) (by decide)
  exact getD_mem (by simp only [KEYS9, List.length_cons, List.length_nil]; omega)
theorem deedMany_range (s : Int) : 1 ≤ deedMany s ∧ deedMany s ≤ 999 := by
  have h := mod_range (s / 11) (m := 3) (by decide)
  have h1 := mod_range (s / 7) (m := 4) (by decide)
  have h2 := mod_range (s / 7) (m := 9) (by decide)
  have h3 := mod_range (s / 7) (m := 999) (by decide)
  have hm : deedMany s ∈ [1 + s / 7 % 4, 1 + s / 7 % 9, 1 + s / 7 % 999] := getD_mem (by simp only [List.length_cons, List.length_nil]; omega)
  simp only [List.mem_cons, List.mem_nil_iff, or_false] at hm
  omega
theorem deedOf_ok (s : Int) : (deedOf s).ok = true := by
  unfold deedOf
  have h1 := keys9_ok (deedKey_mem s)
  have h2 := deedMany_range s
  split <;> simp [Deed.ok, h1, h2]
def leafOf (s houses : Int) : Err := .leaf (pickF (seedF s 3) houses) (deedOf (seedF s 4))
theorem r_leaf [H__law_seed T] [H__law_pick T] [H__law_deed T] [H__law_leaf T] (n : Nat) (s : Int) {houses : Int} (hh : 0 < houses) (S : Store) : callF L T (n + 3) (Str.ofString "_law_leaf") [.int s, .int houses] S = .ok (leafOf s houses).val S := by
  rw [c__law_leaf]
  have e1 := r_seed (L := L) (T := T) (n + 1) s 3 S
  have e2 := r_seed (L := L) (T := T) (n + 1) s 4 S
  have e3 := r_pick (L := L) (T := T) (n + 1) (seedF s 3) hh S
  have e4 := r_deed (L := L) (T := T) n (seedF s 4) S
  simp [runFn, exs, exS, evs, evO, evC, isTy, HI.finish, finishX, fine, fines, unl, itemsOf, srcOf, bnd, sliceV, lstOf, seqOf, unbox, below, belows, keyOf, noExc, isLB, addL, small64, exH, catches, noExcS, anyErr, aug2, f__law_leaf, e1, e2, e3, e4, leafOf, Err.val]
theorem leafOf_ok (s : Int) {houses : Int} (hh : 0 < houses) (h5 : houses ≤ 5) (f : Nat) : (leafOf s houses).okd (f + 1) = true := by
  have := pick_range (seedF s 3) hh
  simp [leafOf, Err.okd, deedOf_ok]
  omega
def genStep (g : Int → Int → Err × Int) (seed : Int) (a : List Err × Int) (k : Nat) : List Err × Int := if 0 < a.2 then (a.1 ++ [(g (seedF seed (10 + k)) a.2).1], (g (seedF seed (10 + k)) a.2).2) else a
def isAll (s : Int) : Bool := [true, false, true].getD (s / 11 % 3).toNat true
def genE (houses : Int) : Nat → Int → Int → Err × Int
  | 0, s, left => (leafOf s houses, left - 1)
  | d + 1, s, left => if d = 0 ∨ left = 1 ∨ pickF s 4 = 0 then (leafOf s houses, left - 1)
    else (.node (isAll s) ((List.range (1 + s / 7 % 4).toNat).foldl (genStep (genE houses d) s) ([], left)).1, ((List.range (1 + s / 7 % 4).toNat).foldl (genStep (genE houses d) s) ([], left)).2)
mutual
theorem below_err (lo : Nat) : ∀ e : Err, below lo e.val = true
  | .leaf h d => by cases d <;> simp [Err.val, Deed.val, below, belows]
  | .node al ps => by simp [Err.val, below, belows]; rw [← vals_eq]; exact belows_err lo ps
theorem belows_err (lo : Nat) : ∀ es : List Err, belows lo (vals es) = true
  | [] => by simp [vals, belows]
  | e :: es => by simp only [vals, belows, below_err lo e, belows_err lo es]; rfl
end
theorem gen_for {C : CallT} {S : Store} {seed houses d : Int} {g : Int → Int → Err × Int} (hs : ∀ (k : Nat) S, C (Str.ofString "_law_seed") [.int seed, .int (10 + k)] S = .ok (.int (seedF seed (10 + k))) S)
    (hg : ∀ s l S, 0 < l → C (Str.ofString "_law_errand") [.int s, .int houses, .int (d - 1), .int l] S = .ok (.tup [(g s l).1.val, .int (g s l).2]) S) : ∀ (ks : List Nat) (acc : List Err) (left : Int) (a5 a6 : Option Val), acc.length + ks.length ≤ 100 → ∃ b5 b6,
    forGo [] (.one 5) (fun ρ' S' => exs L C b__law_errand_1 ρ' S') (ks.map fun (k : Nat) => Val.int k) [some (.int seed), some (.int houses), some (.int d), some (.int left), some (.loc S.length), a5, a6] (S ++ [.list (acc.map Err.val)]) =
      .next [some (.int seed), some (.int houses), some (.int d), some (.int (ks.foldl (genStep g seed) (acc, left)).2), some (.loc S.length), b5, b6] (S ++ [.list ((ks.foldl (genStep g seed) (acc, left)).1.map Err.val)])
  | [], acc, left, a5, a6, _ => ⟨a5, a6, by simp [forGo]⟩
  | k :: ks, acc, left, a5, a6, hl => by
    simp only [List.length_cons] at hl
    by_cases h : 0 < left
    · have st : exs L C b__law_errand_1 [some (.int seed), some (.int houses), some (.int d), some (.int left), some (.loc S.length), some (.int k), a6] (S ++ [.list (acc.map Err.val)]) = .next [some (.int seed), some (.int houses), some (.int d), some (.int (g (seedF seed (10 + k)) left).2), some (.loc S.length), some (.int k), some (g (seedF seed (10 + k)) left).1.val] (S ++ [.list ((acc ++ [(g (seedF seed (10 + k)) left).1]).map Err.val)]) := by
        have h1 := hs k
        have h2 := fun S => hg (seedF seed (10 + k)) left S h
        have h3 : acc.length + 1 ≤ LIM := Nat.le_trans (by omega) (show 100 ≤ LIM by decide)
        simp [runFn, exs, exS, evs, evO, evC, isTy, HI.finish, finishX, fine, fines, unl, itemsOf, srcOf, bnd, sliceV, lstOf, seqOf, unbox, below, belows, keyOf, noExc, isLB, addL, small64, exH, catches, noExcS, anyErr, aug2, b__law_errand_1, h, h1, h2, h3]
      obtain ⟨b5, b6, e⟩ := gen_for (S := S) hs hg ks (acc ++ [(g (seedF seed (10 + k)) left).1]) (g (seedF seed (10 + k)) left).2 (some (.int k)) (some (g (seedF seed (10 + k)) left).1.val) (by simp; omega)
      refine ⟨b5, b6, ?_⟩
      simp only [List.map_cons, forGo, guardS_nil, asgT_one, List.set_cons_succ, List.set_cons_zero, st, SR.loop_next, e, List.foldl_cons]
      simp only [genStep, h, if_true]
    · have st : exs L C b__law_errand_1 [some (.int seed), some (.int houses), some (.int d), some (.int left), some (.loc S.length), some (.int k), a6] (S ++ [.list (acc.map Err.val)]) = .next [some (.int seed), some (.int houses), some (.int d), some (.int left), some (.loc S.length), some (.int k), a6] (S ++ [.list (acc.map Err.val)]) := by
        simp [runFn, exs, exS, evs, evO, evC, isTy, HI.finish, finishX, fine, fines, unl, itemsOf, srcOf, bnd, sliceV, lstOf, seqOf, unbox, below, belows, keyOf, noExc, isLB, addL, small64, exH, catches, noExcS, anyErr, aug2, b__law_errand_1, h]
      obtain ⟨b5, b6, e⟩ := gen_for (S := S) hs hg ks acc left (some (.int k)) a6 (by omega)
      refine ⟨b5, b6, ?_⟩
      simp only [List.map_cons, forGo, guardS_nil, asgT_one, List.set_cons_succ, List.set_cons_zero, st, SR.loop_next, e, List.foldl_cons]
      simp only [genStep, h, if_false]
theorem r_errand [H__law_seed T] [H__law_pick T] [H__law_deed T] [H__law_leaf T] [H__law_errand T] {houses : Int} (hh : 0 < houses) (n : Nat) : ∀ (d : Nat) (s left : Int) (S : Store), 1 ≤ d → 0 < left → callF L T (n + 4 + d) (Str.ofString "_law_errand") [.int s, .int houses, .int d, .int left] S = .ok (.tup [(genE houses d s left).1.val, .int (genE houses d s left).2]) S
  | 0, _, _, _, h, _ => by omega
  | d + 1, s, left, S, _, hl => by
    rw [← Nat.add_assoc, c__law_errand]
    have e1 := r_pick (L := L) (T := T) (n + 3 + d) s (m := 4) (by decide) S
    have e2 := r_leaf (L := L) (T := T) (n + 1 + d) s hh S
    rw [show n + 3 + d + 1 = n + 4 + d from by omega] at e1
    rw [show n + 1 + d + 3 = n + 4 + d from by omega] at e2
    by_cases hc : d = 0 ∨ left = 1 ∨ pickF s 4 = 0
    · simp only [genE, hc, if_true]
      rcases hc with rfl | rfl | hc
      · simp [runFn, exs, exS, evs, evO, evC, isTy, HI.finish, finishX, fine, fines, unl, itemsOf, srcOf, bnd, sliceV, lstOf, seqOf, unbox, below, belows, keyOf, noExc, isLB, addL, small64, exH, catches, noExcS, anyErr, aug2, f__law_errand, e2, below_err]
      · by_cases h0 : (d : Int) + 1 = 1 <;> simp [runFn, exs, exS, evs, evO, evC, isTy, HI.finish, finishX, fine, fines, unl, itemsOf, srcOf, bnd, sliceV, lstOf, seqOf, unbox, below, belows, keyOf, noExc, isLB, addL, small64, exH, catches, noExcS, anyErr, aug2, f__law_errand, e1, e2, below_err, h0]
      · by_cases h0 : (d : Int) + 1 = 1
        · simp [runFn, exs, exS, evs, evO, evC, isTy, HI.finish, finishX, fine, fines, unl, itemsOf, srcOf, bnd, sliceV, lstOf, seqOf, unbox, below, belows, keyOf, noExc, isLB, addL, small64, exH, catches, noExcS, anyErr, aug2, f__law_errand, e1, e2, below_err, h0]
        · by_cases h1 : left = 1 <;> simp [runFn, exs, exS, evs, evO, evC, isTy, HI.finish, finishX, fine, fines, unl, itemsOf, srcOf, bnd, sliceV, lstOf, seqOf, unbox, below, belows, keyOf, noExc, isLB, addL, small64, exH, catches, noExcS, anyErr, aug2, f__law_errand, e1, e2, below_err, h0, h1, hc]
    · simp only [genE, hc, if_false]
      simp only [not_or] at hc
      have h0 : ¬ ((d : Int) + 1 = 1) := by omega
      obtain ⟨b5, b6, ef⟩ := gen_for (L := L) (C := callF L T (n + 4 + d)) (S := S) (seed := s) (houses := houses) (d := (d : Int) + 1) (g := genE houses d) (fun k S => by
          rw [show n + 4 + d = (n + 3 + d) + 1 from by omega]
          exact r_seed _ _ _ S) (fun s l S hl => by
          rw [show (d : Int) + 1 - 1 = (d : Int) from by omega]
          exact r_errand hh n d s l S (by omega) hl) (List.range (1 + s / 7 % 4).toNat) [] left none none (by
            have := mod_range (s / 7) (m := 4) (by decide)
            simp; omega)
      have hr : evIt (callF L T (n + 4 + d)) (.range1 (.bin .add (.lit (.int 1)) (.bin .mod (.bin .fdiv (.var 0) (.lit (.int 7))) (.lit (.int 4))))) [some (.int s), some (.int houses), some (.int ((d : Int) + 1)), some (.int left), some (.loc S.length), none, none] (S ++ [.list []]) = .ok ((List.range (1 + s / 7 % 4).toNat).map fun (k : Nat) => Val.int k, []) (S ++ [.list []]) := by
        have hm := mod_range (s / 7) (m := 4) (by decide)
        refine evIt_r1 (i := (1 + s / 7 % 4).toNat) ?_ (by omega)
        rw [show (((1 + s / 7 % 4).toNat : Nat) : Int) = 1 + s / 7 % 4 from by omega]
        simp [runFn, exs, exS, evs, evO, evC, isTy, HI.finish, finishX, fine, fines, unl, itemsOf, srcOf, bnd, sliceV, lstOf, seqOf, unbox, below, belows, keyOf, noExc, isLB, addL, small64, exH, catches, noExcS, anyErr, aug2]
      have e5 := atI_ix (fun b => Val.str (nodeS b)) [true, false, true] true (i := s / 11 % 3) (mod_range _ (by decide))
      unfold isAll
      generalize [true, false, true].getD (s / 11 % 3).toNat true = bb at e5 ⊢
      simp only [List.map_cons, List.map_nil, nodeS, if_true, Bool.false_eq_true, if_false] at e5
      generalize (List.range (1 + s / 7 % 4).toNat).foldl (genStep (genE houses d) s) ([], left) = gg at ef ⊢
      have ha : exs L (callF L T (n + 4 + d)) f__law_errand.body [some (.int s), some (.int houses), some (.int ((d : Int) + 1)), some (.int left), none, none, none] S = .ret (.tup [.tup [.str (nodeS bb), .tup (gg.1.map Err.val)], .int gg.2]) (S ++ [.list (gg.1.map Err.val)]) := by
        simp only [List.map_nil] at ef
        simp [runFn, exs, exS, evs, evO, evC, isTy, HI.finish, finishX, fine, fines, unl, itemsOf, srcOf, bnd, sliceV, lstOf, seqOf, unbox, below, belows, keyOf, noExc, isLB, addL, small64, exH, catches, noExcS, anyErr, aug2, f__law_errand, e1, h0, hc, hr, ef, r__law_errand_1, e5, nodeS]
      refine (run_ret _ rfl (by simp; rfl) ha).trans ?_
      have hb := belows_err S.length gg.1
      simp only [vals_eq] at hb
      simp [runFn, exs, exS, evs, evO, evC, isTy, HI.finish, finishX, fine, fines, unl, itemsOf, srcOf, bnd, sliceV, lstOf, seqOf, unbox, below, belows, keyOf, noExc, isLB, addL, small64, exH, catches, noExcS, anyErr, aug2, f__law_errand, Err.val, hb]
theorem genE_ok {houses : Int} (hh : 0 < houses) (h5 : houses ≤ 5) : ∀ (d : Nat) (s left : Int), 1 ≤ d → 0 < left → (genE houses d s left).1.okd d = true ∧ ((genE houses d s left).1.leaves.length : Int) + (genE houses d s left).2 = left ∧ 0 ≤ (genE houses d s left).2
  | 0, _, _, h, _ => by omega
  | d + 1, s, left, _, hl => by
    by_cases hc : d = 0 ∨ left = 1 ∨ pickF s 4 = 0
    · simp only [genE, hc, if_true]
      exact ⟨leafOf_ok s hh h5 d, by simp [leafOf, Err.leaves]; omega, by omega⟩
    · simp only [genE, hc, if_false]
      simp only [not_or] at hc
      have inv : ∀ (ks : List Nat) (a : List Err × Int), a.1.all (Err.okd d) = true → 0 ≤ a.2 → ((leavesL a.1).length : Int) + a.2 = left → let r := ks.foldl (genStep (genE houses d) s) a
          r.1.all (Err.okd d) = true ∧ 0 ≤ r.2 ∧ ((leavesL r.1).length : Int) + r.2 = left ∧ a.1.length ≤ r.1.length ∧ r.1.length ≤ a.1.length + ks.length := by
        intro ks
        induction ks with
        | nil => intro a h1 h2 h3; exact ⟨h1, h2, h3, Nat.le_refl _, Nat.le_refl _⟩
        | cons k ks ih =>
          intro a h1 h2 h3
          simp only [List.foldl_cons, List.length_cons]
          by_cases ha : 0 < a.2
          · obtain ⟨g1, g2, g3⟩ := genE_ok hh h5 d (seedF s (10 + k)) a.2 (by omega) ha
            have app : ∀ (l : List Err) (e : Err), leavesL (l ++ [e]) = leavesL l ++ e.leaves := by
              intro l e
              induction l with
              | nil => simp [leavesL]
              | cons x l ih => simp [leavesL, ih]
            obtain ⟨i1, i2, i3, i4, i5⟩ := ih (genStep (genE houses d) s a k) (by simp only [genStep, ha, if_true, List.all_append, h1, List.all_cons, g1, List.all_nil]; rfl) (by simpa only [genStep, ha, if_true] using g3) (by simp only [genStep, ha, if_true, app, List.length_append]; omega)
            refine ⟨i1, i2, i3, ?_, ?_⟩
            · refine Nat.le_trans ?_ i4
              simp [genStep, ha]
            · refine Nat.le_trans i5 ?_
              simp [genStep, ha]; omega
          · have e : genStep (genE houses d) s a k = a := by simp [genStep, ha]
            rw [e]
            obtain ⟨i1, i2, i3, i4, i5⟩ := ih a h1 h2 h3
            exact ⟨i1, i2, i3, i4, by omega⟩
      have hm := mod_range (s / 7) (m := 4) (by decide)
      obtain ⟨i1, i2, i3, i4, i5⟩ := inv (List.range (1 + s / 7 % 4).toNat) ([], left) rfl (by omega) (by simp [leavesL])
      have ne : 1 ≤ ((List.range (1 + s / 7 % 4).toNat).foldl (genStep (genE houses d) s) ([], left)).1.length := by
        obtain ⟨m, hm'⟩ : ∃ m, (1 + s / 7 % 4).toNat = m + 1 := ⟨(s / 7 % 4).toNat, by omega⟩
        rw [hm', List.range_succ_eq_map, List.foldl_cons]
        have g := genE_ok hh h5 d (seedF s (10 + (0 : Nat))) left (by omega) hl
        obtain ⟨_, _, _, j4, _⟩ := inv (List.map Nat.succ (List.range m)) (genStep (genE houses d) s ([], left) 0) (by simp only [genStep, hl, if_true]; simpa using g.1) (by simpa only [genStep, hl, if_true] using g.2.2) (by simp only [genStep, hl, if_true, List.nil_append, leavesL, List.append_nil]; omega)
        refine Nat.le_trans ?_ j4
        simp [genStep, hl]
      refine ⟨?_, by simpa [Err.leaves] using i3, i2⟩
      simp only [List.length_nil, List.length_range, Nat.zero_add] at i5
      simp only [Err.okd, Bool.and_eq_true, decide_eq_true_eq]
      exact ⟨⟨ne, by omega⟩, i1⟩
def someE (s houses : Int) : Err := (genE houses 4 (s * 4 + 1 + s % 3) (1 + s / 5 % 12)).1
theorem someE_ok (s : Int) {houses : Int} (hh : 0 < houses) (h5 : houses ≤ 5) : (someE s houses).Ok := by
  have hm := mod_range (s / 5) (m := 12) (by decide)
  obtain ⟨h1, h2, h3⟩ := genE_ok hh h5 4 (s * 4 + 1 + s % 3) (1 + s / 5 % 12) (by omega) (by omega)
  exact ⟨h1, by unfold someE; omega⟩
theorem r_some [H__law_seed T] [H__law_pick T] [H__law_deed T] [H__law_leaf T] [H__law_errand T] [H__law_some T] {houses : Int} (hh : 0 < houses) (n : Nat) (s : Int) (S : Store) : callF L T (n + 9) (Str.ofString "_law_some") [.int s, .int houses] S = .ok (someE s houses).val S := by
  rw [c__law_some]
  have hm := mod_range (s / 5) (m := 12) (by decide)
  have e1 := r_errand (L := L) (T := T) hh n 4 (s * 4 + 1 + s % 3) (1 + s / 5 % 12) S (by omega) (by omega)
  rw [show (((4 : Nat)) : Int) = 4 from rfl] at e1
  simp [runFn, exs, exS, evs, evO, evC, isTy, HI.finish, finishX, fine, fines, unl, itemsOf, srcOf, bnd, sliceV, lstOf, seqOf, unbox, below, belows, keyOf, noExc, isLB, addL, small64, exH, catches, noExcS, anyErr, aug2, f__law_some, e1, someE]
end HM
set_option Elab.async false
set_option linter.all false
set_option maxRecDepth 100000
set_option maxHeartbeats 0
namespace K29
open PySem HI HM HP
abbrev C : CallT := callF 100 T 39
abbrev KC : CallT := callK 100 60 T 39
theorem exs_cat {L : Nat} {C : CallT} : ∀ (P Q : List HI.S) (ρ : HI.Env) (S : Store), exs L C (P ++ Q) ρ S = (exs L C P ρ S).andThen fun ρ' S' => exs L C Q ρ' S'
  | [], Q, ρ, S => by simp only [List.nil_append, exs, SR.then_next]
  | s :: P, Q, ρ, S => by
    simp only [List.cons_append, exs_cons]
    cases exS L C s ρ S with
    | next ρ' S' => simp only [SR.then_next, exs_cat P Q]
    | _ => rfl
def stOf : SR → Store
  | .next _ S => S
  | .ret _ S => S
  | _ => []
theorem k_next {P : List HI.S} {ρ ρ' : HI.Env} {S S' : Store} (h : kB 100 KC 60 P ρ S = .next ρ' S') : exs 100 C P ρ S = .next ρ' S' := by
  rcases (kS_le (callK_le 100 60 T 39) 100 60).2.1 P ρ S with q | q
  · rw [h] at q; cases q
  · rw [← q]; exact h
theorem k_ret {P : List HI.S} {ρ : HI.Env} {S S' : Store} {v : Val} (h : kB 100 KC 60 P ρ S = .ret v S') : exs 100 C P ρ S = .ret v S' := by
  rcases (kS_le (callK_le 100 60 T 39) 100 60).2.1 P ρ S with q | q
  · rw [h] at q; cases q
  · rw [← q]; exact h
abbrev PA : List HI.S := (f_law.body.drop 1).take 4
abbrev PB : List HI.S := f_law.body.drop 6
abbrev ρ0 (ns : List Int) (y : Int) : HI.Env := [some (.scr ns), some (.int y), none, none, none, none, none, none, none, none, none]
def SA : Store := stOf (kB 100 KC 60 PA (ρ0 [] 0) [])
def doV (x : Int) : Val := .tup [.str (Str.ofString "do"), .int 0, .tup [.str (Str.ofString "give"), .str (Str.ofString "a"), .int x]]
abbrev ρ1 (ns : List Int) (y : Int) : HI.Env := [some (.scr ns), some (.int y), none, some (.loc 0), some (.loc 7), some (.loc 10), none, none, none, none, none]
abbrev ρ2 (ns : List Int) (y x : Int) : HI.Env := [some (.scr ns), some (.int y), none, some (.loc 0), some (.loc 7), some (.loc 10), some (doV x), none, none, none, none]
theorem pa_0 (ns : List Int) : kB 100 KC 60 PA (ρ0 ns 0) [] = .next (ρ1 ns 0) SA := by kernel_rfl
theorem pa_1 (ns : List Int) : kB 100 KC 60 PA (ρ0 ns 1) [] = .next (ρ1 ns 1) SA := by kernel_rfl
theorem pa_2 (ns : List Int) : kB 100 KC 60 PA (ρ0 ns 2) [] = .next (ρ1 ns 2) SA := by kernel_rfl
theorem pa_3 (ns : List Int) : kB 100 KC 60 PA (ρ0 ns 3) [] = .next (ρ1 ns 3) SA := by kernel_rfl
theorem pa_4 (ns : List Int) : kB 100 KC 60 PA (ρ0 ns 4) [] = .next (ρ1 ns 4) SA := by kernel_rfl
theorem pa_5 (ns : List Int) : kB 100 KC 60 PA (ρ0 ns 5) [] = .next (ρ1 ns 5) SA := by kernel_rfl
theorem pa_6 (ns : List Int) : kB 100 KC 60 PA (ρ0 ns 6) [] = .next (ρ1 ns 6) SA := by kernel_rfl
theorem pa_7 (ns : List Int) : kB 100 KC 60 PA (ρ0 ns 7) [] = .next (ρ1 ns 7) SA := by kernel_rfl
theorem pa_8 (ns : List Int) : kB 100 KC 60 PA (ρ0 ns 8) [] = .next (ρ1 ns 8) SA := by kernel_rfl
theorem pa_9 (ns : List Int) : kB 100 KC 60 PA (ρ0 ns 9) [] = .next (ρ1 ns 9) SA := by kernel_rfl
theorem pa_10 (ns : List Int) : kB 100 KC 60 PA (ρ0 ns 10) [] = .next (ρ1 ns 10) SA := by kernel_rfl
theorem pa_11 (ns : List Int) : kB 100 KC 60 PA (ρ0 ns 11) [] = .next (ρ1 ns 11) SA := by kernel_rfl
def SB1 : Store := stOf (kB 100 KC 60 PB (ρ2 [] 0 1) SA)
theorem pb_1 (ns : List Int) (y : Int) : kB 100 KC 60 PB (ρ2 ns y 1) SA = .ret (.bool true) SB1 := by kernel_rfl
def SB2 : Store := stOf (kB 100 KC 60 PB (ρ2 [] 0 2) SA)
theorem pb_2 (ns : List Int) (y : Int) : kB 100 KC 60 PB (ρ2 ns y 2) SA = .ret (.bool true) SB2 := by kernel_rfl
def SB3 : Store := stOf (kB 100 KC 60 PB (ρ2 [] 0 3) SA)
theorem pb_3 (ns : List Int) (y : Int) : kB 100 KC 60 PB (ρ2 ns y 3) SA = .ret (.bool true) SB3 := by kernel_rfl
def SB4 : Store := stOf (kB 100 KC 60 PB (ρ2 [] 0 4) SA)
theorem pb_4 (ns : List Int) (y : Int) : kB 100 KC 60 PB (ρ2 ns y 4) SA = .ret (.bool true) SB4 := by kernel_rfl
def SB5 : Store := stOf (kB 100 KC 60 PB (ρ2 [] 0 5) SA)
theorem pb_5 (ns : List Int) (y : Int) : kB 100 KC 60 PB (ρ2 ns y 5) SA = .ret (.bool true) SB5 := by kernel_rfl
theorem pa_all (ns : List Int) (y : Nat) (h : y < 12) : kB 100 KC 60 PA (ρ0 ns y) [] = .next (ρ1 ns y) SA := by
  match y, h with
  | 0, _ => exact pa_0 ns
  | 1, _ => exact pa_1 ns
  | 2, _ => exact pa_2 ns
  | 3, _ => exact pa_3 ns
  | 4, _ => exact pa_4 ns
  | 5, _ => exact pa_5 ns
  | 6, _ => exact pa_6 ns
  | 7, _ => exact pa_7 ns
  | 8, _ => exact pa_8 ns
  | 9, _ => exact pa_9 ns
  | 10, _ => exact pa_10 ns
  | 11, _ => exact pa_11 ns
  | n + 12, h => exact absurd h (by omega)
theorem pb_all (ns : List Int) (y : Int) (x : Nat) (h : x < 5) : ∃ S, kB 100 KC 60 PB (ρ2 ns y (1 + (x : Int))) SA = .ret (.bool true) S := by
  match x, h with
  | 0, _ => exact ⟨_, pb_1 ns y⟩
  | 1, _ => exact ⟨_, pb_2 ns y⟩
  | 2, _ => exact ⟨_, pb_3 ns y⟩
  | 3, _ => exact ⟨_, pb_4 ns y⟩
  | 4, _ => exact ⟨_, pb_5 ns y⟩
  | n + 5, h => exact absurd h (by omega)
theorem says : Says 100 T 40 := by
  intro ns _ _
  have e0 : ∀ S, C (Str.ofString "_law_cell") [.scr ns, .int 0] S = _ := fun S => r_cell 38 ns 0 (by decide) S
  have e1 : ∀ S, C (Str.ofString "_law_cell") [.scr ns, .int 1] S = _ := fun S => r_cell 38 ns 1 (by decide) S
  have r0 := mod_range (cell ns 0) (m := 12) (by decide)
  have r1 := mod_range (cell ns 1) (m := 5) (by decide)
  obtain ⟨y, hy⟩ := Int.eq_ofNat_of_zero_le r0.1
  obtain ⟨x, hx⟩ := Int.eq_ofNat_of_zero_le r1.1
  have a1 := k_next (pa_all ns y (by omega))
  obtain ⟨SB, b1⟩ := pb_all ns y x (by omega)
  have b1 := k_ret b1
  refine ⟨SB, ?_⟩
  have ec : callF 100 T 40 (Str.ofString "law") [.scr ns] [] = runFn 100 C f_law [.scr ns] [] := by
    show (match T (Str.ofString "law") with
      | some fn => runFn 100 (callF 100 T 39) fn [.scr ns] []
      | none => .stuck) = _
    rw [T_law]
  rw [ec]
  have hcut : f_law.body = f_law.body.take 1 ++ (PA ++ ((f_law.body.drop 5).take 1 ++ PB)) := rfl
  have s0 : exs 100 C (f_law.body.take 1) [some (.scr ns), none, none, none, none, none, none, none, none, none, none] [] = .next (ρ0 ns y) [] := by
    simp [runFn, exs, exS, evs, evO, evC, isTy, HI.finish, finishX, fine, fines, unl, itemsOf, srcOf, bnd, sliceV, lstOf, seqOf, unbox, below, belows, keyOf, noExc, isLB, addL, small64, exH, catches, noExcS, anyErr, aug2, f_law, e0, hy]
  have s5 : exs 100 C ((f_law.body.drop 5).take 1) (ρ1 ns y) SA = .next (ρ2 ns y (1 + (x : Int))) SA := by
    generalize SA = S
    simp [runFn, exs, exS, evs, evO, evC, isTy, HI.finish, finishX, fine, fines, unl, itemsOf, srcOf, bnd, sliceV, lstOf, seqOf, unbox, below, belows, keyOf, noExc, isLB, addL, small64, exH, catches, noExcS, anyErr, aug2, f_law, e1, hx, doV]
  have hb : exs 100 C f_law.body [some (.scr ns), none, none, none, none, none, none, none, none, none, none] [] = .ret (.bool true) SB := by
    rw [hcut, exs_cat, s0, SR.then_next, exs_cat, a1, SR.then_next, exs_cat, s5, SR.then_next, b1]
  exact (run_ret _ rfl rfl hb).trans rfl
end K29
set_option maxRecDepth 100000 in
set_option maxHeartbeats 0 in
theorem PySem.Challenge.cw_holdall_k29_refusals_stand_apart_holds : PySem.Challenge.rw_holdall_k29_refusals_stand_apart.Holds := by
  exact K29.holds 100 K29.says
