import PyProof.Rows.All
import Wide.All
import OpenK.AllK
import Wide.FinOn
import PySem.Challenge.RW_escapehall_k01_names_and_lots_of_names
import HandS.ForMost
import HandS.Wide
import HandS.List
import PyProof.ReprRoads
import PyProof.StrBlock2
import KE.DataCmp
import HandS.Defaults
import HandS.IsInst
import HandS.Deep
import HandS.Text
import HandS.TupAny
import HandS.Flow
import HandS.Style
import HandS.Conv
import HandS.More
import HandS.RaiseMore
import PyProof.ListStr
import HandS.WideBits
import HandS.Small
import HandS.Iter
import HandS.Zip
import HandS.Comp
import HandS.Words
import HandS.EndBits
import HandS.HeadHook2
import HandS.HeadHook4
import PyProof.ReprLen
import HandS.Head0
import HandS.Head1
import HandS.Head2
import HandS.HeadEnd
import HandS.HeadHook1
section
set_option Elab.async false
set_option linter.all false
set_option maxRecDepth 100000
set_option maxHeartbeats 4000000
/-! Rf1: plain data, the specification monad, a small language and its evaluator. No machine in sight. -/
namespace Rf
open PySem PySem.Spec PyProof.Rows L2

abbrev D := PyData
/-- how a value is held: shared for good, its own object ours alone -/
inductive Fl where
  | fz | top
  deriving DecidableEq
structure Sl where
  fl : Fl
  d : D
/-- a slot: pinned (an owned argument: may be changed, not be bound anew) and what it holds -/
structure Slt where
  pin : Bool
  s : Option Sl
abbrev En := List Slt
/-- an exception: its class by name, its value -/
structure Xc where
  cls : Str
  val : D
/-- an operand: a value at hand, or what stands in an owned slot -/
inductive Opd where
  | val (s : Sl)
  | slot (i : Nat)
inductive Flw where
  | nx | bk | ct
  | rt (s : Sl)

/-! ### the monad -/
structure M (α : Type) where
  run : En → (α → En → Prop) → (Xc → En → Prop) → Prop
  mono : ∀ {s k k' x x'}, run s k x → (∀ a s, k a s → k' a s) → (∀ e s, x e s → x' e s) → run s k' x'
theorem M.ext {α : Type} {m n : M α} (h : ∀ s k x, m.run s k x = n.run s k x) : m = n := by
  obtain ⟨r, mr⟩ := m
  obtain ⟨q, mq⟩ := n
  have e : r = q := funext fun s => funext fun k => funext fun x => h s k x
  subst e
  rfl
def M.pure {α : Type} (a : α) : M α := ⟨fun s k _ => k a s, fun h f _ => f _ _ h⟩
def M.bind {α β : Type} (m : M α) (f : α → M β) : M β := ⟨fun s k x => m.run s (fun a s' => (f a).run s' k x) x, fun h g g' => m.mono h (fun a s q => (f a).mono q g g') g'⟩
instance : Monad M where
  pure := M.pure
  bind := M.bind
theorem run_pure {α : Type} (a : α) (s : En) (k : α → En → Prop) (x : Xc → En → Prop) : (pure a : M α).run s k x = k a s := rfl
theorem run_bind {α β : Type} (m : M α) (f : α → M β) (s : En) (k : β → En → Prop) (x : Xc → En → Prop) : (m >>= f).run s k x = m.run s (fun a s' => (f a).run s' k x) x := rfl
@[simp] theorem pure_bind' {α β : Type} (a : α) (f : α → M β) : (pure a : M α) >>= f = f a := rfl
@[simp] theorem bind_pure' {α : Type} (m : M α) : (m >>= fun a => (pure a : M α)) = m := rfl
@[simp] theorem bind_assoc' {α β γ : Type} (m : M α) (f : α → M β) (g : β → M γ) : (m >>= f) >>= g = m >>= fun a => f a >>= g := rfl
instance : LawfulMonad M := LawfulMonad.mk'
  (id_map := fun _ => rfl) (pure_bind := fun _ _ => rfl) (bind_assoc := fun _ _ _ => rfl)
/-- nothing is promised -/
def M.fail {α : Type} : M α := ⟨fun _ _ _ => False, fun h _ _ => h⟩
def M.raise {α : Type} (e : Xc) : M α := ⟨fun s _ x => x e s, fun h _ g => g _ _ h⟩
def M.assert (p : Prop) : M Unit := ⟨fun s k _ => p ∧ k () s, fun h f _ => ⟨h.1, f _ _ h.2⟩⟩
/-- any one with P -/
def M.pick {α : Type} (P : α → Prop) : M α := ⟨fun s k _ => ∀ a, P a → k a s, fun h f _ a p => f _ _ (h a p)⟩
def M.get : M En := ⟨fun s k _ => k s s, fun h f _ => f _ _ h⟩
def M.set (e : En) : M Unit := ⟨fun _ k _ => k () e, fun h f _ => f _ _ h⟩
@[simp] theorem fail_bind {α β : Type} (f : α → M β) : (M.fail : M α) >>= f = M.fail := rfl
@[simp] theorem raise_bind {α β : Type} (e : Xc) (f : α → M β) : (M.raise e : M α) >>= f = M.raise e := rfl
theorem assert_true {p : Prop} (h : p) : M.assert p = pure () := M.ext fun s k x => propext ⟨fun q => q.2, fun q => ⟨h, q⟩⟩

/-- a def's meaning: its arguments, then what holds of its parameters' ends and its answer -/
structure Fn where
  run : List Sl → (List (Option Sl) → Sl → Prop) → (List (Option Sl) → Xc → Prop) → Prop
  mono : ∀ {s k k' x x'}, run s k x → (∀ a r, k a r → k' a r) → (∀ a e, x a e → x' a e) → run s k' x'
def Fn.none : Fn := ⟨fun _ _ _ => False, fun h _ _ => h⟩

/-! ### slots and operands -/
def getSl (e : En) (i : Nat) : Option Sl := match e[i]? with
  | some ⟨_, o⟩ => o
  | none => none
def putSl (e : En) (i : Nat) (o : Option Sl) : En := match e[i]? with
  | some ⟨p, _⟩ => e.set i ⟨p, o⟩
  | none => e
/-- the name in slot i -/
def look (i : Nat) : M Opd := ⟨fun e k _ => match getSl e i with
  | some ⟨.fz, d⟩ => k (.val ⟨.fz, d⟩) e
  | some _ => k (.slot i) e
  | none => False, fun {s k k' x x'} h f _ => by
    revert h
    split
    · exact f _ _
    · exact f _ _
    · exact id⟩
/-- what an operand is, looked at -/
def peek : Opd → M D
  | .val s => pure s.d
  | .slot i => ⟨fun e k _ => match getSl e i with
    | some s => k s.d e
    | none => False, fun {s k k' x x'} h f _ => by
      revert h
      split
      · exact f _ _
      · exact id⟩
/-- an operand that is kept somewhere: shared from now on -/
def take : Opd → M D
  | .val s => pure s.d
  | .slot i => ⟨fun e k _ => match getSl e i with
    | some s => k s.d (putSl e i (some ⟨.fz, s.d⟩))
    | none => False, fun {s k k' x x'} h f _ => by
      revert h
      split
      · exact f _ _
      · exact id⟩
/-- an operand that goes to a name -/
def own : Opd → M Sl
  | .val s => pure s
  | .slot i => do
    let d ← take (.slot i)
    pure ⟨.fz, d⟩
/-- an operand that is handed back: the slot is left -/
def move : Opd → M Sl
  | .val s => pure s
  | .slot i => ⟨fun e k _ => match e[i]? with
    | some ⟨false, some s⟩ => k s (putSl e i none)
    | some ⟨true, some s⟩ => k ⟨.fz, s.d⟩ (putSl e i (some ⟨.fz, s.d⟩))
    | _ => False, fun {s k k' x x'} h f _ => by
      revert h
      split
      · exact f _ _
      · exact f _ _
      · exact id⟩
def takes : List Opd → M (List D)
  | [] => pure []
  | x :: xs => do
    let d ← take x
    let ds ← takes xs
    pure (d :: ds)
def peeks : List Opd → M (List D)
  | [] => pure []
  | x :: xs => do
    let d ← peek x
    let ds ← peeks xs
    pure (d :: ds)
/-- name = value -/
def bindSl (i : Nat) (s : Sl) : M Unit := ⟨fun e k _ => match e[i]? with
  | some ⟨false, _⟩ => k () (e.set i ⟨false, some s⟩)
  | _ => False, fun {s k k' x x'} h f _ => by
    revert h
    split
    · exact f _ _
    · exact id⟩
/-- an owned slot's object changes -/
def change (i : Nat) (d : D) : M Unit := ⟨fun e k _ => match getSl e i with
  | some ⟨.top, _⟩ => k () (putSl e i (some ⟨.top, d⟩))
  | _ => False, fun {s k k' x x'} h f _ => by
    revert h
    split
    · exact f _ _
    · exact id⟩

/-! ### calls -/
def loadArgs : List Opd → En → Option (List Sl × En)
  | [], e => some ([], e)
  | .val s :: r, e => match loadArgs r e with
    | some (ss, e') => some (s :: ss, e')
    | none => none
  | .slot i :: r, e => match getSl e i with
    | some s => match loadArgs r (putSl e i none) with
      | some (ss, e') => some (s :: ss, e')
      | none => none
    | none => none
def backArgs : List Opd → List (Option Sl) → En → En
  | .slot i :: r, f :: fs, e => backArgs r fs (putSl e i f)
  | .val _ :: r, _ :: fs, e => backArgs r fs e
  | _, _, e => e
def callM (φ : Fn) (xs : List Opd) : M Sl := ⟨fun e k x => match loadArgs xs e with
  | some (ss, e') => φ.run ss (fun fin r => k r (backArgs xs fin e')) (fun fin ex => x ex (backArgs xs fin e'))
  | none => False, fun {s k k' x x'} h f g => by
    revert h
    split
    · exact fun h => φ.mono h (fun _ _ => f _ _) (fun _ _ => g _ _)
    · exact id⟩
def val0 (d : D) : Opd := .val ⟨.fz, d⟩
def pureV (d : D) : M Opd := pure (val0 d)
def newV (d : D) : M Opd := pure (.val ⟨.top, d⟩)
end Rf
end
section
set_option Elab.async false
set_option linter.all false
set_option maxRecDepth 100000
set_option maxHeartbeats 4000000
/-! Rf2: the operations on plain data, the language, its evaluator. -/
namespace Rf
open PySem PySem.Spec PyProof.Rows L2

inductive Bop where | add | sub | mul | fdiv | mod | pow deriving DecidableEq
inductive Cop where | eq | ne | lt | le | gt | ge | isin | notin | is | isnot deriving DecidableEq
inductive Ty where | int | bool | str | list | tuple | dict | non deriving DecidableEq

/-! ### operations on data -/
def isAtom : D → Bool
  | .none | .bool _ | .int _ | .str _ => true
  | _ => false
/-- the sign for sign of a text -/
def signs (x : Str) : List D := x.cps.toList.map fun c => .str ⟨#[c]⟩
/-- the items that a for walks over a value itself -/
def itemsOf : D → Option (List D)
  | .list xs => some xs
  | .tuple xs => some xs
  | .str x => some (signs x)
  | .dict kvs => some (kvs.map (·.1))
  | _ => none
/-- ** of a result of not too many bits -/
def CPowW (i j : Int) : Prop := 0 ≤ j ∧ (Builtin.Int.intBits i : Int) * j ≤ 2 ^ 27
def bop : Bop → D → D → M Opd
  | .add, .int i, .int j => pureV (.int (i + j))
  | .add, .str x, .str y => do
    M.assert (x.length + y.length ≤ sizeLine)
    pureV (.str (x ++ y))
  | .add, .list xs, .list ys => do
    M.assert (xs.length + ys.length ≤ sizeLine)
    newV (.list (xs ++ ys))
  | .add, .tuple xs, .tuple ys => do
    M.assert (xs.length + ys.length ≤ sizeLine)
    pureV (.tuple (xs ++ ys))
  | .sub, .int i, .int j => pureV (.int (i - j))
  | .mul, .int i, .int j => do
    M.assert (CMulW i j)
    pureV (.int (i * j))
  | .mul, .list xs, .int k => do
    M.assert (-(2 ^ 63) ≤ k ∧ k < 2 ^ 63 ∧ xs.length * k.toNat ≤ sizeLine)
    newV (.list (List.replicate k.toNat xs).flatten)
  | .mul, .str x, .int k => do
    M.assert (MulOk x k)
    pureV (.str (Txt.mul x k))
  | .fdiv, .int i, .int j => do
    M.assert (CDivW i j)
    pureV (.int (i / j))
  | .mod, .int i, .int j => do
    M.assert (0 < j)
    pureV (.int (i % j))
  | .pow, .int i, .int j => do
    M.assert (CPowW i j)
    pureV (.int (i ^ j.toNat))
  | _, _, _ => M.fail
/-- the truth of a value -/
def truth : D → M Bool
  | .none => pure false
  | .bool b => pure b
  | .int i => pure (i != 0)
  | .str x => do
    M.assert (x.length ≤ sizeLine)
    pure (x.length != 0)
  | .list xs => pure (!xs.isEmpty)
  | .tuple xs => pure (!xs.isEmpty)
  | .dict _ => M.fail
def shap (d : D) : Prop := SeqAt.shaped d = true
/-- atoms that == tells apart directly -/
def scalD : D → D → Bool
  | .none, .none => true | .none, .int _ => true | .int _, .none => true | .none, .bool _ => true | .bool _, .none => true | .none, .str _ => true | .str _, .none => true
  | .int _, .int _ => true | .bool _, .bool _ => true | .str _, .str _ => true
  | .int _, .str _ => true | .str _, .int _ => true | .bool _, .str _ => true | .str _, .bool _ => true
  | _, _ => false
def eqM (a b : D) : M Bool := match scalD a b with
  | true => pure (PyData.eqv a b)
  | false => do
    M.assert (shap a ∧ shap b)
    pure (PyData.eqv a b)
def ltOk (a b : D) : Prop := PySem.W.alike a b = true ∧ a ≠ .none ∧ shap a ∧ shap b
def ltM (a b : D) : M Bool := match a, b with
  | .int i, .int j => pure (decide (i < j))
  | .str x, .str y => pure (decide (x.cps.toList < y.cps.toList))
  | a, b => do
    M.assert (ltOk a b)
    pure (PySem.W.dataLt a b)
def keyOkD : D → Bool
  | .int _ | .str _ => true
  | _ => false
def valD (kvs : List (D × D)) (k : D) : Option D := (kvs.find? fun kv => PyData.eqv kv.1 k).map (·.2)
def inM (a b : D) : M Bool := match b with
  | .str y => match a with
    | .str x => pure (!(Builtin.Str.occurrences y x 0 y.length 1).isEmpty)
    | _ => M.fail
  | .list ys => do
    M.assert (shap a ∧ shap (.list ys))
    pure (ys.any fun z => PyData.eqv z a)
  | .tuple ys => do
    M.assert (shap a ∧ shap (.tuple ys))
    pure (ys.any fun z => PyData.eqv z a)
  | .dict kvs => do
    M.assert (keyOkD a = true)
    pure (valD kvs a).isSome
  | _ => M.fail
def isM (a b : D) : M Bool := match b with
  | .none => pure (match a with | .none => true | _ => false)
  | .bool c => match a with
    | .bool d => pure (c == d)
    | .none | .int _ | .str _ | .list _ | .tuple _ | .dict _ => pure false
  | _ => M.fail
def cop : Cop → D → D → M Bool
  | .eq, a, b => eqM a b
  | .ne, a, b => do pure (!(← eqM a b))
  | .lt, a, b => ltM a b
  | .gt, a, b => ltM b a
  | .le, a, b => do pure (!(← ltM b a))
  | .ge, a, b => do pure (!(← ltM a b))
  | .isin, a, b => inM a b
  | .notin, a, b => do pure (!(← inM a b))
  | .is, a, b => isM a b
  | .isnot, a, b => do pure (!(← isM a b))
def tyIs : Ty → D → Bool
  | .int, .int _ => true
  | .int, .bool _ => true
  | .bool, .bool _ => true
  | .str, .str _ => true
  | .list, .list _ => true
  | .tuple, .tuple _ => true
  | .dict, .dict _ => true
  | .non, .none => true
  | _, _ => false
def ixM (a i : D) : M Opd := match a, i with
  | .list xs, .int i => match atI xs i with
    | some d => pureV d
    | none => M.fail
  | .tuple xs, .int i => match atI xs i with
    | some d => pureV d
    | none => M.fail
  | .str x, .int i => match atI (signs x) i with
    | some d => do
      M.assert (x.length ≤ sizeLine)
      pureV d
    | none => M.fail
  | .dict kvs, k => do
    M.assert (keyOkD k = true)
    match valD kvs k with
    | some d => pureV d
    | none => M.fail
  | _, _ => M.fail

/-! ### what the built-in functions answer -/
inductive Bi where
  | len | int1 | str1 | max2 | min2 | maxl | minl | sum1 | sorted | list | tuple | dict | any | all | repr | abs
  deriving DecidableEq
def intsOf : List D → Option (List Int)
  | [] => some []
  | .int i :: r => match intsOf r with
    | some l => some (i :: l)
    | none => none
  | _ :: _ => none
def strsOf : List D → Option (List Str)
  | [] => some []
  | .str x :: r => match strsOf r with
    | some l => some (x :: l)
    | none => none
  | _ :: _ => none
def bolsOf : List D → Option (List Bool)
  | [] => some []
  | .bool x :: r => match bolsOf r with
    | some l => some (x :: l)
    | none => none
  | _ :: _ => none
/-- a dict's pairs: keys ints and texts -/
def prsOf : List D → Option (List (D × D))
  | [] => some []
  | .tuple [k, v] :: r => match keyOkD k, prsOf r with
    | true, some l => some ((k, v) :: l)
    | _, _ => none
  | _ :: _ => none
def putD (kvs : List (D × D)) (k v : D) : List (D × D) :=
  if (kvs.any fun kv => PyData.eqv kv.1 k) = true then kvs.map (fun kv => if PyData.eqv kv.1 k = true then (kv.1, v) else kv) else kvs ++ [(k, v)]
def mergeD (kvs more : List (D × D)) : List (D × D) := more.foldl (fun acc kv => putD acc kv.1 kv.2) kvs
def listM (ds : List D) : M Opd := newV (.list ds)
def biD : Bi → List D → M Opd
  | .len, [.str x] => do
    M.assert (x.length ≤ sizeLine)
    pureV (.int x.length)
  | .len, [.list ds] => pureV (.int ds.length)
  | .len, [.tuple ds] => pureV (.int ds.length)
  | .len, [.dict kvs] => pureV (.int kvs.length)
  | .int1, [.int i] => pureV (.int i)
  | .int1, [.bool b] => pureV (.int (if b then 1 else 0))
  | .str1, [.int i] => do
    M.assert (i.natAbs.log2 < 1920)
    pureV (.str ((toString i : String) : Str))
  | .str1, [.str x] => pureV (.str x)
  | .max2, [.int i, .int j] => pureV (.int (if j > i then j else i))
  | .min2, [.int i, .int j] => pureV (.int (if j < i then j else i))
  | .abs, [.int i] => pureV (.int (if i < 0 then -i else i))
  | .maxl, [.list ds] => match intsOf ds with
    | some ns => do
      M.assert (0 < ns.length)
      let m ← M.pick fun m => m ∈ ns ∧ ∀ y, y ∈ ns → y ≤ m
      pureV (.int m)
    | none => M.fail
  | .minl, [.list ds] => match intsOf ds with
    | some ns => do
      M.assert (0 < ns.length)
      let m ← M.pick fun m => m ∈ ns ∧ ∀ y, y ∈ ns → m ≤ y
      pureV (.int m)
    | none => M.fail
  | .sum1, [.list ds] => match intsOf ds with
    | some ns => pureV (.int ns.sum)
    | none => M.fail
  | .sorted, [.list ds] => match intsOf ds with
    | some ns => do
      M.assert (ns.length < 64)
      let r ← M.pick fun (r : List Int) => r.Perm ns ∧ r.Pairwise (· ≤ ·)
      listM (r.map .int)
    | none => match strsOf ds with
      | some ns => do
        M.assert (ns.length < 64)
        let r ← M.pick fun (r : List Str) => r.Perm ns ∧ sortedS r = true
        listM (r.map .str)
      | none => M.fail
  | .list, [.list ds] => listM ds
  | .list, [.tuple ds] => listM ds
  | .list, [.str x] => do
    M.assert (x.length ≤ sizeLine)
    listM (signs x)
  | .list, [.dict kvs] => listM (kvs.map (·.1))
  | .tuple, [.list ds] => pureV (.tuple ds)
  | .tuple, [.tuple ds] => pureV (.tuple ds)
  | .dict, [.list ds] => match prsOf ds with
    | some kvs => newV (.dict (mergeD [] kvs))
    | none => M.fail
  | .dict, [.dict kvs] => newV (.dict kvs)
  | .any, [.list ds] => match bolsOf ds with
    | some bs => pureV (.bool (bs.any id))
    | none => M.fail
  | .all, [.list ds] => match bolsOf ds with
    | some bs => pureV (.bool (bs.all id))
    | none => M.fail
  | .repr, [d] => do
    M.assert (d.showable = true ∧ d.depth ≤ 64 ∧ d.shown.length ≤ sizeLine)
    pureV (.str d.shown)
  | _, _ => M.fail
def biM (b : Bi) (os : List Opd) : M Opd := do
  let ds ← peeks os
  biD b ds
def biV : Bi → Value
  | .len => .builtin "len" | .int1 => .type "int" | .str1 => .type "str" | .max2 => .builtin "max" | .min2 => .builtin "min" | .maxl => .builtin "max" | .minl => .builtin "min" | .sum1 => .builtin "sum"
  | .sorted => .builtin "sorted" | .list => .type "list" | .tuple => .type "tuple" | .dict => .type "dict" | .any => .builtin "any" | .all => .builtin "all" | .repr => .builtin "repr" | .abs => .builtin "abs"
def biN : Bi → Str
  | .len => "len" | .int1 => "int" | .str1 => "str" | .max2 => "max" | .min2 => "min" | .maxl => "max" | .minl => "min" | .sum1 => "sum"
  | .sorted => "sorted" | .list => "list" | .tuple => "tuple" | .dict => "dict" | .any => "any" | .all => "all" | .repr => "repr" | .abs => "abs"
end Rf
end
section
set_option Elab.async false
set_option linter.all false
set_option maxRecDepth 100000
set_option maxHeartbeats 4000000
set_option autoImplicit false
/-! Rf3: how plain data stands in the abstract heap; worlds. -/
namespace Rf
open PySem PySem.Spec L2

/-- what is known of a heap: F is shared for good, Os what the slots own -/
structure Wd where
  F : Addr → Prop
  Os : List (List Addr)
  H : Hp
abbrev Wd.o (w : Wd) : List Addr := w.Os.flatten

def keyD : Key → D
  | .inl i => .int i
  | .inr x => .str x

mutual
/-- v is the data d, all of it shared -/
inductive Rp (F : Addr → Prop) (H : Hp) : V → D → Prop
  | non : Rp F H .non .none
  | bl (b : Bool) : Rp F H (.bl b) (.bool b)
  | int (i : Int) : Rp F H (.int i) (.int i)
  | str (x : Str) : Rp F H (.str x) (.str x)
  | lst {a : Addr} {vs : List V} {ds : List D} : F a → Rd H a (.lst vs) → Rps F H vs ds → Rp F H (.ref a) (.list ds)
  | tup {a : Addr} {vs : List V} {ds : List D} : F a → H a = some (.tup vs) → Rps F H vs ds → Rp F H (.ref a) (.tuple ds)
  | dic {a : Addr} {o : Obj} {kvs : List (Key × V)} {ds : List (D × D)} : F a → H a = some (.frz o (.dK kvs)) → (kvs.map (·.1)).Nodup → Rpk F H kvs ds → Rp F H (.ref a) (.dict ds)
inductive Rps (F : Addr → Prop) (H : Hp) : List V → List D → Prop
  | nil : Rps F H [] []
  | cons {v : V} {vs : List V} {d : D} {ds : List D} : Rp F H v d → Rps F H vs ds → Rps F H (v :: vs) (d :: ds)
inductive Rpk (F : Addr → Prop) (H : Hp) : List (Key × V) → List (D × D) → Prop
  | nil : Rpk F H [] []
  | cons {k : Key} {v : V} {kvs : List (Key × V)} {d : D} {ds : List (D × D)} : Rp F H v d → Rpk F H kvs ds → Rpk F H ((k, v) :: kvs) ((keyD k, d) :: ds)
end
/-- v is d, its own object ours alone, what it holds shared -/
inductive Tp (F : Addr → Prop) (H : Hp) : V → D → List Addr → Prop
  | lst {a : Addr} {vs : List V} {ds : List D} : H a = some (.lst vs) → Rps F H vs ds → Tp F H (.ref a) (.list ds) [a]
  | dic {a : Addr} {kvs : List (Key × V)} {ds : List (D × D)} : H a = some (.dK kvs) → (kvs.map (·.1)).Nodup → Rpk F H kvs ds → Tp F H (.ref a) (.dict ds) [a]
def Rel (F : Addr → Prop) (H : Hp) (v : V) (s : Sl) (O : List Addr) : Prop := match s.fl with
  | .fz => O = [] ∧ Rp F H v s.d
  | .top => Tp F H v s.d O

mutual
theorem Rp.mono {F F' : Addr → Prop} {H H' : Hp} (hF : ∀ a, F a → F' a ∧ H' a = H a) : ∀ {v : V} {d : D}, Rp F H v d → Rp F' H' v d
  | _, _, .non => .non
  | _, _, .bl b => .bl b
  | _, _, .int i => .int i
  | _, _, .str x => .str x
  | _, _, .lst f h t => .lst (hF _ f).1 (by unfold Rd; rw [(hF _ f).2]; exact h) (Rps.mono hF t)
  | _, _, .tup f h t => .tup (hF _ f).1 ((hF _ f).2.trans h) (Rps.mono hF t)
  | _, _, .dic f h n t => .dic (hF _ f).1 ((hF _ f).2.trans h) n (Rpk.mono hF t)
theorem Rps.mono {F F' : Addr → Prop} {H H' : Hp} (hF : ∀ a, F a → F' a ∧ H' a = H a) : ∀ {vs : List V} {ds : List D}, Rps F H vs ds → Rps F' H' vs ds
  | _, _, .nil => .nil
  | _, _, .cons h t => .cons (Rp.mono hF h) (Rps.mono hF t)
theorem Rpk.mono {F F' : Addr → Prop} {H H' : Hp} (hF : ∀ a, F a → F' a ∧ H' a = H a) : ∀ {vs : List (Key × V)} {ds : List (D × D)}, Rpk F H vs ds → Rpk F' H' vs ds
  | _, _, .nil => .nil
  | _, _, .cons h t => .cons (Rp.mono hF h) (Rpk.mono hF t)
end
theorem Tp.mono {F F' : Addr → Prop} {H H' : Hp} {v : V} {d : D} {O : List Addr} (hF : ∀ a, F a → F' a ∧ H' a = H a) (hO : ∀ a ∈ O, H' a = H a) (t : Tp F H v d O) : Tp F' H' v d O := by
  cases t with
  | lst h t => exact .lst ((hO _ List.mem_cons_self).trans h) (t.mono hF)
  | dic h n t => exact .dic ((hO _ List.mem_cons_self).trans h) n (t.mono hF)
theorem Rel.mono {F F' : Addr → Prop} {H H' : Hp} {v : V} {s : Sl} {O : List Addr} (hF : ∀ a, F a → F' a ∧ H' a = H a) (hO : ∀ a ∈ O, H' a = H a) (t : Rel F H v s O) : Rel F' H' v s O := by
  unfold Rel at t ⊢
  split at t <;> rename_i e
  · exact ⟨t.1, t.2.mono hF⟩
  · exact t.mono hF hO

/-- a world in order -/
structure Wd.Ok (w : Wd) : Prop where
  fh : ∀ a, w.F a → w.H a ≠ none
  fo : ∀ a, w.F a → a ∉ w.o
  oh : ∀ a ∈ w.o, w.H a ≠ none
  nd : w.o.Nodup
/-- from w to w': what is not in m stays; what is new is new -/
structure Ext (m : List Addr) (w w' : Wd) : Prop where
  sub : ∀ a, w.F a → w'.F a
  newF : ∀ a, w'.F a → w.F a ∨ w.H a = none ∨ a ∈ m
  fr : ∀ a, w.H a ≠ none → a ∉ m → w'.H a = w.H a
  os : ∀ a ∈ w'.o, a ∈ m ∨ w.H a = none
  kp : ∀ a, w.H a ≠ none → w'.H a ≠ none
theorem Ext.refl (w : Wd) : Ext w.o w w := ⟨fun _ h => h, fun _ h => .inl h, fun _ _ _ => rfl, fun _ h => .inl h, fun _ h => h⟩
theorem Ext.trans {m m' : List Addr} {w w1 w2 : Wd} (x : Ext m w w1) (y : Ext m' w1 w2) (hm : ∀ a ∈ m', a ∈ m ∨ w.H a = none) : Ext m w w2 where
  sub := fun a h => y.sub a (x.sub a h)
  newF := fun a h => by
    rcases y.newF a h with h | h | h
    · exact x.newF a h
    · refine .inr (.inl ?_)
      cases e : w.H a with
      | none => rfl
      | some o => exact absurd h (x.kp a (by rw [e]; simp))
    · rcases hm a h with h | h
      · exact .inr (.inr h)
      · exact .inr (.inl h)
  fr := fun a h n => by
    rw [y.fr a (x.kp a h) fun hm' => (hm a hm').elim n h, x.fr a h n]
  os := fun a h => by
    rcases y.os a h with h | h
    · exact hm a h
    · refine .inr ?_
      cases e : w.H a with
      | none => rfl
      | some o => exact absurd h (x.kp a (by rw [e]; simp))
  kp := fun a h => y.kp a (x.kp a h)
/-- things at hand besides the slots: tracked, not shared, not a slot's, each once -/
structure Tmp (w : Wd) (O : List Addr) : Prop where
  nd : O.Nodup
  at_ : ∀ a ∈ O, w.H a ≠ none ∧ ¬ w.F a ∧ a ∉ w.o
theorem Tmp.nil (w : Wd) : Tmp w [] := ⟨List.nodup_nil, fun _ h => by cases h⟩
/-- O has come from m or is new -/
def New (m : List Addr) (w : Wd) (O : List Addr) : Prop := ∀ a ∈ O, a ∈ m ∨ w.H a = none
theorem Tmp.ext {m : List Addr} {w w' : Wd} {O : List Addr} (t : Tmp w O) (x : Ext m w w') (hm : ∀ a ∈ O, a ∉ m) : Tmp w' O where
  nd := t.nd
  at_ := fun a h => by
    obtain ⟨h1, h2, h3⟩ := t.at_ a h
    refine ⟨x.kp a h1, fun f => ?_, fun f => ?_⟩
    · rcases x.newF a f with f | f | f
      · exact h2 f
      · exact h1 f
      · exact hm a h f
    · rcases x.os a f with f | f
      · exact hm a h f
      · exact h1 f
theorem Rel.ext {m : List Addr} {w w' : Wd} {v : V} {s : Sl} {O : List Addr} (ok : w.Ok) (r : Rel w.F w.H v s O) (x : Ext m w w') (hF : ∀ a, w.F a → a ∉ m) (hO : ∀ a ∈ O, w.H a ≠ none ∧ a ∉ m) : Rel w'.F w'.H v s O :=
  r.mono (fun a h => ⟨x.sub a h, x.fr a (ok.fh a h) (hF a h)⟩) fun a h => x.fr a (hO a h).1 (hO a h).2
/-- the slots: σ is what the machine's slots hold, pv what the pinned ones held at first -/
structure Mt (pv : Nat → V) (w : Wd) (σ : St) (en : En) : Prop where
  ok : w.Ok
  l1 : σ.length = en.length
  l2 : w.Os.length = en.length
  at_ : ∀ (i : Nat) (s : Sl) (p : Bool), en[i]? = some (⟨p, some s⟩ : Slt) → ∃ v O, σ[i]? = some (some v) ∧ w.Os[i]? = some O ∧ Rel w.F w.H v s O
  no : ∀ (i : Nat) (p : Bool), en[i]? = some (⟨p, none⟩ : Slt) → w.Os[i]? = some []
  pin : ∀ (i : Nat) (o : Option Sl), en[i]? = some (⟨true, o⟩ : Slt) → σ[i]? = some (some (pv i))
/-- an operand -/
def Orl (w : Wd) (σ : St) (en : En) (v : V) (o : Opd) (O : List Addr) : Prop := match o with
  | .val s => Rel w.F w.H v s O
  | .slot i => O = [] ∧ σ[i]? = some (some v)
abbrev noX : Xc → En → Prop := fun _ _ => False
/-- several operands at hand, from w on -/
structure Fins (pv : Nat → V) (w : Wd) (σ : St) (en' : En) (w' : Wd) (vs : List V) (os : List Opd) (Ps : List (List Addr)) : Prop where
  x : Ext w.o w w'
  mt : Mt pv w' σ en'
  l1 : vs.length = os.length
  l2 : Ps.length = os.length
  r : ∀ (i : Nat) (v : V) (o : Opd) (P : List Addr), vs[i]? = some v → os[i]? = some o → Ps[i]? = some P → Orl w' σ en' v o P
  t : Tmp w' Ps.flatten
  n : New w.o w Ps.flatten
/-- one operand -/
structure Fi1 (pv : Nat → V) (w : Wd) (σ : St) (en' : En) (w' : Wd) (v : V) (o : Opd) (O : List Addr) : Prop where
  x : Ext w.o w w'
  mt : Mt pv w' σ en'
  r : Orl w' σ en' v o O
  t : Tmp w' O
  n : New w.o w O
theorem Orl.ext {m : List Addr} {w w' : Wd} {σ : St} {en en' : En} {v : V} {o : Opd} {O : List Addr} (ok : w.Ok) (r : Orl w σ en v o O) (x : Ext m w w') (hF : ∀ a, w.F a → a ∉ m) (hO : ∀ a ∈ O, w.H a ≠ none ∧ a ∉ m) : Orl w' σ en' v o O := by
  cases o with
  | val s => exact Rel.ext ok r x hF hO
  | slot i => exact r
theorem Fins.nil {pv : Nat → V} {w : Wd} {σ : St} {en : En} (h : Mt pv w σ en) : Fins pv w σ en w [] [] [] :=
  ⟨Ext.refl w, h, rfl, rfl, fun i v o P h => (by simp at h), Tmp.nil w, fun a h => (by simp at h)⟩
theorem Fins.cons {pv : Nat → V} {w w1 w2 : Wd} {σ : St} {en1 en2 : En} {v : V} {o : Opd} {O : List Addr} {vs : List V} {os : List Opd} {Ps : List (List Addr)}
    (f : Fi1 pv w σ en1 w1 v o O) (g : Fins pv w1 σ en2 w2 vs os Ps) : Fins pv w σ en2 w2 (v :: vs) (o :: os) (O :: Ps) where
  x := f.x.trans g.x f.x.os
  mt := g.mt
  l1 := by simp [g.l1]
  l2 := by simp [g.l2]
  r := fun i v' o' P h1 h2 h3 => by
    cases i with
    | zero =>
      simp only [List.getElem?_cons_zero, Option.some.injEq] at h1 h2 h3
      subst h1 h2 h3
      exact f.r.ext f.mt.ok g.x f.mt.ok.fo fun a ha => ⟨(f.t.at_ a ha).1, (f.t.at_ a ha).2.2⟩
    | succ i => exact g.r i v' o' P (by simpa using h1) (by simpa using h2) (by simpa using h3)
  t := by
    have t1 : Tmp w2 O := f.t.ext g.x fun a ha => (f.t.at_ a ha).2.2
    refine ⟨?_, fun a ha => ?_⟩
    · rw [List.flatten_cons, List.nodup_append]
      refine ⟨t1.nd, g.t.nd, fun a ha b hb e => ?_⟩
      subst e
      rcases g.n a hb with h | h
      · exact (f.t.at_ a ha).2.2 h
      · exact (f.t.at_ a ha).1 h
    · rw [List.flatten_cons] at ha
      rcases List.mem_append.mp ha with ha | ha
      · exact t1.at_ a ha
      · exact g.t.at_ a ha
  n := fun a ha => by
    rw [List.flatten_cons] at ha
    rcases List.mem_append.mp ha with ha | ha
    · exact f.n a ha
    · rcases g.n a ha with h | h
      · exact f.x.os a h
      · refine .inr ?_
        cases e : w.H a with
        | none => rfl
        | some z => exact absurd h (f.x.kp a (by rw [e]; simp))
/-- operands stand at hand at w; one step from there -/
structure Have (pv : Nat → V) (w : Wd) (σ : St) (en : En) (vs : List V) (os : List Opd) (Ps : List (List Addr)) : Prop where
  mt : Mt pv w σ en
  l1 : vs.length = os.length
  l2 : Ps.length = os.length
  r : ∀ (i : Nat) (v : V) (o : Opd) (P : List Addr), vs[i]? = some v → os[i]? = some o → Ps[i]? = some P → Orl w σ en v o P
  t : Tmp w Ps.flatten
theorem Fins.have_ {pv : Nat → V} {w w' : Wd} {σ : St} {en' : En} {vs : List V} {os : List Opd} {Ps : List (List Addr)} (f : Fins pv w σ en' w' vs os Ps) : Have pv w' σ en' vs os Ps := ⟨f.mt, f.l1, f.l2, f.r, f.t⟩
/-- one step from w with P at hand: a value at the end -/
structure Go (pv : Nat → V) (P : List Addr) (w : Wd) (σ : St) (en' : En) (w' : Wd) (v : V) (o : Opd) (O : List Addr) : Prop where
  x : Ext (w.o ++ P) w w'
  mt : Mt pv w' σ en'
  r : Orl w' σ en' v o O
  t : Tmp w' O
  n : New (w.o ++ P) w O
theorem Fins.go {pv : Nat → V} {w w' w2 : Wd} {σ : St} {en' en2 : En} {vs : List V} {os : List Opd} {Ps : List (List Addr)} {v : V} {o : Opd} {O : List Addr} (f : Fins pv w σ en' w' vs os Ps) (g : Go pv Ps.flatten w' σ en2 w2 v o O) : Fi1 pv w σ en2 w2 v o O := by
  have hm : ∀ a ∈ w'.o ++ Ps.flatten, a ∈ w.o ∨ w.H a = none := fun a ha => (List.mem_append.mp ha).elim (f.x.os a) (f.n a)
  refine ⟨f.x.trans g.x hm, g.mt, g.r, g.t, fun a ha => ?_⟩
  rcases g.n a ha with h | h
  · exact hm a h
  · refine .inr ?_
    cases e : w.H a with
    | none => rfl
    | some z => exact absurd h (f.x.kp a (by rw [e]; simp))

/-! ### readings -/
def tO (pv : Nat → V) (m : M Opd) : TE := fun σ H Q => ∃ w en, w.H = H ∧ Mt pv w σ en ∧ m.run en (fun o en' => ∀ w' v O, Fi1 pv w σ en' w' v o O → Q v w'.H) noX
def tOs (pv : Nat → V) (m : M (List Opd)) : TA := fun σ H Q => ∃ w en, w.H = H ∧ Mt pv w σ en ∧ m.run en (fun os en' => ∀ w' vs Ps, Fins pv w σ en' w' vs os Ps → Q vs w'.H) noX
/-- an operation of two operands, by values -/
def VS2 (f : Opd → Opd → M Opd) (r : R2) : Prop := ∀ (pv : Nat → V) (w : Wd) (σ : St) (en : En) (x y : V) (a b : Opd) (P P' : List Addr) (K : Opd → En → Prop) (Q : VK),
  Have pv w σ en [x, y] [a, b] [P, P'] → (f a b).run en K noX → (∀ en' w' v o O, Go pv (P ++ P') w σ en' w' v o O → K o en' → Q v w'.H) → r x y w.H Q
theorem tO_bin {pv : Nat → V} {ma mb : M Opd} {f : Opd → Opd → M Opd} {r : R2} (hf : VS2 f r) {σ : St} {H : Hp} {Q : VK} (h : tO pv (ma >>= fun a => mb >>= fun b => f a b) σ H Q) : tOp r (tO pv ma) (tO pv mb) σ H Q := by
  obtain ⟨w, en, rfl, m0, h⟩ := h
  refine ⟨w, en, rfl, m0, ma.mono h (fun a en1 h1 w1 x P F1 => ?_) fun _ _ z => z⟩
  refine ⟨w1, en1, rfl, F1.mt, mb.mono h1 (fun b en2 h2 w2 y P' F2 => ?_) fun _ _ z => z⟩
  have FF : Fins pv w σ en2 w2 [x, y] [a, b] [P, P'] := Fins.cons F1 (by
    have := Fins.cons F2 (Fins.nil F2.mt)
    exact this)
  refine hf pv w2 σ en2 x y a b P P' _ Q FF.have_ h2 fun en' w' v o O g k => k w' v O (FF.go ?_)
  simpa using g
end Rf
end
section
set_option Elab.async false
set_option linter.all false
set_option maxRecDepth 100000
set_option maxHeartbeats 4000000
set_option autoImplicit false
/-! Rf4: looking at operands, keeping them; what a step leaves. -/
namespace Rf
open PySem PySem.Spec L2

/-! ### a value seen as data, whoever owns it -/
mutual
inductive Vd (H : Hp) : V → D → Prop
  | non : Vd H .non .none
  | bl (b : Bool) : Vd H (.bl b) (.bool b)
  | int (i : Int) : Vd H (.int i) (.int i)
  | str (x : Str) : Vd H (.str x) (.str x)
  | lst {a : Addr} {vs : List V} {ds : List D} : Rd H a (.lst vs) → Vds H vs ds → Vd H (.ref a) (.list ds)
  | tup {a : Addr} {vs : List V} {ds : List D} : H a = some (.tup vs) → Vds H vs ds → Vd H (.ref a) (.tuple ds)
  | dic {a : Addr} {kvs : List (Key × V)} {ds : List (D × D)} : Rd H a (.dK kvs) → (kvs.map (·.1)).Nodup → Vdk H kvs ds → Vd H (.ref a) (.dict ds)
inductive Vds (H : Hp) : List V → List D → Prop
  | nil : Vds H [] []
  | cons {v : V} {vs : List V} {d : D} {ds : List D} : Vd H v d → Vds H vs ds → Vds H (v :: vs) (d :: ds)
inductive Vdk (H : Hp) : List (Key × V) → List (D × D) → Prop
  | nil : Vdk H [] []
  | cons {k : Key} {v : V} {kvs : List (Key × V)} {d : D} {ds : List (D × D)} : Vd H v d → Vdk H kvs ds → Vdk H ((k, v) :: kvs) ((keyD k, d) :: ds)
end
mutual
theorem Rp.vd {F : Addr → Prop} {H : Hp} : ∀ {v : V} {d : D}, Rp F H v d → Vd H v d
  | _, _, .non => .non
  | _, _, .bl b => .bl b
  | _, _, .int i => .int i
  | _, _, .str x => .str x
  | _, _, .lst _ h t => .lst h (Rps.vds t)
  | _, _, .tup _ h t => .tup h (Rps.vds t)
  | _, _, .dic _ h n t => .dic (.inr ⟨_, h⟩) n (Rpk.vdk t)
theorem Rps.vds {F : Addr → Prop} {H : Hp} : ∀ {vs : List V} {ds : List D}, Rps F H vs ds → Vds H vs ds
  | _, _, .nil => .nil
  | _, _, .cons h t => .cons (Rp.vd h) (Rps.vds t)
theorem Rpk.vdk {F : Addr → Prop} {H : Hp} : ∀ {vs : List (Key × V)} {ds : List (D × D)}, Rpk F H vs ds → Vdk H vs ds
  | _, _, .nil => .nil
  | _, _, .cons h t => .cons (Rp.vd h) (Rpk.vdk t)
end
theorem Tp.vd {F : Addr → Prop} {H : Hp} {v : V} {d : D} {O : List Addr} (t : Tp F H v d O) : Vd H v d := by
  cases t with
  | lst h t => exact .lst (.inl h) t.vds
  | dic h n t => exact .dic (.inl h) n t.vdk
/-- v is d, its own object read, its parts shared -/
inductive Sh (F : Addr → Prop) (H : Hp) : V → D → Prop
  | non : Sh F H .non .none
  | bl (b : Bool) : Sh F H (.bl b) (.bool b)
  | int (i : Int) : Sh F H (.int i) (.int i)
  | str (x : Str) : Sh F H (.str x) (.str x)
  | lst {a : Addr} {vs : List V} {ds : List D} : Rd H a (.lst vs) → Rps F H vs ds → Sh F H (.ref a) (.list ds)
  | tup {a : Addr} {vs : List V} {ds : List D} : F a → H a = some (.tup vs) → Rps F H vs ds → Sh F H (.ref a) (.tuple ds)
  | dic {a : Addr} {kvs : List (Key × V)} {ds : List (D × D)} : Rd H a (.dK kvs) → (kvs.map (·.1)).Nodup → Rpk F H kvs ds → Sh F H (.ref a) (.dict ds)
theorem Rp.sh {F : Addr → Prop} {H : Hp} {v : V} {d : D} (r : Rp F H v d) : Sh F H v d := by
  cases r with
  | non => exact .non
  | bl b => exact .bl b
  | int i => exact .int i
  | str x => exact .str x
  | lst _ h t => exact .lst h t
  | tup f h t => exact .tup f h t
  | dic _ h n t => exact .dic (.inr ⟨_, h⟩) n t
theorem Tp.sh {F : Addr → Prop} {H : Hp} {v : V} {d : D} {O : List Addr} (t : Tp F H v d O) : Sh F H v d := by
  cases t with
  | lst h t => exact .lst (.inl h) t
  | dic h n t => exact .dic (.inl h) n t
theorem Rel.sh {F : Addr → Prop} {H : Hp} {v : V} {s : Sl} {O : List Addr} (r : Rel F H v s O) : Sh F H v s.d := by
  unfold Rel at r
  split at r
  · exact r.2.sh
  · exact Tp.sh r
theorem Rel.vd {F : Addr → Prop} {H : Hp} {v : V} {s : Sl} {O : List Addr} (r : Rel F H v s O) : Vd H v s.d := by
  unfold Rel at r
  split at r
  · exact r.2.vd
  · exact Tp.vd r
theorem Vds.length {H : Hp} {vs : List V} {ds : List D} (t : Vds H vs ds) : vs.length = ds.length := by
  match t with
  | .nil => rfl
  | .cons _ t => simp [Vds.length t]
theorem Rps.length {F : Addr → Prop} {H : Hp} {vs : List V} {ds : List D} (t : Rps F H vs ds) : vs.length = ds.length := t.vds.length
theorem Vds.get {H : Hp} : ∀ {vs : List V} {ds : List D} {i : Nat} {d : D}, Vds H vs ds → ds[i]? = some d → ∃ v, vs[i]? = some v ∧ Vd H v d
  | _, _, 0, _, .cons h _, e => by
    simp only [List.getElem?_cons_zero, Option.some.injEq] at e
    subst e
    exact ⟨_, rfl, h⟩
  | _, _, i + 1, _, .cons _ t, e => by
    obtain ⟨v, h1, h2⟩ := Vds.get (i := i) t (by simpa using e)
    exact ⟨v, by simpa using h1, h2⟩
theorem Rps.get {F : Addr → Prop} {H : Hp} : ∀ {vs : List V} {ds : List D} {i : Nat} {d : D}, Rps F H vs ds → ds[i]? = some d → ∃ v, vs[i]? = some v ∧ Rp F H v d
  | _, _, 0, _, .cons h _, e => by
    simp only [List.getElem?_cons_zero, Option.some.injEq] at e
    subst e
    exact ⟨_, rfl, h⟩
  | _, _, i + 1, _, .cons _ t, e => by
    obtain ⟨v, h1, h2⟩ := Rps.get (i := i) t (by simpa using e)
    exact ⟨v, by simpa using h1, h2⟩
theorem Rps.append {F : Addr → Prop} {H : Hp} : ∀ {vs ws : List V} {ds es : List D}, Rps F H vs ds → Rps F H ws es → Rps F H (vs ++ ws) (ds ++ es)
  | _, _, _, _, .nil, s => s
  | _, _, _, _, .cons r t, s => .cons r (Rps.append t s)
mutual
/-- the hand layer's relation, where no dict is within -/
theorem Vd.dp (K : PySem.W.Frag) {H : Hp} : ∀ {v : V} {d : D}, Vd H v d → d.canLay0 = true → Dp K H v d
  | _, _, .non, _ => .non
  | _, _, .bl b, _ => .bl b
  | _, _, .int i, _ => .int i
  | _, _, .str x, _ => .str x
  | _, _, .lst h t, c => .lst (.inl h) (Vds.dp K t (by simpa [PyData.canLay0] using c))
  | _, _, .tup h t, c => .tup (SqT.of h) (Vds.dp K t (by simpa [PyData.canLay0] using c))
  | _, _, .dic _ _ _, c => by simp [PyData.canLay0] at c
theorem Vds.dp (K : PySem.W.Frag) {H : Hp} : ∀ {vs : List V} {ds : List D}, Vds H vs ds → PyData.canLayAll0 ds = true → DpAll K H vs ds
  | _, _, .nil, _ => .nil
  | _, _, .cons h t, c => by
    simp only [PyData.canLayAll0, Bool.and_eq_true] at c
    exact .cons (Vd.dp K h c.1) (Vds.dp K t c.2)
end
theorem shap_lay {d : D} (h : shap d) : d.canLay0 = true := (Bool.and_eq_true_iff.mp (show (d.canLay0 && decide (d.depth ≤ 64)) = true from h)).1

/-! ### slots -/
theorem getSl_some {e : En} {i : Nat} {s : Sl} (h : getSl e i = some s) : ∃ p, e[i]? = some (⟨p, some s⟩ : Slt) := by
  unfold getSl at h
  split at h
  · rename_i p o q
    subst h
    exact ⟨p, q⟩
  · cases h
theorem Mt.get {pv : Nat → V} {w : Wd} {σ : St} {en : En} (m : Mt pv w σ en) {i : Nat} {s : Sl} (h : getSl en i = some s) : ∃ v O, σ[i]? = some (some v) ∧ w.Os[i]? = some O ∧ Rel w.F w.H v s O := by
  obtain ⟨p, q⟩ := getSl_some h
  exact m.at_ i s p q
theorem Sh.vd {F : Addr → Prop} {H : Hp} {v : V} {d : D} (r : Sh F H v d) : Vd H v d := by
  cases r with
  | non => exact .non
  | bl b => exact .bl b
  | int i => exact .int i
  | str x => exact .str x
  | lst h t => exact .lst h t.vds
  | tup f h t => exact .tup h t.vds
  | dic h n t => exact .dic h n t.vdk
/-- looking at an operand -/
theorem peek_run {pv : Nat → V} {w : Wd} {σ : St} {en : En} {v : V} {o : Opd} {O : List Addr} {α : Type} {f : D → M α} {K : α → En → Prop} (m : Mt pv w σ en) (r : Orl w σ en v o O) (h : (peek o >>= f).run en K noX) :
    ∃ d, Sh w.F w.H v d ∧ (f d).run en K noX := by
  cases o with
  | val s => exact ⟨s.d, Rel.sh r, h⟩
  | slot i =>
    have h' : (match getSl en i with | some s => (f s.d).run en K noX | none => False) := h
    split at h'
    · rename_i s e
      obtain ⟨v', O', h1, h2, h3⟩ := m.get e
      rw [r.2] at h1
      cases h1
      exact ⟨s.d, h3.sh, h'⟩
    · exact h'.elim
theorem Have.peek2 {pv : Nat → V} {w : Wd} {σ : St} {en : En} {x y : V} {a b : Opd} {P P' : List Addr} {α : Type} {f : D → D → M α} {K : α → En → Prop} (h : Have pv w σ en [x, y] [a, b] [P, P'])
    (q : (peek a >>= fun d => peek b >>= fun e => f d e).run en K noX) : ∃ d e, Sh w.F w.H x d ∧ Sh w.F w.H y e ∧ (f d e).run en K noX := by
  obtain ⟨d, h1, q⟩ := peek_run h.mt (h.r 0 x a P rfl rfl rfl) q
  obtain ⟨e, h2, q⟩ := peek_run h.mt (h.r 1 y b P' rfl rfl rfl) q
  exact ⟨d, e, h1, h2, q⟩
theorem Have.peek1 {pv : Nat → V} {w : Wd} {σ : St} {en : En} {x : V} {a : Opd} {P : List Addr} {α : Type} {f : D → M α} {K : α → En → Prop} (h : Have pv w σ en [x] [a] [P])
    (q : (peek a >>= f).run en K noX) : ∃ d, Sh w.F w.H x d ∧ (f d).run en K noX := peek_run h.mt (h.r 0 x a P rfl rfl rfl) q

/-! ### where a step may end -/
theorem Ext.same {w : Wd} (m : List Addr) : Ext (w.o ++ m) w w := ⟨fun _ h => h, fun _ h => .inl h, fun _ _ _ => rfl, fun _ h => .inl (List.mem_append_left _ h), fun _ h => h⟩
/-- nothing has changed, the answer is shared -/
theorem Go.same {pv : Nat → V} {w : Wd} {σ : St} {en : En} {v : V} {d : D} (m : Mt pv w σ en) (P : List Addr) (r : Rp w.F w.H v d) : Go pv P w σ en w v (val0 d) [] :=
  ⟨Ext.same P, m, ⟨rfl, r⟩, Tmp.nil w, fun _ h => by cases h⟩
def Wd.new (w : Wd) (p : Addr) (o : HO) : Wd := ⟨w.F, w.Os, upd w.H p o⟩
def Wd.newF (w : Wd) (p : Addr) (o : HO) : Wd := ⟨fun a => w.F a ∨ a = p, w.Os, upd w.H p o⟩
section
variable {pv : Nat → V} {w : Wd} {σ : St} {en : En} {p : Addr} {o : HO}
theorem upd_old {H : Hp} {p : Addr} {o : HO} (hp : H p = none) : ∀ a, H a ≠ none → upd H p o a = H a := fun a h => upd_ne fun e => h (e ▸ hp)
theorem Wd.Ok.ne (ok : w.Ok) (hp : w.H p = none) {a : Addr} (h : w.H a ≠ none) : a ≠ p := fun e => h (e ▸ hp)
theorem new_ext (m : List Addr) (hp : w.H p = none) : Ext (w.o ++ m) w (w.new p o) where
  sub := fun _ h => h
  newF := fun _ h => .inl h
  fr := fun a h _ => upd_ne fun e => h (e ▸ hp)
  os := fun a h => .inl (List.mem_append_left _ h)
  kp := fun a h => by
    show upd w.H p o a ≠ none
    rw [upd_old hp a h]
    exact h
theorem newF_ext (m : List Addr) (hp : w.H p = none) : Ext (w.o ++ m) w (w.newF p o) where
  sub := fun _ h => .inl h
  newF := fun a h => h.elim .inl fun e => .inr (.inl (e ▸ hp))
  fr := fun a h _ => upd_ne fun e => h (e ▸ hp)
  os := fun a h => .inl (List.mem_append_left _ h)
  kp := fun a h => by
    show upd w.H p o a ≠ none
    rw [upd_old hp a h]
    exact h
theorem Wd.Ok.new (ok : w.Ok) (hp : w.H p = none) : (w.new p o).Ok where
  fh := fun a h => by
    show upd w.H p o a ≠ none
    rw [upd_ne (ok.ne hp (ok.fh a h))]
    exact ok.fh a h
  fo := ok.fo
  oh := fun a h => by
    show upd w.H p o a ≠ none
    rw [upd_ne (ok.ne hp (ok.oh a h))]
    exact ok.oh a h
  nd := ok.nd
theorem Wd.Ok.newF (ok : w.Ok) (hp : w.H p = none) : (w.newF p o).Ok where
  fh := fun a h => by
    show upd w.H p o a ≠ none
    rcases h with h | h
    · rw [upd_ne (ok.ne hp (ok.fh a h))]
      exact ok.fh a h
    · subst h
      rw [upd_same]
      simp
  fo := fun a h => by
    rcases h with h | h
    · exact ok.fo a h
    · subst h
      exact fun z => ok.oh a z hp
  oh := fun a h => by
    show upd w.H p o a ≠ none
    rw [upd_ne (ok.ne hp (ok.oh a h))]
    exact ok.oh a h
  nd := ok.nd
theorem mem_o {w : Wd} {i : Nat} {O : List Addr} (h : w.Os[i]? = some O) {a : Addr} (ha : a ∈ O) : a ∈ w.o := List.mem_flatten.mpr ⟨O, List.mem_of_getElem? h, ha⟩
/-- the slots stand as they stood where the world only grew -/
theorem Mt.grow {w' : Wd} (m : Mt pv w σ en) (hOs : w'.Os = w.Os) (ok : w'.Ok) (hF : ∀ a, w.F a → w'.F a) (hH : ∀ a, w.H a ≠ none → w'.H a = w.H a) : Mt pv w' σ en where
  ok := ok
  l1 := m.l1
  l2 := by rw [hOs]; exact m.l2
  at_ := fun i s q h => by
    obtain ⟨v, O, h1, h2, h3⟩ := m.at_ i s q h
    exact ⟨v, O, h1, by rw [hOs]; exact h2, h3.mono (fun a ha => ⟨hF a ha, hH a (m.ok.fh a ha)⟩) fun a ha => hH a (m.ok.oh a (mem_o h2 ha))⟩
  no := fun i q h => by rw [hOs]; exact m.no i q h
  pin := m.pin
/-- a new list of shared things -/
theorem Go.lst {vs : List V} {ds : List D} (m : Mt pv w σ en) (P : List Addr) (hp : w.H p = none) (r : Rps w.F w.H vs ds) : Go pv P w σ en (w.new p (.lst vs)) (.ref p) (.val ⟨.top, .list ds⟩) [p] where
  x := new_ext P hp
  mt := m.grow rfl (m.ok.new hp) (fun _ h => h) (upd_old hp)
  r := .lst (vs := vs) upd_same (r.mono fun a h => ⟨h, upd_old hp a (m.ok.fh a h)⟩)
  t := ⟨by simp, fun a ha => by
    have e : a = p := by simpa using ha
    subst e
    exact ⟨by show upd w.H a _ a ≠ none; rw [upd_same]; simp, fun f => m.ok.fh a f hp, fun f => m.ok.oh a f hp⟩⟩
  n := fun a ha => by
    have e : a = p := by simpa using ha
    exact .inr (e ▸ hp)
/-- a new dict of shared things -/
theorem Go.dic {kvs : List (Key × V)} {ds : List (D × D)} (m : Mt pv w σ en) (P : List Addr) (hp : w.H p = none) (hn : (kvs.map (·.1)).Nodup) (r : Rpk w.F w.H kvs ds) :
    Go pv P w σ en (w.new p (.dK kvs)) (.ref p) (.val ⟨.top, .dict ds⟩) [p] where
  x := new_ext P hp
  mt := m.grow rfl (m.ok.new hp) (fun _ h => h) (upd_old hp)
  r := .dic (kvs := kvs) upd_same hn (r.mono fun a h => ⟨h, upd_old hp a (m.ok.fh a h)⟩)
  t := ⟨by simp, fun a ha => by
    have e : a = p := by simpa using ha
    subst e
    exact ⟨by show upd w.H a _ a ≠ none; rw [upd_same]; simp, fun f => m.ok.fh a f hp, fun f => m.ok.oh a f hp⟩⟩
  n := fun a ha => by
    have e : a = p := by simpa using ha
    exact .inr (e ▸ hp)
/-- a new tuple of shared things -/
theorem Go.tup {vs : List V} {ds : List D} (m : Mt pv w σ en) (P : List Addr) (hp : w.H p = none) (r : Rps w.F w.H vs ds) : Go pv P w σ en (w.newF p (.tup vs)) (.ref p) (val0 (.tuple ds)) [] where
  x := newF_ext P hp
  mt := m.grow rfl (m.ok.newF hp) (fun _ h => .inl h) (upd_old hp)
  r := ⟨rfl, .tup (.inr rfl) upd_same (r.mono fun a h => ⟨.inl h, upd_old hp a (m.ok.fh a h)⟩)⟩
  t := Tmp.nil _
  n := fun _ h => by cases h
end
end Rf
end
section
set_option Elab.async false
set_option linter.all false
set_option maxRecDepth 100000
set_option maxHeartbeats 4000000
set_option autoImplicit false
/-! Rf5: the operators and comparisons. -/
namespace Rf
open PySem PySem.Spec L2

/-- the reading of an operation of two operands -/
def rOf2 (f : Opd → Opd → M Opd) : R2 := fun x y H Q => ∃ (pv : Nat → V) (w : Wd) (σ : L2.St) (en : En) (a b : Opd) (P P' : List Addr) (K : Opd → En → Prop), w.H = H ∧ Have pv w σ en [x, y] [a, b] [P, P'] ∧ (f a b).run en K noX ∧
  ∀ en' w' v o O, Go pv (P ++ P') w σ en' w' v o O → K o en' → Q v w'.H
theorem rOf2_vs (f : Opd → Opd → M Opd) : VS2 f (rOf2 f) := fun pv w σ en x y a b P P' K Q h r k => ⟨pv, w, σ, en, a, b, P, P', K, rfl, h, r, k⟩
theorem tO_bin2 {pv : Nat → V} {ma mb : M Opd} {f : Opd → Opd → M Opd} {σ : L2.St} {H : Hp} {Q : VK} (h : tO pv (ma >>= fun a => mb >>= fun b => f a b) σ H Q) : tOp (rOf2 f) (tO pv ma) (tO pv mb) σ H Q := tO_bin (rOf2_vs f) h
/-- what the hand layer's rules want of the place -/
structure Cok (k : Nat) (X : Cx) : Prop where
  room : Room k X.A
  calm : X.calm = true
  guards : X.A.guards = some []
  sm : ∃ o, X.base.get? sysModules = some o
def bopM (o : Bop) (a b : Opd) : M Opd := do
  let d ← peek a
  let e ← peek b
  bop o d e
def opOf : Bop → Operator
  | .add => .Add | .sub => .Sub | .mul => .Mult | .fdiv => .FloorDiv | .mod => .Mod | .pow => .Pow

section
variable {X : Cx} {pins : List (Addr × Obj)} {σ : L2.St} {H : Hp} {s : Shared}
theorem rd_lst {a : Addr} {xs : List V} (I : Inv X pins σ H s) (h : Rd H a (.lst xs)) : ∃ (its : List Value) (n : Nat), Vals xs its ∧ xs.length = its.length ∧ s.heap.get? a = some { cls := .type "list", data := .seq its.toArray n } ∧ xs.length ≤ sizeLine := by
  have q : ObjOk X.prog X.w H s.heap a (.lst xs) := h.ok I.hok
  obtain ⟨z, its, n, r, e⟩ := q
  exact ⟨its, n, r, r.length, e, z⟩
/-- two lists that are read, put one behind the other -/
theorem cat_read {E : Value → Shared → Prop} {a b : Addr} {xs ys : List V} {Q : VK} (I : Inv X pins σ H s) (ha : Rd H a (.lst xs)) (hb : Rd H b (.lst ys)) (hz : xs.length + ys.length ≤ sizeLine) (q : ∀ p, H p = none → Q (.ref p) (upd H p (.lst (xs ++ ys)))) :
    wpAny (model X.prog X.w) X.A (binaryOp .Add (.ref a) (.ref b)) (EP X pins σ Q) E s := by
  obtain ⟨its, n1, r1, l1, e1, _⟩ := rd_lst I ha
  obtain ⟨jts, n2, r2, l2, e2, _⟩ := rd_lst I hb
  refine PySem.P.add_list e1 e2 ?_ (by rw [List.size_toArray, List.size_toArray]; omega)
  have e3 : its.toArray ++ jts.toArray = (its ++ jts).toArray := by simp
  rw [e3]
  have J := I.lnew (t' := s.toks) (r1.append r2) (by rw [List.length_append]; omega)
  exact ⟨.ref _, _, J, rfl, q _ I.fresh⟩
theorem rep_read {E : Value → Shared → Prop} {a : Addr} {xs : List V} {k : Int} {t : Tok} {Q : VK} (I : Inv X pins σ H s) (ha : Rd H a (.lst xs)) (h1 : -(2 ^ 63) ≤ k) (h2 : k < 2 ^ 63) (hz : xs.length * k.toNat ≤ sizeLine) (q : ∀ p, H p = none → Q (.ref p) (upd H p (.lst (List.replicate k.toNat xs).flatten))) :
    wpAny (model X.prog X.w) X.A (binaryOp .Mult (.ref a) (.int k t)) (EP X pins σ Q) E s := by
  obtain ⟨its, n, r, l, e, _⟩ := rd_lst I ha
  have z1 : its.toArray.size * k.toNat ≤ sizeLine := by
    rw [List.size_toArray, ← l]; exact hz
  have z2 : ¬ its.toArray.size * k.toNat > (2 ^ 63 - 1) / 8 := by
    have h8 : (sizeLine : Nat) ≤ (2 ^ 63 - 1) / 8 := (by decide)
    omega
  have z3 : ¬ (!Builtin.List.listFitsIndex k) = true := by
    rw [fitsIndex_both h1 h2]; simp
  have z4 : ¬ Builtin.List.listTooLong (its.toArray.size * k.toNat) = true := by
    rw [notLongL z1]; simp
  have fr : ∀ m : Nat, List.foldl (fun u v => u ++ v) #[] (List.replicate m its.toArray) = (List.replicate m its).flatten.toArray := fun m =>
    (congrArg _ rfl).trans ((foldl_rep its m []).trans (by rw [List.nil_append]))
  have z5 : List.foldl (fun u v => u ++ v) #[] (List.replicate (if its.toArray.isEmpty = true then 0 else k.toNat) its.toArray) = (List.replicate k.toNat its).flatten.toArray := by
    refine (fr _).trans ?_
    cases its
    · simp
    · rw [if_neg (by simp)]
  have ty : s.TypeIs (.ref a) "list" := ⟨_, e, rfl⟩
  have inner := AutoListH.list___mul___list_int_3 a its.toArray n k t z3 z2 z4
  refine wpAny_binaryOp_repeat_ref (T := "list") (U := "int") (by decide) ty (fun s' => typeIs_int s' k t) noFill_list_mul F.fills_int_mul
    F.slot_int_rmul repeat_list F.slot_int_index.lookup ?_
  refine call_meets F.slot_int_rmul (typeIs_int s k t) F.entry_int_rmul (F.args_int_rmul_2 _ _)
    (int___rmul___int_list k t a its.toArray n) ⟨e, rfl, ty, ?_⟩
  refine call_meets F.slot_list_mul ty F.entry_list_mul (F.args_list_mul_2 _ _) inner ⟨e, ?_⟩
  rw [z5]
  have J := I.lnew (t' := s.toks) (r.rep k.toNat) (by rw [PyProof.Rows.lm_len_rep_flat, Nat.mul_comm]; exact hz)
  exact ⟨.ref _, _, J, rfl, q _ I.fresh⟩
end

theorem Vals.mapRel {F : Addr → Prop} {H : Hp} : ∀ {vs : List V} {ds : List D} {ws : List V} {es : List D}, Rps F H vs ds → Rps F H ws es → Rps F H (vs ++ ws) (ds ++ es)
  | _, _, _, _, h, h' => h.append h'
theorem Rps.rep {F : Addr → Prop} {H : Hp} {vs : List V} {ds : List D} (h : Rps F H vs ds) : ∀ n : Nat, Rps F H (List.replicate n vs).flatten (List.replicate n ds).flatten
  | 0 => .nil
  | n + 1 => by
    rw [List.replicate_succ, List.replicate_succ, List.flatten_cons, List.flatten_cons]
    exact h.append (Rps.rep h n)

/-- the binary operators -/
theorem op_powW {X : Cx} : OpR X (binaryOp .Pow) (rI CPowW fun i j => .int (i ^ j.toNat)) := opI fun _ _ _ _ _ _ _ hc q => PyProof.Rows.pow_int hc.1 hc.2 q
theorem op_bop {k : Nat} {X : Cx} (C : Cok k X) (o : Bop) : OpR X (binaryOp (opOf o)) (rOf2 (bopM o)) := by
  intro pins s σ H x y v u Q I rx ry h
  obtain ⟨pv, w, τ, en, a, b, P, P', K, rfl, hv, hr, hQ⟩ := h
  obtain ⟨d, e, h1, h2, hr⟩ := hv.peek2 hr
  have fin : ∀ {z : V} {dz : D}, Rp w.F w.H z dz → K (val0 dz) en → Q z w.H := fun {z dz} rp kz => hQ en w z (val0 dz) [] (Go.same hv.mt _ rp) kz
  have finL : ∀ {vs : List V} {ds : List D}, Rps w.F w.H vs ds → K (.val ⟨.top, .list ds⟩) en → ∀ p, w.H p = none → Q (.ref p) (upd w.H p (.lst vs)) := fun {vs ds} rp kz p hp =>
    hQ en (w.new p (.lst vs)) (.ref p) _ [p] (Go.lst hv.mt _ hp rp) kz
  have finT : ∀ {vs : List V} {ds : List D}, Rps w.F w.H vs ds → K (val0 (.tuple ds)) en → ∀ p, w.H p = none → Q (.ref p) (upd w.H p (.tup vs)) := fun {vs ds} rp kz p hp =>
    hQ en (w.newF p (.tup vs)) (.ref p) _ [] (Go.tup hv.mt _ hp rp) kz
  unfold bop at hr
  split at hr
  · cases h1; cases h2
    exact op_add pins s σ w.H _ _ v u Q I rx ry ⟨_, _, rfl, rfl, fin (.int _) hr⟩
  · cases h1; cases h2
    exact op_add_str pins s σ w.H _ _ v u Q I rx ry ⟨_, _, rfl, rfl, hr.1, fin (.str _) hr.2⟩
  · cases h1 with
    | lst e1 t1 =>
      cases h2 with
      | lst e2 t2 =>
        cases rx; cases ry
        have l1 := t1.length
        have l2 := t2.length
        exact cat_read I e1 e2 (by rw [l1, l2]; exact hr.1) (finL (t1.append t2) hr.2)
  · cases h1 with
    | tup f1 e1 t1 =>
      cases h2 with
      | tup f2 e2 t2 =>
        have l1 := t1.length
        have l2 := t2.length
        obtain ⟨z, q⟩ := hr
        refine op_catA pins s σ w.H _ _ v u Q I rx ry ⟨_, _, _, _, rfl, rfl, SqT.of e1, SqT.of e2, by rw [l1, l2]; exact z, fun z => ?_, fun _ z => ?_, fun _ _ => ?_⟩
        · subst z
          cases t1
          exact fin (.tup f2 e2 t2) q
        · subst z
          cases t2
          rw [List.append_nil] at q
          exact fin (.tup f1 e1 t1) q
        · exact finT (t1.append t2) q
  · cases h1; cases h2
    exact op_sub pins s σ w.H _ _ v u Q I rx ry ⟨_, _, rfl, rfl, fin (.int _) hr⟩
  · cases h1; cases h2
    exact op_mulW pins s σ w.H _ _ v u Q I rx ry ⟨_, _, rfl, rfl, hr.1, fin (.int _) hr.2⟩
  · cases h1 with
    | lst e1 t1 =>
      cases h2
      cases rx
      obtain ⟨t, rfl⟩ := ry
      have l1 := t1.length
      obtain ⟨⟨z1, z2, z3⟩, q⟩ := hr
      exact rep_read I e1 z1 z2 (by rw [l1]; exact z3) (finL (t1.rep _) q)
  · cases h1; cases h2
    obtain ⟨t, rfl⟩ := rx
    obtain ⟨t', rfl⟩ := ry
    exact PySem.SB.mul hr.1 fun t2 k => ⟨.str _, w.H, I.tok k, ⟨t2, rfl⟩, fin (.str _) hr.2⟩
  · cases h1; cases h2
    exact op_fdivW pins s σ w.H _ _ v u Q I rx ry ⟨_, _, rfl, rfl, hr.1, fin (.int _) hr.2⟩
  · cases h1; cases h2
    exact op_mod pins s σ w.H _ _ v u Q I rx ry ⟨_, _, rfl, rfl, hr.1, fin (.int _) hr.2⟩
  · cases h1; cases h2
    exact op_powW pins s σ w.H _ _ v u Q I rx ry ⟨_, _, rfl, rfl, hr.1, fin (.int _) hr.2⟩
  · exact hr.elim

/-! ### comparisons -/
def copB (o : Cop) (a b : Opd) : M Bool := do
  let d ← peek a
  let e ← peek b
  cop o d e
/-- the reading of a comparison: nothing changes -/
def rCop (o : Cop) : R2 := fun x y H Q => ∃ (pv : Nat → V) (w : Wd) (σ : L2.St) (en : En) (a b : Opd) (P P' : List Addr) (K : Bool → En → Prop), w.H = H ∧ Have pv w σ en [x, y] [a, b] [P, P'] ∧ (copB o a b).run en K noX ∧
  ∀ r, K r en → Q (.bl r) w.H
def cmpOf : Cop → CmpOp
  | .eq => .Eq | .ne => .NotEq | .lt => .Lt | .le => .LtE | .gt => .Gt | .ge => .GtE | .isin => .In | .notin => .NotIn | .is => .Is | .isnot => .IsNot
section
variable {en : En} {d e : D} {α : Type} {f : Bool → M α} {K : α → En → Prop}
theorem eqM_run (h : (eqM d e >>= f).run en K noX) : (scalD d e = true ∨ (shap d ∧ shap e)) ∧ (f (PyData.eqv d e)).run en K noX := by
  unfold eqM at h
  split at h
  · rename_i q
    exact ⟨.inl q, h⟩
  · exact ⟨.inr h.1, h.2⟩
theorem ltM_run (h : (ltM d e >>= f).run en K noX) : (∃ i j, d = .int i ∧ e = .int j ∧ (f (decide (i < j))).run en K noX) ∨ (∃ x y, d = .str x ∧ e = .str y ∧ (f (decide (x.cps.toList < y.cps.toList))).run en K noX) ∨ (ltOk d e ∧ (f (PySem.W.dataLt d e)).run en K noX) := by
  unfold ltM at h
  split at h
  · exact .inl ⟨_, _, rfl, rfl, h⟩
  · exact .inr (.inl ⟨_, _, rfl, rfl, h⟩)
  · exact .inr (.inr h)
theorem inM_run (h : (inM d e >>= f).run en K noX) : (∃ x y, d = .str x ∧ e = .str y ∧ (f (!(Builtin.Str.occurrences y x 0 y.length 1).isEmpty)).run en K noX) ∨
    (∃ ys, e = .list ys ∧ shap d ∧ shap e ∧ (f (ys.any fun z => PyData.eqv z d)).run en K noX) ∨ (∃ ys, e = .tuple ys ∧ shap d ∧ shap e ∧ (f (ys.any fun z => PyData.eqv z d)).run en K noX) ∨
    ∃ kvs, e = .dict kvs ∧ keyOkD d = true ∧ (f (valD kvs d).isSome).run en K noX := by
  unfold inM at h
  split at h
  · split at h
    · exact .inl ⟨_, _, rfl, rfl, h⟩
    · exact (show False from h).elim
  · exact .inr (.inl ⟨_, rfl, h.1.1, h.1.2, h.2⟩)
  · exact .inr (.inr (.inl ⟨_, rfl, h.1.1, h.1.2, h.2⟩))
  · exact .inr (.inr (.inr ⟨_, rfl, h.1, h.2⟩))
  · exact (show False from h).elim
end
section
variable {X : Cx} {pins : List (Addr × Obj)} {σ : L2.St} {H : Hp} {s : Shared} {x y : V} {d e : D} {v u : Value}
theorem scal_eq (h1 : Vd H x d) (h2 : Vd H y e) (h : scalD d e = true) : scal x y = true ∧ decide (x = y) = PyData.eqv d e := by
  cases h1 <;> cases h2 <;> first
    | (refine ⟨rfl, ?_⟩; simp [PyData.eqv]; done)
    | (refine ⟨rfl, ?_⟩; rw [Bool.eq_iff_iff]; simp [PyData.eqv]; done)
    | (simp [scalD] at h; done)
theorem Vd.reads (I : Inv X pins σ H s) (h : Vd H x d) (hs : shap d) (r : RelV x v) : ∃ as, Reads s.heap v d as := Dp.reads I d x v (h.dp X.K (shap_lay hs)) r
theorem shap_depth (h : shap d) : d.depth ≤ 64 := SeqAt.depth_of_shaped h
theorem room_min {k : Nat} {A : Around} (r : Room k A) (h : shap d) (e : D) : A.units + min d.depth e.depth < cLine := by
  have h1 := shap_depth h
  have h2 := r.un
  omega
theorem in_room {k : Nat} {A : Around} (r : Room k A) (h : shap d) (n : Nat) : A.units + 1 + min n d.depth < cLine := by
  have h1 := shap_depth h
  have h2 := r.un
  omega
end
theorem valV_of {H : Hp} : ∀ {kvs : List (Key × V)} {ds : List (D × D)} (k : Key), Vdk H kvs ds → (valV kvs k).isSome = (valD ds (keyD k)).isSome ∧ ∀ d, valD ds (keyD k) = some d → ∃ v, valV kvs k = some v ∧ Vd H v d
  | _, _, k, .nil => ⟨rfl, fun d h => by simp [valD] at h⟩
  | _, _, k, .cons (k := k') (v := v) (d := d') h t => by
    have ih := valV_of k t
    have key : PyData.eqv (keyD k') (keyD k) = decide (k' = k) := by
      rw [Bool.eq_iff_iff]
      cases k' <;> cases k <;> simp [keyD, PyData.eqv]
    unfold valV valD at ih ⊢
    rw [List.find?_cons, List.find?_cons]
    dsimp only
    rw [key]
    cases decide (k' = k) with
    | true => exact ⟨rfl, fun d h1 => ⟨v, rfl, by simp at h1; rw [← h1]; exact h⟩⟩
    | false => exact ih
theorem keyOf {H : Hp} {x : V} {d : D} (h : Vd H x d) (hk : keyOkD d = true) : ∃ k : Key, x = kV k ∧ d = keyD k := by
  cases h with
  | int i => exact ⟨.inl i, rfl, rfl⟩
  | str x => exact ⟨.inr x, rfl, rfl⟩
  | _ => simp [keyOkD] at hk
/-- the comparisons -/
theorem op_cop {k : Nat} {X : Cx} (C : Cok k X) (o : Cop) : OpR X (compareOp (cmpOf o)) (rCop o) := by
  intro pins s σ H x y v u Q I rx ry h
  obtain ⟨pv, w, τ, en, a, b, P, P', K, rfl, hv, hr, hQ⟩ := h
  obtain ⟨d, e, h1, h2, hr⟩ := hv.peek2 (f := fun d e => cop o d e) hr
  replace h1 := h1.vd
  replace h2 := h2.vd
  have fin : ∀ {z : Bool}, K z en → Q (.bl z) w.H := fun {z} kz => hQ z kz
  have fin' : ∀ {z : Bool}, K z en → EP X pins σ Q (.bool z) s := fun {z} kz => ⟨.bl z, w.H, I, rfl, fin kz⟩
  have hu := C.room.units
  have hun := C.room.un
  cases o with
  | eq =>
    obtain ⟨q, hr⟩ := eqM_run (f := fun r => pure r) hr
    rcases q with q | ⟨q1, q2⟩
    · obtain ⟨z1, z2⟩ := scal_eq h1 h2 q
      exact op_eq pins s σ w.H x y v u Q I rx ry ⟨z1, by rw [z2]; exact fin hr⟩
    · exact op_eqD hu pins s σ w.H x y v u Q I rx ry ⟨d, e, h1.dp X.K (shap_lay q1), h2.dp X.K (shap_lay q2), q1, q2, fin hr⟩
  | ne =>
    obtain ⟨q, hr⟩ := eqM_run (f := fun r => pure (!r)) hr
    rcases q with q | ⟨q1, q2⟩
    · obtain ⟨z1, z2⟩ := scal_eq h1 h2 q
      exact op_ne pins s σ w.H x y v u Q I rx ry ⟨z1, by rw [z2]; exact fin hr⟩
    · exact op_neD hu pins s σ w.H x y v u Q I rx ry ⟨d, e, h1.dp X.K (shap_lay q1), h2.dp X.K (shap_lay q2), q1, q2, fin hr⟩
  | lt =>
    rcases ltM_run (f := fun r => pure r) hr with ⟨i, j, rfl, rfl, hr⟩ | ⟨i, j, rfl, rfl, hr⟩ | ⟨⟨c1, c2, c3, c4⟩, hr⟩
    · cases h1; cases h2
      exact op_lt pins s σ w.H _ _ v u Q I rx ry ⟨_, _, rfl, rfl, fin hr⟩
    · cases h1; cases h2
      exact op_lt_str pins s σ w.H _ _ v u Q I rx ry ⟨_, _, rfl, rfl, fin hr⟩
    · obtain ⟨as, r1⟩ := h1.reads I c3 rx
      obtain ⟨bs, r2⟩ := h2.reads I c4 ry
      exact PySem.W.lt_data r1 r2 c1 c2 (room_min C.room c3 e) (fin' hr)
  | le =>
    rcases ltM_run (f := fun r => pure (!r)) hr with ⟨i, j, rfl, rfl, hr⟩ | ⟨i, j, rfl, rfl, hr⟩ | ⟨⟨c1, c2, c3, c4⟩, hr⟩
    · cases h1; cases h2
      refine op_le pins s σ w.H _ _ v u Q I rx ry ⟨_, _, rfl, rfl, ?_⟩
      show Q (.bl (decide (j ≤ i))) w.H
      rw [show decide (j ≤ i) = !decide (i < j) by by_cases h : i < j <;> simp [h] <;> omega]
      exact fin hr
    · cases h1; cases h2
      exact op_le_str pins s σ w.H _ _ v u Q I rx ry ⟨_, _, rfl, rfl, fin hr⟩
    · obtain ⟨as, r1⟩ := h1.reads I c4 rx
      obtain ⟨bs, r2⟩ := h2.reads I c3 ry
      refine PySem.W.le_data r1 r2 (by rw [PySem.W.alike_comm]; exact c1) (PySem.W.ne_none_both c1 c2) (room_min C.room c4 e) (fin' hr)
  | gt =>
    rcases ltM_run (f := fun r => pure r) hr with ⟨i, j, rfl, rfl, hr⟩ | ⟨i, j, rfl, rfl, hr⟩ | ⟨⟨c1, c2, c3, c4⟩, hr⟩
    · cases h1; cases h2
      exact op_gt pins s σ w.H _ _ v u Q I rx ry ⟨_, _, rfl, rfl, fin hr⟩
    · cases h1; cases h2
      exact op_gt_str pins s σ w.H _ _ v u Q I rx ry ⟨_, _, rfl, rfl, fin hr⟩
    · obtain ⟨as, r1⟩ := h1.reads I c4 rx
      obtain ⟨bs, r2⟩ := h2.reads I c3 ry
      refine PySem.W.gt_data r1 r2 (by rw [PySem.W.alike_comm]; exact c1) (PySem.W.ne_none_both c1 c2) (room_min C.room c4 e) (fin' hr)
  | ge =>
    rcases ltM_run (f := fun r => pure (!r)) hr with ⟨i, j, rfl, rfl, hr⟩ | ⟨i, j, rfl, rfl, hr⟩ | ⟨⟨c1, c2, c3, c4⟩, hr⟩
    · cases h1; cases h2
      refine op_ge pins s σ w.H _ _ v u Q I rx ry ⟨_, _, rfl, rfl, ?_⟩
      show Q (.bl (decide (j ≤ i))) w.H
      rw [show decide (j ≤ i) = !decide (i < j) by by_cases h : i < j <;> simp [h] <;> omega]
      exact fin hr
    · cases h1; cases h2
      exact op_ge_str pins s σ w.H _ _ v u Q I rx ry ⟨_, _, rfl, rfl, fin hr⟩
    · obtain ⟨as, r1⟩ := h1.reads I c3 rx
      obtain ⟨bs, r2⟩ := h2.reads I c4 ry
      exact PySem.W.ge_data r1 r2 c1 c2 (room_min C.room c3 e) (fin' hr)
  | isin =>
    rcases inM_run (f := fun r => pure r) hr with ⟨i, j, rfl, rfl, hr⟩ | ⟨ys, rfl, c1, c2, hr⟩ | ⟨ys, rfl, c1, c2, hr⟩ | ⟨kvs, rfl, c1, hr⟩
    · cases h1; cases h2
      exact op_in_str pins s σ w.H _ _ v u Q I rx ry ⟨_, _, rfl, rfl, fin hr⟩
    · obtain ⟨as, r1⟩ := h1.reads I c1 rx
      obtain ⟨bs, r2⟩ := h2.reads I c2 ry
      exact SeqAt.in_list_reads r2 r1 (shap_lay c2) (shap_lay c1) (in_room C.room c1 _) (fin' hr)
    · obtain ⟨as, r1⟩ := h1.reads I c1 rx
      obtain ⟨bs, r2⟩ := h2.reads I c2 ry
      exact SeqAt.in_tuple_reads r2 r1 (shap_lay c2) (shap_lay c1) (in_room C.room c1 _) (fin' hr)
    · obtain ⟨kk, rfl, rfl⟩ := keyOf h1 c1
      cases h2 with
      | dic e1 n1 t1 =>
        cases ry
        have z := (valV_of kk t1).1
        exact d_in (by omega) I (.inl ⟨_, kk, e1, rfl, rfl⟩) rx fun s' I' => ⟨.bl _, w.H, I', rfl, by rw [z]; exact fin hr⟩
  | notin =>
    rcases inM_run (f := fun r => pure (!r)) hr with ⟨i, j, rfl, rfl, hr⟩ | ⟨ys, rfl, c1, c2, hr⟩ | ⟨ys, rfl, c1, c2, hr⟩ | ⟨kvs, rfl, c1, hr⟩
    · cases h1; cases h2
      exact op_notin_str pins s σ w.H _ _ v u Q I rx ry ⟨_, _, rfl, rfl, fin hr⟩
    · obtain ⟨as, r1⟩ := h1.reads I c1 rx
      obtain ⟨bs, r2⟩ := h2.reads I c2 ry
      exact SeqAt.notIn_list_reads r2 r1 (shap_lay c2) (shap_lay c1) (in_room C.room c1 _) (fin' hr)
    · obtain ⟨as, r1⟩ := h1.reads I c1 rx
      obtain ⟨bs, r2⟩ := h2.reads I c2 ry
      exact SeqAt.notIn_tuple_reads r2 r1 (shap_lay c2) (shap_lay c1) (in_room C.room c1 _) (fin' hr)
    · obtain ⟨kk, rfl, rfl⟩ := keyOf h1 c1
      cases h2 with
      | dic e1 n1 t1 =>
        cases ry
        have z := (valV_of kk t1).1
        exact d_notIn (by omega) I (.inl ⟨_, kk, e1, rfl, rfl⟩) rx fun s' I' => ⟨.bl _, w.H, I', rfl, by rw [z]; exact fin hr⟩
  | is =>
    have hr : (isM d e >>= fun r => pure r).run en K noX := hr
    unfold isM at hr
    split at hr
    · cases h2
      cases ry
      refine PySem.wpAny_is_plain (by cases h1 <;> first | (cases rx; rfl) | (obtain ⟨t, rfl⟩ := rx; rfl)) ?_
      cases h1 <;> first
        | (cases rx; exact fin' hr)
        | (obtain ⟨t, rfl⟩ := rx; exact fin' hr)
    · rename_i cc qq
      cases h2
      cases ry
      refine PySem.wpAny_is_plain (by cases h1 <;> first | (cases rx; rfl) | (obtain ⟨t, rfl⟩ := rx; rfl)) ?_
      cases h1 <;> first
        | (cases rx; exact fin' hr)
        | (obtain ⟨t, rfl⟩ := rx; exact fin' hr)
        | (rename_i c1; cases rx; cases c1 <;> cases cc <;> exact fin' hr)
    · exact hr.elim
  | isnot =>
    have hr : (isM d e >>= fun r => pure (!r)).run en K noX := hr
    unfold isM at hr
    split at hr
    · cases h2
      cases ry
      refine PySem.wpAny_isNot_plain (by cases h1 <;> first | (cases rx; rfl) | (obtain ⟨t, rfl⟩ := rx; rfl)) ?_
      cases h1 <;> first
        | (cases rx; exact fin' hr)
        | (obtain ⟨t, rfl⟩ := rx; exact fin' hr)
    · rename_i cc qq
      cases h2
      cases ry
      refine PySem.wpAny_isNot_plain (by cases h1 <;> first | (cases rx; rfl) | (obtain ⟨t, rfl⟩ := rx; rfl)) ?_
      cases h1 <;> first
        | (cases rx; exact fin' hr)
        | (obtain ⟨t, rfl⟩ := rx; exact fin' hr)
        | (rename_i c1; cases rx; cases c1 <;> cases cc <;> exact fin' hr)
    · exact hr.elim
end Rf
end
section
set_option Elab.async false
set_option linter.all false
set_option maxRecDepth 100000
set_option maxHeartbeats 4000000
set_option autoImplicit false
/-! Rf6: readings; what is kept is shared; names, constants, operators, tests. -/
namespace Rf
open PySem PySem.Spec L2

/-- a value comes -/
def rd (m : M Opd) : TE := fun σ H Q => ∃ (pv : Nat → V) (w : Wd) (en : En), w.H = H ∧ Mt pv w σ en ∧ m.run en (fun o en' => ∀ w' v O, Fi1 pv w σ en' w' v o O → Q v w'.H) noX
/-- several come -/
def rds (m : M (List Opd)) : TA := fun σ H Q => ∃ (pv : Nat → V) (w : Wd) (en : En), w.H = H ∧ Mt pv w σ en ∧ m.run en (fun os en' => ∀ w' vs Ps, Fins pv w σ en' w' vs os Ps → Q vs w'.H) noX
/-- a test -/
def rdT (m : M Bool) : TT := fun σ H Q => ∃ (pv : Nat → V) (w : Wd) (en : En), w.H = H ∧ Mt pv w σ en ∧ m.run en (fun b en' => ∀ w', Ext w.o w w' → Mt pv w' σ en' → Q b w'.H) noX
theorem peI {X : Cx} {e : Expr} {t t' : TE} (h : PE X e t) (i : ∀ σ H Q, t' σ H Q → t σ H Q) : PE X e t' := ⟨fun pins s σ H Q I q => h.run pins s σ H Q I (i _ _ _ q)⟩
theorem ptI {X : Cx} {e : Expr} {t t' : TT} (h : PT X e t) (i : ∀ σ H Q, t' σ H Q → t σ H Q) : PT X e t' := ⟨fun pins s σ H Q I q => h.run pins s σ H Q I (i _ _ _ q)⟩
theorem pwI {X : Cx} {e : Expr} {t t' : TT} (h : PW X e t) (i : ∀ σ H Q, t' σ H Q → t σ H Q) : PW X e t' := ⟨fun wh pins s σ H Q I q => h.run wh pins s σ H Q I (i _ _ _ q)⟩
theorem paI {X : Cx} {es : List Expr} {t t' : TA} (h : PA X es t) (i : ∀ σ H Q, t' σ H Q → t σ H Q) : PA X es t' := ⟨fun pos pins s σ H Q I q => h.run pos pins s σ H Q I (i _ _ _ q)⟩
theorem psI {X : Cx} {st : Stmt} {t t' : TS} (h : PS X st t) (i : ∀ D σ H, t' D σ H → t D σ H) : PS X st t' := ⟨fun pins s σ H D I q => h.run pins s σ H D I (i _ _ _ q)⟩
theorem pssI {X : Cx} {st : List Stmt} {t t' : TS} (h : PSs X st t) (i : ∀ D σ H, t' D σ H → t D σ H) : PSs X st t' := ⟨fun pins s σ H D I q => h.run pins s σ H D I (i _ _ _ q)⟩

section
variable {pv : Nat → V} {w w1 w2 w' : Wd} {σ : L2.St} {en en' : En} {v : V} {o : Opd} {O P : List Addr} {vs : List V} {os : List Opd} {Ps : List (List Addr)}
theorem Ext.tr (x : Ext w.o w w1) (y : Ext w1.o w1 w2) : Ext w.o w w2 := x.trans y x.os
theorem Fi1.from (x : Ext w.o w w1) (f : Fi1 pv w1 σ en' w' v o O) : Fi1 pv w σ en' w' v o O where
  x := x.tr f.x
  mt := f.mt
  r := f.r
  t := f.t
  n := fun a ha => by
    rcases f.n a ha with h | h
    · exact x.os a h
    · refine .inr ?_
      cases e : w.H a with
      | none => rfl
      | some z => exact absurd h (x.kp a (by rw [e]; simp))
theorem Fins.from (x : Ext w.o w w1) (f : Fins pv w1 σ en' w' vs os Ps) : Fins pv w σ en' w' vs os Ps where
  x := x.tr f.x
  mt := f.mt
  l1 := f.l1
  l2 := f.l2
  r := f.r
  t := f.t
  n := fun a ha => by
    rcases f.n a ha with h | h
    · exact x.os a h
    · refine .inr ?_
      cases e : w.H a with
      | none => rfl
      | some z => exact absurd h (x.kp a (by rw [e]; simp))
theorem Fi1.one (f : Fi1 pv w σ en' w' v o O) : Fins pv w σ en' w' [v] [o] [O] := by
  simpa using Fins.cons f (Fins.nil f.mt)
theorem Fi1.fz {d : D} (x : Ext w.o w w') (m : Mt pv w' σ en') (r : Rp w'.F w'.H v d) : Fi1 pv w σ en' w' v (val0 d) [] := ⟨x, m, ⟨rfl, r⟩, Tmp.nil _, fun _ h => by cases h⟩
end

/-! ### what is kept is shared from now on -/
section
variable {X : Cx} {pins : List (Addr × Obj)} {σ : L2.St} {H : Hp} {s : Shared}
/-- a dict that is known to its object: it is read alone -/
theorem Inv.frz {a : Addr} {kvs : List (Key × V)} (I : Inv X pins σ H s) (h : H a = some (.dK kvs)) : ∃ ob, Inv X pins σ (upd H a (.frz ob (.dK kvs))) s := by
  have q := I.hok a _ h
  have q' := q
  obtain ⟨z, y, vs, r, ob, es, ep, e, c⟩ := q
  refine ⟨ob, ?_⟩
  have hok : HOk X.prog X.w (upd H a (.frz ob (.dK kvs))) s.heap := fun b u hb => by
    by_cases hab : b = a
    · subst hab
      rw [upd_same] at hb
      cases hb
      exact ⟨e, z, y, vs, r, ob, es, ep, e, c⟩
    · rw [upd_ne hab] at hb
      refine (I.hok b u hb).stay (fun c v _ q => q) (fun c hc => ?_) fun c xs hc => ?_
      · by_cases hca : c = a
        · subst hca
          rw [h] at hc
          cases hc
        · rw [upd_ne hca]
          exact hc
      · by_cases hca : c = a
        · subst hca
          rw [h] at hc
          cases hc
        · rw [upd_ne hca]
          exact hc
  have u : Un X.fs [] H (upd H a (.frz ob (.dK kvs))) s.heap s.heap := by
    refine ⟨fun b o q _ _ _ => q, fun b o q _ _ _ => ⟨o.slots, q⟩, fun b o _ n _ => ?_, fun b o q _ => ⟨o, q⟩, fun b xs n => ?_, fun b o u n => ?_, fun b ps n => ?_⟩
    · rw [upd_ne fun z => by rw [z, h] at n; cases n]
      exact n
    · rw [upd_ne fun z => by rw [z, h] at n; cases n]
      exact n
    · rw [upd_ne fun z => by rw [z, h] at n; cases n]
      exact n
    · exact ⟨#[], by rw [upd_ne fun z => by rw [z, h] at n; cases n]; simpa using n⟩
  exact I.un (t' := s.toks) u hok
end

def Wd.shr (w : Wd) (a : Addr) : Wd := ⟨fun b => w.F b ∨ b = a, w.Os, w.H⟩
def Wd.lck (w : Wd) (a : Addr) (o : HO) : Wd := ⟨fun b => w.F b ∨ b = a, w.Os, upd w.H a o⟩
section
variable {pv : Nat → V} {w : Wd} {σ : L2.St} {en : En} {a : Addr}
theorem upd_kp {H : Hp} {a : Addr} {o : HO} (b : Addr) (h : H b ≠ none) : upd H a o b ≠ none := by
  by_cases hb : b = a
  · subst hb
    rw [upd_same]
    simp
  · rw [upd_ne hb]
    exact h
/-- the object at a, which no slot owns, goes over to what is shared -/
theorem Mt.lck {u : HO} (m : Mt pv w σ en) (h : w.H a ≠ none) (n : a ∉ w.o) (nf : ¬ w.F a) : Mt pv (w.lck a u) σ en where
  ok := by
    refine ⟨fun b hb => ?_, fun b hb => ?_, fun b hb => upd_kp b (m.ok.oh b hb), m.ok.nd⟩
    · rcases hb with hb | hb
      · exact upd_kp b (m.ok.fh b hb)
      · subst hb
        show upd w.H b u b ≠ none
        rw [upd_same]
        simp
    · rcases hb with hb | hb
      · exact m.ok.fo b hb
      · subst hb
        exact n
  l1 := m.l1
  l2 := m.l2
  at_ := fun i s p e => by
    obtain ⟨v, O, h1, h2, h3⟩ := m.at_ i s p e
    refine ⟨v, O, h1, h2, h3.mono (fun b hb => ⟨.inl hb, upd_ne fun z => nf (z ▸ hb)⟩) fun b hb => upd_ne fun z => n (z ▸ mem_o h2 hb)⟩
  no := m.no
  pin := m.pin
theorem Ext.lck {m : List Addr} {u : HO} (h : a ∈ m) (hm : ∀ b ∈ w.o, b ∈ m) : Ext m w (w.lck a u) where
  sub := fun _ h => .inl h
  newF := fun b hb => hb.elim .inl fun e => .inr (.inr (e ▸ h))
  fr := fun b _ hb => upd_ne fun z => hb (z ▸ h)
  os := fun b hb => .inl (hm b hb)
  kp := fun b hb => upd_kp b hb
end
theorem upd_self {H : Hp} {a : Addr} {o : HO} (h : H a = some o) : upd H a o = H := by
  funext b
  by_cases hb : b = a
  · subst hb
    rw [upd_same, h]
  · rw [upd_ne hb]
/-- a thing at hand that is ours alone -/
theorem share_tmp {X : Cx} {pins : List (Addr × Obj)} {pv : Nat → V} {w : Wd} {σ : L2.St} {en : En} {s : Shared} {v : V} {d : D} {O : List Addr} (I : Inv X pins σ w.H s) (m : Mt pv w σ en) (t : Tp w.F w.H v d O) (tm : Tmp w O) :
    ∃ w', Inv X pins σ w'.H s ∧ Ext (w.o ++ O) w w' ∧ Mt pv w' σ en ∧ Rp w'.F w'.H v d ∧ w'.Os = w.Os ∧ ∀ b, b ∉ O → w'.H b = w.H b := by
  cases t with
  | lst h r =>
    rename_i a vs ds
    obtain ⟨h1, h2, h3⟩ := tm.at_ a (by simp)
    have e : upd w.H a (.lst vs) = w.H := upd_self h
    refine ⟨w.lck a (.lst vs), by show Inv X pins σ (upd w.H a (.lst vs)) s; rw [e]; exact I, Ext.lck (by simp) fun b hb => by simp [hb], m.lck h1 h3 h2, .lst (vs := vs) (.inr rfl) (.inl upd_same) ?_, rfl, fun b hb => upd_ne fun z => hb (by simp [z])⟩
    exact r.mono fun b hb => ⟨.inl hb, upd_ne (a := a) (b := b) fun z => h2 (z ▸ hb)⟩
  | dic h n r =>
    rename_i a kvs ds
    obtain ⟨h1, h2, h3⟩ := tm.at_ a (by simp)
    obtain ⟨ob, J⟩ := Inv.frz I h
    refine ⟨w.lck a (.frz ob (.dK kvs)), J, Ext.lck (by simp) fun b hb => by simp [hb], m.lck h1 h3 h2, .dic (kvs := kvs) (.inr rfl) upd_same n ?_, rfl, fun b hb => upd_ne fun z => hb (by simp [z])⟩
    exact r.mono fun b hb => ⟨.inl hb, upd_ne (a := a) (b := b) fun z => h2 (z ▸ hb)⟩
end Rf
end
section
set_option Elab.async false
set_option linter.all false
set_option maxRecDepth 100000
set_option maxHeartbeats 4000000
set_option autoImplicit false
/-! Rf7: a slot changes; what is kept. -/
namespace Rf
open PySem PySem.Spec L2

theorem split_at {α : Type} {L : List (List α)} {i : Nat} {O : List α} (e : L[i]? = some O) : ∃ A B, L = A ++ O :: B ∧ A.length = i ∧ ∀ O', L.set i O' = A ++ O' :: B := by
  obtain ⟨h, e⟩ := List.getElem?_eq_some_iff.mp e
  refine ⟨L.take i, L.drop (i + 1), ?_, by rw [List.length_take]; omega, fun O' => by rw [List.set_eq_take_append_cons_drop, if_pos h]⟩
  rw [← e, ← List.drop_eq_getElem_cons h, List.take_append_drop]
theorem mem_set_fl {α : Type} {L : List (List α)} {i : Nat} {O O' : List α} (e : L[i]? = some O) {a : α} (h : a ∈ (L.set i O').flatten) : a ∈ O' ∨ a ∈ L.flatten := by
  obtain ⟨A, B, e1, _, e2⟩ := split_at e
  rw [e2] at h
  rw [e1]
  simp only [List.flatten_append, List.flatten_cons, List.mem_append] at h ⊢
  rcases h with h | h | h
  · exact .inr (.inl h)
  · exact .inl h
  · exact .inr (.inr (.inr h))
theorem not_mem_set_fl {α : Type} {L : List (List α)} {i : Nat} {O O' : List α} (e : L[i]? = some O) (n : L.flatten.Nodup) {a : α} (ha : a ∈ O) (h' : a ∉ O') : a ∉ (L.set i O').flatten := by
  obtain ⟨A, B, e1, _, e2⟩ := split_at e
  rw [e2]
  rw [e1] at n
  simp only [List.flatten_append, List.flatten_cons, List.mem_append] at n ⊢
  rw [List.nodup_append] at n
  obtain ⟨_, n2, n3⟩ := n
  rw [List.nodup_append] at n2
  rintro (h | h | h)
  · exact n3 a h a (List.mem_append_left _ ha) rfl
  · exact h' h
  · exact n2.2.2 a ha a h rfl
theorem nodup_set {α : Type} {L : List (List α)} {i : Nat} {O O' : List α} (h : L.flatten.Nodup) (e : L[i]? = some O) (n : O'.Nodup) (d : ∀ a ∈ O', a ∈ O ∨ a ∉ L.flatten) : (L.set i O').flatten.Nodup := by
  obtain ⟨A, B, e1, _, e2⟩ := split_at e
  rw [e2]
  rw [e1] at h d
  simp only [List.flatten_append, List.flatten_cons, List.mem_append, not_or] at h d ⊢
  rw [List.nodup_append] at h ⊢
  obtain ⟨h1, h2, h3⟩ := h
  rw [List.nodup_append] at h2
  obtain ⟨h4, h5, h6⟩ := h2
  refine ⟨h1, ?_, ?_⟩
  · rw [List.nodup_append]
    refine ⟨n, h5, fun a ha b hb => ?_⟩
    rcases d a ha with q | q
    · exact h6 a q b hb
    · exact fun z => q.2.2 (z ▸ hb)
  · intro a ha b hb
    rcases List.mem_append.mp hb with q | q
    · rcases d b q with q' | q'
      · exact h3 a ha b (List.mem_append_left _ q')
      · exact fun z => q'.1 (z ▸ ha)
    · exact h3 a ha b (List.mem_append_right _ q)

section
variable {pv pv' : Nat → V} {w w' : Wd} {σ σ' : L2.St} {en : En} {i : Nat} {p p' : Bool} {o o' : Option Sl} {O O' : List Addr}
/-- slot i changes, the others stand -/
theorem Mt.slot (m : Mt pv w σ en) (e : en[i]? = some (⟨p, o⟩ : Slt)) (eO : w.Os[i]? = some O) (hOs : w'.Os = w.Os.set i O') (ok : w'.Ok) (hF : ∀ a, w.F a → w'.F a ∧ w'.H a = w.H a)
    (hH : ∀ a ∈ w.o, a ∉ O → w'.H a = w.H a) (hσ : σ'.length = σ.length) (hσj : ∀ j, j ≠ i → σ'[j]? = σ[j]?) (hpv : ∀ j, j ≠ i → pv' j = pv j) (hpin : p' = true → σ'[i]? = some (some (pv' i)))
    (new : match o' with | some s => ∃ v, σ'[i]? = some (some v) ∧ Rel w'.F w'.H v s O' | none => O' = []) : Mt pv' w' σ' (en.set i ⟨p', o'⟩) where
  ok := ok
  l1 := by rw [hσ, m.l1, List.length_set]
  l2 := by rw [hOs, List.length_set, List.length_set, m.l2]
  at_ := fun j s q h => by
    have hi : i < en.length := (List.getElem?_eq_some_iff.mp e).1
    by_cases hj : j = i
    · subst hj
      rw [List.getElem?_set_self hi] at h
      injection h with h
      injection h with h1 h2
      subst h1 h2
      obtain ⟨v, h3, h4⟩ := new
      refine ⟨v, O', h3, ?_, h4⟩
      rw [hOs, List.getElem?_set_self (by rw [m.l2]; exact hi)]
    · rw [List.getElem?_set_ne (Ne.symm hj)] at h
      obtain ⟨v, P, h1, h2, h3⟩ := m.at_ j s q h
      refine ⟨v, P, by rw [hσj j hj]; exact h1, by rw [hOs, List.getElem?_set_ne (Ne.symm hj)]; exact h2, h3.mono hF fun a ha => hH a (mem_o h2 ha) fun z => ?_⟩
      have n := m.ok.nd
      obtain ⟨A, B, e1, l, e2⟩ := split_at eO
      have n' : (w.Os.set i []).flatten.Nodup := nodup_set n eO List.nodup_nil (fun _ h => by cases h)
      have q1 : a ∉ (w.Os.set i []).flatten := not_mem_set_fl eO n z (by simp)
      refine q1 (List.mem_flatten.mpr ⟨P, ?_, ha⟩)
      refine List.mem_of_getElem? (i := j) ?_
      rw [List.getElem?_set_ne (Ne.symm hj)]
      exact h2
  no := fun j q h => by
    have hi : i < en.length := (List.getElem?_eq_some_iff.mp e).1
    by_cases hj : j = i
    · subst hj
      rw [List.getElem?_set_self hi] at h
      injection h with h
      injection h with h1 h2
      subst h1 h2
      have new' : O' = [] := new
      rw [hOs, List.getElem?_set_self (by rw [m.l2]; exact hi), new']
    · rw [List.getElem?_set_ne (Ne.symm hj)] at h
      rw [hOs, List.getElem?_set_ne (Ne.symm hj)]
      exact m.no j q h
  pin := fun j q h => by
    have hi : i < en.length := (List.getElem?_eq_some_iff.mp e).1
    by_cases hj : j = i
    · subst hj
      rw [List.getElem?_set_self hi] at h
      injection h with h
      injection h with h1 h2
      exact hpin h1
    · rw [List.getElem?_set_ne (Ne.symm hj)] at h
      rw [hσj j hj, hpv j hj]
      exact m.pin j q h
end
theorem putSl_eq {en : En} {i : Nat} {p : Bool} {o o' : Option Sl} (e : en[i]? = some (⟨p, o⟩ : Slt)) : putSl en i o' = en.set i ⟨p, o'⟩ := by
  unfold putSl
  rw [e]
theorem getSl_eq {en : En} {i : Nat} {p : Bool} {o : Option Sl} (e : en[i]? = some (⟨p, o⟩ : Slt)) : getSl en i = o := by
  unfold getSl
  rw [e]

/-- an operand is kept -/
theorem take_run {X : Cx} {pins : List (Addr × Obj)} {pv : Nat → V} {w : Wd} {σ : L2.St} {en : En} {s : Shared} {v : V} {o : Opd} {O : List Addr} {α : Type} {f : D → M α} {K : α → En → Prop} (I : Inv X pins σ w.H s) (m : Mt pv w σ en)
    (r : Orl w σ en v o O) (t : Tmp w O) (h : (take o >>= f).run en K noX) :
    ∃ w' d en', Inv X pins σ w'.H s ∧ Ext (w.o ++ O) w w' ∧ Mt pv w' σ en' ∧ Rp w'.F w'.H v d ∧ (f d).run en' K noX := by
  cases o with
  | val z =>
    obtain ⟨fl, d⟩ := z
    cases fl with
    | fz => exact ⟨w, d, en, I, Ext.same O, m, r.2, h⟩
    | top =>
      obtain ⟨w', J, x, m', rp, _⟩ := share_tmp I m r t
      exact ⟨w', d, en, J, x, m', rp, h⟩
  | slot i =>
    have h' : (match getSl en i with | some z => (f z.d).run (putSl en i (some ⟨.fz, z.d⟩)) K noX | none => False) := h
    split at h'
    · rename_i z e
      obtain ⟨p, e1⟩ := getSl_some e
      obtain ⟨v', P, h1, h2, h3⟩ := m.at_ i z p e1
      obtain ⟨rO, r2⟩ := r
      subst rO
      rw [r2] at h1
      cases h1
      rw [putSl_eq e1] at h'
      have hi : i < en.length := (List.getElem?_eq_some_iff.mp e1).1
      obtain ⟨fl, d⟩ := z
      cases fl with
      | fz =>
        have e2 : en.set i ⟨p, some ⟨.fz, d⟩⟩ = en := List.ext_getElem? fun j => by
          by_cases hj : j = i
          · subst hj
            rw [List.getElem?_set_self hi, e1]
          · rw [List.getElem?_set_ne (Ne.symm hj)]
        rw [e2] at h'
        exact ⟨w, d, en, I, Ext.same [], m, h3.2, h'⟩
      | top =>
        -- the slot lets go of its object
        have wo : ∀ b, b ∈ (w.Os.set i []).flatten → b ∈ w.o := fun b hb => (mem_set_fl h2 hb).elim (fun z => by cases z) id
        let w0 : Wd := ⟨w.F, w.Os.set i [], w.H⟩
        have nP : P.Nodup := by
          obtain ⟨A, B, e3, _⟩ := split_at h2
          have n := m.ok.nd
          unfold Wd.o at n
          rw [e3, List.flatten_append, List.flatten_cons, List.nodup_append, List.nodup_append] at n
          exact n.2.1.1
        have ok0 : w0.Ok := ⟨m.ok.fh, fun b hb z => m.ok.fo b hb (wo b z), fun b hb => m.ok.oh b (wo b hb), nodup_set m.ok.nd h2 List.nodup_nil fun _ z => by cases z⟩
        have m0 : Mt pv w0 σ (en.set i ⟨p, none⟩) := m.slot e1 h2 rfl ok0 (fun b hb => ⟨hb, rfl⟩) (fun _ _ _ => rfl) rfl (fun _ _ => rfl) (fun _ _ => rfl) (fun hp => by subst hp; exact m.pin i _ e1) rfl
        have t0 : Tmp w0 P := ⟨nP, fun b hb => ⟨m.ok.oh b (mem_o h2 hb), fun f => m.ok.fo b f (mem_o h2 hb), not_mem_set_fl h2 m.ok.nd hb (by simp)⟩⟩
        obtain ⟨w', J, x, m', rp, eo, _⟩ := share_tmp (w := w0) I m0 h3 t0
        refine ⟨w', d, _, J, ?_, ?_, rp, h'⟩
        · refine ⟨x.sub, fun b hb => ?_, fun b hb nb => x.fr b hb fun z => nb ?_, fun b hb => ?_, x.kp⟩
          · rcases x.newF b hb with q | q | q
            · exact .inl q
            · exact .inr (.inl q)
            · refine .inr (.inr (List.mem_append_left _ ?_))
              rcases List.mem_append.mp q with q | q
              · exact wo b q
              · exact mem_o h2 q
          · refine List.mem_append_left _ ?_
            rcases List.mem_append.mp z with q | q
            · exact wo b q
            · exact mem_o h2 q
          · refine .inl (List.mem_append_left _ (wo b ?_))
            rw [← show w'.Os = w.Os.set i [] from eo]
            exact hb
        · have e4 : (en.set i ⟨p, none⟩)[i]? = some (⟨p, none⟩ : Slt) := List.getElem?_set_self hi
          have e5 : w'.Os = w'.Os.set i [] := by
            rw [show w'.Os = w.Os.set i [] from eo, List.set_set]
          have e6 : w'.Os[i]? = some [] := by
            rw [show w'.Os = w.Os.set i [] from eo, List.getElem?_set_self (by rw [m.l2]; exact hi)]
          have m2 : Mt pv w' σ ((en.set i ⟨p, none⟩).set i ⟨p, some ⟨.fz, d⟩⟩) := m'.slot e4 e6 e5 m'.ok (fun b hb => ⟨hb, rfl⟩) (fun _ _ _ => rfl) rfl (fun _ _ => rfl) (fun _ _ => rfl) (fun hp => by subst hp; exact m.pin i _ e1) ⟨v, r2, rfl, rp⟩
          rw [List.set_set] at m2
          exact m2
    · exact h'.elim

/-! ### an expression that is kept -/
def keep (o : Opd) : M Opd := do
  let d ← take o
  pure (val0 d)
def keeps (os : List Opd) : M (List Opd) := do
  let ds ← takes os
  pure (ds.map val0)
section
variable {X : Cx} {e : Expr} {es : List Expr} {m : M Opd} {ms : M (List Opd)}
theorem pe_keep (h : PE X e (rd m)) : PE X e (rd (m >>= keep)) := by
  refine ⟨fun pins s σ H Q I q => ?_⟩
  obtain ⟨pv, w, en, rfl, m0, q⟩ := q
  refine thn (h.run pins s σ w.H (fun v H1 => ∃ w1 en1 o O, w1.H = H1 ∧ Fi1 pv w σ en1 w1 v o O ∧ (keep o).run en1 (fun o en' => ∀ w' v O, Fi1 pv w σ en' w' v o O → Q v w'.H) noX) I ⟨pv, w, en, rfl, m0, m.mono q (fun o en1 z w1 v O f => ⟨w1, en1, o, O, rfl, f, z⟩) fun _ _ z => z⟩) fun u s1 ⟨v, H1, I1, r1, w1, en1, o, O, e1, f, z⟩ => ?_
  subst e1
  obtain ⟨w2, d, en2, I2, x2, m2, rp, k⟩ := take_run I1 f.mt f.r f.t z
  have x3 : Ext w.o w w2 := f.x.trans x2 fun a ha => (List.mem_append.mp ha).elim (f.x.os a) (f.n a)
  exact ⟨v, w2.H, I2, r1, k w2 v [] (Fi1.fz x3 m2 rp)⟩
end
end Rf
end
section
set_option Elab.async false
set_option linter.all false
set_option maxRecDepth 100000
set_option maxHeartbeats 4000000
set_option autoImplicit false
/-! Rf8: argument lists, displays, names, constants, operators, tests, subscripts. -/
namespace Rf
open PySem PySem.Spec L2

section
variable {X : Cx} {e a b c : Expr} {es : List Expr} {m ma mb mc : M Opd} {ms : M (List Opd)} {mk : M (List D)} {pos : Pos} {k : Nat}
/-! ### lists of expressions -/
theorem pa_nil' : PA X [] (rds (pure [])) := paI pa_nil fun σ H Q ⟨pv, w, en, e, m0, q⟩ => by
  subst e
  exact q w [] [] (Fins.nil m0)
theorem pa_cons' (ha : PE X e (rd m)) (hr : PA X es (rds ms)) (hs : starEach (e :: es) X.env = (false, eval e X.env) :: starEach es X.env) : PA X (e :: es) (rds (do let o ← m; let os ← ms; pure (o :: os))) :=
  paI (pa_cons ha hr hs) fun σ H Q ⟨pv, w, en, e, m0, q⟩ => by
    subst e
    refine ⟨pv, w, en, rfl, m0, m.mono q (fun o en1 q1 w1 v O f => ?_) fun _ _ z => z⟩
    exact ⟨pv, w1, en1, rfl, f.mt, ms.mono q1 (fun os en2 q2 w2 vs Ps g => q2 w2 (v :: vs) (O :: Ps) (Fins.cons f g)) fun _ _ z => z⟩
/-- data that is shared -/
abbrev vals0 (ds : List D) : List Opd := ds.map val0
theorem pa_consK (ha : PE X e (rd m)) (hr : PA X es (rds (mk >>= fun ds => pure (vals0 ds)))) (hs : starEach (e :: es) X.env = (false, eval e X.env) :: starEach es X.env) :
    PA X (e :: es) (rds ((do let o ← m; let d ← take o; let ds ← mk; pure (d :: ds)) >>= fun ds => pure (vals0 ds))) := pa_cons' (pe_keep ha) hr hs
theorem Fins.rps {pv : Nat → V} {w' : Wd} {σ : L2.St} {en' : En} : ∀ {w : Wd} {vs : List V} {ds : List D} {Ps : List (List Addr)}, Fins pv w σ en' w' vs (vals0 ds) Ps → Rps w'.F w'.H vs ds := by
  intro w vs ds Ps f
  have l : vs.length = ds.length := by rw [f.l1]; simp
  have r : ∀ (i : Nat) (v : V) (d : D), vs[i]? = some v → ds[i]? = some d → Rp w'.F w'.H v d := fun i v d h1 h2 => by
    have hi : i < Ps.length := by rw [f.l2]; simpa using (List.getElem?_eq_some_iff.mp h2).1
    exact (f.r i v (val0 d) Ps[i] h1 (by simp [h2]) (List.getElem?_eq_getElem hi)).2
  clear f
  induction vs generalizing ds with
  | nil => cases ds with
    | nil => exact .nil
    | cons d ds => simp at l
  | cons v vs ih => cases ds with
    | nil => simp at l
    | cons d ds => exact .cons (r 0 v d rfl rfl) (ih (by simpa using l) fun i v d h1 h2 => r (i + 1) v d (by simpa using h1) (by simpa using h2))
theorem Fins.ps {pv : Nat → V} {w' : Wd} {σ : L2.St} {en' : En} {w : Wd} {vs : List V} {ds : List D} {Ps : List (List Addr)} (f : Fins pv w σ en' w' vs (vals0 ds) Ps) : Ps.flatten = [] := by
  rw [List.flatten_eq_nil_iff]
  intro P hP
  obtain ⟨i, hi, e⟩ := List.mem_iff_getElem.mp hP
  have h2 : i < ds.length := by have := f.l2; simp at this; omega
  have h1 : i < vs.length := by have := f.l1; simp at this; omega
  exact (f.r i vs[i] (val0 ds[i]) P (List.getElem?_eq_getElem h1) (by simp [h2]) (by rw [List.getElem?_eq_getElem hi, e])).1
theorem Go.fi {pv : Nat → V} {w w' w2 : Wd} {σ : L2.St} {en' en2 : En} {vs : List V} {os : List Opd} {Ps : List (List Addr)} {v : V} {o : Opd} {O P : List Addr} (f : Fins pv w σ en' w' vs os Ps) (hP : Ps.flatten = P) (g : Go pv P w' σ en2 w2 v o O) : Fi1 pv w σ en2 w2 v o O := f.go (hP ▸ g)
theorem pe_lst' (h : PA X es (rds (mk >>= fun ds => pure (vals0 ds)))) : PE X (.List es pos) (rd (do let ds ← mk; M.assert (ds.length ≤ sizeLine); newV (.list ds))) :=
  peI (pe_lst h) fun σ H Q ⟨pv, w, en, e, m0, q⟩ => by
    subst e
    refine ⟨pv, w, en, rfl, m0, mk.mono q (fun ds en1 q1 w1 vs Ps f => ?_) fun _ _ z => z⟩
    have r := f.rps
    exact ⟨by rw [r.length]; exact q1.1, fun p hp => q1.2 _ _ _ (Go.fi f f.ps (Go.lst f.mt [] hp r))⟩
theorem pe_tup' {x1 : Nat} (h : PA X es (rds (mk >>= fun ds => pure (vals0 ds)))) : PE X (.Tuple es x1 pos) (rd (do let ds ← mk; M.assert (ds.length ≤ sizeLine); pureV (.tuple ds))) :=
  peI (pe_tup h) fun σ H Q ⟨pv, w, en, e, m0, q⟩ => by
    subst e
    refine ⟨pv, w, en, rfl, m0, mk.mono q (fun ds en1 q1 w1 vs Ps f => ?_) fun _ _ z => z⟩
    have r := f.rps
    exact ⟨by rw [r.length]; exact q1.1, fun p hp => q1.2 _ _ _ (Go.fi f f.ps (Go.tup f.mt [] hp r))⟩

/-! ### names, constants -/
theorem rd_val {pv : Nat → V} {w : Wd} {σ : L2.St} {en : En} {v : V} {d : D} {Q : VK} (m0 : Mt pv w σ en) (r : Rp w.F w.H v d) (q : ∀ w' v O, Fi1 pv w σ en w' v (val0 d) O → Q v w'.H) : Q v w.H := q w v [] (Fi1.fz (Ext.refl w) m0 r)
theorem pe_var' {i : Nat} {x : Str} (hN : X.N[i]? = some x) (hv : Vis X.env.scope x) (hd : (x == ("__debug__" : Str)) = false) (hcd : (x == ("__classdict__" : Str)) = false) : PE X (.Name x pos) (rd (look i)) :=
  peI (pe_var hN hv hd hcd) fun σ H Q ⟨pv, w, en, e, m0, q⟩ => by
    subst e
    have q' : (match getSl en i with | some ⟨.fz, d⟩ => _ | some _ => _ | none => False) := q
    split at q'
    · rename_i d e
      obtain ⟨v, O, h1, h2, h3⟩ := m0.get e
      exact ⟨v, h1, rd_val m0 h3.2 q'⟩
    · rename_i s hs e
      obtain ⟨v, O, h1, h2, h3⟩ := m0.get e
      exact ⟨v, h1, q' w v [] ⟨Ext.refl w, m0, ⟨rfl, h1⟩, Tmp.nil _, fun _ h => by cases h⟩⟩
    · exact q'.elim
theorem pe_tC {v : V} {d : D} (h : PE X e (tC v)) (r : ∀ F H, Rp F H v d) : PE X e (rd (pureV d)) := peI h fun σ H Q ⟨pv, w, en, e, m0, q⟩ => by
  subst e
  exact rd_val m0 (r _ _) q

/-! ### operators -/
theorem pe_bin' (C : Cok k X) (o : Bop) (ha : PE X a (rd ma)) (hb : PE X b (rd mb)) : PE X (.BinOp a (opOf o) b pos) (rd (do let x ← ma; let y ← mb; bopM o x y)) :=
  peI (pe_op (op_bop C o) ha hb) fun σ H Q ⟨pv, w, en, e, m0, q⟩ => by
    subst e
    refine ⟨pv, w, en, rfl, m0, ma.mono q (fun x en1 q1 w1 v P f1 => ?_) fun _ _ z => z⟩
    refine ⟨pv, w1, en1, rfl, f1.mt, mb.mono q1 (fun y en2 q2 w2 u P' f2 => ?_) fun _ _ z => z⟩
    have FF := Fins.cons f1 f2.one
    refine ⟨pv, w2, σ, en2, x, y, P, P', _, rfl, FF.have_, q2, fun en' w' z o O g kz => kz w' z O (Go.fi FF (by simp) g)⟩
/-- a comparison's ends -/
theorem cop_end {pv : Nat → V} {w w1 w2 : Wd} {σ : L2.St} {en1 en2 : En} {v u : V} {x y : Opd} {P P' : List Addr} (f1 : Fi1 pv w σ en1 w1 v x P) (f2 : Fi1 pv w1 σ en2 w2 u y P') : Have pv w2 σ en2 [v, u] [x, y] [P, P'] := (Fins.cons f1 f2.one).have_
theorem pe_cmp' (C : Cok k X) (o : Cop) (ha : PE X a (rd ma)) (hb : PE X b (rd mb)) (hm : behindInMarks (cmpOf o) b = false) : PE X (.Compare a [cmpOf o] [b] pos) (rd (do let x ← ma; let y ← mb; let r ← copB o x y; pureV (.bool r))) :=
  peI (pe_cmpR (op_cop C o) ha hb hm) fun σ H Q ⟨pv, w, en, e, m0, q⟩ => by
    subst e
    refine ⟨pv, w, en, rfl, m0, ma.mono q (fun x en1 q1 w1 v P f1 => ?_) fun _ _ z => z⟩
    refine ⟨pv, w1, en1, rfl, f1.mt, mb.mono q1 (fun y en2 q2 w2 u P' f2 => ?_) fun _ _ z => z⟩
    exact ⟨pv, w2, σ, en2, x, y, P, P', _, rfl, cop_end f1 f2, q2, fun r kr => kr w2 (.bl r) [] (Fi1.fz (f1.x.tr f2.x) f2.mt (.bl r))⟩
theorem pt_cmp' (C : Cok k X) (o : Cop) (ha : PE X a (rd ma)) (hb : PE X b (rd mb)) (hm : behindInMarks (cmpOf o) b = false) : PT X (.Compare a [cmpOf o] [b] pos) (rdT (do let x ← ma; let y ← mb; copB o x y)) :=
  ptI (pt_cmpR (op_cop C o) ha hb hm) fun σ H Q ⟨pv, w, en, e, m0, q⟩ => by
    subst e
    refine ⟨pv, w, en, rfl, m0, ma.mono q (fun x en1 q1 w1 v P f1 => ?_) fun _ _ z => z⟩
    refine ⟨pv, w1, en1, rfl, f1.mt, mb.mono q1 (fun y en2 q2 w2 u P' f2 => ?_) fun _ _ z => z⟩
    exact ⟨pv, w2, σ, en2, x, y, P, P', _, rfl, cop_end f1 f2, q2, fun r kr => ⟨r, rfl, kr w2 (f1.x.tr f2.x) f2.mt⟩⟩
/-- a o b o' c -/
def chnM (o o' : Cop) (ma mb mc : M Opd) : M Bool := do
  let x ← ma
  let y ← mb
  let r ← copB o x y
  match r with
  | true => do
    let z ← mc
    copB o' y z
  | false => pure false
theorem chn_rd {o o' : Cop} {σ : L2.St} {H : Hp} {Q : VK} (h : ∃ (pv : Nat → V) (w : Wd) (en : En), w.H = H ∧ Mt pv w σ en ∧ (chnM o o' ma mb mc).run en (fun b en' => ∀ w', Ext w.o w w' → Mt pv w' σ en' → Q (.bl b) w'.H) noX) :
    tChain (rCop o) (rCop o') (rd ma) (rd mb) (rd mc) σ H Q := by
  obtain ⟨pv, w, en, e, m0, q⟩ := h
  subst e
  refine ⟨pv, w, en, rfl, m0, ma.mono q (fun x en1 q1 w1 v P f1 => ?_) fun _ _ z => z⟩
  refine ⟨pv, w1, en1, rfl, f1.mt, mb.mono q1 (fun y en2 q2 w2 u P' f2 => ?_) fun _ _ z => z⟩
  refine ⟨pv, w2, σ, en2, x, y, P, P', _, rfl, cop_end f1 f2, q2, fun r kr => ⟨r, rfl, ?_⟩⟩
  cases r with
  | false => exact kr w2 (f1.x.tr f2.x) f2.mt
  | true =>
    rw [if_pos rfl]
    refine ⟨pv, w2, en2, rfl, f2.mt, mc.mono kr (fun z en3 q3 w3 t P3 f3 => ?_) fun _ _ z => z⟩
    exact ⟨pv, w3, σ, en3, y, z, P', P3, _, rfl, cop_end f2 f3, q3, fun r kr => kr w3 ((f1.x.tr f2.x).tr f3.x) f3.mt⟩
theorem pe_chn' (C : Cok k X) (o o' : Cop) (ha : PE X a (rd ma)) (hb : PE X b (rd mb)) (hc : PE X c (rd mc)) (hm : lastMarks [cmpOf o, cmpOf o'] [b, c] = false) :
    PE X (.Compare a [cmpOf o, cmpOf o'] [b, c] pos) (rd (do let r ← chnM o o' ma mb mc; pureV (.bool r))) :=
  peI (pe_chain (op_cop C o) (op_cop C o') ha hb hc hm) fun σ H Q ⟨pv, w, en, e, m0, q⟩ => by
    subst e
    exact chn_rd ⟨pv, w, en, rfl, m0, (chnM o o' ma mb mc).mono q (fun r en1 q1 w1 x1 m1 => q1 w1 (.bl r) [] (Fi1.fz x1 m1 (.bl r))) fun _ _ z => z⟩
theorem pt_chn' (C : Cok k X) (o o' : Cop) (ha : PE X a (rd ma)) (hb : PE X b (rd mb)) (hc : PE X c (rd mc)) (hm : lastMarks [cmpOf o, cmpOf o'] [b, c] = false) :
    PT X (.Compare a [cmpOf o, cmpOf o'] [b, c] pos) (rdT (chnM o o' ma mb mc)) :=
  ptI (pt_chain (op_cop C o) (op_cop C o') ha hb hc hm) fun σ H Q ⟨pv, w, en, e, m0, q⟩ => by
    subst e
    exact chn_rd ⟨pv, w, en, rfl, m0, (chnM o o' ma mb mc).mono q (fun r en1 q1 w1 x1 m1 => ⟨r, rfl, q1 w1 x1 m1⟩) fun _ _ z => z⟩
theorem pe_neg' (ha : PE X a (rd ma)) : PE X (.UnaryOp .USub a pos) (rd (do let x ← ma; let d ← peek x; match d with | .int i => pureV (.int (-i)) | _ => M.fail)) :=
  peI (pe_un un_neg ha) fun σ H Q ⟨pv, w, en, e, m0, q⟩ => by
    subst e
    refine ⟨pv, w, en, rfl, m0, ma.mono q (fun x en1 q1 w1 v P f1 => ?_) fun _ _ z => z⟩
    obtain ⟨d, s1, q1⟩ := peek_run f1.mt f1.r q1
    split at q1
    · cases s1
      rename_i i
      exact ⟨i, rfl, q1 w1 (.int (-i)) [] (Fi1.fz f1.x f1.mt (.int _))⟩
    · exact q1.elim

/-! ### truth -/
def truM (o : Opd) : M Bool := do
  let d ← peek o
  truth d
theorem tru_run {pv : Nat → V} {w : Wd} {σ : L2.St} {en : En} {v : V} {o : Opd} {O : List Addr} {α : Type} {f : Bool → M α} {K : α → En → Prop} (F : PySem.W.Frag) (m : Mt pv w σ en) (r : Orl w σ en v o O) (h : (truM o >>= f).run en K noX) :
    ∃ b, TruV F v w.H b ∧ (f b).run en K noX := by
  obtain ⟨d, s, q⟩ := peek_run (f := fun d => truth d >>= f) m r h
  unfold truth at q
  cases s with
  | non => exact ⟨false, rfl, q⟩
  | bl b => exact ⟨b, rfl, q⟩
  | int i => exact ⟨i != 0, rfl, q⟩
  | str x => exact ⟨(x.length : Int) != 0, ⟨q.1, rfl⟩, by
      have e : ((x.length : Int) != 0) = (x.length != 0) := by
        rw [Bool.eq_iff_iff]
        simp
      rw [e]
      exact q.2⟩
  | lst h t =>
    rename_i a vs ds
    refine ⟨!vs.isEmpty, .inl ⟨vs, .inl h, rfl⟩, ?_⟩
    have e : vs.isEmpty = ds.isEmpty := by cases t <;> rfl
    rw [e]
    exact q
  | tup f h t =>
    rename_i a vs ds
    refine ⟨!vs.isEmpty, .inr (.inl ⟨vs, .inl (.inl h), rfl⟩), ?_⟩
    have e : vs.isEmpty = ds.isEmpty := by cases t <;> rfl
    rw [e]
    exact q
  | dic h n t => exact (show False from q).elim
theorem pt_truth' (ha : PE X a (rd ma)) (he : ∀ whole, isTrue a X.env whole = (do let v ← whole; standAt a.pos; holding [v] (truthy v))) : PT X a (rdT (ma >>= truM)) :=
  ptI (pt_truth ha he) fun σ H Q ⟨pv, w, en, e, m0, q⟩ => by
    subst e
    refine ⟨pv, w, en, rfl, m0, ma.mono q (fun x en1 q1 w1 v P f1 => ?_) fun _ _ z => z⟩
    obtain ⟨b, t, q2⟩ := tru_run (f := fun b => pure b) X.K f1.mt f1.r q1
    exact ⟨b, t, q2 w1 f1.x f1.mt⟩
def andM (ma mb : M Opd) : M Opd := do
  let x ← ma
  let b ← truM x
  match b with
  | true => mb
  | false => pure x
def orM (ma mb : M Opd) : M Opd := do
  let x ← ma
  let b ← truM x
  match b with
  | true => pure x
  | false => mb
theorem pe_and' {rest : List Expr} (ha : PE X a (rd ma)) (hb : PE X (.BoolOp .And (b :: rest) pos) (rd mb)) : PE X (.BoolOp .And (a :: b :: rest) pos) (rd (andM ma mb)) :=
  peI (pe_andT ha hb) fun σ H Q ⟨pv, w, en, e, m0, q⟩ => by
    subst e
    refine ⟨pv, w, en, rfl, m0, ma.mono q (fun x en1 q1 w1 v P f1 => ?_) fun _ _ z => z⟩
    obtain ⟨b, t, q2⟩ := tru_run X.K f1.mt f1.r q1
    refine ⟨b, t, ?_⟩
    cases b with
    | true => exact ⟨pv, w1, en1, rfl, f1.mt, mb.mono q2 (fun y en2 q3 w2 u P2 f2 => q3 w2 u P2 (Fi1.from f1.x f2)) fun _ _ z => z⟩
    | false => exact q2 w1 v P f1
theorem pe_or' {rest : List Expr} (ha : PE X a (rd ma)) (hb : PE X (.BoolOp .Or (b :: rest) pos) (rd mb)) : PE X (.BoolOp .Or (a :: b :: rest) pos) (rd (orM ma mb)) :=
  peI (pe_orT ha hb) fun σ H Q ⟨pv, w, en, e, m0, q⟩ => by
    subst e
    refine ⟨pv, w, en, rfl, m0, ma.mono q (fun x en1 q1 w1 v P f1 => ?_) fun _ _ z => z⟩
    obtain ⟨b, t, q2⟩ := tru_run X.K f1.mt f1.r q1
    refine ⟨b, t, ?_⟩
    cases b with
    | true => exact q2 w1 v P f1
    | false => exact ⟨pv, w1, en1, rfl, f1.mt, mb.mono q2 (fun y en2 q3 w2 u P2 f2 => q3 w2 u P2 (Fi1.from f1.x f2)) fun _ _ z => z⟩
/-! ### tests -/
variable {ta tb : M Bool}
theorem pt_not' (ha : PT X a (rdT ta)) : PT X (.UnaryOp .Not a pos) (rdT (do let b ← ta; pure (!b))) := ptI (pt_not ha) fun σ H Q ⟨pv, w, en, e, m0, q⟩ => ⟨pv, w, en, e, m0, q⟩
theorem pw_and' {rest : List Expr} (ha : PT X a (rdT ta)) (hb : PW X (.BoolOp .And (b :: rest) pos) (rdT tb)) : PW X (.BoolOp .And (a :: b :: rest) pos) (rdT (do let r ← ta; match r with | true => tb | false => pure false)) :=
  pwI (pw_and ha hb) fun σ H Q ⟨pv, w, en, e, m0, q⟩ => by
    subst e
    refine ⟨pv, w, en, rfl, m0, ta.mono q (fun r en1 q1 w1 x1 m1 => ?_) fun _ _ z => z⟩
    cases r with
    | true => exact ⟨pv, w1, en1, rfl, m1, tb.mono q1 (fun y en2 q3 w2 x2 m2 => q3 w2 (x1.tr x2) m2) fun _ _ z => z⟩
    | false => exact q1 w1 x1 m1
theorem pw_or' {rest : List Expr} (ha : PT X a (rdT ta)) (hb : PW X (.BoolOp .Or (b :: rest) pos) (rdT tb)) : PW X (.BoolOp .Or (a :: b :: rest) pos) (rdT (do let r ← ta; match r with | true => pure true | false => tb)) :=
  pwI (pw_or ha hb) fun σ H Q ⟨pv, w, en, e, m0, q⟩ => by
    subst e
    refine ⟨pv, w, en, rfl, m0, ta.mono q (fun r en1 q1 w1 x1 m1 => ?_) fun _ _ z => z⟩
    cases r with
    | false => exact ⟨pv, w1, en1, rfl, m1, tb.mono q1 (fun y en2 q3 w2 x2 m2 => q3 w2 (x1.tr x2) m2) fun _ _ z => z⟩
    | true => exact q1 w1 x1 m1
theorem pe_notT' (ha : PE X a (rd ma)) : PE X (.UnaryOp .Not a pos) (rd (do let x ← ma; let b ← truM x; pureV (.bool (!b)))) :=
  peI (pe_notT ha) fun σ H Q ⟨pv, w, en, e, m0, q⟩ => by
    subst e
    refine ⟨pv, w, en, rfl, m0, ma.mono q (fun x en1 q1 w1 v P f1 => ?_) fun _ _ z => z⟩
    obtain ⟨b, t, q2⟩ := tru_run X.K f1.mt f1.r q1
    exact ⟨b, t, q2 w1 (.bl (!b)) [] (Fi1.fz f1.x f1.mt (.bl _))⟩
theorem pe_ite' {t : M Bool} (hc : PT X c (rdT t)) (ha : PE X a (rd ma)) (hb : PE X b (rd mb)) : PE X (.IfExp c a b pos) (rd (do let r ← t; match r with | true => ma | false => mb)) :=
  peI (pe_ifExp hc ha hb) fun σ H Q ⟨pv, w, en, e, m0, q⟩ => by
    subst e
    refine ⟨pv, w, en, rfl, m0, t.mono q (fun r en1 q1 w1 x1 m1 => ?_) fun _ _ z => z⟩
    cases r with
    | true => exact ⟨pv, w1, en1, rfl, m1, ma.mono q1 (fun y en2 q3 w2 u P2 f2 => q3 w2 u P2 (Fi1.from x1 f2)) fun _ _ z => z⟩
    | false => exact ⟨pv, w1, en1, rfl, m1, mb.mono q1 (fun y en2 q3 w2 u P2 f2 => q3 w2 u P2 (Fi1.from x1 f2)) fun _ _ z => z⟩

/-! ### subscripts -/
def ixO (a b : Opd) : M Opd := do
  let d ← peek a
  let e ← peek b
  ixM d e
theorem Rps.at_ {F : Addr → Prop} {H : Hp} {vs : List V} {ds : List D} {i : Int} {d : D} (r : Rps F H vs ds) (h : atI ds i = some d) : ∃ v, atI vs i = some v ∧ Rp F H v d := by
  unfold atI at h ⊢
  rw [r.length]
  cases e : ixN ds.length i with
  | none => rw [e] at h; cases h
  | some j =>
    rw [e] at h
    exact Rps.get r h
theorem valV_sh {F : Addr → Prop} {H : Hp} : ∀ {kvs : List (Key × V)} {ds : List (D × D)} (k : Key), Rpk F H kvs ds → (valV kvs k).isSome = (valD ds (keyD k)).isSome ∧ ∀ d, valD ds (keyD k) = some d → ∃ v, valV kvs k = some v ∧ Rp F H v d
  | _, _, k, .nil => ⟨rfl, fun d h => by simp [valD] at h⟩
  | _, _, k, .cons (k := k') (v := v) (d := d') h t => by
    have ih := valV_sh k t
    have key : PyData.eqv (keyD k') (keyD k) = decide (k' = k) := by
      rw [Bool.eq_iff_iff]
      cases k' <;> cases k <;> simp [keyD, PyData.eqv]
    unfold valV valD at ih ⊢
    rw [List.find?_cons, List.find?_cons]
    dsimp only
    rw [key]
    cases decide (k' = k) with
    | true => exact ⟨rfl, fun d h1 => ⟨v, rfl, by simp at h1; rw [← h1]; exact h⟩⟩
    | false => exact ih
theorem ix_op (C : Cok k X) : IxR X (rOf2 ixO) := by
  intro value slice pins s σ H x y v u Q I rx ry h hs
  obtain ⟨pv, w, τ, en, a, b, P, P', K, rfl, hv, hr, hQ⟩ := h
  obtain ⟨d, e, h1, h2, hr⟩ := hv.peek2 hr
  have fin : ∀ {z : V} {dz : D}, Rp w.F w.H z dz → K (val0 dz) en → Q z w.H := fun {z dz} rp kz => hQ en w z (val0 dz) [] (Go.same hv.mt _ rp) kz
  unfold ixM at hr
  split at hr
  · split at hr
    · rename_i xs i d e
      cases h1 with
      | lst g t =>
        cases h2
        obtain ⟨z, e2, rp⟩ := t.at_ e
        exact ix_list value slice pins s σ w.H _ _ v u Q I rx ry ⟨_, _, _, _, rfl, rfl, .inl g, e2, fin rp hr⟩ hs
    · exact (show False from hr).elim
  · split at hr
    · rename_i xs i d e
      cases h1 with
      | tup f g t =>
        cases h2
        obtain ⟨z, e2, rp⟩ := t.at_ e
        exact ix_tup value slice pins s σ w.H _ _ v u Q I rx ry ⟨_, _, _, _, rfl, rfl, .inl (.inl g), e2, fin rp hr⟩ hs
    · exact (show False from hr).elim
  · split at hr
    · rename_i x i o d e
      cases h1
      cases h2
      obtain ⟨c, e2, ed⟩ : ∃ c, atI x.cps.toList i = some c ∧ d = .str ⟨#[c]⟩ := by
        unfold atI signs at e
        unfold atI
        rw [List.length_map] at e
        cases q : ixN x.cps.toList.length i with
        | none => rw [q] at e; cases e
        | some j =>
          rw [q] at e
          simp only [Option.bind_some, List.getElem?_map, Option.map_eq_some_iff] at e ⊢
          obtain ⟨c, h1, h2⟩ := e
          exact ⟨c, h1, h2.symm⟩
      subst ed
      exact ix_str value slice pins s σ w.H _ _ v u Q I rx ry ⟨_, _, _, rfl, rfl, hr.1, e2, fin (.str _) hr.2⟩ hs
    · exact (show False from hr).elim
  · obtain ⟨hk, hr⟩ := hr
    split at hr
    · rename_i kvs d e
      obtain ⟨kk, rfl, rfl⟩ := keyOf h2.vd hk
      cases h1 with
      | dic g n t =>
        obtain ⟨z, e2, rp⟩ := (valV_sh kk t).2 _ e
        cases rx
        have G : DGet w.H _ (kV kk) (some z) := .inl ⟨_, kk, g, rfl, e2.symm⟩
        refine PyProof.Rows.tail_any (dict_typeIs I G) PySem.F.slot_dict_getitem.lookup (d_getItem (y := kV kk) ?_ I G ry fun w' s' I' rw' => ⟨z, w.H, I', rw', fin rp hr⟩) hs
        have := C.room.un
        omega
    · exact (show False from hr).elim
  · exact (show False from hr).elim
theorem pe_ix' (C : Cok k X) (ha : PE X a (rd ma)) (hb : PE X b (rd mb)) (hs : PlainIx b) : PE X (.Subscript a b pos) (rd (do let x ← ma; let y ← mb; ixO x y)) :=
  peI (pe_ix (ix_op C) ha hb hs) fun σ H Q ⟨pv, w, en, e, m0, q⟩ => by
    subst e
    refine ⟨pv, w, en, rfl, m0, ma.mono q (fun x en1 q1 w1 v P f1 => ?_) fun _ _ z => z⟩
    refine ⟨pv, w1, en1, rfl, f1.mt, mb.mono q1 (fun y en2 q2 w2 u P' f2 => ?_) fun _ _ z => z⟩
    have FF := Fins.cons f1 f2.one
    refine ⟨pv, w2, σ, en2, x, y, P, P', _, rfl, FF.have_, q2, fun en' w' z o O g kz => kz w' z O (Go.fi FF (by simp) g)⟩
end
end Rf
end
section
set_option Elab.async false
set_option linter.all false
set_option maxRecDepth 100000
set_option maxHeartbeats 4000000
set_option autoImplicit false
/-! Rf9: the built-in functions. -/
namespace Rf
open PySem PySem.Spec L2

/-- a call of a known value with operands -/
def rN (f : List Opd → M Opd) : List V → Hp → VK → Prop := fun vs H Q => ∃ (pv : Nat → V) (w : Wd) (σ : L2.St) (en : En) (os : List Opd) (Ps : List (List Addr)) (K : Opd → En → Prop), w.H = H ∧ Have pv w σ en vs os Ps ∧ (f os).run en K noX ∧
  ∀ en' w' v o O, Go pv Ps.flatten w σ en' w' v o O → K o en' → Q v w'.H
theorem rd_rN {ms : M (List Opd)} {f : List Opd → M Opd} {σ : L2.St} {H : Hp} {Q : VK} (h : rd (ms >>= f) σ H Q) : rds ms σ H fun vs H1 => rN f vs H1 Q := by
  obtain ⟨pv, w, en, rfl, m0, q⟩ := h
  exact ⟨pv, w, en, rfl, m0, ms.mono q (fun os en1 q1 w1 vs Ps F => ⟨pv, w1, σ, en1, os, Ps, _, rfl, F.have_, q1, fun en' w' v o O g k => k w' v O (F.go g)⟩) fun _ _ z => z⟩
/-- the operands as data -/
inductive Shs (F : Addr → Prop) (H : Hp) : List V → List D → Prop
  | nil : Shs F H [] []
  | cons {v : V} {vs : List V} {d : D} {ds : List D} : Sh F H v d → Shs F H vs ds → Shs F H (v :: vs) (d :: ds)
theorem peeks_run {pv : Nat → V} {w : Wd} {σ : L2.St} {en : En} {α : Type} : ∀ {vs : List V} {os : List Opd} {Ps : List (List Addr)} {f : List D → M α} {K : α → En → Prop}, Have pv w σ en vs os Ps → (peeks os >>= f).run en K noX → ∃ ds, Shs w.F w.H vs ds ∧ (f ds).run en K noX := by
  intro vs
  induction vs with
  | nil =>
    intro os Ps f K h q
    cases os with
    | nil => exact ⟨[], .nil, q⟩
    | cons o os => have := h.l1; simp at this
  | cons v vs ih =>
    intro os Ps f K h q
    cases os with
    | nil => have := h.l1; simp at this
    | cons o os =>
      cases Ps with
      | nil => have := h.l2; simp at this
      | cons P Ps =>
        obtain ⟨d, s1, q⟩ := peek_run (f := fun d => peeks os >>= fun ds => f (d :: ds)) h.mt (h.r 0 v o P rfl rfl rfl) q
        have h' : Have pv w σ en vs os Ps := by
          refine ⟨h.mt, by simpa using h.l1, by simpa using h.l2, fun i v o P h1 h2 h3 => h.r (i + 1) v o P (by simpa using h1) (by simpa using h2) (by simpa using h3), ?_, fun a ha => h.t.at_ a ?_⟩
          · have n := h.t.nd
            rw [List.flatten_cons, List.nodup_append] at n
            exact n.2.1
          · rw [List.flatten_cons]
            exact List.mem_append_right _ ha
        obtain ⟨ds, s2, q⟩ := ih (f := fun ds => f (d :: ds)) h' q
        exact ⟨d :: ds, .cons s1 s2, q⟩
theorem ints_of {F : Addr → Prop} {H : Hp} : ∀ {vs : List V} {ds : List D} {ns : List Int}, Rps F H vs ds → intsOf ds = some ns → vs = ns.map V.int ∧ ds = ns.map .int
  | _, _, _, .nil, e => by cases e; exact ⟨rfl, rfl⟩
  | _, _, _, .cons (d := d) (ds := ds) h t, e => by
    unfold intsOf at e
    split at e
    · rename_i e0
      cases e0
    · rename_i i r e1
      cases e1
      split at e
      · rename_i l e2
        cases e
        cases h
        obtain ⟨e3, e4⟩ := ints_of t e2
        subst e3 e4
        exact ⟨rfl, rfl⟩
      · cases e
    · cases e
theorem strs_of {F : Addr → Prop} {H : Hp} : ∀ {vs : List V} {ds : List D} {ns : List Str}, Rps F H vs ds → strsOf ds = some ns → vs = ns.map V.str ∧ ds = ns.map .str
  | _, _, _, .nil, e => by cases e; exact ⟨rfl, rfl⟩
  | _, _, _, .cons (d := d) (ds := ds) h t, e => by
    unfold strsOf at e
    split at e
    · rename_i e0
      cases e0
    · rename_i i r e1
      cases e1
      split at e
      · rename_i l e2
        cases e
        cases h
        obtain ⟨e3, e4⟩ := strs_of t e2
        subst e3 e4
        exact ⟨rfl, rfl⟩
      · cases e
    · cases e
theorem bols_of {F : Addr → Prop} {H : Hp} : ∀ {vs : List V} {ds : List D} {ns : List Bool}, Rps F H vs ds → bolsOf ds = some ns → vs = ns.map V.bl ∧ ds = ns.map .bool
  | _, _, _, .nil, e => by cases e; exact ⟨rfl, rfl⟩
  | _, _, _, .cons (d := d) (ds := ds) h t, e => by
    unfold bolsOf at e
    split at e
    · rename_i e0
      cases e0
    · rename_i i r e1
      cases e1
      split at e
      · rename_i l e2
        cases e
        cases h
        obtain ⟨e3, e4⟩ := bols_of t e2
        subst e3 e4
        exact ⟨rfl, rfl⟩
      · cases e
    · cases e
theorem rps_int {F : Addr → Prop} {H : Hp} : ∀ ns : List Int, Rps F H (ns.map V.int) (ns.map .int)
  | [] => .nil
  | n :: ns => .cons (.int n) (rps_int ns)
theorem rps_str {F : Addr → Prop} {H : Hp} : ∀ ns : List Str, Rps F H (ns.map V.str) (ns.map .str)
  | [] => .nil
  | n :: ns => .cons (.str n) (rps_str ns)
theorem rp_key {F : Addr → Prop} {H : Hp} (k : Key) : Rp F H (kV k) (keyD k) := by
  cases k with
  | inl i => exact .int i
  | inr x => exact .str x
theorem rps_keys {F : Addr → Prop} {H : Hp} : ∀ {kvs : List (Key × V)} {ds : List (D × D)}, Rpk F H kvs ds → Rps F H (kvs.map fun kv => kV kv.1) (ds.map (·.1))
  | _, _, .nil => .nil
  | _, _, .cons (k := k) h t => .cons (rp_key k) (rps_keys t)
theorem Rpk.length {F : Addr → Prop} {H : Hp} : ∀ {kvs : List (Key × V)} {ds : List (D × D)}, Rpk F H kvs ds → kvs.length = ds.length
  | _, _, .nil => rfl
  | _, _, .cons _ t => by simp [Rpk.length t]
theorem key_eq (k k' : Key) : PyData.eqv (keyD k') (keyD k) = decide (k' = k) := by
  rw [Bool.eq_iff_iff]
  cases k' <;> cases k <;> simp [keyD, PyData.eqv]
theorem Rpk.any {F : Addr → Prop} {H : Hp} (k : Key) : ∀ {kvs : List (Key × V)} {ds : List (D × D)}, Rpk F H kvs ds → (kvs.any fun kv => decide (kv.1 = k)) = ds.any fun kv => PyData.eqv kv.1 (keyD k)
  | _, _, .nil => rfl
  | _, _, .cons (k := k') _ t => by rw [List.any_cons, List.any_cons, Rpk.any k t, key_eq]
theorem Rpk.append {F : Addr → Prop} {H : Hp} : ∀ {a b : List (Key × V)} {c d : List (D × D)}, Rpk F H a c → Rpk F H b d → Rpk F H (a ++ b) (c ++ d)
  | _, _, _, _, .nil, s => s
  | _, _, _, _, .cons r t, s => .cons r (Rpk.append t s)
theorem Rpk.set_ {F : Addr → Prop} {H : Hp} {v : V} {d : D} (k : Key) (rv : Rp F H v d) : ∀ {kvs : List (Key × V)} {ds : List (D × D)}, Rpk F H kvs ds →
    Rpk F H (kvs.map fun kv => if kv.1 = k then (kv.1, v) else kv) (ds.map fun kv => if PyData.eqv kv.1 (keyD k) = true then (kv.1, d) else kv)
  | _, _, .nil => .nil
  | _, _, .cons (k := k') h t => by
    have ih := Rpk.set_ k rv t
    simp only [List.map_cons, key_eq]
    by_cases e : k' = k
    · simp only [e, decide_true, if_true]
      exact .cons rv ih
    · simp only [e, decide_false, if_false]
      exact .cons h ih
theorem Rpk.put {F : Addr → Prop} {H : Hp} {kvs : List (Key × V)} {ds : List (D × D)} {v : V} {d : D} (k : Key) (r : Rpk F H kvs ds) (rv : Rp F H v d) : Rpk F H (putK kvs k v) (putD ds (keyD k) d) := by
  unfold putK putD
  rw [r.any k]
  split
  · exact r.set_ k rv
  · exact r.append (.cons rv .nil)
theorem Rpk.merge {F : Addr → Prop} {H : Hp} : ∀ {more : List (Key × V)} {dm : List (D × D)} {kvs : List (Key × V)} {ds : List (D × D)}, Rpk F H more dm → Rpk F H kvs ds → Rpk F H (mergeK kvs more) (mergeD ds dm)
  | _, _, _, _, .nil, r => r
  | _, _, _, _, .cons (k := k) h t, r => by
    unfold mergeK mergeD
    rw [List.foldl_cons, List.foldl_cons]
    exact Rpk.merge t (r.put k h)
theorem putK_keys {kvs : List (Key × V)} {k : Key} {v : V} (n : (kvs.map (·.1)).Nodup) : ((putK kvs k v).map (·.1)).Nodup := by
  unfold putK
  split
  · have e : (kvs.map fun kv => if kv.1 = k then (kv.1, v) else kv).map (·.1) = kvs.map (·.1) := by
      rw [List.map_map]
      refine List.map_congr_left fun kv _ => ?_
      show (if kv.1 = k then (kv.1, v) else kv).1 = kv.1
      split <;> rfl
    rw [e]
    exact n
  · rename_i h
    rw [List.map_append, List.nodup_append]
    refine ⟨n, by simp, fun a ha b hb e => h ?_⟩
    obtain ⟨kv, h1, h2⟩ := List.mem_map.mp ha
    have hb' : b = k := by simpa using hb
    exact List.any_eq_true.mpr ⟨kv, h1, by rw [h2, e, hb']; simp⟩
theorem mergeK_keys : ∀ {more kvs : List (Key × V)}, (kvs.map (·.1)).Nodup → ((mergeK kvs more).map (·.1)).Nodup
  | [], _, n => n
  | (k, v) :: r, kvs, n => by
    unfold mergeK
    rw [List.foldl_cons]
    exact mergeK_keys (more := r) (putK_keys n)
theorem prs_of {K : PySem.W.Frag} {F : Addr → Prop} {H : Hp} : ∀ {vs : List V} {ds : List D} {prs : List (D × D)}, Rps F H vs ds → prsOf ds = some prs →
    ∃ (ps : List Addr) (kvs : List (Key × V)), vs = ps.map V.ref ∧ Paired (fun p kv => SqT K H p [kV kv.1, kv.2]) ps kvs ∧ Rpk F H kvs prs
  | _, _, _, .nil, e => by cases e; exact ⟨[], [], rfl, .nil, .nil⟩
  | _, _, _, .cons (d := d) (ds := ds) h t, e => by
    unfold prsOf at e
    split at e
    · rename_i e0
      cases e0
    · rename_i k v r e1
      cases e1
      split at e
      · rename_i l hk e2
        cases e
        obtain ⟨ps, kvs, e3, e4, e5⟩ := prs_of (K := K) t e2
        subst e3
        cases h with
        | tup f g tt =>
          cases tt with
          | cons r1 tt =>
            cases tt with
            | cons r2 tt =>
              cases tt
              obtain ⟨kk, rfl, rfl⟩ := keyOf r1.vd hk
              exact ⟨_ :: ps, (kk, _) :: kvs, rfl, .cons (SqT.of g) e4, .cons r2 e5⟩
      · cases e
    · cases e

/-! ### repr -/
theorem tracked_sm {X : Cx} {pins : List (Addr × Obj)} {σ : L2.St} {H : Hp} {s : Shared} {a : Addr} (I : Inv X pins σ H s) (hs : ∃ o, X.base.get? sysModules = some o) (h : H a ≠ none) : a ≠ sysModules := fun e => by
  obtain ⟨o, e1⟩ := hs
  obtain ⟨e2, e3⟩ := I.ok.bs _ _ e1
  have := I.base.free _ _ e2 e3 (I.ok.noex _ _ e1)
  rw [← e] at this
  exact h this
theorem rd_tr {H : Hp} {a : Addr} {u : HO} (h : Rd H a u) : H a ≠ none := by
  rcases h with h | ⟨o, h⟩ <;> rw [h] <;> simp
theorem pairs_reads {P : Program} {w : World} {h : Heap} : ∀ {es : List DictEntry} {vs : List (Key × Value)}, Pairs (mixKind P w) es vs → (es.map (·.val)) = vs.map (·.2) ∧ ∀ {kvs : List (Key × V)} {ds : List (D × D)} {H : Hp}, KV kvs vs → Vdk H kvs ds → ReadsAll h (es.map (·.key)) (ds.map (·.1)) []
  | _, _, .nil => ⟨rfl, fun r t => by cases r; cases t; exact .nil⟩
  | _, _, .cons (e := e) (kv := kv) h1 h2 t => by
    obtain ⟨i1, i2⟩ := pairs_reads (h := h) t
    refine ⟨by rw [List.map_cons, List.map_cons, i1, h2], fun r q => ?_⟩
    cases r with
    | cons r0 r =>
      cases q with
      | @cons k v kvs d ds hv q =>
        have ek : k = kv.1 := r0.1
        have rk : Reads h e.key (keyD k) [] := by
          rw [ek]
          have hk : keyIs kv.1 e.key = true := h1
          rcases keyIs_shape hk with ⟨i, tk, z1, z2⟩ | ⟨x, tk, z1, z2⟩
          · rw [z1, z2]
            exact .int i tk
          · rw [z1, z2]
            exact .str x tk
        exact .cons rk (i2 r q)
mutual
theorem Vd.rdr {X : Cx} {pins : List (Addr × Obj)} {σ : L2.St} {H : Hp} {s : Shared} (I : Inv X pins σ H s) (hs : ∃ o, X.base.get? sysModules = some o) : ∀ {v : V} {d : D}, Vd H v d → ∀ u, RelV v u → ∃ as, Reads s.heap u d as ∧ sysModules ∉ as
  | _, _, .non, u, r => by cases r; exact ⟨[], .none, by simp⟩
  | _, _, .bl b, u, r => by cases r; exact ⟨[], .bool b, by simp⟩
  | _, _, .int i, u, r => by obtain ⟨t, rfl⟩ := r; exact ⟨[], .int i t, by simp⟩
  | _, _, .str x, u, r => by obtain ⟨t, rfl⟩ := r; exact ⟨[], .str x t, by simp⟩
  | _, _, .lst (a := a) g t, u, r => by
    cases r
    obtain ⟨its, n, rv, _, e, _⟩ := rd_lst I g
    obtain ⟨as, h1, h2⟩ := Vds.rdr I hs t its rv
    exact ⟨a :: as, .list e rfl rfl (by simpa using h1), by simp only [List.mem_cons, not_or]; exact ⟨fun z => tracked_sm I hs (rd_tr g) z.symm, h2⟩⟩
  | _, _, .tup (a := a) g t, u, r => by
    cases r
    obtain ⟨_, its, rv, o, e, c, n, d⟩ := I.hok a _ g
    obtain ⟨as, h1, h2⟩ := Vds.rdr I hs t its rv
    exact ⟨as, .tuple e c d (by simpa using h1), h2⟩
  | _, _, .dic (a := a) g n t, u, r => by
    cases r
    obtain ⟨z, hd, vs, rel, o, es, ep, e, ex, ed, _, pr, _⟩ := g.ok I.hok
    obtain ⟨i1, i2⟩ := pairs_reads (h := s.heap) pr
    obtain ⟨as, h1, h2⟩ := Vdk.rdr I hs t vs rel
    refine ⟨a :: [] ++ as, .dict e ex.1 ed (i2 rel t) (by rw [i1]; exact h1), ?_⟩
    simp only [List.cons_append, List.nil_append, List.mem_cons, not_or]
    exact ⟨fun z => tracked_sm I hs (rd_tr g) z.symm, h2⟩
theorem Vds.rdr {X : Cx} {pins : List (Addr × Obj)} {σ : L2.St} {H : Hp} {s : Shared} (I : Inv X pins σ H s) (hs : ∃ o, X.base.get? sysModules = some o) : ∀ {vs : List V} {ds : List D}, Vds H vs ds → ∀ us, Vals vs us → ∃ as, ReadsAll s.heap us ds as ∧ sysModules ∉ as
  | _, _, .nil, _, .nil => ⟨[], .nil, by simp⟩
  | _, _, .cons h t, _, .cons r rr => by
    obtain ⟨as, h1, h2⟩ := Vd.rdr I hs h _ r
    obtain ⟨bs, h3, h4⟩ := Vds.rdr I hs t _ rr
    exact ⟨as ++ bs, .cons h1 h3, by simp only [List.mem_append, not_or]; exact ⟨h2, h4⟩⟩
theorem Vdk.rdr {X : Cx} {pins : List (Addr × Obj)} {σ : L2.St} {H : Hp} {s : Shared} (I : Inv X pins σ H s) (hs : ∃ o, X.base.get? sysModules = some o) : ∀ {kvs : List (Key × V)} {ds : List (D × D)}, Vdk H kvs ds → ∀ vs, KV kvs vs → ∃ as, ReadsAll s.heap (vs.map (·.2)) (ds.map (·.2)) as ∧ sysModules ∉ as
  | _, _, .nil, _, .nil => ⟨[], .nil, by simp⟩
  | _, _, .cons h t, _, .cons r rr => by
    obtain ⟨as, h1, h2⟩ := Vd.rdr I hs h _ r.2
    obtain ⟨bs, h3, h4⟩ := Vdk.rdr I hs t _ rr
    exact ⟨as ++ bs, .cons h1 h3, by simp only [List.mem_append, not_or]; exact ⟨h2, h4⟩⟩
end
theorem repr_run {k : Nat} {X : Cx} {pins : List (Addr × Obj)} {σ : L2.St} {H : Hp} {s : Shared} {v : V} {d : D} {u : Value} {Q : VK} (C : Cok k X) (I : Inv X pins σ H s) (h : Vd H v d) (r : RelV v u) (h1 : d.showable = true) (h2 : d.depth ≤ 64) (h3 : d.shown.length ≤ sizeLine)
    (q : Q (.str d.shown) H) : wpAny (model X.prog X.w) X.A (call (.builtin "repr") [u]) (EP X pins σ Q) X.xe s := by
  obtain ⟨as, R, ns⟩ := h.rdr I C.sm u r
  have hu := C.room.un
  have big : ∀ {a : Addr}, Reads s.heap (.ref a) d as → wpAny (model X.prog X.w) X.A (call (.builtin "repr") [.ref a]) (EP X pins σ Q) X.xe s := fun R =>
    repr_of_reads' R h1 (fun _ => ns) C.guards (by omega) (fun _ _ e => e) (fun h' t tk hk => ⟨.str d.shown, H, I.kept hk, ⟨t, rfl⟩, q⟩) h3
  cases h with
  | non => cases r; exact PySem.P.repr_of_none ⟨.str _, H, I.tok _, ⟨_, rfl⟩, q⟩
  | bl b => cases r; exact PySem.P.repr_of_bool ⟨.str _, H, I.tok _, ⟨_, rfl⟩, q⟩
  | int i =>
    obtain ⟨t, rfl⟩ := r
    exact PySem.P.repr_of_int (by simpa [PyData.showable] using h1) ⟨.str _, H, I.tok _, ⟨_, rfl⟩, q⟩
  | str x =>
    obtain ⟨t, rfl⟩ := r
    exact PySem.P.repr_of_str (x := x) ⟨.str _, H, I.tok _, ⟨_, rfl⟩, q⟩ h3
  | lst g t => cases r; exact big R
  | tup g t => cases r; exact big R
  | dic g n t => cases r; exact big R

/-! ### the calls -/
theorem tyX_dict {K : PySem.W.Frag} {H : Hp} {a : Addr} {kvs : List (Key × V)} (g : Rd H a (.dK kvs)) : TyX K H (.ref a) (.type "dict") := by
  rcases g with g | ⟨o, g⟩
  · exact .base (.dK g)
  · exact .fDict g
theorem tyX_list {K : PySem.W.Frag} {H : Hp} {a : Addr} {vs : List V} (g : Rd H a (.lst vs)) : TyX K H (.ref a) (.type "list") := by
  rcases g with g | ⟨o, g⟩
  · exact .base (.lst g)
  · exact .base (.frz g)
theorem shs1 {F : Addr → Prop} {H : Hp} {vs : List V} {d : D} (h : Shs F H vs [d]) : ∃ v, vs = [v] ∧ Sh F H v d := by
  cases h with
  | cons h t => cases t; exact ⟨_, rfl, h⟩
theorem shs2 {F : Addr → Prop} {H : Hp} {vs : List V} {d e : D} (h : Shs F H vs [d, e]) : ∃ v u, vs = [v, u] ∧ Sh F H v d ∧ Sh F H u e := by
  cases h with
  | cons h t => cases t with
    | cons h2 t => cases t; exact ⟨_, _, rfl, h, h2⟩
theorem cr_bi {k : Nat} {X : Cx} (C : Cok k X) (b : Bi) : CallR X (biV b) (rN (biM b)) := by
  intro pins s σ H xs us Q I r h
  obtain ⟨pv, w, τ, en, os, Ps, K, rfl, hv, hr, hQ⟩ := h
  have hr0 := peeks_run (f := biD b) hv hr
  clear hr
  obtain ⟨ds, sh, hr⟩ := hr0
  have fin : ∀ {z : V} {dz : D}, Rp w.F w.H z dz → K (val0 dz) en → Q z w.H := fun {z dz} rp kz => hQ en w z (val0 dz) [] (Go.same hv.mt _ rp) kz
  have finL : ∀ {vs : List V} {ds : List D}, Rps w.F w.H vs ds → K (.val ⟨.top, .list ds⟩) en → ∀ p, w.H p = none → Q (.ref p) (upd w.H p (.lst vs)) := fun {vs ds} rp kz p hp =>
    hQ en (w.new p (.lst vs)) (.ref p) _ [p] (Go.lst hv.mt _ hp rp) kz
  have finT : ∀ {vs : List V} {ds : List D}, Rps w.F w.H vs ds → K (val0 (.tuple ds)) en → ∀ p, w.H p = none → Q (.ref p) (upd w.H p (.tup vs)) := fun {vs ds} rp kz p hp =>
    hQ en (w.newF p (.tup vs)) (.ref p) _ [] (Go.tup hv.mt _ hp rp) kz
  have finD : ∀ {kvs : List (Key × V)} {ds : List (D × D)}, (kvs.map (·.1)).Nodup → Rpk w.F w.H kvs ds → K (.val ⟨.top, .dict ds⟩) en → ∀ p, w.H p = none → Q (.ref p) (upd w.H p (.dK kvs)) := fun {kvs ds} n rp kz p hp =>
    hQ en (w.new p (.dK kvs)) (.ref p) _ [p] (Go.dic hv.mt _ hp n rp) kz
  unfold biD at hr
  split at hr
  · obtain ⟨v, rfl, s1⟩ := shs1 sh
    cases s1
    exact call_len_str pins s σ w.H _ us Q I r ⟨_, rfl, hr.1, fin (.int _) hr.2⟩
  · obtain ⟨v, rfl, s1⟩ := shs1 sh
    cases s1 with
    | lst g t => exact call_len_seq pins s σ w.H _ us Q I r ⟨_, _, rfl, .inl (.inl g), by rw [t.length]; exact fin (.int _) hr⟩
  · obtain ⟨v, rfl, s1⟩ := shs1 sh
    cases s1 with
    | tup f g t => exact call_len_seq pins s σ w.H _ us Q I r ⟨_, _, rfl, .inr (.inl (.inl g)), by rw [t.length]; exact fin (.int _) hr⟩
  · obtain ⟨v, rfl, s1⟩ := shs1 sh
    cases s1 with
    | dic g n t =>
      obtain ⟨u, rfl, ru⟩ := vals1 r
      cases ru
      exact d_len I g fun t' s' I' => ⟨.int _, w.H, I', ⟨_, rfl⟩, by rw [t.length]; exact fin (.int _) hr⟩
  · obtain ⟨v, rfl, s1⟩ := shs1 sh
    cases s1
    exact call_int1 pins s σ w.H _ us Q I r (.inl ⟨_, rfl, fin (.int _) hr⟩)
  · obtain ⟨v, rfl, s1⟩ := shs1 sh
    cases s1
    exact call_int1 pins s σ w.H _ us Q I r (.inr ⟨_, rfl, fin (.int _) hr⟩)
  · obtain ⟨v, rfl, s1⟩ := shs1 sh
    cases s1
    exact call_str_int pins s σ w.H _ us Q I r ⟨_, rfl, hr.1, fin (.str _) hr.2⟩
  · obtain ⟨v, rfl, s1⟩ := shs1 sh
    cases s1
    exact SkE.call_str_str pins s σ w.H _ us Q I r ⟨_, rfl, fin (.str _) hr⟩
  · obtain ⟨v, u, rfl, s1, s2⟩ := shs2 sh
    cases s1
    cases s2
    exact call_max2 C.calm pins s σ w.H _ us Q I r ⟨_, _, rfl, fin (.int _) hr⟩
  · obtain ⟨v, u, rfl, s1, s2⟩ := shs2 sh
    cases s1
    cases s2
    exact call_min2 C.calm pins s σ w.H _ us Q I r ⟨_, _, rfl, fin (.int _) hr⟩
  · obtain ⟨v, rfl, s1⟩ := shs1 sh
    cases s1
    exact call_abs pins s σ w.H _ us Q I r ⟨_, rfl, fin (.int _) hr⟩
  · split at hr
    · rename_i ns e
      obtain ⟨v, rfl, s1⟩ := shs1 sh
      cases s1 with
      | lst g t =>
        obtain ⟨e1, e2⟩ := ints_of t e
        subst e1 e2
        exact cr_max C.calm pins s σ w.H _ us Q I r ⟨_, ns, rfl, .inl g, hr.1, fun m h1 h2 => fin (.int _) (hr.2 m ⟨h1, h2⟩)⟩
    · exact hr.elim
  · split at hr
    · rename_i ns e
      obtain ⟨v, rfl, s1⟩ := shs1 sh
      cases s1 with
      | lst g t =>
        obtain ⟨e1, e2⟩ := ints_of t e
        subst e1 e2
        exact cr_min C.calm pins s σ w.H _ us Q I r ⟨_, ns, rfl, .inl g, hr.1, fun m h1 h2 => fin (.int _) (hr.2 m ⟨h1, h2⟩)⟩
    · exact hr.elim
  · split at hr
    · rename_i ns e
      obtain ⟨v, rfl, s1⟩ := shs1 sh
      cases s1 with
      | lst g t =>
        obtain ⟨e1, e2⟩ := ints_of t e
        subst e1 e2
        exact cr_sum C.calm pins s σ w.H _ us Q I r ⟨_, ns, rfl, .inl g, fin (.int _) hr⟩
    · exact hr.elim
  · split at hr
    · rename_i ns e
      obtain ⟨v, rfl, s1⟩ := shs1 sh
      cases s1 with
      | lst g t =>
        obtain ⟨e1, e2⟩ := ints_of t e
        subst e1 e2
        exact cr_sorted pins s σ w.H _ us Q I r ⟨_, ns, rfl, .inl g, hr.1, fun ns' p h1 h2 hp => finL (rps_int ns') (hr.2 ns' ⟨h1, h2⟩) p hp⟩
    · split at hr
      · rename_i ns e
        obtain ⟨v, rfl, s1⟩ := shs1 sh
        cases s1 with
        | lst g t =>
          obtain ⟨e1, e2⟩ := strs_of t e
          subst e1 e2
          exact cr_sortedS pins s σ w.H _ us Q I r ⟨_, ns, rfl, .inl g, hr.1, fun ns' p h1 h2 hp => finL (rps_str ns') (hr.2 ns' ⟨h1, h2⟩) p hp⟩
      · exact hr.elim
  · obtain ⟨v, rfl, s1⟩ := shs1 sh
    cases s1 with
    | lst g t => exact call_list_of pins s σ w.H _ us Q I r ⟨_, _, rfl, .inl (.inl g), finL t hr⟩
  · obtain ⟨v, rfl, s1⟩ := shs1 sh
    cases s1 with
    | tup f g t => exact call_list_of pins s σ w.H _ us Q I r ⟨_, _, rfl, .inr (.inl (.inl g)), finL t hr⟩
  · rename_i x
    obtain ⟨v, rfl, s1⟩ := shs1 sh
    cases s1
    obtain ⟨u, rfl, ru⟩ := vals1 r
    obtain ⟨t, rfl⟩ := ru
    refine call_list_str (I.ok.hd C.calm) x t (fun h' tk acc c' hk hD hacc => ?_) hr.1
    have hv' : Vals (x.cps.toList.map fun c => V.str ⟨#[c]⟩) acc.toList := by
      refine ?_
      have l : acc.toList.length = x.cps.toList.length := by rw [Array.length_toList, hacc.1, Array.length_toList]
      have g : ∀ (j : Nat) (v : Value), acc.toList[j]? = some v → ∃ c u, x.cps.toList[j]? = some c ∧ v = Value.str ⟨#[c]⟩ u := fun j v e => by
        obtain ⟨c, u, h1, h2⟩ := hacc.2 j v (by rw [← Array.getElem?_toList]; exact e)
        exact ⟨c, u, by rw [Array.getElem?_toList]; exact h1, h2⟩
      clear hacc hD
      generalize acc.toList = L at l g
      generalize x.cps.toList = M at l g ⊢
      induction M generalizing L with
      | nil => cases L with
        | nil => exact .nil
        | cons v L => simp at l
      | cons c M ih => cases L with
        | nil => simp at l
        | cons v L =>
          obtain ⟨c', u, h1, h2⟩ := g 0 v rfl
          have e : c' = c := by simpa using h1.symm
          subst e h2
          exact .cons ⟨u, rfl⟩ (ih L (by simpa using l) fun j v e => by
            obtain ⟨c2, u2, z1, z2⟩ := g (j + 1) v (by simpa using e)
            exact ⟨c2, u2, by simpa using z1, z2⟩)
    have rs : Rps w.F w.H (x.cps.toList.map fun c => V.str ⟨#[c]⟩) (signs x) := by
      unfold signs
      generalize x.cps.toList = M
      induction M with
      | nil => exact .nil
      | cons c M ih => exact .cons (.str _) ih
    refine ⟨.ref s.heap.objs.size, _, I.laid (t' := tk) (o := .lst (x.cps.toList.map fun c => V.str ⟨#[c]⟩)) hk (Nat.le_refl _) ⟨by rw [List.length_map, Array.length_toList]; exact hr.1, acc.toList, c', hv', by rw [Array.toArray_toList]; exact hD⟩, rfl, finL rs hr.2 _ (I.hok.fresh (Nat.le_refl _))⟩
  · obtain ⟨v, rfl, s1⟩ := shs1 sh
    cases s1 with
    | dic g n t => exact call_listD C.calm pins s σ w.H _ us Q I r ⟨_, _, rfl, g, finL (rps_keys t) hr⟩
  · obtain ⟨v, rfl, s1⟩ := shs1 sh
    cases s1 with
    | lst g t => exact call_tuple_of pins s σ w.H _ us Q I r ⟨_, _, rfl, .inl ⟨.inl g, finT t hr⟩⟩
  · obtain ⟨v, rfl, s1⟩ := shs1 sh
    cases s1 with
    | tup f g t => exact call_tuple_of pins s σ w.H _ us Q I r ⟨_, _, rfl, .inr ⟨.inl (.inl g), fin (.tup f g t) hr⟩⟩
  · split at hr
    · rename_i kvs e
      obtain ⟨v, rfl, s1⟩ := shs1 sh
      cases s1 with
      | lst g t =>
        obtain ⟨ps, ks, e1, e2, e3⟩ := prs_of (K := X.K) t e
        subst e1
        exact call_dictP C.calm pins s σ w.H _ us Q I r ⟨_, ps, ks, rfl, .inl g, e2, finD (mergeK_keys (by simp)) (Rpk.merge e3 .nil) hr⟩
    · exact hr.elim
  · obtain ⟨v, rfl, s1⟩ := shs1 sh
    cases s1 with
    | dic g n t => exact call_dictD pins s σ w.H _ us Q I r ⟨_, _, rfl, g, finD n t hr⟩
  · split at hr
    · rename_i ns e
      obtain ⟨v, rfl, s1⟩ := shs1 sh
      cases s1 with
      | lst g t =>
        obtain ⟨e1, e2⟩ := bols_of t e
        subst e1 e2
        exact cr_any C.calm pins s σ w.H _ us Q I r ⟨_, ns, rfl, .inl g, fin (.bl _) hr⟩
    · exact hr.elim
  · split at hr
    · rename_i ns e
      obtain ⟨v, rfl, s1⟩ := shs1 sh
      cases s1 with
      | lst g t =>
        obtain ⟨e1, e2⟩ := bols_of t e
        subst e1 e2
        exact cr_all C.calm pins s σ w.H _ us Q I r ⟨_, ns, rfl, .inl g, fin (.bl _) hr⟩
    · exact hr.elim
  · obtain ⟨v, rfl, s1⟩ := shs1 sh
    obtain ⟨u, rfl, ru⟩ := vals1 r
    exact repr_run C I s1.vd ru hr.1.1 hr.1.2.1 hr.1.2.2 (fin (.str _) hr.2)
  · exact hr.elim
end Rf
end
section
set_option Elab.async false
set_option linter.all false
set_option maxRecDepth 100000
set_option maxHeartbeats 4000000
set_option autoImplicit false
/-! Rf10: calls of built-in functions and methods, slices. -/
namespace Rf
open PySem PySem.Spec L2

/-! ### plain argument lists -/
def plainE : Expr → Bool
  | .Starred _ _ => false
  | _ => true
theorem star_cons {e : Expr} (h : plainE e = true) (es : List Expr) (env : Env) : starEach (e :: es) env = (false, eval e env) :: starEach es env := by
  cases e <;> first | rfl | (simp [plainE] at h; done)
theorem star_any (pos : Pos) (env : Env) : ∀ {es : List Expr}, es.all plainE = true → (backTo pos (starEach es env)).any (·.1) = false
  | [], _ => rfl
  | e :: es, h => by
    simp only [List.all_cons, Bool.and_eq_true] at h
    rw [star_cons h.1]
    have ih := star_any pos env h.2
    show (false || (backTo pos (starEach es env)).any (·.1)) = false
    rw [ih]
    rfl
theorem star_all (pos : Pos) (env : Env) : ∀ {es : List Expr}, es.all plainE = true → (backTo pos (starEach es env)).all (fun x => !x.1) = true
  | [], _ => rfl
  | e :: es, h => by
    simp only [List.all_cons, Bool.and_eq_true] at h
    rw [star_cons h.1]
    have ih := star_all pos env h.2
    show (true && (backTo pos (starEach es env)).all (fun x => !x.1)) = true
    rw [ih]
    rfl

section
variable {X : Cx} {e o a : Expr} {es : List Expr} {m ma mo : M Opd} {ms : M (List Opd)} {mk : M (List D)} {pos p apos cpos p2 : Pos} {k : Nat}
theorem bi_boot (b : Bi) : bootBuiltins (biN b) = some (biV b) ∧ biN b ≠ "__name__" ∧ (biN b == ("__debug__" : Str)) = false := by
  cases b <;> exact ⟨by decide +kernel, by decide, by decide⟩
theorem pe_bi' (C : Cok k X) (b : Bi) (hg : Gl X (biN b)) (hm : X.mg (biN b) = none) (ha : PA X (e :: es) (rds ms)) (hp : (e :: es).all plainE = true) : PE X (.Call (.Name (biN b) p) (e :: es) [] pos) (rd (do let os ← ms; biM b os)) := by
  simp only [List.all_cons, Bool.and_eq_true] at hp
  obtain ⟨h1, h2, h3⟩ := bi_boot b
  have c := cr_bi C b
  refine peI (t := tCB (rN (biM b)) (rds ms)) ?_ fun σ H Q q => rd_rN q
  cases b
  all_goals first
    | exact pe_callB c hg hm h1 ha h2 h3 (star_cons hp.1 es X.env) (star_any pos X.env hp.2)
    | exact pe_callTy c hg hm h1 ha h2 h3 (star_cons hp.1 es X.env) (star_any pos X.env hp.2)

/-! ### isinstance -/
def tyN : Ty → String
  | .int => "int" | .bool => "bool" | .str => "str" | .list => "list" | .tuple => "tuple" | .dict => "dict" | .non => "NoneType"
def dTy : D → String
  | .none => "NoneType" | .bool _ => "bool" | .int _ => "int" | .str _ => "str" | .list _ => "list" | .tuple _ => "tuple" | .dict _ => "dict"
theorem kit_tab (d : D) (t : Ty) : kitB (dTy d) (tyN t) = some (tyIs t d) := by
  cases d <;> cases t <;> kernel_rfl
theorem Sh.tyX {K : PySem.W.Frag} {F : Addr → Prop} {H : Hp} {v : V} {d : D} (h : Sh F H v d) : TyX K H v (.type (dTy d)) := by
  cases h with
  | non => exact .base .non
  | bl b => exact .base (.bl b)
  | int i => exact .base (.int i)
  | str x => exact .base (.str x)
  | lst g t => exact tyX_list g
  | tup f g t => exact .base (.tup g)
  | dic g n t => exact tyX_dict g
theorem pe_isi' {t : Ty} {p1 : Pos} (hg : Gl X "isinstance") (hm : X.mg "isinstance" = none) (hT : Gl X (tyN t : Str)) (hmT : X.mg (tyN t : Str) = none) (hv : bootBuiltins (tyN t : Str) = some (.type (tyN t))) (hn : (tyN t : Str) ≠ "__name__") (hd : ((tyN t : Str) == ("__debug__" : Str)) = false)
    (ha : PE X a (rd ma)) (hp : plainE a = true) :
    PE X (.Call (.Name "isinstance" p) [a, .Name (tyN t : Str) p1] [] pos) (rd (do let x ← ma; let d ← peek x; pureV (.bool (tyIs t d)))) := by
  have hT' : PE X (.Name (tyN t : Str) p1) (tC (.ty (tyN t))) := pe_bltn hT hmT hv rfl hn hd
  refine peI (pe_callB (call_isi (X := X)) hg hm (by decide +kernel) (pa_cons ha (pa_cons hT' pa_nil rfl) (star_cons hp _ _)) (by decide) (by decide) (star_cons hp _ _) rfl) fun σ H Q ⟨pv, w, en, e, m0, q⟩ => ?_
  subst e
  refine ⟨pv, w, en, rfl, m0, ma.mono q (fun x en1 q1 w1 v P f1 => ?_) fun _ _ z => z⟩
  obtain ⟨d, s1, q2⟩ := peek_run f1.mt f1.r q1
  exact ⟨v, .ty (tyN t), .type (dTy d), .type (tyN t), tyIs t d, rfl, .ty _, s1.tyX, kit_ty (kit_tab d t), q2 w1 (.bl _) [] (Fi1.fz f1.x f1.mt (.bl _))⟩

/-! ### slices -/
def cutD (ds : List D) (lo hi : Option Int) : List D := (ds.drop (HT.sIx ds.length 0 lo)).take (HT.sIx ds.length ds.length hi - HT.sIx ds.length 0 lo)
def slD : D → Option Int → Option Int → M Opd
  | .list ds, lo, hi => newV (.list (cutD ds lo hi))
  | .tuple ds, lo, hi => pureV (.tuple (cutD ds lo hi))
  | .str x, lo, hi => do
    M.assert (x.length ≤ sizeLine)
    pureV (.str (cutS x lo hi))
  | _, _, _ => M.fail
def slM (a : Opd) (lo hi : Option Int) : M Opd := do
  let d ← peek a
  slD d lo hi
theorem Rps.drop {F : Addr → Prop} {H : Hp} : ∀ {vs : List V} {ds : List D} (n : Nat), Rps F H vs ds → Rps F H (vs.drop n) (ds.drop n)
  | _, _, 0, h => h
  | _, _, n + 1, .nil => .nil
  | _, _, n + 1, .cons _ t => by simpa using Rps.drop n t
theorem Rps.take {F : Addr → Prop} {H : Hp} : ∀ {vs : List V} {ds : List D} (n : Nat), Rps F H vs ds → Rps F H (vs.take n) (ds.take n)
  | _, _, 0, h => by simpa using Rps.nil
  | _, _, n + 1, .nil => .nil
  | _, _, n + 1, .cons r t => by
    rw [List.take_succ_cons, List.take_succ_cons]
    exact .cons r (Rps.take n t)
theorem Rps.cut {F : Addr → Prop} {H : Hp} {vs : List V} {ds : List D} (r : Rps F H vs ds) (lo hi : Option Int) : Rps F H (cutV vs lo hi) (cutD ds lo hi) := by
  unfold cutV cutD
  rw [r.length]
  exact (r.drop _).take _
/-- a slice by values -/
def rSl : V → Option Int → Option Int → Hp → VK → Prop := fun x lo hi H Q => ∃ (pv : Nat → V) (w : Wd) (σ : L2.St) (en : En) (a : Opd) (P : List Addr) (K : Opd → En → Prop), w.H = H ∧ Mt pv w σ en ∧ Orl w σ en x a P ∧ (slM a lo hi).run en K noX ∧
  ∀ en' w' v o O, Go pv [] w σ en' w' v o O → K o en' → Q v w'.H
theorem sl_op : SlR X rSl := by
  intro pins s σ H x v vl vu lo hi sl Q I rx hs pl pu h
  obtain ⟨pv, w, τ, en, a, P, K, rfl, mt, hr0, hq, hQ⟩ := h
  obtain ⟨d, s1, q⟩ := peek_run (f := fun d => slD d lo hi) mt hr0 hq
  clear hq
  unfold slD at q
  split at q
  · cases s1 with
    | lst g t =>
      exact sl_list pins s σ w.H _ v vl vu lo hi sl Q I rx hs pl pu ⟨_, _, rfl, .inl g, fun p hp => hQ en (w.new p (.lst _)) (.ref p) _ [p] (Go.lst mt _ hp (t.cut lo hi)) q⟩
  · cases s1 with
    | tup f g t =>
      have e : ∀ (ds : List D) (hi lo : Option Int), HT.sIx ds.length 0 lo = 0 ∧ HT.sIx ds.length ds.length hi = ds.length → cutD ds lo hi = ds := fun ds hi lo z => by
        unfold cutD
        rw [z.1, z.2]
        simp
      refine sl_tupA pins s σ w.H _ v vl vu lo hi sl Q I rx hs pl pu ⟨_, _, rfl, .inl (.inl g), fun z => ?_, fun z p hp => hQ en (w.newF p (.tup _)) (.ref p) _ [] (Go.tup mt _ hp (t.cut lo hi)) q⟩
      rw [t.length] at z
      rw [e _ _ _ z] at q
      exact hQ en w _ (val0 (.tuple _)) [] (Go.same mt _ (.tup f g t)) q
  · cases s1
    exact sl_str pins s σ w.H _ v vl vu lo hi sl Q I rx hs pl pu ⟨_, rfl, q.1, hQ en w _ (val0 (.str _)) [] (Go.same mt _ (.str _)) q.2⟩
  · exact q.elim
/-- a slice's part -/
def rdO (m : M (Option Int)) : TO := fun σ H Q => ∃ (pv : Nat → V) (w : Wd) (en : En), w.H = H ∧ Mt pv w σ en ∧ m.run en (fun r en' => ∀ w', Ext w.o w w' → Mt pv w' σ en' → Q r w'.H) noX
def partM (m : M Opd) : M (Option Int) := do
  let x ← m
  let d ← peek x
  match d with
  | .int i => pure (some i)
  | _ => M.fail
theorem po_none' : PO X none (rdO (pure none)) := ⟨fun pins s σ H Q I ⟨pv, w, en, e, m0, q⟩ => by
  subst e
  exact po_none.run pins s σ w.H Q I (q w (Ext.refl w) m0)⟩
theorem po_some' (h : PE X e (rd m)) : PO X (some e) (rdO (partM m)) := ⟨fun pins s σ H Q I ⟨pv, w, en, e', m0, q⟩ => by
  subst e'
  refine (po_some h).run pins s σ w.H Q I ⟨pv, w, en, rfl, m0, m.mono q (fun x en1 q1 w1 v P f1 => ?_) fun _ _ z => z⟩
  obtain ⟨d, s1, q2⟩ := peek_run f1.mt f1.r q1
  split at q2
  · cases s1
    exact ⟨_, rfl, q2 w1 f1.x f1.mt⟩
  · exact q2.elim⟩
theorem Go.weak {pv : Nat → V} {w w2 : Wd} {σ : L2.St} {en2 : En} {v : V} {o : Opd} {O P P' : List Addr} (g : Go pv P w σ en2 w2 v o O) (h : ∀ a ∈ P, a ∈ P') : Go pv P' w σ en2 w2 v o O where
  x := by
    have hm : ∀ a ∈ w.o ++ P, a ∈ w.o ++ P' := fun a ha => List.mem_append.mpr ((List.mem_append.mp ha).imp id (h a))
    exact ⟨g.x.sub, fun a ha => (g.x.newF a ha).imp id fun z => z.imp id (hm a), fun a h1 h2 => g.x.fr a h1 fun z => h2 (hm a z), fun a ha => (g.x.os a ha).imp (hm a) id, g.x.kp⟩
  mt := g.mt
  r := g.r
  t := g.t
  n := fun a ha => (g.n a ha).imp (fun z => List.mem_append.mpr ((List.mem_append.mp z).imp id (h a))) id
variable {lo hi : Option Expr} {ml mh : M (Option Int)}
theorem pe_sl' (he : PE X e (rd m)) (hl : PO X lo (rdO ml)) (hu : PO X hi (rdO mh)) : PE X (.Subscript e (.Slice lo hi none p2) pos) (rd (do let x ← m; let l ← ml; let h ← mh; slM x l h)) :=
  peI (pe_slice sl_op he hl hu) fun σ H Q ⟨pv, w, en, e', m0, q⟩ => by
    subst e'
    refine ⟨pv, w, en, rfl, m0, m.mono q (fun x en1 q1 w1 v P f1 => ?_) fun _ _ z => z⟩
    refine ⟨pv, w1, en1, rfl, f1.mt, ml.mono q1 (fun l en2 q2 w2 x2 m2 => ?_) fun _ _ z => z⟩
    refine ⟨pv, w2, en2, rfl, m2, mh.mono q2 (fun h en3 q3 w3 x3 m3 => ?_) fun _ _ z => z⟩
    have x4 := x2.tr x3
    have r3 : Orl w3 σ en3 v x P := f1.r.ext f1.mt.ok x4 f1.mt.ok.fo fun a ha => ⟨(f1.t.at_ a ha).1, (f1.t.at_ a ha).2.2⟩
    exact ⟨pv, w3, σ, en3, x, P, _, rfl, m3, r3, q3, fun en' w' z o O g kz => kz w' z O (Go.fi (vs := []) (os := []) (Ps := []) ⟨f1.x.tr x4, m3, rfl, rfl, fun i v o P h => (by simp at h), Tmp.nil _, fun a h => (by simp at h)⟩ rfl g)⟩
theorem pe_rev' {k1 : Nat} {p1 p3 p4 : Pos} (he : PE X e (rd m)) : PE X (.Subscript e (.Slice none none (some (.UnaryOp .USub (.Constant (.int 1) k1 p1) p4)) p3) pos) (rd (do let x ← m; let d ← peek x; match d with | .list ds => newV (.list ds.reverse) | _ => M.fail)) :=
  peI (pe_revL he) fun σ H Q ⟨pv, w, en, e', m0, q⟩ => by
    subst e'
    refine ⟨pv, w, en, rfl, m0, m.mono q (fun x en1 q1 w1 v P f1 => ?_) fun _ _ z => z⟩
    obtain ⟨d, s1, q2⟩ := peek_run f1.mt f1.r q1
    split at q2
    · cases s1 with
      | lst g t =>
        have tr : ∀ {vs : List V} {ds : List D}, Rps w1.F w1.H vs ds → Rps w1.F w1.H vs.reverse ds.reverse := by
          intro vs
          induction vs with
          | nil => intro ds r; cases r; exact .nil
          | cons v vs ih =>
            intro ds r
            cases r with
            | cons r rr =>
              rw [List.reverse_cons, List.reverse_cons]
              exact (ih rr).append (.cons r .nil)
        exact ⟨_, _, rfl, .inl g, fun p hp => q2 _ _ _ (Go.fi f1.one (by simp) (Go.lst f1.mt P hp (tr t)))⟩
    · exact q2.elim
end
end Rf
end
section
set_option Elab.async false
set_option linter.all false
set_option maxRecDepth 100000
set_option maxHeartbeats 4000000
set_option autoImplicit false
/-! Rf11: methods; what a name gets, what is handed back. -/
namespace Rf
open PySem PySem.Spec L2

/-- a receiver that is no call without arguments -/
def plainB : Expr → Bool
  | .Call (.Name _ _) [] [] _ => false
  | _ => true
theorem attr_base {o : Expr} (h : plainB o = true) (name : Str) (env : Env) (whole : Sem Value) : attributeBase o name env whole = whole := by
  unfold attributeBase
  split
  · simp [plainB] at h
  · rfl
def Wd.drop (w : Wd) (i : Nat) (O : List Addr) : Wd := ⟨w.F, w.Os.set i O, w.H⟩
theorem fold_nd {L : List (List Addr)} {i : Nat} {P : List Addr} (n : L.flatten.Nodup) (e : L[i]? = some P) : P.Nodup := by
  obtain ⟨A, B, e3, _⟩ := split_at e
  rw [e3, List.flatten_append, List.flatten_cons, List.nodup_append, List.nodup_append] at n
  exact n.2.1.1

section
variable {pv : Nat → V} {w : Wd} {σ : L2.St} {en : En} {i : Nat} {p : Bool} {v : V} {O : List Addr}
/-- what a slot owns is at hand when the slot lets go -/
theorem Mt.leave {s : Sl} (m : Mt pv w σ en) (e : en[i]? = some (⟨p, some s⟩ : Slt)) : ∃ v P, σ[i]? = some (some v) ∧ w.Os[i]? = some P ∧ Rel w.F w.H v s P ∧ Mt pv (w.drop i []) σ (en.set i ⟨p, none⟩) ∧ Tmp (w.drop i []) P ∧ Ext w.o w (w.drop i []) ∧ New w.o w P := by
  obtain ⟨v, P, h1, h2, h3⟩ := m.at_ i s p e
  have wo : ∀ b, b ∈ (w.Os.set i []).flatten → b ∈ w.o := fun b hb => (mem_set_fl h2 hb).elim (fun z => by cases z) id
  have ok0 : (w.drop i []).Ok := ⟨m.ok.fh, fun b hb z => m.ok.fo b hb (wo b z), fun b hb => m.ok.oh b (wo b hb), nodup_set m.ok.nd h2 List.nodup_nil fun _ z => by cases z⟩
  refine ⟨v, P, h1, h2, h3, ?_, ?_, ?_, fun b hb => .inl (mem_o h2 hb)⟩
  · exact m.slot e h2 rfl ok0 (fun b hb => ⟨hb, rfl⟩) (fun _ _ _ => rfl) rfl (fun _ _ => rfl) (fun _ _ => rfl) (fun hp => by subst hp; exact m.pin i _ e) rfl
  · exact ⟨fold_nd m.ok.nd h2, fun b hb => ⟨m.ok.oh b (mem_o h2 hb), fun f => m.ok.fo b f (mem_o h2 hb), not_mem_set_fl h2 m.ok.nd hb (by simp)⟩⟩
  · exact ⟨fun _ h => h, fun _ h => .inl h, fun _ _ _ => rfl, fun b hb => .inl (wo b hb), fun _ h => h⟩
/-- the object of an owned slot is written -/
theorem Mt.chg {d d' : D} {u : HO} {a : Addr} (m : Mt pv w σ en) (e : en[i]? = some (⟨p, some ⟨.top, d⟩⟩ : Slt)) (eO : w.Os[i]? = some [a]) (hv : σ[i]? = some (some (.ref a))) (new : Tp w.F (upd w.H a u) (.ref a) d' [a]) :
    Mt pv (w.new a u) σ (en.set i ⟨p, some ⟨.top, d'⟩⟩) ∧ Ext w.o w (w.new a u) := by
  have ha : a ∈ w.o := mem_o eO (by simp)
  have h0 := m.ok.oh a ha
  constructor
  · refine m.slot (O := [a]) (O' := [a]) e eO ?_ ⟨fun b hb => upd_kp b (m.ok.fh b hb), m.ok.fo, fun b hb => upd_kp b (m.ok.oh b hb), m.ok.nd⟩ (fun b hb => ⟨hb, upd_ne fun z => m.ok.fo b hb (z ▸ ha)⟩) (fun b _ hb => upd_ne fun z => hb (by simp [z])) rfl (fun _ _ => rfl) (fun _ _ => rfl) (fun hp => by subst hp; exact m.pin i _ e) ⟨.ref a, hv, new⟩
    show w.Os = w.Os.set i [a]
    refine List.ext_getElem? fun j => ?_
    by_cases hj : j = i
    · subst hj
      rw [List.getElem?_set_self (List.getElem?_eq_some_iff.mp eO).1, eO]
    · rw [List.getElem?_set_ne (Ne.symm hj)]
  · exact ⟨fun _ h => h, fun _ h => .inl h, fun b _ hb => upd_ne fun z => hb (z ▸ ha), fun _ h => .inl h, fun b hb => upd_kp b hb⟩
end
/-! ### append, pop -/
def appM (o : Opd) (d : D) : M Opd := match o with
  | .slot i => do
    let c ← peek (.slot i)
    match c with
    | .list ds => do
      M.assert (ds.length < sizeLine)
      change i (.list (ds ++ [d]))
      pureV .none
    | _ => M.fail
  | .val _ => M.fail
def popM (o : Opd) : M Opd := match o with
  | .slot i => do
    let c ← peek (.slot i)
    match c with
    | .list ds => match ds[ds.length - 1]? with
      | some d => do
        change i (.list ds.dropLast)
        pureV d
      | none => M.fail
    | _ => M.fail
  | .val _ => M.fail
theorem slot_run {pv : Nat → V} {w : Wd} {σ : L2.St} {en : En} {i : Nat} {v : V} {α : Type} {f : D → M α} {K : α → En → Prop} (m : Mt pv w σ en) (hv : σ[i]? = some (some v)) (h : (peek (.slot i) >>= f).run en K noX) :
    ∃ (s : Sl) (p : Bool) (O : List Addr), en[i]? = some (⟨p, some s⟩ : Slt) ∧ w.Os[i]? = some O ∧ Rel w.F w.H v s O ∧ (f s.d).run en K noX := by
  have h' : (match getSl en i with | some s => (f s.d).run en K noX | none => False) := h
  split at h'
  · rename_i s e
    obtain ⟨p, e1⟩ := getSl_some e
    obtain ⟨v', O', h1, h2, h3⟩ := m.at_ i s p e1
    rw [hv] at h1
    cases h1
    exact ⟨s, p, O', e1, h2, h3, h'⟩
  · exact h'.elim
theorem change_run {en : En} {i : Nat} {d : D} {s : Sl} {p : Bool} {α : Type} {f : M α} {K : α → En → Prop} (e : en[i]? = some (⟨p, some s⟩ : Slt)) (h : (change i d >>= fun _ => f).run en K noX) : s.fl = .top ∧ f.run (en.set i ⟨p, some ⟨.top, d⟩⟩) K noX := by
  have h' : (match getSl en i with | some ⟨.top, _⟩ => f.run (putSl en i (some ⟨.top, d⟩)) K noX | _ => False) := h
  rw [getSl_eq e] at h'
  obtain ⟨fl, d0⟩ := s
  cases fl with
  | fz => exact h'.elim
  | top =>
    rw [putSl_eq e] at h'
    exact ⟨rfl, h'⟩
section
variable {X : Cx} {e o a : Expr} {es : List Expr} {m ma mo : M Opd} {ms : M (List Opd)} {mk : M (List D)} {pos p apos cpos p2 : Pos} {k : Nat}
/-- the receiver is a list -/
def lstM (o : Opd) : M Unit := do
  let c ← peek o
  match c with
  | .list _ => pure ()
  | _ => M.fail
theorem lst_run {pv : Nat → V} {w : Wd} {σ : L2.St} {en : En} {v : V} {x : Opd} {O : List Addr} {α : Type} {f : M α} {K : α → En → Prop} {F : PySem.W.Frag} (m : Mt pv w σ en) (r : Orl w σ en v x O) (h : (lstM x >>= fun _ => f).run en K noX) : tyV F "list" v w.H ∧ f.run en K noX := by
  obtain ⟨d, s1, q⟩ := peek_run (f := fun c => (match c with | .list _ => pure () | _ => M.fail) >>= fun _ => f) m r h
  cases s1 with
  | lst g t => exact ⟨.inl ⟨rfl, _, .inl g⟩, q⟩
  | _ => exact (show False from q).elim
theorem pe_append' (ho : PE X o (rd mo)) (ha : PE X a (rd ma)) (hb : plainB o = true) (hp : plainE a = true) (hl : (apos.endLine == cpos.line) = true) : PE X (.Call (.Attribute o "append" apos) [a] [] cpos) (rd (do let x ← mo; lstM x; let y ← ma; let d ← take y; appM x d)) := by
  refine peI (pe_bm PySem.F.plainAttrs_list PySem.F.slot_list_append PySem.F.type_list_append (mt_append (X := X)) ho (pa_cons (pe_keep ha) pa_nil (star_cons hp _ _)) (attr_base hb _ _ _) ?_ hl (star_cons hp _ _) rfl) fun σ H Q ⟨pv, w, en, e', m0, q⟩ => ?_
  · have h1 := star_all cpos X.env (es := [a]) (by simp [hp])
    rw [h1]
    rfl
  subst e'
  refine ⟨pv, w, en, rfl, m0, mo.mono q (fun x en1 q1 w1 v P f1 => ?_) fun _ _ z => z⟩
  obtain ⟨ty, q2⟩ := lst_run (F := X.K) f1.mt f1.r q1
  refine ⟨ty, pv, w1, en1, rfl, f1.mt, (ma >>= keep).mono (k := fun y en' => ∃ d, y = val0 d ∧ (appM x d).run en' (fun o en' => ∀ w' v O, Fi1 pv w σ en' w' v o O → Q v w'.H) noX) ?_ (fun y en2 q3 w2 u P2 f2 => ?_) fun _ _ z => z⟩
  · have q3 : (ma >>= fun y => take y >>= fun d => appM x d).run en1 (fun o en' => ∀ w' v O, Fi1 pv w σ en' w' v o O → Q v w'.H) noX := q2
    exact ma.mono q3 (fun y en2 z => (take y).mono z (fun d en3 z => ⟨d, rfl, z⟩) fun _ _ z => z) fun _ _ z => z
  · obtain ⟨d, rfl, q3⟩ := q3
    cases x with
    | val z => exact (show False from q3).elim
    | slot i =>
      have hv := f1.r.2
      obtain ⟨s, p, O, e1, e2, r1, q4⟩ := slot_run f2.mt hv q3
      split at q4
      · rename_i ds eds
        obtain ⟨hz, q5⟩ := q4
        obtain ⟨ht, q6⟩ := change_run e1 q5
        obtain ⟨fl, d0⟩ := s
        subst ht
        have eds : d0 = .list ds := eds
        subst eds
        cases r1 with
        | lst g t =>
          rename_i l vs
          have ha : l ∈ w2.o := mem_o e2 (by simp)
          have nf : ∀ b, w2.F b → b ≠ l := fun b hb z => f2.mt.ok.fo b hb (z ▸ ha)
          have rp : Rps w2.F (upd w2.H l (.lst (vs ++ [u]))) (vs ++ [u]) (ds ++ [d]) := (t.append (.cons f2.r.2 .nil)).mono fun b hb => ⟨hb, upd_ne (nf b hb)⟩
          obtain ⟨m3, x3⟩ := f2.mt.chg (u := .lst (vs ++ [u])) (d' := .list (ds ++ [d])) e1 e2 hv (.lst upd_same rp)
          refine ⟨l, vs, u, rfl, rfl, g, by rw [t.length]; exact hz, ?_⟩
          exact q6 (w2.new l (.lst (vs ++ [u]))) .non [] (Fi1.fz ((f1.x.tr f2.x).tr x3) m3 .non)
      · exact q4.elim
theorem pe_pop' (ho : PE X o (rd mo)) (hb : plainB o = true) (hl : (apos.endLine == cpos.line) = true) : PE X (.Call (.Attribute o "pop" apos) [] [] cpos) (rd (do let x ← mo; lstM x; popM x)) := by
  refine peI (pe_bm0 PySem.F.plainAttrs_list PySem.F.slot_list_pop PySem.F.type_list_pop (mt_pop (X := X)) ho (attr_base hb _ _ _) hl) fun σ H Q ⟨pv, w, en, e', m0, q⟩ => ?_
  subst e'
  refine ⟨pv, w, en, rfl, m0, mo.mono q (fun x en1 q1 w1 v P f1 => ?_) fun _ _ z => z⟩
  obtain ⟨ty, q2⟩ := lst_run (F := X.K) f1.mt f1.r q1
  refine ⟨ty, ?_⟩
  cases x with
  | val z => exact (show False from q2).elim
  | slot i =>
    have hv := f1.r.2
    obtain ⟨s, p, O, e1, e2, r1, q4⟩ := slot_run f1.mt hv q2
    split at q4
    · rename_i ds eds
      split at q4
      · rename_i d ed
        obtain ⟨ht, q6⟩ := change_run e1 q4
        obtain ⟨fl, d0⟩ := s
        subst ht
        have eds : d0 = .list ds := eds
        subst eds
        cases r1 with
        | lst g t =>
          rename_i l vs
          have ha : l ∈ w1.o := mem_o e2 (by simp)
          have nf : ∀ b, w1.F b → b ≠ l := fun b hb z => f1.mt.ok.fo b hb (z ▸ ha)
          obtain ⟨u, hu, ru⟩ := t.get ed
          have rp : Rps w1.F (upd w1.H l (.lst vs.dropLast)) vs.dropLast ds.dropLast := by
            rw [List.dropLast_eq_take, List.dropLast_eq_take, t.length]
            exact (t.take _).mono fun b hb => ⟨hb, upd_ne (nf b hb)⟩
          obtain ⟨m3, x3⟩ := f1.mt.chg (u := .lst vs.dropLast) (d' := .list ds.dropLast) e1 e2 hv (.lst upd_same rp)
          refine ⟨l, vs, u, rfl, rfl, g, by rw [t.length]; exact hu, ?_⟩
          exact q6 (w1.new l (.lst vs.dropLast)) u [] (Fi1.fz (f1.x.tr x3) m3 (ru.mono fun b hb => ⟨hb, upd_ne (nf b hb)⟩))
      · exact q4.elim
    · exact q4.elim

/-! ### join, bit_length -/
def strM (o : Opd) : M Str := do
  let c ← peek o
  match c with
  | .str x => pure x
  | _ => M.fail
def joinD (a : Str) (d : D) : M Opd := match d with
  | .list ds | .tuple ds => match strsOf ds with
    | some ys => do
      M.assert ((ys.map (·.length)).sum + ys.length * a.length ≤ 16777216)
      pureV (.str (Txt.join a ys))
    | none => M.fail
  | _ => M.fail
theorem pe_join' (ho : PE X o (rd mo)) (ha : PE X a (rd ma)) (hb : plainB o = true) (hp : plainE a = true) (hl : (apos.endLine == cpos.line) = true) : PE X (.Call (.Attribute o "join" apos) [a] [] cpos) (rd (do let x ← mo; let c ← strM x; let y ← ma; let d ← peek y; joinD c d)) := by
  refine peI (pe_join ho ha (star_cons hp _ _) (attr_base hb _ _ _) hl) fun σ H Q ⟨pv, w, en, e', m0, q⟩ => ?_
  subst e'
  refine ⟨pv, w, en, rfl, m0, mo.mono q (fun x en1 q1 w1 v P f1 => ?_) fun _ _ z => z⟩
  obtain ⟨d, s1, q2⟩ := peek_run (f := fun c => (match c with | .str x => pure x | _ => M.fail) >>= fun c => ma >>= fun y => peek y >>= fun d => joinD c d) f1.mt f1.r q1
  cases s1 with
  | str c =>
    refine ⟨⟨c, rfl⟩, pv, w1, en1, rfl, f1.mt, ma.mono q2 (fun y en2 q3 w2 u P2 f2 => ?_) fun _ _ z => z⟩
    obtain ⟨d, s2, q4⟩ := peek_run f2.mt f2.r q3
    have x3 := f1.x.tr f2.x
    unfold joinD at q4
    cases s2 with
    | lst g t =>
      dsimp only at q4
      split at q4
      · rename_i ys ey
        obtain ⟨e1, e2⟩ := strs_of t ey
        subst e1 e2
        exact ⟨c, _, ys, rfl, rfl, .inl (.inl g), q4.1, q4.2 w2 _ [] (Fi1.fz x3 f2.mt (.str _))⟩
      · exact q4.elim
    | tup f g t =>
      dsimp only at q4
      split at q4
      · rename_i ys ey
        obtain ⟨e1, e2⟩ := strs_of t ey
        subst e1 e2
        exact ⟨c, _, ys, rfl, rfl, .inr (.inl (.inl g)), q4.1, q4.2 w2 _ [] (Fi1.fz x3 f2.mt (.str _))⟩
      · exact q4.elim
    | _ => exact (show False from q4).elim
  | _ => exact (show False from q2).elim
theorem pe_bits' (ho : PE X o (rd mo)) (hb : plainB o = true) (hl : (apos.endLine == cpos.line) = true) : PE X (.Call (.Attribute o "bit_length" apos) [] [] cpos) (rd (do let x ← mo; let c ← peek x; match c with | .int i => pureV (.int (Builtin.Int.intBits i : Nat)) | _ => M.fail)) := by
  refine peI (pe_bits ho (attr_base hb _ _ _) hl) fun σ H Q ⟨pv, w, en, e', m0, q⟩ => ?_
  subst e'
  refine ⟨pv, w, en, rfl, m0, mo.mono q (fun x en1 q1 w1 v P f1 => ?_) fun _ _ z => z⟩
  obtain ⟨d, s1, q2⟩ := peek_run f1.mt f1.r q1
  cases s1 with
  | int i => exact ⟨i, rfl, q2 w1 _ [] (Fi1.fz f1.x f1.mt (.int _))⟩
  | _ => exact (show False from q2).elim

/-! ### what goes to a name, what is handed back -/
def ownO (o : Opd) : M Opd := do
  let s ← own o
  pure (.val s)
def moveO (o : Opd) : M Opd := do
  let s ← move o
  pure (.val s)
theorem pe_own' (h : PE X e (rd m)) : PE X e (rd (m >>= ownO)) := by
  refine ⟨fun pins s σ H Q I q => ?_⟩
  obtain ⟨pv, w, en, rfl, m0, q⟩ := q
  refine thn (h.run pins s σ w.H (fun v H1 => ∃ w1 en1 o O, w1.H = H1 ∧ Fi1 pv w σ en1 w1 v o O ∧ (ownO o).run en1 (fun o en' => ∀ w' v O, Fi1 pv w σ en' w' v o O → Q v w'.H) noX) I ⟨pv, w, en, rfl, m0, m.mono q (fun o en1 z w1 v O f => ⟨w1, en1, o, O, rfl, f, z⟩) fun _ _ z => z⟩) fun u s1 ⟨v, H1, I1, r1, w1, en1, o, O, e1, f, z⟩ => ?_
  subst e1
  cases o with
  | val sl => exact ⟨v, w1.H, I1, r1, z w1 v O f⟩
  | slot i =>
    obtain ⟨w2, d, en2, I2, x2, m2, rp, k⟩ := take_run (f := fun d => pure (Opd.val ⟨.fz, d⟩)) I1 f.mt f.r f.t z
    have x3 : Ext w.o w w2 := f.x.trans x2 fun a ha => (List.mem_append.mp ha).elim (f.x.os a) (f.n a)
    exact ⟨v, w2.H, I2, r1, k w2 v [] (Fi1.fz x3 m2 rp)⟩
theorem pe_move' (h : PE X e (rd m)) : PE X e (rd (m >>= moveO)) := by
  refine ⟨fun pins s σ H Q I q => ?_⟩
  obtain ⟨pv, w, en, rfl, m0, q⟩ := q
  refine thn (h.run pins s σ w.H (fun v H1 => ∃ w1 en1 o O, w1.H = H1 ∧ Fi1 pv w σ en1 w1 v o O ∧ (moveO o).run en1 (fun o en' => ∀ w' v O, Fi1 pv w σ en' w' v o O → Q v w'.H) noX) I ⟨pv, w, en, rfl, m0, m.mono q (fun o en1 z w1 v O f => ⟨w1, en1, o, O, rfl, f, z⟩) fun _ _ z => z⟩) fun u s1 ⟨v, H1, I1, r1, w1, en1, o, O, e1, f, z⟩ => ?_
  subst e1
  cases o with
  | val sl => exact ⟨v, w1.H, I1, r1, z w1 v O f⟩
  | slot i =>
    have z' : (match en1[i]? with
      | some ⟨false, some s⟩ => ∀ w' v O, Fi1 pv w σ (putSl en1 i none) w' v (.val s) O → Q v w'.H
      | some ⟨true, some s⟩ => ∀ w' v O, Fi1 pv w σ (putSl en1 i (some ⟨.fz, s.d⟩)) w' v (.val ⟨.fz, s.d⟩) O → Q v w'.H
      | _ => False) := by
      have z0 : (move (.slot i)).run en1 (fun s en' => ∀ w' v O, Fi1 pv w σ en' w' v (.val s) O → Q v w'.H) noX := z
      revert z0
      show (match en1[i]? with | some ⟨false, some s⟩ => _ | some ⟨true, some s⟩ => _ | _ => False) → _
      split <;> exact id
    split at z'
    · rename_i sl e1
      obtain ⟨v', P, h1, h2, h3, m2, t2, x2, n2⟩ := f.mt.leave e1
      rw [f.r.2] at h1
      cases h1
      rw [putSl_eq e1] at z'
      refine ⟨v, w1.H, I1, r1, z' (w1.drop i []) v P ⟨f.x.tr x2, m2, h3, t2, fun b hb => ?_⟩⟩
      rcases n2 b hb with q | q
      · exact f.x.os b q
      · refine .inr ?_
        cases e : w.H b with
        | none => rfl
        | some z => exact absurd q (f.x.kp b (by rw [e]; simp))
    · rename_i sl e1
      have z2 : (take (.slot i) >>= fun d => pure (Opd.val ⟨.fz, d⟩)).run en1 (fun o en' => ∀ w' v O, Fi1 pv w σ en' w' v o O → Q v w'.H) noX := by
        show (match getSl en1 i with | some s => _ | none => False)
        rw [getSl_eq e1]
        exact z'
      obtain ⟨w2, d, en2, I2, x2, m2, rp, k⟩ := take_run (f := fun d => pure (Opd.val ⟨.fz, d⟩)) I1 f.mt f.r f.t z2
      have x3 : Ext w.o w w2 := f.x.trans x2 fun a ha => (List.mem_append.mp ha).elim (f.x.os a) (f.n a)
      exact ⟨v, w2.H, I2, r1, k w2 v [] (Fi1.fz x3 m2 rp)⟩
    · exact z'.elim
end
end Rf
end
section
set_option Elab.async false
set_option linter.all false
set_option maxRecDepth 100000
set_option maxHeartbeats 4000000
set_option autoImplicit false
/-! Rf12: statements. -/
namespace Rf
open PySem PySem.Spec L2

/-- what is wanted where a statement ends -/
def SK (pv : Nat → V) (w : Wd) (E : Ends) (f : Flw) (en' : En) : Prop := match f with
  | .nx => ∀ (w' : Wd) (σ' : L2.St), Ext w.o w w' → Mt pv w' σ' en' → E.nx σ' w'.H
  | .bk => ∀ (w' : Wd) (σ' : L2.St), Ext w.o w w' → Mt pv w' σ' en' → E.bk σ' w'.H
  | .ct => ∀ (w' : Wd) (σ' : L2.St), Ext w.o w w' → Mt pv w' σ' en' → E.ct σ' w'.H
  | .rt s => ∀ (w' : Wd) (σ' : L2.St) (v : V) (O : List Addr), Ext w.o w w' → Mt pv w' σ' en' → Rel w'.F w'.H v s O → Tmp w' O → New w.o w O → E.rt v w'.H
def rS (m : M Flw) : TS := fun E σ H => ∃ (pv : Nat → V) (w : Wd) (en : En), w.H = H ∧ Mt pv w σ en ∧ m.run en (SK pv w E) noX
theorem New.tr {w w1 : Wd} {O : List Addr} (x : Ext w.o w w1) (n : New w1.o w1 O) : New w.o w O := fun a ha => by
  rcases n a ha with h | h
  · exact x.os a h
  · refine .inr ?_
    cases e : w.H a with
    | none => rfl
    | some z => exact absurd h (x.kp a (by rw [e]; simp))
theorem SK.from {pv : Nat → V} {w w1 : Wd} {E : Ends} {f : Flw} {en' : En} (x : Ext w.o w w1) (h : SK pv w E f en') : SK pv w1 E f en' := by
  cases f with
  | nx => exact fun w' σ' y m => h w' σ' (x.tr y) m
  | bk => exact fun w' σ' y m => h w' σ' (x.tr y) m
  | ct => exact fun w' σ' y m => h w' σ' (x.tr y) m
  | rt s => exact fun w' σ' v O y m r t n => h w' σ' v O (x.tr y) m r t (New.tr x n)
section
variable {X : Cx} {e o a i : Expr} {es : List Expr} {m ma mo mi : M Opd} {ms mt : M Flw} {t : M Bool} {mk : M (List D)} {pos p apos cpos p2 : Pos} {k : Nat} {st : Stmt} {ss rest bs : List Stmt}
theorem pss_nil' : PSs X [] (rS (pure .nx)) := pssI pss_nil fun E σ H ⟨pv, w, en, e, m0, q⟩ => by
  subst e
  exact q w σ (Ext.refl w) m0
def seqM (a b : M Flw) : M Flw := do
  let f ← a
  match f with
  | .nx => b
  | f => pure f
theorem pss_cons' (h1 : PS X st (rS ms)) (h2 : PSs X rest (rS mt)) : PSs X (st :: rest) (rS (seqM ms mt)) := pssI (pss_cons h1 h2) fun E σ H ⟨pv, w, en, e, m0, q⟩ => by
  subst e
  refine ⟨pv, w, en, rfl, m0, ms.mono q (fun f en1 q1 => ?_) fun _ _ z => z⟩
  cases f with
  | nx => exact fun w1 σ1 x1 m1 => ⟨pv, w1, en1, rfl, m1, mt.mono q1 (fun f en2 q2 => SK.from x1 q2) fun _ _ z => z⟩
  | bk => exact q1
  | ct => exact q1
  | rt s => exact q1
theorem ps_pass' : PS X (.Pass pos) (rS (pure .nx)) := psI ps_pass fun E σ H ⟨pv, w, en, e, m0, q⟩ => by
  subst e
  exact q w σ (Ext.refl w) m0
theorem ps_brk' : PS X (.Break pos) (rS (pure .bk)) := psI ps_break fun E σ H ⟨pv, w, en, e, m0, q⟩ => by
  subst e
  exact q w σ (Ext.refl w) m0
theorem ps_cnt' : PS X (.Continue pos) (rS (pure .ct)) := psI ps_continue fun E σ H ⟨pv, w, en, e, m0, q⟩ => by
  subst e
  exact q w σ (Ext.refl w) m0
theorem ps_expr' (he : PE X e (rd m)) (hs : swapsWith e none pos.line X.env = pure false) : PS X (.Expr e pos) (rS (do let _ ← m; pure .nx)) := psI (ps_expr he hs) fun E σ H ⟨pv, w, en, e, m0, q⟩ => by
  subst e
  exact ⟨pv, w, en, rfl, m0, m.mono q (fun x en1 q1 w1 v P f1 => q1 w1 σ f1.x f1.mt) fun _ _ z => z⟩
theorem ps_retN' : PS X (.Return none pos) (rS (pure (.rt ⟨.fz, .none⟩))) := psI ps_retN fun E σ H ⟨pv, w, en, e, m0, q⟩ => by
  subst e
  exact q w σ .non [] (Ext.refl w) m0 ⟨rfl, .non⟩ (Tmp.nil w) fun _ h => by cases h
theorem move_bind {α : Type} (m : M Opd) (f : Sl → M α) : (m >>= moveO) >>= (fun o => match o with | .val s => f s | .slot _ => M.fail) = m >>= fun o => move o >>= f := rfl
theorem ps_ret' (he : PE X e (rd m)) : PS X (.Return (some e) pos) (rS (do let o ← m; let s ← move o; pure (.rt s))) := psI (ps_ret (pe_move' he)) fun E σ H ⟨pv, w, en, e, m0, q⟩ => by
  subst e
  have q' : ((m >>= moveO) >>= fun o => match o with | .val s => pure (Flw.rt s) | .slot _ => M.fail).run en (SK pv w E) noX := q
  refine ⟨pv, w, en, rfl, m0, (m >>= moveO).mono q' (fun x en1 q1 w1 v P f1 => ?_) fun _ _ z => z⟩
  cases x with
  | val s => exact q1 w1 σ v P f1.x f1.mt f1.r f1.t f1.n
  | slot i => exact (show False from q1).elim
theorem ps_if' {c : Expr} (hc : PT X c (rdT t)) (ha : PSs X ss (rS ms)) (hb : PSs X bs (rS mt)) : PS X (.If c ss bs pos) (rS (do let b ← t; match b with | true => ms | false => mt)) := psI (ps_if hc ha hb) fun E σ H ⟨pv, w, en, e, m0, q⟩ => by
  subst e
  refine ⟨pv, w, en, rfl, m0, t.mono q (fun b en1 q1 w1 x1 m1 => ?_) fun _ _ z => z⟩
  cases b with
  | true => exact ⟨pv, w1, en1, rfl, m1, ms.mono q1 (fun f en2 q2 => SK.from x1 q2) fun _ _ z => z⟩
  | false => exact ⟨pv, w1, en1, rfl, m1, mt.mono q1 (fun f en2 q2 => SK.from x1 q2) fun _ _ z => z⟩
/-- a name's slot gets a value -/
theorem bind_run {pv : Nat → V} {w w1 : Wd} {σ : L2.St} {en1 : En} {v : V} {s : Sl} {O : List Addr} {j : Nat} {α : Type} {f : M α} {K : α → En → Prop} (f1 : Fi1 pv w σ en1 w1 v (.val s) O) (q : (bindSl j s >>= fun _ => f).run en1 K noX) :
    ∃ w2 en2, w2.H = w1.H ∧ Ext w.o w w2 ∧ Mt pv w2 (σ.set j (some v)) en2 ∧ f.run en2 K noX := by
  have q' : (match en1[j]? with | some ⟨false, _⟩ => f.run (en1.set j ⟨false, some s⟩) K noX | _ => False) := q
  split at q'
  · rename_i old e1
    have hj : j < en1.length := (List.getElem?_eq_some_iff.mp e1).1
    have hO : j < w1.Os.length := by rw [f1.mt.l2]; exact hj
    have hσ : j < σ.length := by rw [f1.mt.l1]; exact hj
    have e2 : w1.Os[j]? = some w1.Os[j] := List.getElem?_eq_getElem hO
    have wo : ∀ b, b ∈ (w1.Os.set j O).flatten → b ∈ O ∨ b ∈ w1.o := fun b hb => mem_set_fl e2 hb
    refine ⟨w1.drop j O, _, rfl, ⟨f1.x.sub, f1.x.newF, f1.x.fr, fun b hb => ?_, f1.x.kp⟩, ?_, q'⟩
    · rcases wo b hb with h | h
      · exact f1.n b h
      · exact f1.x.os b h
    · refine f1.mt.slot e1 e2 rfl ⟨f1.mt.ok.fh, fun b hb z => ?_, fun b hb => ?_, ?_⟩ (fun b hb => ⟨hb, rfl⟩) (fun _ _ _ => rfl) (by simp) (fun l hl => List.getElem?_set_ne (Ne.symm hl)) (fun _ _ => rfl) (fun h => by cases h) ⟨v, List.getElem?_set_self hσ, f1.r⟩
      · rcases wo b z with h | h
        · exact (f1.t.at_ b h).2.1 hb
        · exact f1.mt.ok.fo b hb h
      · rcases wo b hb with h | h
        · exact (f1.t.at_ b h).1
        · exact f1.mt.ok.oh b h
      · exact nodup_set f1.mt.ok.nd e2 f1.t.nd fun b hb => .inr (f1.t.at_ b hb).2.2
  · exact q'.elim
def asgM (j : Nat) (m : M Opd) : M Flw := do
  let o ← m
  let s ← own o
  bindSl j s
  pure .nx
theorem asg_rd {j : Nat} {E : Ends} {σ : L2.St} {H : Hp} (h : rS (asgM j m) E σ H) : tAsg (rd (m >>= ownO)) (gName j) E σ H := by
  obtain ⟨pv, w, en, e, m0, q⟩ := h
  subst e
  have q' : ((m >>= ownO) >>= fun o => match o with | .val s => bindSl j s >>= fun _ => pure Flw.nx | .slot _ => M.fail).run en (SK pv w E) noX := q
  refine ⟨pv, w, en, rfl, m0, (m >>= ownO).mono q' (fun x en1 q1 w1 v P f1 => ?_) fun _ _ z => z⟩
  cases x with
  | val s =>
    obtain ⟨w2, en2, e2, x2, m2, q2⟩ := bind_run f1 q1
    rw [← e2]
    exact q2 w2 _ x2 m2
  | slot i => exact (show False from q1).elim
theorem ps_set' {j : Nat} {x : Str} {pos' : Pos} (hN : X.N.Nodup) (hi : X.N[j]? = some x) (hx : Loc X.env.scope x) (he : PE X e (rd m)) (hs : swapsWith e (some (.Name x pos')) pos.line X.env = pure false) (hf : X.fn x = true ∨ X.env.scope.names.lookup x = some .local) :
    PS X (.Assign [.Name x pos'] e pos) (rS (asgM j m)) := psI (ps_set hN hi hx (pe_own' he) hs hf) fun E σ H q => asg_rd q
/-! ### while -/
def whlN : Nat → M Bool → M Flw → M Flw
  | 0, _, _ => M.fail
  | n + 1, t, b => do
    let c ← t
    match c with
    | false => pure .nx
    | true => do
      let f ← b
      match f with
      | .nx => whlN n t b
      | .ct => whlN n t b
      | .bk => pure .nx
      | .rt s => pure (.rt s)
def whlM (t : M Bool) (b : M Flw) : M Flw := ⟨fun s k x => ∃ n, (whlN n t b).run s k x, fun ⟨n, h⟩ f g => ⟨n, (whlN n t b).mono h f g⟩⟩
theorem ps_while' {c : Expr} (hp : PassesOwn (model X.prog X.w) X.A X.env X.xe) (hc : PT X c (rdT t)) (hb : PSs X bs (rS ms)) : PS X (.While c bs [] pos) (rS (whlM t ms)) := psI (ps_while hp hc hb) fun E σ H ⟨pv, w, en, e, m0, n, q⟩ => by
  subst e
  refine ⟨fun m σ' H' => ∃ w' en', w'.H = H' ∧ Ext w.o w w' ∧ Mt pv w' σ' en' ∧ (whlN m t ms).run en' (SK pv w E) noX, ⟨n, w, en, rfl, Ext.refl w, m0, q⟩, ?_⟩
  rintro m σ1 H1 ⟨w1, en1, rfl, x1, m1, q1⟩
  cases m with
  | zero => exact (show False from q1).elim
  | succ m =>
    refine ⟨pv, w1, en1, rfl, m1, t.mono q1 (fun c en2 q2 w2 x2 m2 => ?_) fun _ _ z => z⟩
    cases c with
    | false =>
      rw [if_neg (by simp)]
      exact q2 w2 σ1 (x1.tr x2) m2
    | true =>
      rw [if_pos rfl]
      refine ⟨fun σ' H' => ∃ w' en', w'.H = H' ∧ Ext w.o w w' ∧ Mt pv w' σ' en' ∧ (whlN m t ms).run en' (SK pv w E) noX, fun σ' H' h => ⟨m, Nat.lt_succ_self _, h⟩, ?_⟩
      refine ⟨pv, w2, en2, rfl, m2, ms.mono q2 (fun f en3 q3 => ?_) fun _ _ z => z⟩
      have x12 := x1.tr x2
      cases f with
      | nx => exact fun w3 σ3 x3 m3 => ⟨w3, en3, rfl, x12.tr x3, m3, q3⟩
      | ct => exact fun w3 σ3 x3 m3 => ⟨w3, en3, rfl, x12.tr x3, m3, q3⟩
      | bk => exact fun w3 σ3 x3 m3 => q3 w3 σ3 (x12.tr x3) m3
      | rt s => exact fun w3 σ3 v O x3 m3 r t n => q3 w3 σ3 v O (x12.tr x3) m3 r t (New.tr x12 n)
end
end Rf
end
section
set_option Elab.async false
set_option linter.all false
set_option maxRecDepth 100000
set_option maxHeartbeats 4000000
set_option autoImplicit false
/-! Rf13: o[i] = e; loops. -/
namespace Rf
open PySem PySem.Spec L2

def setD (o : Opd) (i d : D) : M Unit := match o with
  | .slot j => do
    let c ← peek (.slot j)
    match c with
    | .list ds => match i with
      | .int k => match ixN ds.length k with
        | some n => change j (.list (ds.set n d))
        | none => M.fail
      | _ => M.fail
    | .dict kvs => do
      M.assert (keyOkD i = true ∧ kvs.length < sizeLine)
      change j (.dict (putD kvs i d))
    | _ => M.fail
  | .val _ => M.fail
def setM (o b : Opd) (d : D) : M Unit := do
  let i ← peek b
  setD o i d
def rSet : TSet := fun o i v H Q => ∃ (pv : Nat → V) (w : Wd) (σ : L2.St) (en : En) (a b : Opd) (P P' : List Addr) (d : D) (K : Unit → En → Prop), w.H = H ∧ Mt pv w σ en ∧ Orl w σ en o a P ∧ Orl w σ en i b P' ∧ Rp w.F w.H v d ∧ (setM a b d).run en K noX ∧
  ∀ en' w', Ext w.o w w' → Mt pv w' σ en' → K () en' → Q w'.H
theorem Rps.set_ {F : Addr → Prop} {H : Hp} {v : V} {d : D} (r : Rp F H v d) : ∀ {vs : List V} {ds : List D} (n : Nat), Rps F H vs ds → Rps F H (vs.set n v) (ds.set n d)
  | _, _, _, .nil => by simpa using Rps.nil
  | _, _, 0, .cons _ t => .cons r t
  | _, _, n + 1, .cons h t => .cons h (Rps.set_ r n t)
theorem set_op {k : Nat} {X : Cx} (C : Cok k X) : PSet X rSet := by
  intro pins s σ H o i v ov iv u Q I ro ri rv h
  obtain ⟨pv, w, τ, en, a, b, P, P', d, K, rfl, mt, oa, ob, rp, q, hQ⟩ := h
  obtain ⟨di, s1, q1⟩ := peek_run (f := fun i => setD a i d) mt ob q
  clear q
  unfold setD at q1
  cases a with
  | val z => exact q1.elim
  | slot j =>
    have hv := oa.2
    obtain ⟨sl, p, O, e1, e2, r1, q4⟩ := slot_run mt hv q1
    obtain ⟨fl, d0⟩ := sl
    split at q4
    · rename_i ds eds
      split at q4
      · split at q4
        · rename_i n en0
          obtain ⟨ht, q6⟩ := change_run (f := pure ()) e1 q4
          subst ht
          have eds : d0 = .list ds := eds
          subst eds
          cases r1 with
          | lst g t =>
            rename_i l vs
            have ha : l ∈ w.o := mem_o e2 (by simp)
            have nf : ∀ b, w.F b → b ≠ l := fun b hb z => mt.ok.fo b hb (z ▸ ha)
            cases s1
            have rp' : Rps w.F (upd w.H l (.lst (vs.set n v))) (vs.set n v) (ds.set n d) := (t.set_ rp n).mono fun b hb => ⟨hb, upd_ne (nf b hb)⟩
            obtain ⟨m3, x3⟩ := mt.chg (u := .lst (vs.set n v)) (d' := .list (ds.set n d)) e1 e2 hv (.lst upd_same rp')
            exact set_list pins s σ w.H _ _ v ov iv u Q I ro ri rv ⟨l, vs, _, n, rfl, rfl, g, by rw [t.length]; exact en0, hQ _ (w.new l (.lst (vs.set n v))) x3 m3 q6⟩
        · exact q4.elim
      · exact q4.elim
    · rename_i kvs eds
      obtain ⟨⟨hk, hz⟩, q5⟩ := q4
      obtain ⟨ht, q6⟩ := change_run (f := pure ()) e1 q5
      subst ht
      have eds : d0 = .dict kvs := eds
      subst eds
      obtain ⟨kk, rfl, rfl⟩ := keyOf s1.vd hk
      cases r1 with
      | dic g n t =>
        rename_i l vs
        have ha : l ∈ w.o := mem_o e2 (by simp)
        have nf : ∀ b, w.F b → b ≠ l := fun b hb z => mt.ok.fo b hb (z ▸ ha)
        have rp' : Rpk w.F (upd w.H l (.dK (putK vs kk v))) (putK vs kk v) (putD kvs (keyD kk) d) := (t.put kk rp).mono fun b hb => ⟨hb, upd_ne (nf b hb)⟩
        obtain ⟨m3, x3⟩ := mt.chg (u := .dK (putK vs kk v)) (d' := .dict (putD kvs (keyD kk) d)) e1 e2 hv (.dic upd_same (putK_keys n) rp')
        have := C.room.un
        exact set_dict (by omega) pins s σ w.H _ _ v ov iv u Q I ro ri rv ⟨l, _, rfl, .inl ⟨vs, kk, g, rfl, by rw [t.length]; exact hz, rfl⟩, hQ _ (w.new l (.dK (putK vs kk v))) x3 m3 q6⟩
    · exact q4.elim
section
variable {X : Cx} {e o a i : Expr} {es : List Expr} {m ma mo mi : M Opd} {ms mt : M Flw} {t : M Bool} {mk : M (List D)} {pos p apos cpos p2 tpos : Pos} {k : Nat} {st : Stmt} {ss rest bs : List Stmt}
def asgIxM (m mo mi : M Opd) : M Flw := do
  let v ← m
  let d ← take v
  let x ← mo
  let y ← mi
  setM x y d
  pure .nx
theorem ps_asgIx' (C : Cok k X) (he : PE X e (rd m)) (ho : PE X o (rd mo)) (hi : PE X i (rd mi)) (hs : swapsWithSole [.Subscript o i tpos] e pos.line X.env = pure false) (hw : swappedStores [.Subscript o i tpos] e X.env = pure none)
    (ha : ∀ v, assign (.Subscript o i tpos) X.env v = (do
      let ov ← holding [v] (eval o X.env)
      let iv ← holding [v, ov] (eval i X.env)
      standAt tpos
      holding [v, ov, iv] (setItem ov iv v)
      release [v, ov, iv] [])) : PS X (.Assign [.Subscript o i tpos] e pos) (rS (asgIxM m mo mi)) :=
  psI (ps_asg (pe_keep he) (pg_sub ho hi (set_op C) ha) hs hw rfl) fun E σ H ⟨pv, w, en, e, m0, q⟩ => by
    subst e
    refine ⟨pv, w, en, rfl, m0, (m >>= keep).mono (k := fun v en' => ∃ d, v = val0 d ∧ (mo >>= fun x => mi >>= fun y => setM x y d >>= fun _ => pure Flw.nx).run en' (SK pv w E) noX) (m.mono q (fun v en2 z => (take v).mono z (fun d en3 z => ⟨d, rfl, z⟩) fun _ _ z => z) fun _ _ z => z) (fun v en1 q1 w1 x P f1 => ?_) fun _ _ z => z⟩
    obtain ⟨d, rfl, q1⟩ := q1
    refine ⟨pv, w1, en1, rfl, f1.mt, mo.mono q1 (fun y en2 q2 w2 u P2 f2 => ?_) fun _ _ z => z⟩
    refine ⟨pv, w2, en2, rfl, f2.mt, mi.mono q2 (fun z en3 q3 w3 t P3 f3 => ?_) fun _ _ z => z⟩
    have hv := cop_end f2 f3
    have rx : Rp w3.F w3.H x d := by
      have x3 := f2.x.tr f3.x
      exact f1.r.2.mono fun b hb => ⟨x3.sub b hb, x3.fr b (f1.mt.ok.fh b hb) (f1.mt.ok.fo b hb)⟩
    have q4 : (setM y z d).run en3 (fun _ en4 => SK pv w E .nx en4) noX := q3
    exact ⟨pv, w3, σ, en3, y, z, P2, P3, d, _, rfl, hv.mt, hv.r 0 _ _ P2 rfl rfl rfl, hv.r 1 _ _ P3 rfl rfl rfl, rx, q4, fun en4 w4 x4 m4 k4 => k4 w4 σ (((f1.x.tr f2.x).tr f3.x).tr x4) m4⟩
end
end Rf
end
section
set_option Elab.async false
set_option linter.all false
set_option maxRecDepth 100000
set_option maxHeartbeats 4000000
set_option autoImplicit false
/-! Rf14: what is walked. -/
namespace Rf
open PySem PySem.Spec L2

/-- what a loop walks: the rows; the slot they stand in, with what it holds -/
structure Rw where
  src : Option (Nat × D)
  xs : List D
def rowsM (o : Opd) : M Rw := match o with
  | .val s => match itemsOf s.d with
    | some xs => pure ⟨none, xs⟩
    | none => M.fail
  | .slot i => ⟨fun e k _ => match getSl e i with
    | some ⟨.top, .list xs⟩ => k ⟨some (i, .list xs), xs⟩ e
    | some ⟨_, .dict kvs⟩ => k ⟨none, kvs.map (·.1)⟩ (putSl e i (some ⟨.fz, .dict kvs⟩))
    | _ => False, fun {s k k' x x'} h f _ => by
      revert h
      split
      · exact f _ _
      · exact f _ _
      · exact id⟩
/-- the slot holds what it held -/
def same (r : Rw) : M Unit := ⟨fun e k _ => (match r.src with
    | none => True
    | some (i, d) => ∃ p, e[i]? = some (⟨p, some ⟨.top, d⟩⟩ : Slt)) ∧ k () e, fun h f _ => ⟨h.1, f _ _ h.2⟩⟩
/-- the world grows -/
structure Gr (w : Wd) (F' : Addr → Prop) (H' : Hp) : Prop where
  fF : ∀ a, w.F a → F' a
  hH : ∀ a, w.H a ≠ none → H' a = w.H a
  nF : ∀ a, F' a → w.F a ∨ (w.H a = none ∧ H' a ≠ none)
theorem Gr.refl (w : Wd) : Gr w w.F w.H := ⟨fun _ h => h, fun _ _ => rfl, fun _ h => .inl h⟩
section
variable {pv : Nat → V} {w : Wd} {σ : L2.St} {en : En} {F' : Addr → Prop} {H' : Hp}
theorem Gr.mt (g : Gr w F' H') (m : Mt pv w σ en) : Mt pv ⟨F', w.Os, H'⟩ σ en := by
  refine m.grow rfl ⟨fun a ha => ?_, fun a ha => ?_, fun a ha => ?_, m.ok.nd⟩ g.fF g.hH
  · rcases g.nF a ha with h | h
    · show H' a ≠ none
      rw [g.hH a (m.ok.fh a h)]
      exact m.ok.fh a h
    · exact h.2
  · rcases g.nF a ha with h | h
    · exact m.ok.fo a h
    · exact fun z => m.ok.oh a z h.1
  · show H' a ≠ none
    rw [g.hH a (m.ok.oh a ha)]
    exact m.ok.oh a ha
theorem Gr.ext (g : Gr w F' H') : Ext w.o w ⟨F', w.Os, H'⟩ where
  sub := g.fF
  newF := fun a h => (g.nF a h).imp id fun z => .inl z.1
  fr := fun a h _ => g.hH a h
  os := fun a h => .inl h
  kp := fun a h => by
    show H' a ≠ none
    rw [g.hH a h]
    exact h
end
theorem Gr.tup {w : Wd} {T : Addr} {vs : List V} (h : w.H T = none) : Gr w (fun a => w.F a ∨ a = T) (upd w.H T (.tup vs)) :=
  ⟨fun _ h => .inl h, upd_old h, fun a ha => ha.imp id fun z => by subst z; exact ⟨h, by rw [upd_same]; simp⟩⟩
/-- J serves the rows wherever C holds -/
structure Src (J : L2.It) (C : Wd → L2.St → En → Prop) (rows : List D) : Prop where
  go : ∀ (pv : Nat → V) w σ en i, Mt pv w σ en → C w σ en → i < rows.length → J.go i w.H
  yld : ∀ (pv : Nat → V) w σ en i x H', Mt pv w σ en → C w σ en → i < rows.length → J.yld i w.H x H' → ∃ d F', rows[i]? = some d ∧ Gr w F' H' ∧ Rp F' H' x d
  stop : ∀ (pv : Nat → V) w σ en, Mt pv w σ en → C w σ en → J.stop rows.length w.H
def KpF (w0 w : Wd) : Prop := ∀ a, w0.F a → w.F a ∧ w.H a = w0.H a
theorem KpF.refl (w : Wd) : KpF w w := fun a h => ⟨h, rfl⟩
theorem KpF.ext {m : List Addr} {w0 w w1 : Wd} (k : KpF w0 w) (ok : w.Ok) (x : Ext m w w1) (hm : ∀ a, w.F a → a ∉ m) : KpF w0 w1 := fun a h => ⟨x.sub a (k a h).1, by rw [x.fr a (ok.fh a (k a h).1) (hm a (k a h).1)]; exact (k a h).2⟩
/-- where a source serves -/
def Cof (w0 : Wd) (σ0 : L2.St) (r : Rw) (w : Wd) (σ : L2.St) (en : En) : Prop := match r.src with
  | none => KpF w0 w
  | some (i, d) => (∃ p, en[i]? = some (⟨p, some ⟨.top, d⟩⟩ : Slt)) ∧ σ[i]? = σ0[i]?
def rIt (m : M Rw) : TI := fun σ H R => ∃ (pv : Nat → V) (w : Wd) (en : En), w.H = H ∧ Mt pv w σ en ∧ m.run en (fun r en' => ∀ w' J, Ext w.o w w' → Mt pv w' σ en' → Src J (Cof w' σ r) r.xs → R J w'.H) noX

/-! ### the sources -/
section
variable {w0 : Wd} {σ0 : L2.St} {K : PySem.W.Frag} {a b : Addr} {ds es : List D}
theorem src_list (h : ∀ w, KpF w0 w → ∃ vs, Rd w.H a (.lst vs) ∧ Rps w.F w.H vs ds) : Src (Itl K a) (Cof w0 σ0 ⟨none, ds⟩) ds where
  go := fun pv w σ en i m c hi => by
    obtain ⟨vs, g, t⟩ := h w c
    obtain ⟨v, e, _⟩ := t.get (List.getElem?_eq_getElem hi)
    exact ⟨vs, v, .inl g, e⟩
  yld := fun pv w σ en i x H' m c _ y => by
    obtain ⟨vs, g, t⟩ := h w c
    obtain ⟨rfl, y⟩ := y
    have e := y vs (.inl g)
    have hi : i < ds.length := by rw [← t.length]; exact (List.getElem?_eq_some_iff.mp e).1
    obtain ⟨v, e2, r⟩ := t.get (List.getElem?_eq_getElem hi)
    rw [e] at e2
    cases e2
    exact ⟨_, w.F, List.getElem?_eq_getElem hi, Gr.refl w, r⟩
  stop := fun pv w σ en m c => by
    obtain ⟨vs, g, t⟩ := h w c
    exact ⟨vs, .inl g, by rw [t.length]; exact Nat.le_refl _⟩
theorem src_slot {i : Nat} (hv : σ0[i]? = some (some (.ref a))) : Src (Itl K a) (Cof w0 σ0 ⟨some (i, .list ds), ds⟩) ds := by
  have key : ∀ {pv : Nat → V} {w σ en}, Mt pv w σ en → Cof w0 σ0 ⟨some (i, .list ds), ds⟩ w σ en → ∃ vs, Rd w.H a (.lst vs) ∧ Rps w.F w.H vs ds := fun {pv w σ en} m c => by
    obtain ⟨⟨p, e⟩, e2⟩ := c
    obtain ⟨v, O, h1, h2, h3⟩ := m.at_ i _ p e
    rw [e2, hv] at h1
    cases h1
    cases h3 with
    | lst g t => exact ⟨_, .inl g, t⟩
  constructor
  · intro pv w σ en i m c hi
    obtain ⟨vs, g, t⟩ := key m c
    obtain ⟨v, e, _⟩ := t.get (List.getElem?_eq_getElem hi)
    exact ⟨vs, v, .inl g, e⟩
  · intro pv w σ en i x H' m c _ y
    obtain ⟨vs, g, t⟩ := key m c
    obtain ⟨rfl, y⟩ := y
    have e := y vs (.inl g)
    have hi : i < ds.length := by rw [← t.length]; exact (List.getElem?_eq_some_iff.mp e).1
    obtain ⟨v, e2, r⟩ := t.get (List.getElem?_eq_getElem hi)
    rw [e] at e2
    cases e2
    exact ⟨_, w.F, List.getElem?_eq_getElem hi, Gr.refl w, r⟩
  · intro pv w σ en m c
    obtain ⟨vs, g, t⟩ := key m c
    exact ⟨vs, .inl g, by rw [t.length]; exact Nat.le_refl _⟩
theorem src_tup (h : ∀ w, KpF w0 w → ∃ vs, w.H a = some (.tup vs) ∧ Rps w.F w.H vs ds) : Src (Itt K a) (Cof w0 σ0 ⟨none, ds⟩) ds where
  go := fun pv w σ en i m c hi => by
    obtain ⟨vs, g, t⟩ := h w c
    obtain ⟨v, e, _⟩ := t.get (List.getElem?_eq_getElem hi)
    exact ⟨vs, v, .inl (.inl g), e⟩
  yld := fun pv w σ en i x H' m c _ y => by
    obtain ⟨vs, g, t⟩ := h w c
    obtain ⟨rfl, y⟩ := y
    have e := y vs (.inl (.inl g))
    have hi : i < ds.length := by rw [← t.length]; exact (List.getElem?_eq_some_iff.mp e).1
    obtain ⟨v, e2, r⟩ := t.get (List.getElem?_eq_getElem hi)
    rw [e] at e2
    cases e2
    exact ⟨_, w.F, List.getElem?_eq_getElem hi, Gr.refl w, r⟩
  stop := fun pv w σ en m c => by
    obtain ⟨vs, g, t⟩ := h w c
    exact ⟨vs, .inl (.inl g), by rw [t.length]; exact Nat.le_refl _⟩
theorem src_str (x : Str) : Src (Its x) (Cof w0 σ0 ⟨none, signs x⟩) (signs x) where
  go := fun pv w σ en i m c hi => by
    show i < x.cps.size
    simpa [signs] using hi
  yld := fun pv w σ en i v H' m c hi y => by
    obtain ⟨rfl, c, e, rfl⟩ := y
    exact ⟨.str ⟨#[c]⟩, w.F, by simp [signs, e], Gr.refl w, .str _⟩
  stop := fun pv w σ en m c => by simp [signs, Its]
theorem src_keys {o : Obj} {kvs : List (Key × V)} {dk : List (D × D)} (h : ∀ w, KpF w0 w → w.H a = some (.frz o (.dK kvs))) (t : ∃ F H, Rpk F H kvs dk) : Src (Itk a o kvs) (Cof w0 σ0 ⟨none, dk.map (·.1)⟩) (dk.map (·.1)) := by
  obtain ⟨F, H, t⟩ := t
  have l := t.length
  have ks : ∀ (i : Nat) (k : Key) (v : V), kvs[i]? = some (k, v) → (dk.map (·.1))[i]? = some (keyD k) := by
    intro i k v e
    have r := rps_keys t
    have e1 : (kvs.map fun kv => kV kv.1)[i]? = some (kV k) := by simp [e]
    have hi : i < (dk.map (·.1)).length := by rw [← r.length]; exact (List.getElem?_eq_some_iff.mp e1).1
    obtain ⟨v', e2, r2⟩ := r.get (List.getElem?_eq_getElem hi)
    rw [e1] at e2
    cases e2
    rw [List.getElem?_eq_getElem hi]
    generalize (dk.map (·.1))[i] = d at r2 ⊢
    cases k with
    | inl z => cases r2; rfl
    | inr z => cases r2; rfl
  constructor
  · intro pv w σ en i m c hi
    exact ⟨h w c, by rw [l]; simpa using hi⟩
  · intro pv w σ en i x H' m c _ y
    obtain ⟨rfl, k, v, e, rfl⟩ := y
    exact ⟨keyD k, w.F, ks i k v e, Gr.refl w, rp_key k⟩
  · intro pv w σ en m c
    exact ⟨h w c, by rw [l]; simp⟩
theorem src_range (lo : Int) (n : Nat) : Src (Itr lo n) (Cof w0 σ0 ⟨none, (List.range n).map fun i => .int (lo + (i : Nat))⟩) ((List.range n).map fun i => .int (lo + (i : Nat))) where
  go := fun pv w σ en i m c hi => by
    show i < n
    simpa using hi
  yld := fun pv w σ en i v H' m c hi y => by
    obtain ⟨rfl, rfl⟩ := y
    have hi' : i < n := by simpa using hi
    exact ⟨.int (lo + (i : Nat)), w.F, by simp [hi'], Gr.refl w, .int _⟩
  stop := fun pv w σ en m c => by simp [Itr]
/-- pairs of two lists -/
def zipD (ds es : List D) : List D := List.zipWith (fun x y => .tuple [x, y]) ds es
theorem zip_get {ds es : List D} {i : Nat} {x y : D} (h1 : ds[i]? = some x) (h2 : es[i]? = some y) : (zipD ds es)[i]? = some (.tuple [x, y]) := by
  unfold zipD
  rw [List.getElem?_zipWith, h1, h2]
theorem zip_len (ds es : List D) : (zipD ds es).length = min ds.length es.length := by simp [zipD]
theorem gr_pair {w : Wd} {T : Addr} {x y : V} {d e : D} (h : w.H T = none) (ok : w.Ok) (r1 : Rp w.F w.H x d) (r2 : Rp w.F w.H y e) : ∃ F', Gr w F' (upd w.H T (.tup [x, y])) ∧ Rp F' (upd w.H T (.tup [x, y])) (.ref T) (.tuple [d, e]) := by
  refine ⟨_, Gr.tup h, ?_⟩
  have mo : ∀ a, w.F a → (w.F a ∨ a = T) ∧ upd w.H T (.tup [x, y]) a = w.H a := fun a ha => ⟨.inl ha, upd_old h a (ok.fh a ha)⟩
  exact .tup (.inr rfl) upd_same (.cons (r1.mono mo) (.cons (r2.mono mo) .nil))
theorem src_zip (h : ∀ w, KpF w0 w → ∃ vs, Rd w.H a (.lst vs) ∧ Rps w.F w.H vs ds) (h' : ∀ w, KpF w0 w → ∃ vs, Rd w.H b (.lst vs) ∧ Rps w.F w.H vs es) : Src (Itz K a b) (Cof w0 σ0 ⟨none, zipD ds es⟩) (zipD ds es) where
  go := fun pv w σ en i m c hi => by
    rw [zip_len] at hi
    obtain ⟨vs, g, t⟩ := h w c
    obtain ⟨us, g', t'⟩ := h' w c
    obtain ⟨v, e, _⟩ := t.get (List.getElem?_eq_getElem (show i < ds.length by omega))
    obtain ⟨u, e', _⟩ := t'.get (List.getElem?_eq_getElem (show i < es.length by omega))
    exact ⟨vs, us, v, u, .inl g, .inl g', e, e'⟩
  yld := fun pv w σ en i z H' m c hi y => by
    rw [zip_len] at hi
    obtain ⟨vs, g, t⟩ := h w c
    obtain ⟨us, g', t'⟩ := h' w c
    obtain ⟨T, x, x', rfl, hT, rfl, y1, y2⟩ := y
    obtain ⟨v, e, r⟩ := t.get (List.getElem?_eq_getElem (show i < ds.length by omega))
    obtain ⟨u, e', r'⟩ := t'.get (List.getElem?_eq_getElem (show i < es.length by omega))
    have e1 := y1 vs (.inl g)
    have e2 := y2 us (.inl g')
    rw [e] at e1
    cases e1
    rw [e'] at e2
    cases e2
    obtain ⟨F', gr, rp⟩ := gr_pair hT m.ok r r'
    exact ⟨_, F', zip_get (List.getElem?_eq_getElem _) (List.getElem?_eq_getElem _), gr, rp⟩
  stop := fun pv w σ en m c => by
    obtain ⟨vs, g, t⟩ := h w c
    obtain ⟨us, g', t'⟩ := h' w c
    exact ⟨vs, us, .inl g, .inl g', by rw [zip_len, t.length, t'.length]; omega⟩
theorem src_zipT (h : ∀ w, KpF w0 w → ∃ vs, w.H a = some (.tup vs) ∧ Rps w.F w.H vs ds) (h' : ∀ w, KpF w0 w → ∃ vs, w.H b = some (.tup vs) ∧ Rps w.F w.H vs es) : Src (RZ.ItzT K a b) (Cof w0 σ0 ⟨none, zipD ds es⟩) (zipD ds es) where
  go := fun pv w σ en i m c hi => by
    rw [zip_len] at hi
    obtain ⟨vs, g, t⟩ := h w c
    obtain ⟨us, g', t'⟩ := h' w c
    obtain ⟨v, e, _⟩ := t.get (List.getElem?_eq_getElem (show i < ds.length by omega))
    obtain ⟨u, e', _⟩ := t'.get (List.getElem?_eq_getElem (show i < es.length by omega))
    exact ⟨vs, us, v, u, .inl (.inl g), .inl (.inl g'), e, e'⟩
  yld := fun pv w σ en i z H' m c hi y => by
    rw [zip_len] at hi
    obtain ⟨vs, g, t⟩ := h w c
    obtain ⟨us, g', t'⟩ := h' w c
    obtain ⟨T, x, x', rfl, hT, rfl, y1, y2⟩ := y
    obtain ⟨v, e, r⟩ := t.get (List.getElem?_eq_getElem (show i < ds.length by omega))
    obtain ⟨u, e', r'⟩ := t'.get (List.getElem?_eq_getElem (show i < es.length by omega))
    have e1 := y1 vs (.inl (.inl g))
    have e2 := y2 us (.inl (.inl g'))
    rw [e] at e1
    cases e1
    rw [e'] at e2
    cases e2
    obtain ⟨F', gr, rp⟩ := gr_pair hT m.ok r r'
    exact ⟨_, F', zip_get (List.getElem?_eq_getElem _) (List.getElem?_eq_getElem _), gr, rp⟩
  stop := fun pv w σ en m c => by
    obtain ⟨vs, g, t⟩ := h w c
    obtain ⟨us, g', t'⟩ := h' w c
    exact ⟨vs, us, .inl (.inl g), .inl (.inl g'), by rw [zip_len, t.length, t'.length]; omega⟩
def enumD (ds : List D) : List D := zipD ((List.range ds.length).map fun i => .int (i : Nat)) ds
theorem src_enum (h : ∀ w, KpF w0 w → ∃ vs, Rd w.H a (.lst vs) ∧ Rps w.F w.H vs ds) : Src (Ite K a) (Cof w0 σ0 ⟨none, enumD ds⟩) (enumD ds) := by
  have le : (enumD ds).length = ds.length := by unfold enumD; rw [zip_len]; simp
  constructor
  · intro pv w σ en i m c hi
    rw [le] at hi
    obtain ⟨vs, g, t⟩ := h w c
    obtain ⟨v, e, _⟩ := t.get (List.getElem?_eq_getElem hi)
    exact ⟨vs, v, .inl g, e⟩
  · intro pv w σ en i z H' m c hi y
    rw [le] at hi
    obtain ⟨vs, g, t⟩ := h w c
    obtain ⟨T, x, rfl, hT, rfl, y1⟩ := y
    obtain ⟨v, e, r⟩ := t.get (List.getElem?_eq_getElem hi)
    have e1 := y1 vs (.inl g)
    rw [e] at e1
    cases e1
    obtain ⟨F', gr, rp⟩ := gr_pair hT m.ok (.int (i : Nat)) r
    exact ⟨_, F', zip_get (by simp [hi]) (List.getElem?_eq_getElem hi), gr, rp⟩
  · intro pv w σ en m c
    obtain ⟨vs, g, t⟩ := h w c
    exact ⟨vs, .inl g, by rw [le, t.length]; exact Nat.le_refl _⟩
/-- a dict's pairs -/
def itemsD (kvs : List (D × D)) : List D := kvs.map fun kv => .tuple [kv.1, kv.2]
theorem Rpk.get {F : Addr → Prop} {H : Hp} : ∀ {kvs : List (Key × V)} {ds : List (D × D)} {i : Nat} {k : Key} {v : V}, Rpk F H kvs ds → kvs[i]? = some (k, v) → ∃ d, ds[i]? = some (keyD k, d) ∧ Rp F H v d
  | _, _, 0, _, _, .cons h _, e => by
    simp only [List.getElem?_cons_zero, Option.some.injEq, Prod.mk.injEq] at e
    obtain ⟨rfl, rfl⟩ := e
    exact ⟨_, rfl, h⟩
  | _, _, i + 1, _, _, .cons _ t, e => by
    obtain ⟨d, h1, h2⟩ := Rpk.get (i := i) t (by simpa using e)
    exact ⟨d, by simpa using h1, h2⟩
theorem src_items {o : Obj} {kvs : List (Key × V)} {dk : List (D × D)} (h : ∀ w, KpF w0 w → w.H a = some (.frz o (.dK kvs)) ∧ Rpk w.F w.H kvs dk) (l : kvs.length = dk.length) : Src (Iti a o kvs) (Cof w0 σ0 ⟨none, itemsD dk⟩) (itemsD dk) where
  go := fun pv w σ en i m c hi => ⟨(h w c).1, by rw [l]; simpa [itemsD] using hi⟩
  yld := fun pv w σ en i z H' m c hi y => by
    obtain ⟨T, k, v, e, rfl, hT, rfl⟩ := y
    obtain ⟨d, e2, r⟩ := (h w c).2.get e
    obtain ⟨F', gr, rp⟩ := gr_pair hT m.ok (rp_key k) r
    exact ⟨_, F', by simp [itemsD, e2], gr, rp⟩
  stop := fun pv w σ en m c => ⟨(h w c).1, by rw [l]; simp [itemsD]⟩
theorem src_vals {o : Obj} {kvs : List (Key × V)} {dk : List (D × D)} (h : ∀ w, KpF w0 w → w.H a = some (.frz o (.dK kvs)) ∧ Rpk w.F w.H kvs dk) (l : kvs.length = dk.length) : Src (Itd a o kvs) (Cof w0 σ0 ⟨none, dk.map (·.2)⟩) (dk.map (·.2)) where
  go := fun pv w σ en i m c hi => ⟨(h w c).1, by rw [l]; simpa using hi⟩
  yld := fun pv w σ en i z H' m c hi y => by
    obtain ⟨rfl, k, e⟩ := y
    obtain ⟨d, e2, r⟩ := (h w c).2.get e
    exact ⟨d, w.F, by simp [e2], Gr.refl w, r⟩
  stop := fun pv w σ en m c => ⟨(h w c).1, by rw [l]; simp⟩
end
/-- what stands in the shared part stays readable -/
theorem kp_list {w0 : Wd} {a : Addr} {vs : List V} {ds : List D} (f : w0.F a) (g : Rd w0.H a (.lst vs)) (t : Rps w0.F w0.H vs ds) : ∀ w, KpF w0 w → ∃ vs, Rd w.H a (.lst vs) ∧ Rps w.F w.H vs ds := fun w k =>
  ⟨vs, by unfold Rd; rw [(k a f).2]; exact g, t.mono k⟩
theorem kp_tup {w0 : Wd} {a : Addr} {vs : List V} {ds : List D} (f : w0.F a) (g : w0.H a = some (.tup vs)) (t : Rps w0.F w0.H vs ds) : ∀ w, KpF w0 w → ∃ vs, w.H a = some (.tup vs) ∧ Rps w.F w.H vs ds := fun w k =>
  ⟨vs, by rw [(k a f).2]; exact g, t.mono k⟩
theorem kp_dic {w0 : Wd} {a : Addr} {o : Obj} {kvs : List (Key × V)} {ds : List (D × D)} (f : w0.F a) (g : w0.H a = some (.frz o (.dK kvs))) (t : Rpk w0.F w0.H kvs ds) : ∀ w, KpF w0 w → w.H a = some (.frz o (.dK kvs)) ∧ Rpk w.F w.H kvs ds := fun w k =>
  ⟨by rw [(k a f).2]; exact g, t.mono k⟩
/-! ### the iterators -/
section
variable {X : Cx} {tg e e2 : Expr} {m ma mb : M Opd} {pos p : Pos}
/-- a value is walked -/
theorem iter_rp {pins : List (Addr × Obj)} {w : Wd} {σ : L2.St} {s : Shared} {v : V} {d : D} {xs : List D} {u : Value} {R : L2.It → Hp → Prop} {E : Value → Shared → Prop} (I : Inv X pins σ w.H s) (r : RelV v u) (rp : Rp w.F w.H v d) (hx : itemsOf d = some xs)
    (q : ∀ J, Src J (Cof w σ ⟨none, xs⟩) xs → R J w.H) : wpAny (model X.prog X.w) X.A (pyIter u) (PIE X pins σ tg R) E s := by
  cases rp with
  | lst f g t =>
    rename_i a vs ds
    cases r
    cases hx
    obtain ⟨its, rv, p, _⟩ := I.list (show SqL X.K w.H a vs from .inl g)
    exact wpAny_pyIter_list p.isList (pi_one (tk := s.toks) I _ (turn_list a _) ⟨_, Heap.get?_push_size _ rfl, rfl, rfl⟩ (q _ (src_list (kp_list f g t))))
  | tup f g t =>
    rename_i a vs ds
    cases r
    cases hx
    obtain ⟨its, rv, p, _⟩ := I.tuple (show SqT X.K w.H a vs from .inl (.inl g))
    exact wpAny_pyIter_tuple (show s.heap.IsTuple a its.toArray from p) (pi_one (tk := s.toks) I _ (turn_tuple a _) ⟨_, Heap.get?_push_size _ rfl, rfl, rfl⟩ (q _ (src_tup (kp_tup f g t))))
  | str x =>
    obtain ⟨t, rfl⟩ := r
    cases hx
    have q' := q _ (src_str x)
    cases ha : x.cps.all (· < 128)
    · exact wpAny_pyIter_wide ha (pi_one (tk := s.toks) I _ (turn_str _ x t "str_iterator" (.inr rfl)) ⟨_, Heap.get?_push_size _ rfl, rfl, rfl⟩ q')
    · exact wpAny_pyIter_ascii ha (pi_one (tk := s.toks) I _ (turn_str _ x t "str_ascii_iterator" (.inl rfl)) ⟨_, Heap.get?_push_size _ rfl, rfl, rfl⟩ q')
  | dic f g n t =>
    rename_i a o kvs ds
    cases r
    cases hx
    obtain ⟨hs, hgd, hx, es, ep, vs, hdt, hsz, kv, hm⟩ := I.frzK g
    exact iter_keys hs hgd hx hdt (pi_one (tk := s.toks) I _ (turn_keys _ hdt) ⟨_, Heap.get?_push_size _ rfl, rfl, by rw [hsz] <;> rfl⟩ (q _ (src_keys (fun w' k => (kp_dic f g t w' k).1) ⟨_, _, t⟩)))
  | _ => cases hx
end
end Rf
end
section
set_option Elab.async false
set_option linter.all false
set_option maxRecDepth 100000
set_option maxHeartbeats 4000000
set_option autoImplicit false
/-! Rf15: iterators, targets. -/
namespace Rf
open PySem PySem.Spec L2

section
variable {X : Cx} {tg e e2 a b : Expr} {m ma mb : M Opd} {pos p apos cpos tpos : Pos} {elts : List Expr} {kk : Nat}
theorem pi_any' (h : PE X e (rd m)) : PI X tg e (rIt (m >>= rowsM)) := by
  refine ⟨fun pins s σ H R I q => ?_⟩
  obtain ⟨pv, w, en, rfl, m0, q⟩ := q
  refine thn (h.run pins s σ w.H (fun v H1 => ∃ w1 en1 o O, w1.H = H1 ∧ Fi1 pv w σ en1 w1 v o O ∧ (rowsM o).run en1 (fun r en' => ∀ w' J, Ext w.o w w' → Mt pv w' σ en' → Src J (Cof w' σ r) r.xs → R J w'.H) noX) I ⟨pv, w, en, rfl, m0, m.mono q (fun o en1 z w1 v O f => ⟨w1, en1, o, O, rfl, f, z⟩) fun _ _ z => z⟩) fun u s1 ⟨v, H1, I1, r1, w1, en1, o, O, e1, f, z⟩ => ?_
  subst e1
  cases o with
  | val sl =>
    obtain ⟨fl, d⟩ := sl
    have z' : (match itemsOf d with | some xs => ∀ w' J, Ext w.o w w' → Mt pv w' σ en1 → Src J (Cof w' σ ⟨none, xs⟩) xs → R J w'.H | none => False) := by
      revert z
      show (match itemsOf d with | some xs => (pure ⟨none, xs⟩ : M Rw) | none => M.fail).run en1 _ noX → _
      split <;> exact id
    split at z'
    · rename_i xs hx
      cases fl with
      | fz => exact iter_rp I1 r1 f.r.2 hx fun J sr => z' w1 J f.x f.mt sr
      | top =>
        obtain ⟨w2, I2, x2, m2, rp, _⟩ := share_tmp I1 f.mt f.r f.t
        have x3 : Ext w.o w w2 := f.x.trans x2 fun a ha => (List.mem_append.mp ha).elim (f.x.os a) (f.n a)
        exact iter_rp I2 r1 rp hx fun J sr => z' w2 J x3 m2 sr
    · exact z'.elim
  | slot i =>
    have z' : (match getSl en1 i with
      | some ⟨.top, .list xs⟩ => ∀ w' J, Ext w.o w w' → Mt pv w' σ en1 → Src J (Cof w' σ ⟨some (i, .list xs), xs⟩) xs → R J w'.H
      | some ⟨_, .dict kvs⟩ => ∀ w' J, Ext w.o w w' → Mt pv w' σ (putSl en1 i (some ⟨.fz, .dict kvs⟩)) → Src J (Cof w' σ ⟨none, kvs.map (·.1)⟩) (kvs.map (·.1)) → R J w'.H
      | _ => False) := by
      revert z
      show (match getSl en1 i with | some ⟨.top, .list xs⟩ => _ | some ⟨_, .dict kvs⟩ => _ | _ => False) → _
      split <;> exact id
    split at z'
    · rename_i xs eg
      obtain ⟨v', O', h1, h2, h3⟩ := f.mt.get eg
      rw [f.r.2] at h1
      cases h1
      cases h3 with
      | lst g t =>
        cases r1
        obtain ⟨its, rv, p, _⟩ := I1.list (show SqL X.K w1.H _ _ from .inl (.inl g))
        exact wpAny_pyIter_list p.isList (pi_one (tk := s1.toks) I1 _ (turn_list _ _) ⟨_, Heap.get?_push_size _ rfl, rfl, rfl⟩ (z' w1 _ f.x f.mt (src_slot f.r.2)))
    · rename_i fl kvs eg
      have z2 : (take (.slot i) >>= fun d => pure d).run en1 (fun d en' => d = .dict kvs ∧ ∀ w' J, Ext w.o w w' → Mt pv w' σ en' → Src J (Cof w' σ ⟨none, kvs.map (·.1)⟩) (kvs.map (·.1)) → R J w'.H) noX := by
        show (match getSl en1 i with | some s => _ | none => False)
        rw [eg]
        exact ⟨rfl, z'⟩
      obtain ⟨w2, d, en2, I2, x2, m2, rp, k⟩ := take_run (f := fun d => pure d) I1 f.mt f.r f.t z2
      obtain ⟨ed, k⟩ := k
      subst ed
      have x3 : Ext w.o w w2 := f.x.trans x2 fun a ha => (List.mem_append.mp ha).elim (f.x.os a) (f.n a)
      exact iter_rp I2 r1 rp rfl fun J sr => k w2 J x3 m2 sr
    · exact z'.elim
/-- range(..) -/
def intM (o : Opd) : M Int := do
  let d ← peek o
  match d with
  | .int i => pure i
  | _ => M.fail
theorem int_run {pv : Nat → V} {w : Wd} {σ : L2.St} {en : En} {v : V} {o : Opd} {O : List Addr} {α : Type} {f : Int → M α} {K : α → En → Prop} (m : Mt pv w σ en) (r : Orl w σ en v o O) (h : (intM o >>= f).run en K noX) : ∃ i, v = .int i ∧ (f i).run en K noX := by
  obtain ⟨d, s1, q⟩ := peek_run (f := fun d => (match d with | .int i => pure i | _ => M.fail) >>= f) m r h
  cases s1 with
  | int i => exact ⟨i, rfl, q⟩
  | _ => exact (show False from q).elim
def rngD (lo hi : Int) : List D := (List.range (hi - lo).toNat).map fun i => .int (lo + (i : Nat))
def rng1M (ma : M Opd) : M Rw := do
  let x ← ma
  let j ← intM x
  M.assert (-(2 ^ 62) ≤ j ∧ j < 2 ^ 62)
  pure ⟨none, rngD 0 j⟩
def rng2M (ma mb : M Opd) : M Rw := do
  let x ← ma
  let y ← mb
  let i ← intM x
  let j ← intM y
  M.assert (-(2 ^ 62) ≤ i ∧ i < 2 ^ 62 ∧ -(2 ^ 62) ≤ j ∧ j < 2 ^ 62)
  pure ⟨none, rngD i j⟩
theorem pi_rng1' (hg : Gl X "range") (hm : X.mg "range" = none) (ha : PE X a (rd ma)) (hp : plainE a = true) : PI X tg (.Call (.Name "range" p) [a] [] pos) (rIt (rng1M ma)) := by
  refine ⟨fun pins s σ H R I ⟨pv, w, en, e, m0, q⟩ => ?_⟩
  subst e
  refine (pi_range1 hg hm (pa_cons ha pa_nil (star_cons hp _ _)) (star_cons hp _ _)).run pins s σ w.H R I ⟨pv, w, en, rfl, m0, ma.mono q (fun x en1 q1 w1 v P f1 => ?_) fun _ _ z => z⟩
  obtain ⟨j, rfl, q2⟩ := int_run f1.mt f1.r q1
  obtain ⟨⟨z1, z2⟩, q3⟩ := q2
  refine ⟨j, rfl, z1, z2, ?_⟩
  have sr := src_range (w0 := w1) (σ0 := σ) 0 j.toNat
  have e : rngD 0 j = (List.range j.toNat).map fun i => PyData.int ((0 : Int) + (i : Nat)) := by unfold rngD; rw [Int.sub_zero]
  have q4 : ∀ w' J, Ext w.o w w' → Mt pv w' σ en1 → Src J (Cof w' σ ⟨none, rngD 0 j⟩) (rngD 0 j) → R J w'.H := q3
  rw [e] at q4
  exact q4 w1 _ f1.x f1.mt sr
theorem pi_rng2' (hg : Gl X "range") (hm : X.mg "range" = none) (ha : PE X a (rd ma)) (hb : PE X b (rd mb)) (hp : plainE a = true) (hp2 : plainE b = true) : PI X tg (.Call (.Name "range" p) [a, b] [] pos) (rIt (rng2M ma mb)) := by
  refine ⟨fun pins s σ H R I ⟨pv, w, en, e, m0, q⟩ => ?_⟩
  subst e
  refine (pi_range2 hg hm (pa_cons ha (pa_cons hb pa_nil (star_cons hp2 _ _)) (star_cons hp _ _)) (by rw [star_cons hp, star_cons hp2]; rfl) (star_cons hp2 _ _)).run pins s σ w.H R I ⟨pv, w, en, rfl, m0, ma.mono q (fun x en1 q1 w1 v P f1 => ?_) fun _ _ z => z⟩
  refine ⟨pv, w1, en1, rfl, f1.mt, mb.mono q1 (fun y en2 q2 w2 u P2 f2 => ?_) fun _ _ z => z⟩
  have hv := cop_end f1 f2
  obtain ⟨i, rfl, q3⟩ := int_run hv.mt (hv.r 0 _ _ P rfl rfl rfl) q2
  obtain ⟨j, rfl, q4⟩ := int_run hv.mt (hv.r 1 _ _ P2 rfl rfl rfl) q3
  obtain ⟨zz, q5⟩ := q4
  have q6 : ∀ w' J, Ext w.o w w' → Mt pv w' σ en2 → Src J (Cof w' σ ⟨none, rngD i j⟩) (rngD i j) → R J w'.H := q5
  exact ⟨i, j, rfl, zz, q6 w2 _ (f1.x.tr f2.x) f2.mt (src_range i (j - i).toNat)⟩
/-- zip(..), enumerate(..): what is walked is kept -/
def zipM (ma mb : M Opd) : M Rw := do
  let x ← ma
  let d ← take x
  let y ← mb
  let e ← take y
  match d, e with
  | .list ds, .list es => pure ⟨none, zipD ds es⟩
  | .tuple ds, .tuple es => pure ⟨none, zipD ds es⟩
  | _, _ => M.fail
theorem pi_zip' (hg : Gl X "zip") (hm : X.mg "zip" = none) (ha : PE X a (rd ma)) (hb : PE X b (rd mb)) (hp : plainE a = true) (hp2 : plainE b = true) : PI X (.Tuple elts kk tpos) (.Call (.Name "zip" p) [a, b] [] pos) (rIt (zipM ma mb)) := by
  refine ⟨fun pins s σ H R I ⟨pv, w, en, e, m0, q⟩ => ?_⟩
  subst e
  have L : ∀ {α : Type} (m : M Opd) (f : D → M α) (en : En) (K : α → En → Prop), (m >>= fun x => take x >>= f).run en K noX → (m >>= keep).run en (fun o en' => ∃ d, o = val0 d ∧ (f d).run en' K noX) noX := fun m f en K z => m.mono z (fun x en2 z => (take x).mono z (fun d en3 z => ⟨d, rfl, z⟩) fun _ _ z => z) fun _ _ z => z
  refine (RZ.pi_zipA hg hm (pa_cons (pe_keep ha) (pa_cons (pe_keep hb) pa_nil (star_cons hp2 _ _)) (star_cons hp _ _)) (star_cons hp _ _) (by rw [star_cons hp2]; rfl)).run pins s σ w.H R I ⟨pv, w, en, rfl, m0, (ma >>= keep).mono (L _ _ _ _ q) (fun x en1 q1 w1 v P f1 => ?_) fun _ _ z => z⟩
  obtain ⟨d, rfl, q1⟩ := q1
  refine ⟨pv, w1, en1, rfl, f1.mt, (mb >>= keep).mono (L _ _ _ _ q1) (fun y en2 q2 w2 u P2 f2 => ?_) fun _ _ z => z⟩
  obtain ⟨d2, rfl, q2⟩ := q2
  have r1 : Rp w2.F w2.H v d := f1.r.2.mono fun b hb => ⟨f2.x.sub b hb, f2.x.fr b (f1.mt.ok.fh b hb) (f1.mt.ok.fo b hb)⟩
  have r2 : Rp w2.F w2.H u d2 := f2.r.2
  have x3 := f1.x.tr f2.x
  cases r1 with
  | lst f g t =>
    cases r2 with
    | lst f' g' t' => exact ⟨_, _, _, _, rfl, .inl ⟨.inl g, .inl g', q2 w2 _ x3 f2.mt (src_zip (kp_list f g t) (kp_list f' g' t'))⟩⟩
    | _ => exact (show False from q2).elim
  | tup f g t =>
    cases r2 with
    | tup f' g' t' => exact ⟨_, _, _, _, rfl, .inr ⟨.inl (.inl g), .inl (.inl g'), q2 w2 _ x3 f2.mt (src_zipT (kp_tup f g t) (kp_tup f' g' t'))⟩⟩
    | _ => exact (show False from q2).elim
  | _ => exact (show False from q2).elim
def enumM (ma : M Opd) : M Rw := do
  let x ← ma
  let d ← take x
  match d with
  | .list ds => pure ⟨none, enumD ds⟩
  | _ => M.fail
theorem pi_enum' (hg : Gl X "enumerate") (hm : X.mg "enumerate" = none) (ha : PE X a (rd ma)) (hp : plainE a = true) : PI X (.Tuple elts kk tpos) (.Call (.Name "enumerate" p) [a] [] pos) (rIt (enumM ma)) := by
  refine ⟨fun pins s σ H R I ⟨pv, w, en, e, m0, q⟩ => ?_⟩
  subst e
  refine (pi_enum hg hm (pa_cons (pe_keep ha) pa_nil (star_cons hp _ _)) (star_cons hp _ _)).run pins s σ w.H R I ⟨pv, w, en, rfl, m0, (ma >>= keep).mono (k := fun o en' => ∃ d, o = val0 d ∧ (match d with | .list ds => (pure ⟨none, enumD ds⟩ : M Rw) | _ => M.fail).run en' (fun r en' => ∀ w' J, Ext w.o w w' → Mt pv w' σ en' → Src J (Cof w' σ r) r.xs → R J w'.H) noX) (ma.mono q (fun x en2 z => (take x).mono z (fun d en3 z => ⟨d, rfl, z⟩) fun _ _ z => z) fun _ _ z => z) (fun x en1 q1 w1 v P f1 => ?_) fun _ _ z => z⟩
  obtain ⟨d, rfl, q1⟩ := q1
  have r1 := f1.r.2
  cases r1 with
  | lst f g t => exact ⟨_, _, rfl, .inl g, q1 w1 _ f1.x f1.mt (src_enum (kp_list f g t))⟩
  | _ => exact (show False from q1).elim
def itemsM (ma : M Opd) : M Rw := do
  let x ← ma
  let d ← take x
  match d with
  | .dict kvs => pure ⟨none, itemsD kvs⟩
  | _ => M.fail
theorem pi_items' (ha : PE X a (rd ma)) (hb : plainB a = true) (hl : (apos.endLine == cpos.line) = true) : PI X (.Tuple elts kk tpos) (.Call (.Attribute a "items" apos) [] [] cpos) (rIt (itemsM ma)) := by
  refine ⟨fun pins s σ H R I ⟨pv, w, en, e, m0, q⟩ => ?_⟩
  subst e
  refine (pi_items (pe_keep ha) (attr_base hb _ _ _) hl).run pins s σ w.H R I ⟨pv, w, en, rfl, m0, (ma >>= keep).mono (k := fun o en' => ∃ d, o = val0 d ∧ (match d with | .dict ds => (pure ⟨none, itemsD ds⟩ : M Rw) | _ => M.fail).run en' (fun r en' => ∀ w' J, Ext w.o w w' → Mt pv w' σ en' → Src J (Cof w' σ r) r.xs → R J w'.H) noX) (ma.mono q (fun x en2 z => (take x).mono z (fun d en3 z => ⟨d, rfl, z⟩) fun _ _ z => z) fun _ _ z => z) (fun x en1 q1 w1 v P f1 => ?_) fun _ _ z => z⟩
  obtain ⟨d, rfl, q1⟩ := q1
  have r1 := f1.r.2
  cases r1 with
  | dic f g n t => exact ⟨_, _, _, rfl, g, q1 w1 _ f1.x f1.mt (src_items (kp_dic f g t) t.length)⟩
  | _ => exact (show False from q1).elim

/-! ### targets -/
/-- a target: a name, a row of names -/
inductive Tg where
  | nm (i : Nat)
  | tp (is : List Nat)
def Tg.is : Tg → List Nat
  | .nm i => [i]
  | .tp is => is
def bindAll : List Nat → List D → M Unit
  | [], [] => pure ()
  | i :: is, d :: ds => do
    bindSl i ⟨.fz, d⟩
    bindAll is ds
  | _, _ => M.fail
def bindT : Tg → D → M Unit
  | .nm i, d => bindSl i ⟨.fz, d⟩
  | .tp is, d => match d with
    | .tuple ds => bindAll is ds
    | _ => M.fail
/-- what is wanted behind a target's store: the other slots stand -/
def rG (is : List Nat) (f : D → M Unit) : TG := fun v σ H Q => ∃ (pv : Nat → V) (w : Wd) (en : En) (d : D), w.H = H ∧ Mt pv w σ en ∧ Rp w.F w.H v d ∧ (f d).run en (fun _ en' => ∀ w' σ', w'.H = w.H → Ext w.o w w' → Mt pv w' σ' en' → σ'.length = σ.length → (∀ j, j ∉ is → σ'[j]? = σ[j]?) → Q σ' w'.H) noX
theorem bind_rp {pv : Nat → V} {w : Wd} {σ : L2.St} {en : En} {v : V} {d : D} {j : Nat} {α : Type} {f : M α} {K : α → En → Prop} (m : Mt pv w σ en) (rp : Rp w.F w.H v d) (q : (bindSl j ⟨.fz, d⟩ >>= fun _ => f).run en K noX) :
    ∃ w2 en2, w2.H = w.H ∧ w2.F = w.F ∧ Ext w.o w w2 ∧ Mt pv w2 (σ.set j (some v)) en2 ∧ f.run en2 K noX := by
  have q' : (match en[j]? with | some ⟨false, _⟩ => f.run (en.set j ⟨false, some ⟨.fz, d⟩⟩) K noX | _ => False) := q
  split at q'
  · rename_i old e1
    have hj : j < en.length := (List.getElem?_eq_some_iff.mp e1).1
    have hO : j < w.Os.length := by rw [m.l2]; exact hj
    have hσ : j < σ.length := by rw [m.l1]; exact hj
    have e2 : w.Os[j]? = some w.Os[j] := List.getElem?_eq_getElem hO
    have wo : ∀ b, b ∈ (w.Os.set j []).flatten → b ∈ w.o := fun b hb => (mem_set_fl e2 hb).elim (fun z => by cases z) id
    refine ⟨w.drop j [], _, rfl, rfl, ⟨fun _ h => h, fun _ h => .inl h, fun _ _ _ => rfl, fun b hb => .inl (wo b hb), fun _ h => h⟩, ?_, q'⟩
    exact m.slot e1 e2 rfl ⟨m.ok.fh, fun b hb z => m.ok.fo b hb (wo b z), fun b hb => m.ok.oh b (wo b hb), nodup_set m.ok.nd e2 List.nodup_nil fun b hb => by cases hb⟩ (fun b hb => ⟨hb, rfl⟩) (fun _ _ _ => rfl) (by simp) (fun l hl => List.getElem?_set_ne (Ne.symm hl)) (fun _ _ => rfl) (fun h => by cases h) ⟨v, List.getElem?_set_self hσ, rfl, rp⟩
  · exact q'.elim
theorem pg_nm' {i : Nat} {x : Str} (hN : X.N.Nodup) (hi : X.N[i]? = some x) (hx : Loc X.env.scope x) (hf : X.fn x = true ∨ X.env.scope.names.lookup x = some .local) : PG X (.Name x pos) (rG [i] (bindT (.nm i))) := by
  refine ⟨fun pins s σ H v u Q I r ⟨pv, w, en, d, e, m0, rp, q⟩ => ?_⟩
  subst e
  obtain ⟨w2, en2, e2, _, x2, m2, q2⟩ := bind_rp (f := pure ()) m0 rp q
  refine (pg_name hN hi hx hf).run pins s σ w.H v u Q I r ?_
  show Q (σ.set i (some v)) w.H
  have q3 := q2 w2 _ e2 x2 m2 (by simp) fun j hj => List.getElem?_set_ne fun z => hj (by simp [z])
  rw [e2] at q3
  exact q3
/-- the names of a row -/
structure Nms (X : Cx) (es : List Expr) (is : List Nat) : Prop where
  l : es.length = is.length
  at_ : ∀ (n : Nat) (e : Expr) (i : Nat), es[n]? = some e → is[n]? = some i → ∃ x p, e = .Name x p ∧ X.N[i]? = some x ∧ Loc X.env.scope x ∧ (X.fn x = true ∨ X.env.scope.names.lookup x = some .local)
theorem bindAll_gs (hN : X.N.Nodup) : ∀ {es : List Expr} {is : List Nat}, Nms X es is → ∃ t : TGs, PGs X es t ∧ (∀ env, (assignEach es env).length = es.length) ∧ (∀ env, (assignEach es env).findIdx? (·.1) = none) ∧
    ∀ {vs : List V} {ds : List D} {pv : Nat → V} {w : Wd} {σ : L2.St} {en : En} {Q : L2.St → Hp → Prop}, Mt pv w σ en → Rps w.F w.H vs ds → (bindAll is ds).run en (fun _ en' => ∀ w' σ', w'.H = w.H → Ext w.o w w' → Mt pv w' σ' en' → σ'.length = σ.length → (∀ j, j ∉ is → σ'[j]? = σ[j]?) → Q σ' w'.H) noX → t vs σ w.H Q ∧ vs.length = es.length := by
  intro es
  induction es with
  | nil =>
    intro is n
    cases is with
    | nil =>
      refine ⟨gNil, pgs_nil, fun _ => rfl, fun _ => rfl, fun {vs ds pv w σ en Q} m r q => ?_⟩
      cases ds with
      | nil =>
        cases r
        exact ⟨⟨rfl, q w σ rfl (Ext.refl w) m rfl fun _ _ => rfl⟩, rfl⟩
      | cons d ds => exact (show False from q).elim
    | cons i is => have := n.l; simp at this
  | cons e es ih =>
    intro is n
    cases is with
    | nil => have := n.l; simp at this
    | cons i is =>
      obtain ⟨x, p, rfl, hi, hx, hf⟩ := n.at_ 0 e i rfl rfl
      obtain ⟨t, h1, h2, h3, h4⟩ := ih (is := is) ⟨by simpa using n.l, fun k e i a b => n.at_ (k + 1) e i (by simpa using a) (by simpa using b)⟩
      refine ⟨gCons (gName i) t, pgs_cons (pg_name hN hi hx hf) h1 rfl, fun env => ?_, fun env => ?_, fun {vs ds pv w σ en Q} m r q => ?_⟩
      · show (assignEach es env).length + 1 = _
        rw [h2 env]
        rfl
      · show List.findIdx? (·.1) ((false, assign (.Name x p) env) :: assignEach es env) = none
        rw [List.findIdx?_cons]
        simp [h3 env]
      · cases ds with
        | nil => exact (show False from q).elim
        | cons d ds =>
          cases r with
          | cons r rr =>
            rename_i v vs
            obtain ⟨w2, en2, e2, eF, x2, m2, q2⟩ := bind_rp m r q
            have rr2 : Rps w2.F w2.H vs ds := by rw [eF, e2]; exact rr
            have q3 : (bindAll is ds).run en2 (fun _ en' => ∀ w' σ', w'.H = w2.H → Ext w2.o w2 w' → Mt pv w' σ' en' → σ'.length = (σ.set i (some v)).length → (∀ j, j ∉ is → σ'[j]? = (σ.set i (some v))[j]?) → Q σ' w'.H) noX :=
              (bindAll is ds).mono q2 (fun _ en3 z w' σ' a b c d f => z w' σ' (a.trans e2) (x2.tr b) c (by rw [d]; simp) fun j hj => by
                rw [f j fun z => hj (List.mem_cons_of_mem _ z), List.getElem?_set_ne fun z => hj (by simp [z])]) fun _ _ z => z
            obtain ⟨h5, h6⟩ := h4 m2 rr2 q3
            rw [e2] at h5
            exact ⟨⟨v, vs, rfl, h5⟩, by simp [h6]⟩
theorem pg_tp' {es : List Expr} {is : List Nat} (hc : X.calm = true) (hN : X.N.Nodup) (n : Nms X es is) : PG X (.Tuple es kk pos) (rG is (bindT (.tp is))) := by
  obtain ⟨t, h1, h2, h3, h4⟩ := bindAll_gs hN n
  refine ⟨fun pins s σ H v u Q I r ⟨pv, w, en, d, e, m0, rp, q⟩ => ?_⟩
  subst e
  cases d with
  | tuple ds =>
    cases rp with
    | tup f g tt =>
      obtain ⟨h5, h6⟩ := h4 (Q := Q) m0 tt q
      exact (pg_tup hc h1 (h2 _) (h3 _)).run pins s σ w.H _ u Q I r ⟨_, _, rfl, .inl (.inl g), h6, h5⟩
  | _ => exact (show False from q).elim
end
end Rf
end
section
set_option Elab.async false
set_option linter.all false
set_option maxRecDepth 100000
set_option maxHeartbeats 4000000
set_option autoImplicit false
/-! Rf16: for; list comprehensions. -/
namespace Rf
open PySem PySem.Spec L2

def forGo (chk : M Unit) (bd : D → M Unit) (b : M Flw) : List D → M Flw
  | [] => do
    chk
    pure .nx
  | x :: xs => do
    chk
    bd x
    let f ← b
    match f with
    | .nx => forGo chk bd b xs
    | .ct => forGo chk bd b xs
    | .bk => pure .nx
    | .rt s => pure (.rt s)
/-- slot i may not be bound anew until unpM -/
def pinM (i : Nat) : M Bool := ⟨fun e k _ => match e[i]? with
  | some ⟨p, o⟩ => k p (e.set i ⟨true, o⟩)
  | none => False, fun {s k k' x x'} h f _ => by
    revert h
    split
    · exact f _ _
    · exact id⟩
def unpM (i : Nat) (p : Bool) : M Unit := ⟨fun e k _ => match e[i]? with
  | some ⟨true, o⟩ => k () (e.set i ⟨p, o⟩)
  | _ => False, fun {s k k' x x'} h f _ => by
    revert h
    split
    · exact f _ _
    · exact id⟩
def samP (i : Nat) (d : D) : M Unit := ⟨fun e k _ => e[i]? = some (⟨true, some ⟨.top, d⟩⟩ : Slt) ∧ k () e, fun h f _ => ⟨h.1, f _ _ h.2⟩⟩
def forM (mi : M Rw) (bd : D → M Unit) (mb : M Flw) : M Flw := do
  let r ← mi
  match r.src with
  | none => forGo (pure ()) bd mb r.xs
  | some (i, d) => do
    let p ← pinM i
    let f ← forGo (samP i d) bd mb r.xs
    unpM i p
    pure f
theorem Mt.pv {pv pv' : Nat → V} {w : Wd} {σ : L2.St} {en : En} {i : Nat} {p p' : Bool} {o : Option Sl} (m : Mt pv w σ en) (e : en[i]? = some (⟨p, o⟩ : Slt)) (hpv : ∀ j, j ≠ i → pv' j = pv j) (hp : p' = true → σ[i]? = some (some (pv' i))) : Mt pv' w σ (en.set i ⟨p', o⟩) := by
  have hi : i < en.length := (List.getElem?_eq_some_iff.mp e).1
  have hO : i < w.Os.length := by rw [m.l2]; exact hi
  have e2 : w.Os[i]? = some w.Os[i] := List.getElem?_eq_getElem hO
  refine m.slot (O' := w.Os[i]) e e2 (List.set_getElem_self hO).symm m.ok (fun b hb => ⟨hb, rfl⟩) (fun _ _ _ => rfl) rfl (fun _ _ => rfl) hpv hp ?_
  cases o with
  | none =>
    have := m.no i p e
    rw [e2] at this
    exact Option.some.inj this
  | some s =>
    obtain ⟨v, O, h1, h2, h3⟩ := m.at_ i s p e
    rw [e2] at h2
    cases h2
    exact ⟨v, h1, h3⟩
section
variable {X : Cx} {tg iter e : Expr} {mi : M Rw} {mb : M Flw} {is : List Nat} {bd : D → M Unit} {bs : List Stmt} {pos : Pos}
theorem for_core {pv pv' : Nat → V} {w w0 : Wd} {σ0 : L2.St} {en0 : En} {J : L2.It} {C : Wd → L2.St → En → Prop} {rows : List D} {chk un : M Unit} {E : Ends} (sr : Src J C rows) (x0 : Ext w.o w w0) (m0 : Mt pv' w0 σ0 en0)
    (hchk : ∀ {w' σ' en'} {α : Type} {f : M α} {K : α → En → Prop}, Ext w0.o w0 w' → Mt pv' w' σ' en' → (chk >>= fun _ => f).run en' K noX → C w' σ' en' ∧ f.run en' K noX)
    (hun : ∀ {w' σ' en'} {α : Type} {f : M α} {K : α → En → Prop}, Mt pv' w' σ' en' → (un >>= fun _ => f).run en' K noX → ∃ en2, Mt pv w' σ' en2 ∧ f.run en2 K noX)
    (hunS : ∀ {en'} {α : Type} {f : M α} {K : α → En → Prop}, (un >>= fun _ => f).run en' K noX → ∃ en2, (∀ w' σ', Mt pv' w' σ' en' → Mt pv w' σ' en2) ∧ f.run en2 K noX)
    (q : (forGo chk bd mb rows >>= fun f => un >>= fun _ => pure f).run en0 (SK pv w E) noX) :
    ∃ W : Nat → Nat → L2.St → Hp → Prop, (∃ m, W 0 m σ0 w0.H) ∧ ∀ i m σ H, W i m σ H → (J.stop i H ∧ E.nx σ H) ∨
      (J.go i H ∧ ∃ N : L2.St → Hp → Prop, (∀ σ' H', N σ' H' → ∃ m', m' < m ∧ W (i + 1) m' σ' H') ∧ ∀ x H', J.yld i H x H' → rG is bd x σ H' fun σ2 H2 => rS mb { E with nx := N, ct := N, bk := E.nx } σ2 H2) := by
  refine ⟨fun i m σ' H' => m = rows.length - i ∧ i ≤ rows.length ∧ ∃ w' en', w'.H = H' ∧ Ext w0.o w0 w' ∧ Mt pv' w' σ' en' ∧ (forGo chk bd mb (rows.drop i) >>= fun f => un >>= fun _ => pure f).run en' (SK pv w E) noX, ⟨rows.length, by simp, Nat.zero_le _, w0, en0, rfl, Ext.refl w0, m0, by simpa using q⟩, ?_⟩
  rintro i m σ1 H1 ⟨rfl, hi, w1, en1, rfl, x1, m1, q1⟩
  by_cases hlt : i < rows.length
  · refine .inr ?_
    rw [List.drop_eq_getElem_cons hlt] at q1
    obtain ⟨hc, q2⟩ := hchk (f := bd rows[i] >>= fun _ => (mb >>= fun f => match f with | .nx => forGo chk bd mb (rows.drop (i + 1)) | .ct => forGo chk bd mb (rows.drop (i + 1)) | .bk => pure .nx | .rt s => pure (.rt s)) >>= fun f => un >>= fun _ => pure f) x1 m1 q1
    refine ⟨sr.go pv' w1 σ1 en1 i m1 hc hlt, fun σ' H' => ∃ w' en', w'.H = H' ∧ Ext w0.o w0 w' ∧ Mt pv' w' σ' en' ∧ (forGo chk bd mb (rows.drop (i + 1)) >>= fun f => un >>= fun _ => pure f).run en' (SK pv w E) noX, fun σ' H' h => ⟨rows.length - (i + 1), by omega, rfl, hlt, h⟩, fun x H' y => ?_⟩
    obtain ⟨d, F', hd, gr, rp⟩ := sr.yld pv' w1 σ1 en1 i x H' m1 hc hlt y
    rw [List.getElem?_eq_getElem hlt] at hd
    have hd := Option.some.inj hd
    subst hd
    refine ⟨pv', ⟨F', w1.Os, H'⟩, en1, rows[i], rfl, gr.mt m1, rp, (bd rows[i]).mono q2 (fun _ en2 q3 w2 σ2 _ x2 m2 _ _ => ?_) fun _ _ z => z⟩
    have x12 := (x1.tr gr.ext).tr x2
    refine ⟨pv', w2, en2, rfl, m2, mb.mono q3 (fun f en3 q4 => ?_) fun _ _ z => z⟩
    cases f with
    | nx => exact fun w3 σ3 x3 m3 => ⟨w3, en3, rfl, x12.tr x3, m3, q4⟩
    | ct => exact fun w3 σ3 x3 m3 => ⟨w3, en3, rfl, x12.tr x3, m3, q4⟩
    | bk =>
      intro w3 σ3 x3 m3
      obtain ⟨en4, m4, q5⟩ := hun (f := pure Flw.nx) m3 q4
      exact q5 w3 σ3 ((x0.tr x12).tr x3) m4
    | rt s =>
      intro w3 σ3 v O x3 m3 r t n
      obtain ⟨en4, m4, q5⟩ := hun (f := pure (Flw.rt s)) m3 q4
      exact q5 w3 σ3 v O ((x0.tr x12).tr x3) m4 r t (New.tr (x0.tr x12) n)
  · have e : i = rows.length := by omega
    subst e
    refine .inl ?_
    rw [List.drop_length] at q1
    obtain ⟨hc, q2⟩ := hchk (f := un >>= fun _ => pure Flw.nx) x1 m1 q1
    obtain ⟨en4, m4, q5⟩ := hun (f := pure Flw.nx) m1 q2
    exact ⟨sr.stop pv' w1 σ1 en1 m1 hc, q5 w1 σ1 (x0.tr x1) m4⟩
theorem ps_for' (hp : PassesOwn (model X.prog X.w) X.A X.env X.xe) (hc : X.calm = true) (hi : PI X tg iter (rIt mi)) (hg : PG X tg (rG is bd)) (hb : PSs X bs (rS mb)) (hs : ∀ x, foldedSetIterable iter X.env x = pure x) :
    PS X (.For tg iter bs [] pos) (rS (forM mi bd mb)) := psI (ps_for hp hc hi hg hb hs) fun E σ H ⟨pv, w, en, e, m0, q⟩ => by
  subst e
  refine ⟨pv, w, en, rfl, m0, mi.mono q (fun r en1 q1 w1 J x1 m1 sr => ?_) fun _ _ z => z⟩
  obtain ⟨src, xs⟩ := r
  cases src with
  | none =>
    refine for_core (un := pure ()) (chk := pure ()) sr x1 m1 (fun {w' σ' en' α f K} x m h => ⟨KpF.ext (KpF.refl w1) m1.ok x m1.ok.fo, h⟩) (fun {w' σ' en' α f K} m h => ⟨en', m, h⟩) (fun {en' α f K} h => ⟨en', fun _ _ z => z, h⟩) q1
  | some id =>
    obtain ⟨i, d⟩ := id
    have q2 : (match en1[i]? with | some ⟨p, o⟩ => ((forGo (samP i d) bd mb xs >>= fun f => unpM i p >>= fun _ => pure f).run (en1.set i ⟨true, o⟩) (SK pv w E) noX) | none => False) := q1
    split at q2
    · rename_i p o e1
      -- the slot's value
      cases o with
      | none =>
        -- nothing stands there: the first look fails
        exfalso
        have hi : i < en1.length := (List.getElem?_eq_some_iff.mp e1).1
        cases xs with
        | nil =>
          have q3 : (en1.set i (⟨true, none⟩ : Slt))[i]? = some (⟨true, some ⟨.top, d⟩⟩ : Slt) := q2.1
          rw [List.getElem?_set_self hi] at q3
          cases q3
        | cons y ys =>
          have q3 : (en1.set i (⟨true, none⟩ : Slt))[i]? = some (⟨true, some ⟨.top, d⟩⟩ : Slt) := q2.1
          rw [List.getElem?_set_self hi] at q3
          cases q3
      | some s =>
        obtain ⟨v, O, hv, _, _⟩ := m1.at_ i s p e1
        have m2 : Mt (fun j => if j = i then v else pv j) w1 σ (en1.set i ⟨true, some s⟩) := m1.pv e1 (fun j hj => if_neg hj) fun _ => by rw [if_pos rfl]; exact hv
        have hunS : ∀ {en' : En} {α : Type} {f : M α} {K : α → En → Prop}, (unpM i p >>= fun _ => f).run en' K noX → ∃ en2, (∀ w' σ', Mt (fun j => if j = i then v else pv j) w' σ' en' → Mt pv w' σ' en2) ∧ f.run en2 K noX := fun {en' α f K} h => by
          have h' : (match en'[i]? with | some ⟨true, o⟩ => f.run (en'.set i ⟨p, o⟩) K noX | _ => False) := h
          split at h'
          · rename_i o e3
            refine ⟨_, fun w' σ' m => m.pv e3 (fun j hj => (if_neg hj).symm) fun hp => ?_, h'⟩
            have z := m.pin i o e3
            rw [if_pos rfl] at z
            subst hp
            have z2 := m1.pin i _ e1
            rw [hv] at z2
            rw [z, Option.some.inj z2]
          · exact h'.elim
        refine for_core (pv' := fun j => if j = i then v else pv j) (C := Cof w1 σ ⟨some (i, d), xs⟩) (chk := samP i d) (un := unpM i p) sr x1 m2 (fun {w' σ' en' α f K} x m h => ⟨⟨⟨true, h.1⟩, ?_⟩, h.2⟩) (fun {w' σ' en' α f K} m h => ?_) hunS q2
        · have z := m.pin i _ h.1
          rw [if_pos rfl] at z
          rw [z, hv]
        · obtain ⟨en2, h1, h2⟩ := hunS h
          exact ⟨en2, h1 _ _ m, h2⟩
    · exact q2.elim
end
end Rf
end
section
set_option Elab.async false
set_option linter.all false
set_option maxRecDepth 100000
set_option maxHeartbeats 4000000
set_option autoImplicit false
/-! Rf17: list comprehensions. -/
namespace Rf
open PySem PySem.Spec L2

/-- a block's own names are empty -/
def wipe1 (i : Nat) : M Unit := ⟨fun e k _ => match e[i]? with
  | some ⟨false, none⟩ => k () (e.set i ⟨false, none⟩)
  | some ⟨false, some ⟨.fz, _⟩⟩ => k () (e.set i ⟨false, none⟩)
  | _ => False, fun {s k k' x x'} h f _ => by
    revert h
    split
    · exact f _ _
    · exact f _ _
    · exact id⟩
def wipeM : List Nat → M Unit
  | [] => pure ()
  | i :: r => do
    wipeM r
    wipe1 i
def restEn (e0 : En) (vs : List Nat) (e : En) : En := e.mapIdx fun j s => if j ∈ vs then (e0[j]?).getD s else s
/-- .. and stand again as they stood -/
def restM (e0 : En) (vs : List Nat) : M Unit := ⟨fun e k _ => k () (restEn e0 vs e), fun h f _ => f _ _ h⟩
def lcGo (vs : List Nat) (chk : M Unit) (bd : D → M Unit) (ts : M Bool) (me : M Opd) : List D → M (List D)
  | [] => do
    wipeM vs
    chk
    pure []
  | x :: xs => do
    wipeM vs
    chk
    bd x
    let b ← ts
    match b with
    | true => do
      let o ← me
      let d ← take o
      let r ← lcGo vs chk bd ts me xs
      pure (d :: r)
    | false => lcGo vs chk bd ts me xs
def lcM (vs : List Nat) (mi : M Rw) (bd : D → M Unit) (ts : M Bool) (me : M Opd) : M (List D) := do
  let r ← mi
  M.assert (r.xs.length ≤ sizeLine)
  let e0 ← M.get
  let ds ← lcGo vs (same r) bd ts me r.xs
  restM e0 vs
  pure ds
theorem wipe_get (σ : L2.St) (j : Nat) : ∀ vs : List Nat, (wipe σ vs)[j]? = if j ∈ vs ∧ j < σ.length then some none else σ[j]?
  | [] => by simp [wipe]
  | v :: vs => by
    have ih := wipe_get σ j vs
    unfold wipe
    by_cases h : j = v
    · subst h
      by_cases hl : j < σ.length
      · rw [List.getElem?_set_self (by rw [wipe_length]; exact hl), if_pos ⟨by simp, hl⟩]
      · rw [List.getElem?_eq_none (by simp [wipe_length]; omega), if_neg (fun z => hl z.2), List.getElem?_eq_none (by omega)]
    · rw [List.getElem?_set_ne (Ne.symm h), ih]
      simp [h]
theorem wipe_eq {σ σ2 : L2.St} {is vs : List Nat} (hl : σ2.length = (wipe σ vs).length) (hs : ∀ j, j ∉ is → σ2[j]? = (wipe σ vs)[j]?) (hi : ∀ j ∈ is, j ∈ vs) : wipe σ2 vs = wipe σ vs := by
  refine List.ext_getElem? fun j => ?_
  rw [wipe_length] at hl
  rw [wipe_get, wipe_get, hl]
  by_cases h : j ∈ vs ∧ j < σ.length
  · rw [if_pos h, if_pos h]
  · rw [if_neg h, if_neg h]
    by_cases hj : j ∈ is
    · have hn : ¬ j < σ.length := fun z => h ⟨hi j hj, z⟩
      rw [List.getElem?_eq_none (by omega), List.getElem?_eq_none (by omega)]
    · rw [hs j hj, wipe_get, if_neg h]
theorem wipe_run {pv : Nat → V} {w : Wd} {σ : L2.St} : ∀ {vs : List Nat} {en : En} {α : Type} {f : M α} {K : α → En → Prop}, Mt pv w σ en → (wipeM vs >>= fun _ => f).run en K noX →
    ∃ en', Mt pv w (wipe σ vs) en' ∧ (∀ i ∈ vs, en'[i]? = some (⟨false, none⟩ : Slt)) ∧ (∀ i ∈ vs, en[i]? = some (⟨false, none⟩ : Slt) ∨ ∃ d, en[i]? = some (⟨false, some ⟨.fz, d⟩⟩ : Slt)) ∧ (∀ j, j ∉ vs → en'[j]? = en[j]?) ∧ f.run en' K noX := by
  intro vs
  induction vs with
  | nil => intro en α f K m q; exact ⟨en, m, by simp, by simp, fun _ _ => rfl, q⟩
  | cons i r ih =>
    intro en α f K m q
    obtain ⟨e1, m1, h1, h2, h3, q1⟩ := ih (f := wipe1 i >>= fun _ => f) m q
    have q2 : (match e1[i]? with
      | some ⟨false, none⟩ => f.run (e1.set i ⟨false, none⟩) K noX
      | some ⟨false, some ⟨.fz, _⟩⟩ => f.run (e1.set i ⟨false, none⟩) K noX
      | _ => False) := by
      revert q1
      show (match e1[i]? with | some ⟨false, none⟩ => _ | some ⟨false, some ⟨.fz, _⟩⟩ => _ | _ => False) → _
      split <;> exact id
    have fin : ∀ {o : Option Sl}, e1[i]? = some (⟨false, o⟩ : Slt) → w.Os[i]? = some [] → f.run (e1.set i ⟨false, none⟩) K noX → (e1[i]? = some (⟨false, none⟩ : Slt) ∨ ∃ d, e1[i]? = some (⟨false, some ⟨.fz, d⟩⟩ : Slt)) →
        ∃ en', Mt pv w (wipe σ (i :: r)) en' ∧ (∀ j ∈ i :: r, en'[j]? = some (⟨false, none⟩ : Slt)) ∧ (∀ j ∈ i :: r, en[j]? = some (⟨false, none⟩ : Slt) ∨ ∃ d, en[j]? = some (⟨false, some ⟨.fz, d⟩⟩ : Slt)) ∧ (∀ j, j ∉ i :: r → en'[j]? = en[j]?) ∧ f.run en' K noX := fun {o} e eO q hh => by
      have hi : i < e1.length := (List.getElem?_eq_some_iff.mp e).1
      refine ⟨e1.set i ⟨false, none⟩, ?_, fun j hj => ?_, fun j hj => ?_, fun j hj => ?_, q⟩
      · refine m1.slot (O' := []) e eO ?_ m1.ok (fun b hb => ⟨hb, rfl⟩) (fun _ _ _ => rfl) (by show ((wipe σ r).set i none).length = (wipe σ r).length; simp) (fun j hj => by show ((wipe σ r).set i none)[j]? = (wipe σ r)[j]?; exact List.getElem?_set_ne (Ne.symm hj)) (fun _ _ => rfl) (fun z => by cases z) rfl
        refine List.ext_getElem? fun j => ?_
        by_cases hj : j = i
        · subst hj
          rw [List.getElem?_set_self (List.getElem?_eq_some_iff.mp eO).1, eO]
        · rw [List.getElem?_set_ne (Ne.symm hj)]
      · by_cases hji : j = i
        · subst hji
          exact List.getElem?_set_self hi
        · rw [List.getElem?_set_ne (Ne.symm hji)]
          exact h1 j (by simpa [hji] using hj)
      · by_cases hjr : j ∈ r
        · exact h2 j hjr
        · have hji : j = i := by simpa [hjr] using hj
          subst hji
          rw [← h3 j hjr]
          exact hh
      · simp only [List.mem_cons, not_or] at hj
        rw [List.getElem?_set_ne (Ne.symm hj.1)]
        exact h3 j hj.2
    split at q2
    · rename_i e
      exact fin e (m1.no i _ e) q2 (.inl e)
    · rename_i d e
      obtain ⟨v, O, a1, a2, a3⟩ := m1.at_ i _ _ e
      have : O = [] := a3.1
      subst this
      exact fin e a2 q2 (.inr ⟨d, e⟩)
    · exact q2.elim
theorem rest_mt {pv : Nat → V} {w1 w' : Wd} {σ : L2.St} {e0 enW : En} {vs : List Nat} (m0 : Mt pv w1 σ e0) (x : Ext w1.o w1 w') (m : Mt pv w' (wipe σ vs) enW) (hW : ∀ i ∈ vs, enW[i]? = some (⟨false, none⟩ : Slt))
    (h0 : ∀ i ∈ vs, e0[i]? = some (⟨false, none⟩ : Slt) ∨ ∃ d, e0[i]? = some (⟨false, some ⟨.fz, d⟩⟩ : Slt)) : Mt pv w' σ (restEn e0 vs enW) := by
  have le : enW.length = e0.length := by rw [← m.l1, wipe_length, m0.l1]
  have g : ∀ j, (restEn e0 vs enW)[j]? = if j ∈ vs then e0[j]? else enW[j]? := fun j => by
    unfold restEn
    rw [List.getElem?_mapIdx]
    by_cases hj : j < enW.length
    · rw [List.getElem?_eq_getElem hj, List.getElem?_eq_getElem (by rw [← le]; exact hj)]
      by_cases hv : j ∈ vs <;> simp [hv]
    · rw [List.getElem?_eq_none (by omega), List.getElem?_eq_none (by omega)]
      by_cases hv : j ∈ vs <;> simp [hv]
  refine ⟨m.ok, ?_, ?_, fun j s p e => ?_, fun j p e => ?_, fun j o e => ?_⟩
  · show σ.length = (List.mapIdx _ enW).length
    rw [List.length_mapIdx, ← m.l1, wipe_length]
  · show w'.Os.length = (List.mapIdx _ enW).length
    rw [List.length_mapIdx, m.l2]
  · rw [g] at e
    by_cases hv : j ∈ vs
    · rw [if_pos hv] at e
      obtain ⟨v, O, a1, a2, a3⟩ := m0.at_ j s p e
      rcases h0 j hv with z | ⟨d, z⟩
      · rw [z] at e; cases e
      · rw [z] at e
        cases e
        exact ⟨v, [], a1, m.no j _ (hW j hv), rfl, a3.2.mono fun b hb => ⟨x.sub b hb, x.fr b (m0.ok.fh b hb) (m0.ok.fo b hb)⟩⟩
    · rw [if_neg hv] at e
      obtain ⟨v, O, a1, a2, a3⟩ := m.at_ j s p e
      exact ⟨v, O, (wipe_some a1).1, a2, a3⟩
  · rw [g] at e
    by_cases hv : j ∈ vs
    · exact m.no j _ (hW j hv)
    · rw [if_neg hv] at e
      exact m.no j p e
  · rw [g] at e
    by_cases hv : j ∈ vs
    · rw [if_pos hv] at e
      rcases h0 j hv with z | ⟨d, z⟩
      · rw [z] at e; cases e
      · rw [z] at e; cases e
    · rw [if_neg hv] at e
      exact (wipe_some (m.pin j o e)).1
section
variable {mi : M Rw} {is vs : List Nat} {bd : D → M Unit} {ts : M Bool} {me : M Opd}
theorem lc_rd {σ : L2.St} {H : Hp} {Q : VK} (hiv : ∀ j ∈ is, j ∈ vs) (h : rd (do let ds ← lcM vs mi bd ts me; newV (.list ds)) σ H Q) : tLc (rIt mi) (rG is bd) (rdT ts) (rd (me >>= keep)) vs σ H Q := by
  obtain ⟨pv, w, en, rfl, m0, q⟩ := h
  refine ⟨pv, w, en, rfl, m0, mi.mono q (fun r en1 q1 w1 J x1 m1 sr L0 hD => ?_) fun _ _ z => z⟩
  obtain ⟨hz, q1⟩ := q1
  have q1 : (lcGo vs (same r) bd ts me r.xs >>= fun ds => restM en1 vs >>= fun _ => newV (.list ds)).run en1 (fun o en' => ∀ w' v O, Fi1 pv w σ en' w' v o O → Q v w'.H) noX := q1
  have upm : ∀ {w' : Wd} {acc : List V} {ds : List D}, Rps w'.F w'.H acc ds → ¬ w'.F L0 → Tp w'.F (upd w'.H L0 (.lst acc)) (.ref L0) (.list ds) [L0] := fun {w' acc ds} t nf => .lst upd_same (t.mono fun b hb => ⟨hb, upd_ne (a := L0) (b := b) fun z => nf (z ▸ hb)⟩)
  -- the new list's object is written
  have wr : ∀ {w' : Wd} {σ' : L2.St} {en' : En} {u : HO}, Ext w1.o w1 w' → Mt pv w' σ' en' → Tmp w' [L0] → Ext w1.o w1 (w'.new L0 u) ∧ Mt pv (w'.new L0 u) σ' en' ∧ Tmp (w'.new L0 u) [L0] := fun {w' σ' en' u} x m t => by
    obtain ⟨t1, t2, t3⟩ := t.at_ L0 (by simp)
    refine ⟨⟨x.sub, x.newF, fun a h1 h2 => ?_, x.os, fun a h1 => upd_kp a (x.kp a h1)⟩, ?_, ?_⟩
    · show upd w'.H L0 u a = w1.H a
      rw [upd_ne (a := L0) (b := a) fun z => h1 (z ▸ hD)]
      exact x.fr a h1 h2
    · refine ⟨⟨fun b hb => upd_kp b (m.ok.fh b hb), m.ok.fo, fun b hb => upd_kp b (m.ok.oh b hb), m.ok.nd⟩, m.l1, m.l2, fun i s p e => ?_, m.no, m.pin⟩
      obtain ⟨v, O, a1, a2, a3⟩ := m.at_ i s p e
      exact ⟨v, O, a1, a2, a3.mono (fun b hb => ⟨hb, upd_ne fun z => t2 (z ▸ hb)⟩) fun b hb => upd_ne fun z => t3 (z ▸ mem_o a2 hb)⟩
    · refine ⟨by simp, fun a ha => ?_⟩
      have e : a = L0 := by simpa using ha
      subst e
      exact ⟨by show upd w'.H a u a ≠ none; rw [upd_same]; simp, t2, t3⟩
  have T0 : Tmp (w1.new L0 (.lst [])) [L0] := by
    refine ⟨by simp, fun a ha => ?_⟩
    have e : a = L0 := by simpa using ha
    subst e
    exact ⟨by show upd w1.H a _ a ≠ none; rw [upd_same]; simp, fun f => m1.ok.fh a f hD, fun f => m1.ok.oh a f hD⟩
  have x0 : Ext w1.o w1 (w1.new L0 (.lst [])) := by
    have := new_ext (o := .lst []) [] hD
    simpa using this
  have mm0 : Mt pv (w1.new L0 (.lst [])) σ en1 := m1.grow rfl (m1.ok.new hD) (fun _ h => h) (upd_old hD)
  refine ⟨fun i m H' => m = r.xs.length - i ∧ i ≤ r.xs.length ∧ ∃ (w' : Wd) (σ' : L2.St) (en' : En) (acc : List D), w'.H = H' ∧ Ext w1.o w1 w' ∧ wipe σ' vs = wipe σ vs ∧ Mt pv w' σ' en' ∧ Tmp w' [L0] ∧ Tp w'.F w'.H (.ref L0) (.list acc) [L0] ∧ acc.length ≤ i ∧
      (i = 0 → en' = en1) ∧ (0 < i → ∀ j ∈ vs, en1[j]? = some (⟨false, none⟩ : Slt) ∨ ∃ d, en1[j]? = some (⟨false, some ⟨.fz, d⟩⟩ : Slt)) ∧
      (lcGo vs (same r) bd ts me (r.xs.drop i) >>= fun ds => restM en1 vs >>= fun _ => newV (.list (acc ++ ds))).run en' (fun o en' => ∀ w' v O, Fi1 pv w σ en' w' v o O → Q v w'.H) noX,
    ⟨r.xs.length, by simp, Nat.zero_le _, w1.new L0 (.lst []), σ, en1, [], rfl, x0, rfl, mm0, T0, .lst upd_same .nil, by simp, fun _ => rfl, fun z => absurd z (by simp), by simpa using q1⟩, ?_⟩
  rintro i m H1 ⟨rfl, hi, w2, σ2, en2, acc, rfl, x2, ew, m2, t2, tp, hl, h0, hown, q2⟩
  have own0 : (∀ j ∈ vs, en2[j]? = some (⟨false, none⟩ : Slt) ∨ ∃ d, en2[j]? = some (⟨false, some ⟨.fz, d⟩⟩ : Slt)) → ∀ j ∈ vs, en1[j]? = some (⟨false, none⟩ : Slt) ∨ ∃ d, en1[j]? = some (⟨false, some ⟨.fz, d⟩⟩ : Slt) := fun z => by
    by_cases hi0 : i = 0
    · rw [← h0 hi0]
      exact z
    · exact hown (by omega)
  have cof : ∀ {en3 : En}, Mt pv w2 (wipe σ vs) en3 → (∀ j ∈ vs, en3[j]? = some (⟨false, none⟩ : Slt)) → ∀ {α : Type} {f : M α} {K : α → En → Prop}, (same r >>= fun _ => f).run en3 K noX → Cof w1 σ r w2 (wipe σ vs) en3 ∧ f.run en3 K noX := fun {en3} m3 hn {α f K} z => by
    obtain ⟨z1, z2⟩ := z
    refine ⟨?_, z2⟩
    obtain ⟨src, xs⟩ := r
    cases src with
    | none => exact KpF.ext (KpF.refl w1) m1.ok x2 m1.ok.fo
    | some id =>
      obtain ⟨k, d⟩ := id
      obtain ⟨p, e⟩ := z1
      have hk : k ∉ vs := fun z => by
        rw [hn k z] at e
        cases e
      exact ⟨⟨p, e⟩, by rw [wipe_get, if_neg fun z => hk z.1]⟩
  by_cases hlt : i < r.xs.length
  · refine .inr ?_
    rw [List.drop_eq_getElem_cons hlt] at q2
    obtain ⟨en3, m3, hn, ho, _, q3⟩ := wipe_run (f := same r >>= fun _ => bd r.xs[i] >>= fun _ => ts >>= fun b => (match b with
      | true => me >>= fun o => take o >>= fun d => lcGo vs (same r) bd ts me (r.xs.drop (i + 1)) >>= fun ds => pure (d :: ds)
      | false => lcGo vs (same r) bd ts me (r.xs.drop (i + 1))) >>= fun ds => restM en1 vs >>= fun _ => newV (.list (acc ++ ds))) m2 q2
    rw [ew] at m3
    obtain ⟨hc, q4⟩ := cof m3 hn q3
    have ho1 := own0 ho
    refine ⟨sr.go pv w2 (wipe σ vs) en3 i m3 hc hlt, fun H' => ∃ (w' : Wd) (σ' : L2.St) (en' : En) (acc : List D), w'.H = H' ∧ Ext w1.o w1 w' ∧ wipe σ' vs = wipe σ vs ∧ Mt pv w' σ' en' ∧ Tmp w' [L0] ∧ Tp w'.F w'.H (.ref L0) (.list acc) [L0] ∧ acc.length ≤ i + 1 ∧
      (lcGo vs (same r) bd ts me (r.xs.drop (i + 1)) >>= fun ds => restM en1 vs >>= fun _ => newV (.list (acc ++ ds))).run en' (fun o en' => ∀ w' v O, Fi1 pv w σ en' w' v o O → Q v w'.H) noX, fun H' h => ?_, fun x H' y => ?_⟩
    · obtain ⟨w', σ', en', acc', a1, a2, a3, a4, a5, a6, a7, a8⟩ := h
      exact ⟨r.xs.length - (i + 1), by omega, rfl, hlt, w', σ', en', acc', a1, a2, a3, a4, a5, a6, a7, fun z => absurd z (by omega), fun _ => ho1, a8⟩
    · obtain ⟨d, F', hd, gr, rp⟩ := sr.yld pv w2 _ en3 i x H' m3 hc hlt y
      rw [List.getElem?_eq_getElem hlt] at hd
      have hd := Option.some.inj hd
      subst hd
      have tG : Tmp ⟨F', w2.Os, H'⟩ [L0] := t2.ext gr.ext fun a ha => (t2.at_ a ha).2.2
      have tpG : Tp F' H' (.ref L0) (.list acc) [L0] := tp.mono (fun b hb => ⟨gr.fF b hb, gr.hH b (m2.ok.fh b hb)⟩) fun b hb => gr.hH b (t2.at_ b hb).1
      refine ⟨pv, ⟨F', w2.Os, H'⟩, en3, r.xs[i], rfl, gr.mt m3, rp, (bd r.xs[i]).mono q4 (fun _ en4 q5 w4 σ4 hH x4 m4 l4 s4 => ?_) fun _ _ z => z⟩
      have ew4 : wipe σ4 vs = wipe σ vs := wipe_eq l4 s4 hiv
      refine ⟨ew4, pv, w4, en4, rfl, m4, ts.mono q5 (fun b en5 q6 w5 x5 m5 => ?_) fun _ _ z => z⟩
      have x15 : Ext w1.o w1 w5 := ((x2.tr gr.ext).tr x4).tr x5
      have t4 : Tmp w4 [L0] := tG.ext x4 fun a ha => (tG.at_ a ha).2.2
      have t5 : Tmp w5 [L0] := t4.ext x5 fun a ha => (t4.at_ a ha).2.2
      have tp4 : Tp w4.F w4.H (.ref L0) (.list acc) [L0] := tpG.mono (fun b hb => ⟨x4.sub b hb, x4.fr b ((gr.mt m3).ok.fh b hb) ((gr.mt m3).ok.fo b hb)⟩) fun b hb => x4.fr b (tG.at_ b hb).1 (tG.at_ b hb).2.2
      have tp5 : Tp w5.F w5.H (.ref L0) (.list acc) [L0] := tp4.mono (fun b hb => ⟨x5.sub b hb, x5.fr b (m4.ok.fh b hb) (m4.ok.fo b hb)⟩) fun b hb => x5.fr b (t4.at_ b hb).1 (t4.at_ b hb).2.2
      cases b with
      | false =>
        dsimp only
        rw [if_neg (by simp)]
        exact ⟨w5, σ4, en5, acc, rfl, x15, ew4, m5, t5, tp5, by omega, q6⟩
      | true =>
        dsimp only
        rw [if_pos rfl]
        have q7 : (me >>= fun o => take o >>= fun d => lcGo vs (same r) bd ts me (r.xs.drop (i + 1)) >>= fun ds => restM en1 vs >>= fun _ => newV (.list (acc ++ d :: ds))).run en5 (fun o en' => ∀ w' v O, Fi1 pv w σ en' w' v o O → Q v w'.H) noX := q6
        refine ⟨pv, w5, en5, rfl, m5, (me >>= keep).mono (k := fun o en' => ∃ d, o = val0 d ∧ (lcGo vs (same r) bd ts me (r.xs.drop (i + 1)) >>= fun ds => restM en1 vs >>= fun _ => newV (.list (acc ++ d :: ds))).run en' (fun o en' => ∀ w' v O, Fi1 pv w σ en' w' v o O → Q v w'.H) noX) (me.mono q7 (fun o en6 z => (take o).mono z (fun d en7 z => ⟨d, rfl, z⟩) fun _ _ z => z) fun _ _ z => z) (fun o en6 q8 w6 u P6 f6 => ?_) fun _ _ z => z⟩
        obtain ⟨d, rfl, q8⟩ := q8
        have x16 := x15.tr f6.x
        have t6 : Tmp w6 [L0] := t5.ext f6.x fun a ha => (t5.at_ a ha).2.2
        have tp6 : Tp w6.F w6.H (.ref L0) (.list acc) [L0] := tp5.mono (fun b hb => ⟨f6.x.sub b hb, f6.x.fr b (m5.ok.fh b hb) (m5.ok.fo b hb)⟩) fun b hb => f6.x.fr b (t5.at_ b hb).1 (t5.at_ b hb).2.2
        cases tp6 with
        | lst g t =>
          rename_i accV
          obtain ⟨x7, m7, t7⟩ := wr (u := .lst (accV ++ [u])) x16 f6.mt t6
          have hz' := t.length
          have rp7 : Tp w6.F (upd w6.H L0 (.lst (accV ++ [u]))) (.ref L0) (.list (acc ++ [d])) [L0] := upm (t.append (.cons f6.r.2 .nil)) (t6.at_ L0 (by simp)).2.1
          refine ⟨accV, g, by rw [hz']; omega, w6.new L0 (.lst (accV ++ [u])), σ4, en6, acc ++ [d], rfl, x7, ew4, m7, t7, rp7, by simp; omega, ?_⟩
          simpa using q8
  · have e : i = r.xs.length := by omega
    subst e
    refine .inl ?_
    rw [List.drop_length] at q2
    obtain ⟨en3, m3, hn, ho, _, q3⟩ := wipe_run (f := same r >>= fun _ => (pure [] : M (List D)) >>= fun ds => restM en1 vs >>= fun _ => newV (.list (acc ++ ds))) m2 q2
    rw [ew] at m3
    obtain ⟨hc, q4⟩ := cof m3 hn q3
    have ho1 := own0 ho
    refine ⟨sr.stop pv w2 _ en3 m3 hc, ?_⟩
    have mR : Mt pv w2 σ (restEn en1 vs en3) := rest_mt m1 x2 m3 hn ho1
    have q5 : ∀ w' v O, Fi1 pv w σ (restEn en1 vs en3) w' v (.val ⟨.top, .list (acc ++ [])⟩) O → Q v w'.H := q4
    rw [List.append_nil] at q5
    refine q5 w2 (.ref L0) [L0] ⟨x1.tr x2, mR, tp, t2, fun a ha => ?_⟩
    have e : a = L0 := by simpa using ha
    subst e
    refine .inr ?_
    cases e : w.H a with
    | none => rfl
    | some z => exact absurd hD (x1.kp a (by rw [e]; simp))
end
end Rf
end
section
set_option Elab.async false
set_option linter.all false
set_option maxRecDepth 100000
set_option maxHeartbeats 4000000
set_option autoImplicit false
/-! Rf18: what a def promises. -/
namespace Rf
open PySem PySem.Spec L2

/-- a def's promise where no repr is under way -/
structure FnG (P : Program) (w : World) (K : PySem.W.Frag) (mg : Str → Option Value) (base : Heap) (k : Nat) (f : Addr) (fd : FuncData) (ps : List Str) (sp : List V → Hp → VK → Prop) : Prop where
  len : ∀ vs H Q, sp vs H Q → vs.length = ps.length
  run : ∀ (A : Around) (outer : List Env) (s : Shared) (H : Hp) (args : Args) (us : List Value) (vs : List V) (Q : VK), Room k A → A.guards = some [] → Env0 P w K mg base A outer s H → BindsTo s fd args (ps.zip us) → Vals vs us → sp vs H Q →
    codeAny (model P w) A (.call (.ref f) args) (CR CX0 outer P w H s Q E0) s
theorem FnG.up {P : Program} {w : World} {K : PySem.W.Frag} {mg : Str → Option Value} {base : Heap} {j k : Nat} {f : Addr} {fd : FuncData} {ps : List Str} {sp : List V → Hp → VK → Prop} (F : FnG P w K mg base j f fd ps sp) (h : j ≤ k) : FnG P w K mg base k f fd ps sp :=
  ⟨F.len, fun A o s H a us vs Q r => F.run A o s H a us vs Q (r.mono h)⟩
/-- the context of a body -/
abbrev bodyCx (P : Program) (w : World) (K : PySem.W.Frag) (mg : Str → Option Value) (base : Heap) (N : List Str) (qual : Str) (scope : Scope) (f : Addr) (cd : Value) (A : Around) (outer : List Env) (s : Shared) (H : Hp) : Cx := (cxOf CX0 P w K mg base N qual scope f cd A outer s H E0).nox
/-- the frame entered: the guards stand -/
theorem guards_deeper (A : Around) (env : Env) : (A.deeper env).guards = A.guards := rfl
theorem FnG.of {P : Program} {w : World} {K : PySem.W.Frag} {mg : Str → Option Value} {base : Heap} {x qual : Str} {params : Arguments} {body : List Stmt} {scope : Scope} {f : Addr} {fd : FuncData} {N ps : List Str} {k : Nat} {sp : List V → Hp → VK → Prop}
    (F : FunD K x qual params body scope [] [] f fd) (S : FnScope N ps scope) (len : ∀ vs H Q, sp vs H Q → vs.length = ps.length)
    (hb : ∀ (cd : Value) (A : Around) (outer : List Env) (s : Shared) (H : Hp) (vs : List V) (Q : VK), Room k (A.deeper (PyProof.Rows.envOfC qual scope s.heap.objs.size f cd)) → A.guards = some [] → Env0 P w K mg base A outer s H → sp vs H Q →
      ∃ t, PSs (bodyCx P w K mg base N qual scope f cd A outer s H) body t ∧ t { nx := fun _ H' => Q .non H', rt := Q } (L2.start N vs) H) : FnG P w K mg base (k + 1) f fd ps sp := by
  refine ⟨len, fun A outer s H args us vs Q hr hgd e0 hbi rv hsp => ?_⟩
  obtain ⟨oc, od, dV, kV, doc, pm, an, cdv, ct, osl, efd, lk, hcd, _, _⟩ := F.ex
  subst efd
  have vl := len _ _ _ hsp
  have inK : K.In s.heap := e0.mod.kin.keeps fun b o e => (e0.bs b o e).1
  have noL : s.heap.NoLimit := e0.mod.nolimit.keeps fun b o e => (e0.bs b o e).1
  have kinds : ∀ y ∈ ps.zip us, scope.names.lookup y.1 = some .local ∨ (scope.names.lookup y.1 = some .cell ∧
      ((cellsFrom (s.heap.objs.size + 1) scope.names []).lookup y.1).isSome = true) := fun y hy => by
    have hy' : y.1 ∈ ps := by
      obtain ⟨n, v⟩ := y
      exact (List.of_mem_zip hy).1
    exact (S.par _ hy').imp id fun z => ⟨z, PySem.W.cellsFrom_some _ _ _ (.inl z)⟩
  refine codeAny_call_function hr.depth (inK _ _ lk) rfl S.co S.gen rfl
    (PySem.W.codeRec_of inK hcd) (hbi _ _ _ _ ?_)
  refine wpAny_newFunctionEnv_cells S.kind kinds fun env ee s2 ic => ?_
  subst ee
  refine ⟨noL.keeps ic.toInCall.keep, codeAny_func ?_⟩
  obtain ⟨t, ht, hq⟩ := hb cdv A outer s H vs Q (hr.deeper _) hgd e0 hsp
  have I : Inv (cxOf CX0 P w K mg base N qual scope f cdv A outer s H E0) [] (L2.start N vs) H s2 := inv_start S hr.hd e0 vl rv ic
  have done : ∀ {σ' : L2.St} {H' : Hp} {v : V} {u : Value} {s' : Shared}, Inv (cxOf CX0 P w K mg base N qual scope f cdv A outer s H E0) [] σ' H' s' → RelV v u → Q v H' → CE outer P w H s Q u s' :=
    fun {σ' H' v u s'} J r q => ⟨v, H', J.os, J.bare, J.base, J.hok, r, q⟩
  refine wpAny_mono (ht.nox.run [] s2 _ H _ I hq) (fun fl s' hs => ?_) fun e s' hs => hs
  match fl, hs with
  | .ret u, ⟨v, σ', H', J, r, q⟩ => exact done J r q
  | .next, ⟨σ', H', J, q⟩ => exact done (v := V.non) (u := Value.none) J rfl q
  | .brk, ⟨_, _, _, q⟩ => exact q.elim
  | .cont, ⟨_, _, _, q⟩ => exact q.elim
section
variable {X : Cx} {k : Nat} {f : Addr} {fd : FuncData} {ps : List Str} {sp : List V → Hp → VK → Prop} {x : Str} {p pos : Pos} {e : Expr} {es : List Expr} {t : TA}
/-- the callee runs -/
theorem run_fnG {pins : List (Addr × Obj)} {σ : L2.St} {H : Hp} {s : Shared} {Q : VK} {args : Args} {us : List Value} {vs : List V} (F : FnG X.prog X.w X.K X.mg X.base k f fd ps sp) (hr : Room k X.A) (hgd : X.A.guards = some [])
    (I : Inv X pins σ H s) (hb : (us.length = ps.length → BindsTo s fd args (ps.zip us))) (r : Vals vs us) (h : sp vs H Q) : wpAny (model X.prog X.w) X.A (call (.ref f) args.pos args.kw) (EP X pins σ Q) X.xe s := by
  have hl : us.length = ps.length := r.length.symm.trans (F.len _ _ _ h)
  refine wpAny_call (codeAny_mono (F.run X.A X.stack s H args us vs Q hr hgd I.env0 (hb hl) r h) fun res s' hq => ?_)
  match res, hq with
  | .ok (.ret u), hq => exact I.after hq
  | .ok .next, hq => exact hq.elim
  | .ok .brk, hq => exact hq.elim
  | .ok .cont, hq => exact hq.elim
  | .error _, hq => exact hq.elim
def tCallG (sp : List V → Hp → VK → Prop) (t : TA) : TE := fun σ H Q => t σ H fun vs H1 => sp vs H1 Q
theorem pe_callG (F : FnG X.prog X.w X.K X.mg X.base k f fd ps sp) (hr : Room k X.A) (hgd : X.A.guards = some []) (hg : Gl X x) (hm : X.mg x = some (.ref f)) (hk : PySem.W.keepIn X.K (.ref f) = true) (hb : Binds X.K fd ps [])
    (ha : PA X (e :: es) t) (hdb : (x == ("__debug__" : Str)) = false) (hp : (e :: es).all plainE = true) : PE X (.Call (.Name x p) (e :: es) [] pos) (tCallG sp t) := by
  simp only [List.all_cons, Bool.and_eq_true] at hp
  refine ⟨fun pins s σ H Q I h => wpAny_Call_Name_kw (ld_glob I hg hm ?_ hdb)⟩
  refine PySem.W.callWith_K (h₀ := X.base) I.ok.mod.kin hk (thn (ha.run pos pins s σ H _ I h) ?_) (star_cons hp.1 es X.env) (star_any pos X.env hp.2)
  rintro us s1 ⟨vs, H1, I1, r, q⟩
  exact ⟨I1.kIn, run_fnG (args := ⟨us, []⟩) F hr hgd I1 (fun hl => by have := hb s1 us I1.kIn (by simpa using hl); simpa using this) r q⟩
theorem pe_callG0 (F : FnG X.prog X.w X.K X.mg X.base k f fd ps sp) (hr : Room k X.A) (hgd : X.A.guards = some []) (hg : Gl X x) (hm : X.mg x = some (.ref f)) (hk : PySem.W.keepIn X.K (.ref f) = true) (hb : Binds X.K fd ps [])
    (hdb : (x == ("__debug__" : Str)) = false) : PE X (.Call (.Name x p) [] [] pos) (tCallG sp tNil) := by
  refine ⟨fun pins s σ H Q I h => wpAny_Call_Name_kw (ld_glob I hg hm ?_ hdb)⟩
  exact PySem.W.callWith_K0 I.kIn hk (run_fnG (args := ⟨[], []⟩) (us := []) F hr hgd I (fun hl => by have := hb s [] I.kIn (by simpa using hl); simpa using this) .nil h)
end

/-! ### a def by its meaning -/
/-- what a def has left of its arguments -/
structure FinOk (w : Wd) (vs : List V) (fin : List (Option Sl)) : Prop where
  ok : w.Ok
  l : fin.length ≤ vs.length
  l2 : w.Os.length = fin.length
  at_ : ∀ (i : Nat) (s : Sl), fin[i]? = some (some s) → ∃ v O, vs[i]? = some v ∧ w.Os[i]? = some O ∧ Rel w.F w.H v s O
  no : ∀ (i : Nat), fin[i]? = some none → w.Os[i]? = some []
structure ArgOk (w : Wd) (vs : List V) (ss : List Sl) : Prop where
  ok : w.Ok
  l : vs.length = ss.length
  l2 : w.Os.length = ss.length
  at_ : ∀ (i : Nat) (s : Sl), ss[i]? = some s → ∃ v O, vs[i]? = some v ∧ w.Os[i]? = some O ∧ Rel w.F w.H v s O
abbrev noXF : List (Option Sl) → Xc → Prop := fun _ _ => False
def spF (np : Nat) (φ : Fn) (vs : List V) (H : Hp) (Q : VK) : Prop := vs.length = np ∧ ∃ (w : Wd) (ss : List Sl), w.H = H ∧ ArgOk w vs ss ∧
  φ.run ss (fun fin r => ∀ w' v O, Ext w.o w w' → FinOk w' vs fin → Rel w'.F w'.H v r O → Tmp w' O → New w.o w O → Q v w'.H) noXF
def initEn (ss : List Sl) (n : Nat) : En := ss.map (fun s => (⟨decide (s.fl = .top), some s⟩ : Slt)) ++ List.replicate (n - ss.length) ⟨false, none⟩
def finsOf (np : Nat) (en : En) : List (Option Sl) := (en.take np).map fun t => if t.pin = true then t.s else none
/-- a def's meaning from its body's: np parameters, n names -/
def fnOf (np n : Nat) (body : M Flw) : Fn := ⟨fun ss k x => ss.length = np ∧ body.run (initEn ss n) (fun fl en' => match fl with
    | .nx => k (finsOf np en') ⟨.fz, .none⟩
    | .rt s => k (finsOf np en') s
    | _ => False) (fun e en' => x (finsOf np en') e), fun {s k k' x x'} h f g => ⟨h.1, body.mono h.2 (fun fl en' => by
      cases fl with
      | nx => exact f _ _
      | rt s => exact f _ _
      | bk => exact id
      | ct => exact id) fun _ _ => g _ _⟩⟩
def lstAt {α : Type} (d : α) (l : List α) (i : Nat) : α := (l[i]?).getD d
theorem body_start {vs : List V} {ss : List Sl} {w : Wd} {N : List Str} (a : ArgOk w vs ss) (hN : ss.length ≤ N.length) :
    Mt (fun i => (vs[i]?).getD .non) ⟨w.F, w.Os ++ List.replicate (N.length - ss.length) [], w.H⟩ (L2.start N vs) (initEn ss N.length) := by
  have fl : (w.Os ++ List.replicate (N.length - ss.length) ([] : List Addr)).flatten = w.Os.flatten := by simp
  have ok' : Wd.Ok ⟨w.F, w.Os ++ List.replicate (N.length - ss.length) [], w.H⟩ := ⟨a.ok.fh, fun b hb z => a.ok.fo b hb (by unfold Wd.o at z ⊢; rw [fl] at z; exact z), fun b hb => a.ok.oh b (by unfold Wd.o at hb ⊢; rw [fl] at hb; exact hb), by unfold Wd.o; rw [fl]; exact a.ok.nd⟩
  have lv := a.l
  have gi : ∀ {i : Nat} {t : Slt}, (initEn ss N.length)[i]? = some t → (∃ s, ss[i]? = some s ∧ t = ⟨decide (s.fl = .top), some s⟩) ∨ (ss.length ≤ i ∧ t = ⟨false, none⟩) := fun {i t} h => by
    unfold initEn at h
    by_cases hi : i < ss.length
    · rw [List.getElem?_append_left (by simpa using hi), List.getElem?_map, List.getElem?_eq_getElem hi] at h
      exact .inl ⟨ss[i], List.getElem?_eq_getElem hi, (Option.some.inj h).symm⟩
    · rw [List.getElem?_append_right (by simpa using hi), List.getElem?_replicate] at h
      split at h
      · exact .inr ⟨by omega, (Option.some.inj h).symm⟩
      · cases h
  refine ⟨ok', ?_, ?_, fun i s p h => ?_, fun i p h => ?_, fun i o h => ?_⟩
  · simp [L2.start, initEn, lv]
  · simp [initEn, a.l2]
  · rcases gi h with ⟨s', e, q⟩ | ⟨hi, q⟩
    · cases q
      obtain ⟨v, O, h1, h2, h3⟩ := a.at_ i s e
      have hi : i < vs.length := (List.getElem?_eq_some_iff.mp h1).1
      have hO : i < w.Os.length := (List.getElem?_eq_some_iff.mp h2).1
      refine ⟨v, O, ?_, ?_, h3⟩
      · unfold L2.start
        rw [List.getElem?_append_left (by simpa using hi), List.getElem?_map, h1]
        rfl
      · rw [List.getElem?_append_left hO]
        exact h2
    · cases q
  · rcases gi h with ⟨s', e, q⟩ | ⟨hi, q⟩
    · cases q
    · have hl : i < (initEn ss N.length).length := (List.getElem?_eq_some_iff.mp h).1
      simp [initEn] at hl
      show (w.Os ++ List.replicate (N.length - ss.length) [])[i]? = some []
      rw [List.getElem?_append_right (by rw [a.l2]; exact hi), List.getElem?_replicate, if_pos (by rw [a.l2]; omega)]
  · rcases gi h with ⟨s', e, q⟩ | ⟨hi, q⟩
    · obtain ⟨v, O, h1, h2, h3⟩ := a.at_ i s' e
      have hi : i < vs.length := (List.getElem?_eq_some_iff.mp h1).1
      unfold L2.start
      rw [List.getElem?_append_left (by simpa using hi), List.getElem?_map, h1]
      rfl
    · cases q
theorem body_fin {pv : Nat → V} {vs : List V} {np : Nat} {w : Wd} {σ : L2.St} {en : En} (m : Mt pv w σ en) (hl : vs.length = np) (hpv : ∀ i v, vs[i]? = some v → pv i = v) :
    ∃ Os', FinOk ⟨w.F, Os', w.H⟩ vs (finsOf np en) ∧ (∀ a ∈ Os'.flatten, a ∈ w.o) := by
  have hn : min np en.length ≤ en.length := Nat.min_le_right _ _
  have hn2 : min np en.length ≤ np := Nat.min_le_left _ _
  have ef : finsOf np en = finsOf (min np en.length) en := by
    unfold finsOf
    rw [List.take_eq_take_min]
  rw [ef]
  have lf : (finsOf (min np en.length) en).length = min np en.length := by unfold finsOf; rw [List.length_map, List.length_take]; omega
  generalize min np en.length = nq at hn hn2 lf ⊢
  refine ⟨(List.range nq).map fun i => if (lstAt ⟨false, none⟩ en i).pin = true then lstAt [] w.Os i else [], ?_, ?_⟩
  · have sub : ∀ (l : List Nat), l.Nodup → (∀ i ∈ l, i < w.Os.length) → ((l.map fun i => if (lstAt (⟨false, none⟩ : Slt) en i).pin = true then lstAt [] w.Os i else []).flatten.Nodup ∧ ∀ a ∈ (l.map fun i => if (lstAt (⟨false, none⟩ : Slt) en i).pin = true then lstAt [] w.Os i else []).flatten, ∃ i ∈ l, a ∈ lstAt [] w.Os i) := by
      intro l
      induction l with
      | nil => intro _ _; exact ⟨by simp, by simp⟩
      | cons i l ih =>
        intro nd hi
        obtain ⟨h1, h2⟩ := ih (List.nodup_cons.mp nd).2 fun j hj => hi j (List.mem_cons_of_mem _ hj)
        have li : i < w.Os.length := hi i (by simp)
        have gi : w.Os[i]? = some (lstAt [] w.Os i) := by unfold lstAt; rw [List.getElem?_eq_getElem li]; rfl
        have ndi : (lstAt [] w.Os i).Nodup := fold_nd m.ok.nd gi
        refine ⟨?_, fun a ha => ?_⟩
        · rw [List.map_cons, List.flatten_cons, List.nodup_append]
          refine ⟨?_, h1, fun a ha b hb e => ?_⟩
          · split
            · exact ndi
            · exact List.nodup_nil
          · subst e
            obtain ⟨j, hj, haj⟩ := h2 a hb
            have ha' : a ∈ lstAt [] w.Os i := by
              split at ha
              · exact ha
              · cases ha
            have hne : j ≠ i := fun z => (List.nodup_cons.mp nd).1 (z ▸ hj)
            have lj : j < w.Os.length := hi j (List.mem_cons_of_mem _ hj)
            have gj : w.Os[j]? = some (lstAt [] w.Os j) := by unfold lstAt; rw [List.getElem?_eq_getElem lj]; rfl
            have q := not_mem_set_fl (O' := []) gi m.ok.nd ha' (by simp)
            refine q (List.mem_flatten.mpr ⟨lstAt [] w.Os j, List.mem_of_getElem? (i := j) ?_, haj⟩)
            rw [List.getElem?_set_ne (Ne.symm hne)]
            exact gj
        · rw [List.map_cons, List.flatten_cons] at ha
          rcases List.mem_append.mp ha with ha | ha
          · refine ⟨i, by simp, ?_⟩
            split at ha
            · exact ha
            · cases ha
          · obtain ⟨j, hj, haj⟩ := h2 a ha
            exact ⟨j, List.mem_cons_of_mem _ hj, haj⟩
    have hw : ∀ i ∈ List.range nq, i < w.Os.length := fun i hi => by rw [m.l2]; have := List.mem_range.mp hi; omega
    obtain ⟨s1, s2⟩ := sub (List.range nq) List.nodup_range hw
    have mo : ∀ a, (∃ i ∈ List.range nq, a ∈ lstAt [] w.Os i) → a ∈ w.o := fun a ⟨i, hi, ha⟩ => by
      refine List.mem_flatten.mpr ⟨lstAt [] w.Os i, List.mem_of_getElem? (i := i) ?_, ha⟩
      unfold lstAt
      rw [List.getElem?_eq_getElem (hw i hi)]
      rfl
    have fg : ∀ i, i < nq → (finsOf nq en)[i]? = some (if (lstAt (⟨false, none⟩ : Slt) en i).pin = true then (lstAt (⟨false, none⟩ : Slt) en i).s else none) := fun i hi => by
      unfold finsOf lstAt
      rw [List.getElem?_map, List.getElem?_take, if_pos hi, List.getElem?_eq_getElem (by omega)]
      rfl
    refine ⟨⟨m.ok.fh, fun b hb z => m.ok.fo b hb (mo b (s2 b z)), fun b hb => m.ok.oh b (mo b (s2 b hb)), s1⟩, ?_, by simp [lf], fun i s h => ?_, fun i h => ?_⟩
    · rw [lf, hl]
      exact hn2
    · have hi : i < nq := by
        have := (List.getElem?_eq_some_iff.mp h).1
        unfold finsOf at this
        simp at this
        omega
      rw [fg i hi] at h
      have hen : en[i]? = some (lstAt ⟨false, none⟩ en i) := by unfold lstAt; rw [List.getElem?_eq_getElem (by omega)]; rfl
      generalize lstAt (⟨false, none⟩ : Slt) en i = t at h hen
      obtain ⟨p, o⟩ := t
      cases p with
      | false => simp at h
      | true =>
        simp at h
        subst h
        obtain ⟨v, O, a1, a2, a3⟩ := m.at_ i s true hen
        have a4 := m.pin i _ hen
        rw [a1] at a4
        have hv : i < vs.length := by omega
        have e1 := hpv i _ (List.getElem?_eq_getElem hv)
        have e2 : v = vs[i] := by rw [← e1]; exact Option.some.inj (Option.some.inj a4)
        refine ⟨v, O, by rw [e2]; exact List.getElem?_eq_getElem hv, ?_, a3⟩
        rw [List.getElem?_map, List.getElem?_range hi]
        simp only [Option.map_some, Option.some.injEq]
        unfold lstAt
        rw [hen, a2]
        rfl
    · have hi : i < nq := by
        have := (List.getElem?_eq_some_iff.mp h).1
        unfold finsOf at this
        simp at this
        omega
      rw [fg i hi] at h
      have hen : en[i]? = some (lstAt ⟨false, none⟩ en i) := by unfold lstAt; rw [List.getElem?_eq_getElem (by omega)]; rfl
      show ((List.range nq).map fun i => if (lstAt (⟨false, none⟩ : Slt) en i).pin = true then lstAt [] w.Os i else [])[i]? = some []
      rw [List.getElem?_map, List.getElem?_range hi]
      simp only [Option.map_some, Option.some.injEq]
      generalize lstAt (⟨false, none⟩ : Slt) en i = t at h hen
      obtain ⟨p, o⟩ := t
      cases p with
      | false => simp
      | true =>
        simp at h
        subst h
        have := m.no i true hen
        simp [lstAt, this]
  · intro a ha
    obtain ⟨O, hO, ha⟩ := List.mem_flatten.mp ha
    obtain ⟨i, hi, e⟩ := List.mem_map.mp hO
    subst e
    split at ha
    · have hi := List.mem_range.mp hi
      refine List.mem_flatten.mpr ⟨lstAt [] w.Os i, List.mem_of_getElem? (i := i) ?_, ha⟩
      unfold lstAt
      rw [List.getElem?_eq_getElem (by rw [m.l2]; omega)]
      rfl
    · cases ha
/-- a def keeps the promise that its body's meaning is -/
theorem fn_ok {P : Program} {w : World} {K : PySem.W.Frag} {mg : Str → Option Value} {base : Heap} {x qual : Str} {params : Arguments} {body : List Stmt} {scope : Scope} {f : Addr} {fd : FuncData} {N ps : List Str} {k : Nat} {mb : M Flw}
    (F : FunD K x qual params body scope [] [] f fd) (S : FnScope N ps scope) (hN : ps.length ≤ N.length)
    (hb : ∀ (cd : Value) (A : Around) (outer : List Env) (s : Shared) (H : Hp), Room k (A.deeper (PyProof.Rows.envOfC qual scope s.heap.objs.size f cd)) → A.guards = some [] → PSs (bodyCx P w K mg base N qual scope f cd A outer s H) body (rS mb)) :
    FnG P w K mg base (k + 1) f fd ps (spF ps.length (fnOf ps.length N.length mb)) := by
  refine FnG.of F S (fun vs H Q h => h.1) fun cd A outer s H vs Q hr hg e0 hsp => ⟨rS mb, hb cd A outer s H hr hg, ?_⟩
  obtain ⟨hl, w0, ss, rfl, a, hs, q⟩ := hsp
  have fl : (w0.Os ++ List.replicate (N.length - ss.length) ([] : List Addr)).flatten = w0.Os.flatten := by simp
  have xb : ∀ {w' : Wd} {Os' : List (List Addr)}, Ext (w0.Os ++ List.replicate (N.length - ss.length) ([] : List Addr)).flatten ⟨w0.F, w0.Os ++ List.replicate (N.length - ss.length) [], w0.H⟩ w' → (∀ a ∈ Os'.flatten, a ∈ w'.o) → Ext w0.o w0 ⟨w'.F, Os', w'.H⟩ := fun {w' Os'} x hO => by
    rw [fl] at x
    exact ⟨x.sub, x.newF, x.fr, fun b hb => x.os b (hO b hb), x.kp⟩
  have hpv : ∀ (i : Nat) (v : V), vs[i]? = some v → (vs[i]?).getD V.non = v := fun i v h => by rw [h]; rfl
  refine ⟨fun i => (vs[i]?).getD .non, ⟨w0.F, w0.Os ++ List.replicate (N.length - ss.length) [], w0.H⟩, initEn ss N.length, rfl, body_start a (by rw [hs]; exact hN), mb.mono q (fun r en' q => ?_) fun _ _ z => z⟩
  cases r with
  | nx =>
    intro w' σ' x m
    obtain ⟨Os', fo, mo⟩ := body_fin m hl hpv
    exact q ⟨w'.F, Os', w'.H⟩ .non [] (xb x mo) fo ⟨rfl, .non⟩ (Tmp.nil _) fun _ h => by cases h
  | bk => exact q.elim
  | ct => exact q.elim
  | rt s =>
    intro w' σ' v O x m r t n
    obtain ⟨Os', fo, mo⟩ := body_fin m hl hpv
    refine q ⟨w'.F, Os', w'.H⟩ v O (xb x mo) fo r ⟨t.nd, fun b hb => ⟨(t.at_ b hb).1, (t.at_ b hb).2.1, fun z => (t.at_ b hb).2.2 (mo b z)⟩⟩ fun b hb => ?_
    have := n b hb
    unfold Wd.o at this ⊢
    rw [fl] at this
    exact this
end Rf
end
section
set_option Elab.async false
set_option linter.all false
set_option maxRecDepth 100000
set_option maxHeartbeats 4000000
set_option autoImplicit false
/-! Rf19: a def's call. -/
namespace Rf
open PySem PySem.Spec L2

/-- a row of arguments, laid out of the slots -/
structure Ld (pv : Nat → V) (w wl : Wd) (σ : L2.St) (en' : En) (vs : List V) (os : List Opd) (ss : List Sl) (Qs : List (List Addr)) : Prop where
  mt : Mt pv wl σ en'
  eF : wl.F = w.F
  eH : wl.H = w.H
  l1 : vs.length = ss.length
  l2 : Qs.length = ss.length
  l3 : os.length = ss.length
  r : ∀ (i : Nat) (v : V) (s : Sl) (P : List Addr), vs[i]? = some v → ss[i]? = some s → Qs[i]? = some P → Rel w.F w.H v s P
  t : Tmp wl Qs.flatten
  so : ∀ a ∈ wl.o, a ∈ w.o
theorem load_run {pv : Nat → V} {σ : L2.St} : ∀ {vs : List V} {os : List Opd} {Ps : List (List Addr)} {w : Wd} {en en' : En} {ss : List Sl}, Have pv w σ en vs os Ps → loadArgs os en = some (ss, en') →
    ∃ wl Qs, Ld pv w wl σ en' vs os ss Qs ∧ (∀ a ∈ Qs.flatten, a ∈ w.o ∨ a ∈ Ps.flatten) ∧ (∀ a ∈ wl.o, a ∉ Ps.flatten) := by
  intro vs
  induction vs with
  | nil =>
    intro os Ps w en en' ss h e
    cases os with
    | cons o os => have := h.l1; simp at this
    | nil =>
      cases e
      exact ⟨w, [], ⟨h.mt, rfl, rfl, rfl, rfl, rfl, fun i v s P a => by simp at a, Tmp.nil _, fun _ z => z⟩, by simp, fun a ha z => (h.t.at_ a z).2.2 ha⟩
  | cons v vs ih =>
    intro os Ps w en en' ss h e
    cases os with
    | nil => have := h.l1; simp at this
    | cons o os =>
      cases Ps with
      | nil => have := h.l2; simp at this
      | cons P Ps =>
        have r0 := h.r 0 v o P rfl rfl rfl
        have tp := h.t
        rw [List.flatten_cons] at tp
        have ndP := (List.nodup_append.mp tp.nd)
        cases o with
        | val s =>
          simp only [loadArgs] at e
          split at e
          · rename_i ss' e1 el
            cases e
            have h' : Have pv w σ en vs os Ps := ⟨h.mt, by simpa using h.l1, by simpa using h.l2, fun i v o P h1 h2 h3 => h.r (i + 1) v o P (by simpa using h1) (by simpa using h2) (by simpa using h3), ⟨ndP.2.1, fun a ha => tp.at_ a (List.mem_append_right _ ha)⟩⟩
            obtain ⟨wl, Qs, L, h1, h2⟩ := ih h' el
            have tP : Tmp wl P := ⟨ndP.1, fun a ha => by
              obtain ⟨a1, a2, a3⟩ := tp.at_ a (List.mem_append_left _ ha)
              exact ⟨by rw [L.eH]; exact a1, by rw [L.eF]; exact a2, fun z => a3 (L.so a z)⟩⟩
            have dis : ∀ a ∈ P, a ∉ Qs.flatten := fun a ha z => by
              rcases h1 a z with q | q
              · exact (tp.at_ a (List.mem_append_left _ ha)).2.2 q
              · exact ndP.2.2 a ha a q rfl
            refine ⟨wl, P :: Qs, ⟨L.mt, L.eF, L.eH, by simp [L.l1], by simp [L.l2], by simp [L.l3], fun i v' s' P' g1 g2 g3 => ?_, ⟨?_, fun a ha => ?_⟩, L.so⟩, fun a ha => ?_, fun a ha z => ?_⟩
            · cases i with
              | zero =>
                simp only [List.getElem?_cons_zero, Option.some.injEq] at g1 g2 g3
                subst g1 g2 g3
                exact r0
              | succ i => exact L.r i v' s' P' (by simpa using g1) (by simpa using g2) (by simpa using g3)
            · rw [List.flatten_cons, List.nodup_append]
              exact ⟨ndP.1, L.t.nd, fun a ha b hb e => dis a ha (e ▸ hb)⟩
            · rw [List.flatten_cons] at ha
              exact (List.mem_append.mp ha).elim (tP.at_ a) (L.t.at_ a)
            · rw [List.flatten_cons] at ha ⊢
              rcases List.mem_append.mp ha with q | q
              · exact .inr (List.mem_append_left _ q)
              · exact (h1 a q).imp id fun z => List.mem_append_right _ z
            · rw [List.flatten_cons] at z
              rcases List.mem_append.mp z with q | q
              · exact (tP.at_ a q).2.2 ha
              · exact h2 a ha q
          · cases e
        | slot i =>
          obtain ⟨eP, hv⟩ := r0
          subst eP
          simp only [loadArgs] at e
          split at e
          · rename_i s eg
            obtain ⟨p, e1⟩ := getSl_some eg
            split at e
            · rename_i ss' en2 el
              cases e
              rw [putSl_eq e1] at el
              obtain ⟨v', O, a1, a2, a3, m2, t2, x2, n2⟩ := h.mt.leave e1
              rw [hv] at a1
              cases a1
              have dO : ∀ a ∈ O, a ∈ w.o := fun a ha => mem_o a2 ha
              have so2 : ∀ a ∈ (w.drop i []).o, a ∈ w.o := fun a ha => (mem_set_fl a2 ha).elim (fun z => by cases z) id
              have h' : Have pv (w.drop i []) σ (en.set i ⟨p, none⟩) vs os Ps := by
                refine ⟨m2, by simpa using h.l1, by simpa using h.l2, fun j v o P h1 h2 h3 => ?_, ⟨ndP.2.1, fun a ha => ?_⟩⟩
                · have q := h.r (j + 1) v o P (by simpa using h1) (by simpa using h2) (by simpa using h3)
                  cases o with
                  | val s => exact q
                  | slot l => exact q
                · obtain ⟨b1, b2, b3⟩ := tp.at_ a (List.mem_append_right _ ha)
                  exact ⟨b1, b2, fun z => b3 (so2 a z)⟩
              obtain ⟨wl, Qs, L, h1, h2⟩ := ih h' el
              have tO : Tmp wl O := ⟨t2.nd, fun a ha => by
                obtain ⟨b1, b2, b3⟩ := t2.at_ a ha
                exact ⟨by rw [L.eH]; exact b1, by rw [L.eF]; exact b2, fun z => b3 (L.so a z)⟩⟩
              have dis : ∀ a ∈ O, a ∉ Qs.flatten := fun a ha z => by
                rcases h1 a z with q | q
                · exact (t2.at_ a ha).2.2 q
                · exact (tp.at_ a (List.mem_append_right _ q)).2.2 (dO a ha)
              refine ⟨wl, O :: Qs, ⟨L.mt, L.eF, L.eH, by simp [L.l1], by simp [L.l2], by simp [L.l3], fun j v' s' P' g1 g2 g3 => ?_, ⟨?_, fun a ha => ?_⟩, fun a ha => so2 a (L.so a ha)⟩, fun a ha => ?_, fun a ha z => ?_⟩
              · cases j with
                | zero =>
                  simp only [List.getElem?_cons_zero, Option.some.injEq] at g1 g2 g3
                  subst g1 g2 g3
                  exact a3
                | succ j => exact L.r j v' s' P' (by simpa using g1) (by simpa using g2) (by simpa using g3)
              · rw [List.flatten_cons, List.nodup_append]
                exact ⟨t2.nd, L.t.nd, fun a ha b hb e => dis a ha (e ▸ hb)⟩
              · rw [List.flatten_cons] at ha
                exact (List.mem_append.mp ha).elim (tO.at_ a) (L.t.at_ a)
              · rw [List.flatten_cons] at ha ⊢
                rcases List.mem_append.mp ha with q | q
                · exact .inl (dO a q)
                · exact (h1 a q).imp (so2 a) fun z => List.mem_append_right _ z
              · rw [List.flatten_cons] at z
                rcases List.mem_append.mp z with q | q
                · cases q
                · exact h2 a ha q
            · cases e
          · cases e
/-- the arguments' slots get back what is left -/
theorem back_run {pv : Nat → V} {σ : L2.St} {F : Addr → Prop} {H : Hp} : ∀ {vs : List V} {os : List Opd} {fin : List (Option Sl)} {Rs Os : List (List Addr)} {en : En}, Mt pv ⟨F, Os, H⟩ σ en → Tmp ⟨F, Os, H⟩ Rs.flatten → vs.length = os.length → fin.length ≤ vs.length → Rs.length = fin.length →
    (∀ (i k : Nat), os[i]? = some (.slot k) → ∃ v, vs[i]? = some v ∧ σ[k]? = some (some v)) → (∀ (i : Nat) (s : Sl), fin[i]? = some (some s) → ∃ v O, vs[i]? = some v ∧ Rs[i]? = some O ∧ Rel F H v s O) → (∀ (i : Nat), fin[i]? = some none → Rs[i]? = some []) →
    ∃ Os', Mt pv ⟨F, Os', H⟩ σ (backArgs os fin en) ∧ ∀ a ∈ Os'.flatten, a ∈ Os.flatten ∨ a ∈ Rs.flatten := by
  intro vs
  induction vs with
  | nil =>
    intro os fin Rs Os en m t l1 l2 l3 sl r no
    cases os with
    | cons o os => simp at l1
    | nil =>
      refine ⟨Os, ?_, fun a h => .inl h⟩
      cases fin with
      | nil => exact m
      | cons f fin => simp at l2
  | cons v vs ih =>
    intro os fin Rs Os en m t l1 l2 l3 sl r no
    cases os with
    | nil => simp at l1
    | cons o os =>
      cases fin with
      | nil =>
        refine ⟨Os, ?_, fun a h => .inl h⟩
        cases o <;> exact m
      | cons f fin =>
        cases Rs with
        | nil => simp at l3
        | cons R Rs =>
          have nd := t.nd
          rw [List.flatten_cons, List.nodup_append] at nd
          have tR : ∀ a ∈ R, _ := fun a ha => t.at_ a (by rw [List.flatten_cons]; exact List.mem_append_left _ ha)
          have tRs : ∀ a ∈ Rs.flatten, _ := fun a ha => t.at_ a (by rw [List.flatten_cons]; exact List.mem_append_right _ ha)
          have sl' : ∀ (i k : Nat), os[i]? = some (.slot k) → ∃ v, vs[i]? = some v ∧ σ[k]? = some (some v) := fun i k h => by
            obtain ⟨v, h1, h2⟩ := sl (i + 1) k (by simpa using h)
            exact ⟨v, by simpa using h1, h2⟩
          have r' : ∀ (i : Nat) (s : Sl), fin[i]? = some (some s) → ∃ v O, vs[i]? = some v ∧ Rs[i]? = some O ∧ Rel F H v s O := fun i s h => by
            obtain ⟨v, O, h1, h2, h3⟩ := r (i + 1) s (by simpa using h)
            exact ⟨v, O, by simpa using h1, by simpa using h2, h3⟩
          have no' : ∀ (i : Nat), fin[i]? = some none → Rs[i]? = some [] := fun i h => by simpa using no (i + 1) (by simpa using h)
          cases o with
          | val s =>
            obtain ⟨Os', h1, h2⟩ := ih (os := os) (fin := fin) (Rs := Rs) m ⟨nd.2.1, tRs⟩ (by simpa using l1) (by simpa using l2) (by simpa using l3) sl' r' no'
            refine ⟨Os', h1, fun a ha => (h2 a ha).imp id fun z => ?_⟩
            rw [List.flatten_cons]
            exact List.mem_append_right _ z
          | slot k =>
            obtain ⟨v0, hv0, hv⟩ := sl 0 k rfl
            cases (Option.some.inj hv0 : v = v0)
            have lk : k < σ.length := (List.getElem?_eq_some_iff.mp hv).1
            have le : k < en.length := by rw [← m.l1]; exact lk
            obtain ⟨p, o0, e1⟩ : ∃ p o0, en[k]? = some (⟨p, o0⟩ : Slt) := ⟨en[k].pin, en[k].s, List.getElem?_eq_getElem le⟩
            have lO : k < Os.length := by have := m.l2; show k < Os.length; rw [show Os.length = en.length from this]; exact le
            have e2 : Os[k]? = some Os[k] := List.getElem?_eq_getElem lO
            have m2 : Mt pv ⟨F, Os.set k R, H⟩ σ (en.set k ⟨p, f⟩) := by
              refine m.slot (w' := ⟨F, Os.set k R, H⟩) (O' := R) e1 e2 rfl ⟨m.ok.fh, fun b hb z => ?_, fun b hb => ?_, nodup_set m.ok.nd e2 nd.1 fun b hb => .inr (tR b hb).2.2⟩ (fun b hb => ⟨hb, rfl⟩) (fun _ _ _ => rfl) rfl (fun _ _ => rfl) (fun _ _ => rfl) (fun hp => by subst hp; exact m.pin k _ e1) ?_
              · rcases mem_set_fl e2 z with q | q
                · exact (tR b q).2.1 hb
                · exact m.ok.fo b hb q
              · rcases mem_set_fl e2 hb with q | q
                · exact (tR b q).1
                · exact m.ok.oh b q
              · cases f with
                | none => exact Option.some.inj (no 0 rfl)
                | some s =>
                  obtain ⟨v', O, h1, h2, h3⟩ := r 0 s rfl
                  cases (Option.some.inj h1 : v = v')
                  cases (Option.some.inj h2 : R = O)
                  exact ⟨v, hv, h3⟩
            have t2 : Tmp ⟨F, Os.set k R, H⟩ Rs.flatten := ⟨nd.2.1, fun b hb => ⟨(tRs b hb).1, (tRs b hb).2.1, fun z => (mem_set_fl e2 z).elim (fun q => nd.2.2 b q b hb rfl) (tRs b hb).2.2⟩⟩
            obtain ⟨Os', h1, h2⟩ := ih (os := os) (fin := fin) (Rs := Rs) m2 t2 (by simpa using l1) (by simpa using l2) (by simpa using l3) sl' r' no'
            refine ⟨Os', ?_, fun a ha => ?_⟩
            · simp only [backArgs]
              rw [putSl_eq e1]
              exact h1
            · rw [List.flatten_cons]
              rcases h2 a ha with q | q
              · rcases mem_set_fl e2 q with q | q
                · exact .inr (List.mem_append_left _ q)
                · exact .inl q
              · exact .inr (List.mem_append_right _ q)
/-- a call by a def's meaning -/
theorem call_rd {np : Nat} {φ : Fn} {ms : M (List Opd)} {σ : L2.St} {H : Hp} {Q : VK} (h : rd (do let os ← ms; M.assert (os.length = np); let s ← callM φ os; pure (.val s)) σ H Q) : tCallG (spF np φ) (rds ms) σ H Q := by
  obtain ⟨pv, w, en, rfl, m0, q⟩ := h
  refine ⟨pv, w, en, rfl, m0, ms.mono q (fun os en1 q1 w1 vs Ps f => ?_) fun _ _ z => z⟩
  obtain ⟨hl, q1⟩ := q1
  have hv := f.have_
  have q2 : (match loadArgs os en1 with
    | some (ss, e') => φ.run ss (fun fin r => ∀ w' v O, Fi1 pv w σ (backArgs os fin e') w' v (.val r) O → Q v w'.H) (fun fin ex => noX ex (backArgs os fin e'))
    | none => False) := q1
  split at q2
  · rename_i ss e' el
    obtain ⟨wl, Qs, L, h1, h2⟩ := load_run hv el
    have mQ : ∀ a ∈ Qs.flatten, a ∈ w1.o ++ Ps.flatten := fun a ha => List.mem_append.mpr (h1 a ha)
    refine ⟨by rw [f.l1]; exact hl, ⟨w1.F, Qs, w1.H⟩, ss, rfl, ⟨⟨f.mt.ok.fh, fun b hb z => ?_, fun b hb => ?_, L.t.nd⟩, L.l1, L.l2, fun i s e => ?_⟩, φ.mono q2 (fun fin r k w' v O x fo rv t n => ?_) fun _ _ z => z⟩
    · have := (L.t.at_ b z).2.1
      rw [L.eF] at this
      exact this hb
    · have := (L.t.at_ b hb).1
      rw [L.eH] at this
      exact this
    · have li := (List.getElem?_eq_some_iff.mp e).1
      have e1 : vs[i]? = some (vs[i]'(by rw [L.l1]; exact li)) := List.getElem?_eq_getElem _
      have e2 : Qs[i]? = some (Qs[i]'(by rw [L.l2]; exact li)) := List.getElem?_eq_getElem _
      exact ⟨_, _, e1, e2, L.r i _ s _ e1 e e2⟩
    · -- behind the call
      have keepO : ∀ a ∈ wl.o, w'.H a = w1.H a := fun a ha => x.fr a (by have := L.mt.ok.oh a ha; rw [L.eH] at this; exact this) fun z => (L.t.at_ a z).2.2 ha
      have keepF : ∀ a, w1.F a → w'.F a ∧ w'.H a = w1.H a := fun a ha => ⟨x.sub a ha, x.fr a (f.mt.ok.fh a ha) fun z => by
        have := (L.t.at_ a z).2.1
        rw [L.eF] at this
        exact this ha⟩
      have notF : ∀ a ∈ wl.o, ¬ w'.F a := fun a ha z => by
        rcases x.newF a z with q | q | q
        · have := L.mt.ok.fo a (by rw [L.eF]; exact q)
          exact this ha
        · have := L.mt.ok.oh a ha
          rw [L.eH] at this
          exact this q
        · exact (L.t.at_ a q).2.2 ha
      have m2 : Mt pv ⟨w'.F, wl.Os, w'.H⟩ σ e' := by
        refine ⟨⟨fo.ok.fh, fun b hb z => notF b z hb, fun b hb => ?_, L.mt.ok.nd⟩, L.mt.l1, L.mt.l2, fun i s p e => ?_, L.mt.no, L.mt.pin⟩
        · show w'.H b ≠ none
          rw [keepO b hb]
          have := L.mt.ok.oh b hb
          rw [L.eH] at this
          exact this
        · obtain ⟨v', O', b1, b2, b3⟩ := L.mt.at_ i s p e
          rw [L.eF, L.eH] at b3
          exact ⟨v', O', b1, b2, b3.mono keepF fun b hb => keepO b (mem_o b2 hb)⟩
      have t2 : Tmp ⟨w'.F, wl.Os, w'.H⟩ w'.Os.flatten := ⟨fo.ok.nd, fun b hb => ⟨fo.ok.oh b hb, fun z => fo.ok.fo b z hb, fun z => by
        rcases x.os b hb with q | q
        · exact (L.t.at_ b q).2.2 z
        · have := L.mt.ok.oh b z
          rw [L.eH] at this
          exact this q⟩⟩
      have sl : ∀ (i k : Nat), os[i]? = some (.slot k) → ∃ v, vs[i]? = some v ∧ σ[k]? = some (some v) := fun i k e => by
        have li : i < os.length := (List.getElem?_eq_some_iff.mp e).1
        have lv : i < vs.length := by rw [f.l1]; exact li
        have lP : i < Ps.length := by rw [f.l2]; exact li
        exact ⟨vs[i], List.getElem?_eq_getElem lv, (f.r i _ _ _ (List.getElem?_eq_getElem lv) e (List.getElem?_eq_getElem lP)).2⟩
      obtain ⟨Os', m3, h3⟩ := back_run (vs := vs) (os := os) (fin := fin) (Rs := w'.Os) m2 t2 f.l1 fo.l fo.l2 sl fo.at_ fo.no
      · have so : ∀ a ∈ Os'.flatten, a ∈ w1.o ∨ a ∈ Ps.flatten ∨ w1.H a = none := fun a ha => by
          rcases h3 a ha with q | q
          · exact .inl (L.so a q)
          · rcases x.os a q with q | q
            · exact (h1 a q).imp id .inl
            · exact .inr (.inr q)
        have xx : Ext (w1.o ++ Ps.flatten) w1 ⟨w'.F, Os', w'.H⟩ := by
          refine ⟨x.sub, fun a ha => (x.newF a ha).imp id fun z => z.imp id (mQ a), fun a ha hn => x.fr a ha fun z => hn (mQ a z), fun a ha => ?_, x.kp⟩
          rcases so a ha with q | q | q
          · exact .inl (List.mem_append_left _ q)
          · exact .inl (List.mem_append_right _ q)
          · exact .inr q
        have tt : Tmp ⟨w'.F, Os', w'.H⟩ O := ⟨t.nd, fun b hb => ⟨(t.at_ b hb).1, (t.at_ b hb).2.1, fun z => by
          rcases h3 b z with q | q
          · rcases n b hb with q' | q'
            · exact (L.t.at_ b q').2.2 q
            · have := L.mt.ok.oh b q
              rw [L.eH] at this
              exact this q'
          · exact (t.at_ b hb).2.2 q⟩⟩
        exact k ⟨w'.F, Os', w'.H⟩ v O (Go.fi f rfl ⟨xx, m3, rv, tt, fun b hb => (n b hb).imp (mQ b) id⟩)
  · exact q2.elim
end Rf
end
section
set_option Elab.async false
set_option linter.all false
set_option maxRecDepth 100000
set_option maxHeartbeats 4000000
set_option autoImplicit false
/-! Rf20: the language and its evaluator; the wrapped rules. -/
namespace Rf
open PySem PySem.Spec L2

mutual
inductive E where
  | c (d : D)
  | var (i : Nat)
  | bin (o : Bop) (a b : E)
  | neg (a : E)
  | cmp (o : Cop) (a b : E)
  | chn (o o' : Cop) (a b c : E)
  | nt (a : E)
  | and (a b : E)
  | or (a b : E)
  | ite (t : T) (a b : E)
  | call (f np : Nat) (es : Es)
  | callk (f np : Nat) (pm : List Nat) (es : Es)
  | bi (b : Bi) (es : Es)
  | isi (t : Ty) (a : E)
  | ix (a i : E)
  | sl (a : E) (lo hi : Oe)
  | rev (a : E)
  | lst (es : Es)
  | tup (es : Es)
  | dic (ps : Pr)
  | lc (vs : List Nat) (tg : Tg) (w : Wk) (ts : Ot) (e : E)
  | app (o a : E)
  | pop (o : E)
  | join (o a : E)
  | bits (o : E)
  | nev
inductive Es where
  | nil
  | cons (e : E) (r : Es)
inductive Pr where
  | nil
  | cons (k v : E) (r : Pr)
inductive Oe where
  | no
  | some (e : E)
inductive T where
  | not (t : T)
  | and (a b : T)
  | or (a b : T)
  | cmp (o : Cop) (a b : E)
  | chn (o o' : Cop) (a b c : E)
  | e (a : E)
  | nev
inductive Ot where
  | no
  | some (t : T)
  | nev
inductive Wk where
  | e (a : E)
  | rng1 (a : E)
  | rng2 (a b : E)
  | enum (a : E)
  | zip (a b : E)
  | items (a : E)
  | nev
end
mutual
inductive S where
  | asg (j : Nat) (e : E)
  | asgIx (o i e : E)
  | expr (e : E)
  | ret (e : E)
  | retN
  | ifs (t : T) (a b : Ss)
  | for_ (tg : Tg) (w : Wk) (b : Ss)
  | whl (t : T) (b : Ss)
  | brk
  | cnt
  | pass
  | nev
inductive Ss where
  | nil
  | cons (s : S) (r : Ss)
end
def negM (m : M Opd) : M Opd := do
  let x ← m
  let d ← peek x
  match d with
  | .int i => pureV (.int (-i))
  | _ => M.fail
def callE (φ : Fn) (np : Nat) (ms : M (List Opd)) : M Opd := do
  let os ← ms
  M.assert (os.length = np)
  let s ← callM φ os
  pure (.val s)
def prm (pm : List Nat) (os : List Opd) : List Opd := pm.map fun i => (os[i]?).getD (val0 .none)
def permM (pm : List Nat) (ms : M (List Opd)) : M (List Opd) := do
  let os ← ms
  M.assert (pm.Perm (List.range os.length))
  pure (prm pm os)
def isiM (t : Ty) (m : M Opd) : M Opd := do
  let x ← m
  let d ← peek x
  pureV (.bool (tyIs t d))
def revM (m : M Opd) : M Opd := do
  let x ← m
  let d ← peek x
  match d with
  | .list ds => newV (.list ds.reverse)
  | _ => M.fail
def lstE (mk : M (List D)) : M Opd := do
  let ds ← mk
  M.assert (ds.length ≤ sizeLine)
  newV (.list ds)
def tupE (mk : M (List D)) : M Opd := do
  let ds ← mk
  M.assert (ds.length ≤ sizeLine)
  pureV (.tuple ds)
def appE (mo ma : M Opd) : M Opd := do
  let x ← mo
  lstM x
  let y ← ma
  let d ← take y
  appM x d
def popE (mo : M Opd) : M Opd := do
  let x ← mo
  lstM x
  popM x
def joinE (mo ma : M Opd) : M Opd := do
  let x ← mo
  let c ← strM x
  let y ← ma
  let d ← peek y
  joinD c d
def bitsE (mo : M Opd) : M Opd := do
  let x ← mo
  let c ← peek x
  match c with
  | .int i => pureV (.int (Builtin.Int.intBits i : Nat))
  | _ => M.fail
def consK (m : M Opd) (mk : M (List D)) : M (List D) := do
  let o ← m
  let d ← take o
  let ds ← mk
  pure (d :: ds)
def consO (m : M Opd) (ms : M (List Opd)) : M (List Opd) := do
  let o ← m
  let os ← ms
  pure (o :: os)
/-- a dict's pairs, written -/
def pairK (mk mv : M Opd) (r : M (List (D × D))) : M (List (D × D)) := do
  let a ← mk
  let k ← take a
  let b ← mv
  let v ← take b
  let l ← r
  pure ((k, v) :: l)
def dicE (m : M (List (D × D))) : M Opd := do
  let prs ← m
  M.assert (prs.length ≤ 15 ∧ ∀ p ∈ prs, keyOkD p.1 = true)
  newV (.dict (mergeD [] prs))
mutual
def ev (φ : Nat → Fn) : E → M Opd
  | .c d => pureV d
  | .var i => look i
  | .bin o a b => do let x ← ev φ a; let y ← ev φ b; bopM o x y
  | .neg a => negM (ev φ a)
  | .cmp o a b => do let x ← ev φ a; let y ← ev φ b; let r ← copB o x y; pureV (.bool r)
  | .chn o o' a b c => do let r ← chnM o o' (ev φ a) (ev φ b) (ev φ c); pureV (.bool r)
  | .nt a => do let x ← ev φ a; let b ← truM x; pureV (.bool (!b))
  | .and a b => andM (ev φ a) (ev φ b)
  | .or a b => orM (ev φ a) (ev φ b)
  | .ite t a b => do let r ← evT φ t; match r with | true => ev φ a | false => ev φ b
  | .call f np es => callE (φ f) np (evs φ es)
  | .callk f np pm es => callE (φ f) np (permM pm (evs φ es))
  | .bi b es => do let os ← evs φ es; biM b os
  | .isi t a => isiM t (ev φ a)
  | .ix a i => do let x ← ev φ a; let y ← ev φ i; ixO x y
  | .sl a lo hi => do let x ← ev φ a; let l ← evO φ lo; let h ← evO φ hi; slM x l h
  | .rev a => revM (ev φ a)
  | .lst es => lstE (evK φ es)
  | .tup es => tupE (evK φ es)
  | .dic ps => dicE (evP φ ps)
  | .lc vs tg w ts e => do let ds ← lcM vs (evW φ w) (bindT tg) (evU φ ts) (ev φ e); newV (.list ds)
  | .app o a => appE (ev φ o) (ev φ a)
  | .pop o => popE (ev φ o)
  | .join o a => joinE (ev φ o) (ev φ a)
  | .bits o => bitsE (ev φ o)
  | .nev => M.fail
def evs (φ : Nat → Fn) : Es → M (List Opd)
  | .nil => pure []
  | .cons e r => consO (ev φ e) (evs φ r)
def evK (φ : Nat → Fn) : Es → M (List D)
  | .nil => pure []
  | .cons e r => consK (ev φ e) (evK φ r)
def evP (φ : Nat → Fn) : Pr → M (List (D × D))
  | .nil => pure []
  | .cons a b r => pairK (ev φ a) (ev φ b) (evP φ r)
def evO (φ : Nat → Fn) : Oe → M (Option Int)
  | .no => pure none
  | .some e => partM (ev φ e)
def evT (φ : Nat → Fn) : T → M Bool
  | .not t => do let b ← evT φ t; pure (!b)
  | .and a b => do let r ← evT φ a; match r with | true => evT φ b | false => pure false
  | .or a b => do let r ← evT φ a; match r with | true => pure true | false => evT φ b
  | .cmp o a b => do let x ← ev φ a; let y ← ev φ b; copB o x y
  | .chn o o' a b c => chnM o o' (ev φ a) (ev φ b) (ev φ c)
  | .e a => do let x ← ev φ a; truM x
  | .nev => M.fail
def evU (φ : Nat → Fn) : Ot → M Bool
  | .no => pure true
  | .some t => evT φ t
  | .nev => M.fail
def evW (φ : Nat → Fn) : Wk → M Rw
  | .e a => do let x ← ev φ a; rowsM x
  | .rng1 a => rng1M (ev φ a)
  | .rng2 a b => rng2M (ev φ a) (ev φ b)
  | .enum a => enumM (ev φ a)
  | .zip a b => zipM (ev φ a) (ev φ b)
  | .items a => itemsM (ev φ a)
  | .nev => M.fail
end
mutual
def ex (φ : Nat → Fn) : S → M Flw
  | .asg j e => asgM j (ev φ e)
  | .asgIx o i e => asgIxM (ev φ e) (ev φ o) (ev φ i)
  | .expr e => do let _ ← ev φ e; pure .nx
  | .ret e => do let o ← ev φ e; let s ← move o; pure (.rt s)
  | .retN => pure (.rt ⟨.fz, .none⟩)
  | .ifs t a b => do let r ← evT φ t; match r with | true => exs φ a | false => exs φ b
  | .for_ tg w b => forM (evW φ w) (bindT tg) (exs φ b)
  | .whl t b => whlM (evT φ t) (exs φ b)
  | .brk => pure .bk
  | .cnt => pure .ct
  | .pass => pure .nx
  | .nev => M.fail
def exs (φ : Nat → Fn) : Ss → M Flw
  | .nil => pure .nx
  | .cons s r => seqM (ex φ s) (exs φ r)
end
end Rf
end
section
set_option Elab.async false
set_option linter.all false
set_option maxRecDepth 100000
set_option maxHeartbeats 4000000
set_option autoImplicit false
/-! Rf21: displays of dicts, calls of the text's defs, comprehensions in place. -/
namespace Rf
open PySem PySem.Spec L2

/-! ### {k: v, ..} -/
inductive Rpp (F : Addr → Prop) (H : Hp) : List (V × V) → List (D × D) → Prop
  | nil : Rpp F H [] []
  | cons {x y : V} {k v : D} {vs : List (V × V)} {ds : List (D × D)} : Rp F H x k → Rp F H y v → Rpp F H vs ds → Rpp F H ((x, y) :: vs) ((k, v) :: ds)
theorem Rpp.mono {F F' : Addr → Prop} {H H' : Hp} (h : ∀ a, F a → F' a ∧ H' a = H a) : ∀ {vs : List (V × V)} {ds : List (D × D)}, Rpp F H vs ds → Rpp F' H' vs ds
  | _, _, .nil => .nil
  | _, _, .cons a b t => .cons (a.mono h) (b.mono h) (Rpp.mono h t)
theorem keep_step {α : Type} {m : M Opd} {f : D → M α} {en : En} {K : α → En → Prop} (h : (m >>= fun o => take o >>= f).run en K noX) : (m >>= keep).run en (fun o en' => ∃ d, o = val0 d ∧ (f d).run en' K noX) noX :=
  m.mono h (fun x en2 z => (take x).mono z (fun d en3 z => ⟨d, rfl, z⟩) fun _ _ z => z) fun _ _ z => z
theorem pairs_rd : ∀ {l : List (M Opd × M Opd)} {σ : L2.St} {H : Hp} {Q : List (V × V) → Hp → Prop}, (∃ (pv : Nat → V) (w : Wd) (en : En), w.H = H ∧ Mt pv w σ en ∧
    (l.foldr (fun p r => pairK p.1 p.2 r) (pure [])).run en (fun prs en' => ∀ w' vs, Ext w.o w w' → Mt pv w' σ en' → Rpp w'.F w'.H vs prs → Q vs w'.H) noX) → tPairs (l.map fun p => (rd (p.1 >>= keep), rd (p.2 >>= keep))) σ H Q
  | [], σ, H, Q, ⟨pv, w, en, e, m0, q⟩ => by
    subst e
    exact q w [] (Ext.refl w) m0 .nil
  | (a, b) :: l, σ, H, Q, ⟨pv, w, en, e, m0, q⟩ => by
    subst e
    have q0 : (a >>= fun x => take x >>= fun k => b >>= fun y => take y >>= fun v => (l.foldr (fun p r => pairK p.1 p.2 r) (pure [])) >>= fun r => pure ((k, v) :: r)).run en (fun prs en' => ∀ w' vs, Ext w.o w w' → Mt pv w' σ en' → Rpp w'.F w'.H vs prs → Q vs w'.H) noX := q
    refine ⟨pv, w, en, rfl, m0, (a >>= keep).mono (keep_step q0) (fun x en1 q1 w1 v P f1 => ?_) fun _ _ z => z⟩
    obtain ⟨d, rfl, q1⟩ := q1
    refine ⟨pv, w1, en1, rfl, f1.mt, (b >>= keep).mono (keep_step q1) (fun y en2 q2 w2 u P2 f2 => ?_) fun _ _ z => z⟩
    obtain ⟨d2, rfl, q2⟩ := q2
    have q2 : (l.foldr (fun p r => pairK p.1 p.2 r) (pure [])).run en2 (fun prs en' => ∀ w' vs, Ext w.o w w' → Mt pv w' σ en' → Rpp w'.F w'.H vs ((d, d2) :: prs) → Q vs w'.H) noX := q2
    refine pairs_rd ⟨pv, w2, en2, rfl, f2.mt, (l.foldr (fun p r => pairK p.1 p.2 r) (pure [])).mono q2 (fun prs en3 q3 w3 vs x3 m3 r3 => ?_) fun _ _ z => z⟩
    have x13 := f2.x.tr x3
    have r1 : Rp w3.F w3.H v d := f1.r.2.mono fun c hc => ⟨x13.sub c hc, x13.fr c (f1.mt.ok.fh c hc) (f1.mt.ok.fo c hc)⟩
    have r2 : Rp w3.F w3.H u d2 := f2.r.2.mono fun c hc => ⟨x3.sub c hc, x3.fr c (f2.mt.ok.fh c hc) (f2.mt.ok.fo c hc)⟩
    exact q3 w3 ((v, u) :: vs) ((f1.x.tr f2.x).tr x3) m3 (.cons r1 r2 r3)
theorem rpp_keys {F : Addr → Prop} {H : Hp} : ∀ {vs : List (V × V)} {ds : List (D × D)}, Rpp F H vs ds → (∀ p ∈ ds, keyOkD p.1 = true) → ∃ kvs : List (Key × V), vs = kvs.map (fun kv => (kV kv.1, kv.2)) ∧ Rpk F H kvs ds
  | _, _, .nil, _ => ⟨[], rfl, .nil⟩
  | _, _, .cons (k := k) a b t, h => by
    obtain ⟨kvs, e, r⟩ := rpp_keys t fun p hp => h p (List.mem_cons_of_mem _ hp)
    obtain ⟨kk, rfl, rfl⟩ := keyOf a.vd (h (k, _) List.mem_cons_self)
    exact ⟨(kk, _) :: kvs, by rw [e]; rfl, .cons b r⟩
theorem rpk_len {F : Addr → Prop} {H : Hp} {kvs : List (Key × V)} {ds : List (D × D)} (r : Rpk F H kvs ds) : kvs.length = ds.length := r.length
/-- an object beside the world -/
theorem Tmp.fresh {w : Wd} {a : Addr} {o : HO} (ok : w.Ok) (h : w.H a = none) : Tmp (w.new a o) [a] := by
  refine ⟨by simp, fun b hb => ?_⟩
  have e : b = a := by simpa using hb
  subst e
  exact ⟨by show upd w.H b o b ≠ none; rw [upd_same]; simp, fun f => ok.fh b f h, fun f => ok.oh b f h⟩
/-- .. is written -/
theorem side_write {pv : Nat → V} {w1 w' : Wd} {σ' : L2.St} {en' : En} {a : Addr} {u : HO} (hD : w1.H a = none) (x : Ext w1.o w1 w') (m : Mt pv w' σ' en') (t : Tmp w' [a]) : Ext w1.o w1 (w'.new a u) ∧ Mt pv (w'.new a u) σ' en' ∧ Tmp (w'.new a u) [a] := by
  obtain ⟨t1, t2, t3⟩ := t.at_ a (by simp)
  refine ⟨⟨x.sub, x.newF, fun b h1 h2 => ?_, x.os, fun b h1 => upd_kp b (x.kp b h1)⟩, ?_, ?_⟩
  · show upd w'.H a u b = w1.H b
    rw [upd_ne (a := a) (b := b) fun z => h1 (z ▸ hD)]
    exact x.fr b h1 h2
  · refine ⟨⟨fun b hb => upd_kp b (m.ok.fh b hb), m.ok.fo, fun b hb => upd_kp b (m.ok.oh b hb), m.ok.nd⟩, m.l1, m.l2, fun i s p e => ?_, m.no, m.pin⟩
    obtain ⟨v, O, a1, a2, a3⟩ := m.at_ i s p e
    exact ⟨v, O, a1, a2, a3.mono (fun b hb => ⟨hb, upd_ne (a := a) (b := b) fun z => t2 (z ▸ hb)⟩) fun b hb => upd_ne (a := a) (b := b) fun z => t3 (z ▸ mem_o a2 hb)⟩
  · refine ⟨by simp, fun b hb => ?_⟩
    have e : b = a := by simpa using hb
    subst e
    exact ⟨by show upd w'.H b u b ≠ none; rw [upd_same]; simp, t2, t3⟩
section
variable {X : Cx} {pos : Pos} {keys : List (Option Expr)} {values : List Expr}
theorem pe_dic0' : PE X (.Dict [] [] pos) (rd (dicE (pure []))) := peI pe_dnewK fun σ H Q ⟨pv, w, en, e, m0, q⟩ => by
  subst e
  intro p hp
  have q1 : ∀ w' v O, Fi1 pv w σ en w' v (.val ⟨.top, .dict []⟩) O → Q v w'.H := q.2
  exact q1 _ _ _ (Go.fi (vs := []) (os := []) (Ps := []) (Fins.nil m0) rfl (Go.dic m0 [] hp (kvs := []) (by simp) .nil))
theorem pe_dic' {l : List (M Opd × M Opd)} (h : PPs X pos keys values (l.map fun p => (rd (p.1 >>= keep), rd (p.2 >>= keep)))) (hall : keys.all (·.isSome) = true) (hl : keys.length = values.length) (h0 : keys ≠ []) (h15 : keys.length ≤ 15) :
    PE X (.Dict keys values pos) (rd (dicE (l.foldr (fun p r => pairK p.1 p.2 r) (pure [])))) := peI (pe_disp h hall hl h0 h15) fun σ H Q ⟨pv, w, en, e, m0, q⟩ => by
  subst e
  intro a ha
  have t0 := Tmp.fresh (o := .dK []) m0.ok ha
  have m1 : Mt pv (w.new a (.dK [])) σ en := m0.grow rfl (m0.ok.new ha) (fun _ h => h) (upd_old ha)
  have x1 : Ext w.o w (w.new a (.dK [])) := by simpa using new_ext (o := .dK []) [] ha
  have q0 : (l.foldr (fun p r => pairK p.1 p.2 r) (pure [])).run en (fun prs en1 => (prs.length ≤ 15 ∧ ∀ p ∈ prs, keyOkD p.1 = true) ∧ ∀ w' v O, Fi1 pv w σ en1 w' v (.val ⟨.top, .dict (mergeD [] prs)⟩) O → Q v w'.H) noX := q
  refine pairs_rd ⟨pv, w.new a (.dK []), en, rfl, m1, (l.foldr (fun p r => pairK p.1 p.2 r) (pure [])).mono q0 (fun prs en1 q1 w1 vs x2 m2 r2 => ?_) fun _ _ z => z⟩
  obtain ⟨⟨z1, z2⟩, q1⟩ := q1
  obtain ⟨kvs, e, rk⟩ := rpp_keys r2 z2
  have t1 : Tmp w1 [a] := t0.ext x2 fun b hb => (t0.at_ b hb).2.2
  have hH : w1.H a = some (.dK []) := by
    rw [x2.fr a (t0.at_ a (by simp)).1 (t0.at_ a (by simp)).2.2]
    exact upd_same
  refine ⟨hH, kvs, e, by rw [rk.length]; exact z1, ?_⟩
  obtain ⟨x3, m3, t3⟩ := side_write (u := .dK (mergeK [] kvs)) ha (x1.tr x2) m2 t1
  have rk3 : Rpk w1.F (upd w1.H a (.dK (mergeK [] kvs))) (mergeK [] kvs) (mergeD [] prs) := (Rpk.merge rk .nil).mono fun b hb => ⟨hb, upd_ne (a := a) (b := b) fun z => (t1.at_ a (by simp)).2.1 (z ▸ hb)⟩
  have q2 : ∀ w' v O, Fi1 pv w σ en1 w' v (.val ⟨.top, .dict (mergeD [] prs)⟩) O → Q v w'.H := q1
  exact q2 (w1.new a (.dK (mergeK [] kvs))) (.ref a) [a] ⟨x3, m3, .dic upd_same (mergeK_keys (by simp)) rk3, t3, fun b hb => .inr ((List.mem_singleton.mp hb).symm ▸ ha)⟩
end

/-! ### the text's defs -/
structure FEnt where
  name : Str
  ps : List Str
def prmX {α : Type} (d : α) (pm : List Nat) (l : List α) : List α := pm.map fun i => (l[i]?).getD d
def KwB (K : PySem.W.Frag) (fd : FuncData) (ps ks : List Str) (pm : List Nat) : Prop := ∀ (s : Shared) (us : List Value), K.In s.heap → us.length = ks.length → BindsTo s fd ⟨[], ks.zip us⟩ (ps.zip (prmX .none pm us))
structure EntOk (X : Cx) (k : Nat) (φ : Fn) (kw : List (List Str × List Nat)) (e : FEnt) (fa : Addr) (fd : FuncData) : Prop where
  mg : X.mg e.name = some (.ref fa)
  kp : PySem.W.keepIn X.K (.ref fa) = true
  b : Binds X.K fd e.ps []
  f : FnG X.prog X.w X.K X.mg X.base k fa fd e.ps (spF e.ps.length φ)
  kw : ∀ p ∈ kw, KwB X.K fd e.ps p.1 p.2
section
variable {X : Cx} {k : Nat} {φ : Fn} {kw : List (List Str × List Nat)} {en : FEnt} {fa : Addr} {fd : FuncData} {e : Expr} {es : List Expr} {ms : M (List Opd)} {p pos : Pos}
theorem pe_def' (O : EntOk X k φ kw en fa fd) (C : Cok k X) (hg : Gl X en.name) (hdb : (en.name == ("__debug__" : Str)) = false) (ha : PA X (e :: es) (rds ms)) (hp : (e :: es).all plainE = true) :
    PE X (.Call (.Name en.name p) (e :: es) [] pos) (rd (callE φ en.ps.length ms)) := peI (pe_callG O.f C.room C.guards hg O.mg O.kp O.b ha hdb hp) fun σ H Q q => call_rd q
theorem pe_def0' (O : EntOk X k φ kw en fa fd) (C : Cok k X) (hg : Gl X en.name) (hdb : (en.name == ("__debug__" : Str)) = false) : PE X (.Call (.Name en.name p) [] [] pos) (rd (callE φ en.ps.length (pure []))) :=
  peI (pe_callG0 O.f C.room C.guards hg O.mg O.kp O.b hdb) fun σ H Q q => by
    have h : tCallG (spF en.ps.length φ) (rds (pure [])) σ H Q := call_rd q
    obtain ⟨pv, w, en0, rfl, m0, h⟩ := h
    exact h w [] [] (Fins.nil m0)
theorem vals_prm {pm : List Nat} {vs : List V} {us : List Value} (r : Vals vs us) : Vals (prmX .non pm vs) (prmX .none pm us) := by
  unfold prmX
  induction pm with
  | nil => exact .nil
  | cons i pm ih =>
    refine .cons ?_ ih
    show RelV ((vs[i]?).getD V.non) ((us[i]?).getD Value.none)
    cases h : vs[i]? with
    | none =>
      have h2 : us[i]? = none := by
        rw [List.getElem?_eq_none_iff] at h ⊢
        rw [← r.length]
        exact h
      rw [h2]
      rfl
    | some v =>
      obtain ⟨u, h2, h3⟩ := r.get h
      rw [h2]
      exact h3
theorem prm_perm {α : Type} (d : α) {pm : List Nat} {l : List α} (h : pm.Perm (List.range l.length)) : (prmX d pm l).Perm l := by
  have h1 : (prmX d pm l).Perm (prmX d (List.range l.length) l) := List.Perm.map _ h
  have h2 : prmX d (List.range l.length) l = l := by
    refine List.ext_getElem? fun i => ?_
    unfold prmX
    rw [List.getElem?_map]
    by_cases hi : i < l.length
    · rw [List.getElem?_range hi, List.getElem?_eq_getElem hi]
      simp [hi]
    · rw [List.getElem?_eq_none (by simpa using hi), List.getElem?_eq_none (by omega)]
      rfl
  rw [h2] at h1
  exact h1
theorem Fins.prm {pv : Nat → V} {w w' : Wd} {σ : L2.St} {en' : En} {vs : List V} {os : List Opd} {Ps : List (List Addr)} {pm : List Nat} (f : Fins pv w σ en' w' vs os Ps) (h : pm.Perm (List.range os.length)) :
    Fins pv w σ en' w' (prmX .non pm vs) (Rf.prm pm os) (prmX [] pm Ps) := by
  have lt : ∀ i ∈ pm, i < os.length := fun i hi => List.mem_range.mp (h.mem_iff.mp hi)
  have pp : (prmX [] pm Ps).Perm Ps := prm_perm _ (by rw [f.l2]; exact h)
  have fp : (prmX [] pm Ps).flatten.Perm Ps.flatten := pp.flatten
  refine ⟨f.x, f.mt, by simp [prmX, Rf.prm], by simp [prmX, Rf.prm], fun j v o P h1 h2 h3 => ?_, ⟨fp.nodup_iff.mpr f.t.nd, fun a ha => f.t.at_ a (fp.mem_iff.mp ha)⟩, fun a ha => f.n a (fp.mem_iff.mp ha)⟩
  unfold prmX at h1 h3
  unfold Rf.prm at h2
  rw [List.getElem?_map] at h1 h2 h3
  cases hj : pm[j]? with
  | none => rw [hj] at h1; cases h1
  | some i =>
    have li := lt i (List.mem_of_getElem? hj)
    have lv : i < vs.length := by rw [f.l1]; exact li
    have lP : i < Ps.length := by rw [f.l2]; exact li
    rw [hj] at h1 h2 h3
    simp only [Option.map_some, Option.some.injEq, List.getElem?_eq_getElem lv, List.getElem?_eq_getElem li, List.getElem?_eq_getElem lP, Option.getD_some] at h1 h2 h3
    subst h1 h2 h3
    exact f.r i _ _ _ (List.getElem?_eq_getElem lv) (List.getElem?_eq_getElem li) (List.getElem?_eq_getElem lP)
theorem pkI {X : Cx} {kws : List Keyword} {t t' : TA} (h : PK X kws t) (i : ∀ σ H Q, t' σ H Q → t σ H Q) : PK X kws t' := ⟨fun pos pins s σ H Q I q => h.run pos pins s σ H Q I (i _ _ _ q)⟩
theorem pk_nil' : PK X [] (rds (pure [])) := pkI pk_nil fun σ H Q ⟨pv, w, en, e, m0, q⟩ => by
  subst e
  exact q w [] [] (Fins.nil m0)
theorem pk_cons' {nm : Option Str} {kpos : Pos} {kws : List Keyword} {m : M Opd} (ha : PE X e (rd m)) (hr : PK X kws (rds ms)) : PK X (⟨nm, e, kpos⟩ :: kws) (rds (consO m ms)) :=
  pkI (pk_cons ha hr) fun σ H Q ⟨pv, w, en, e, m0, q⟩ => by
    subst e
    refine ⟨pv, w, en, rfl, m0, m.mono q (fun o en1 q1 w1 v O f => ?_) fun _ _ z => z⟩
    exact ⟨pv, w1, en1, rfl, f.mt, ms.mono q1 (fun os en2 q2 w2 vs Ps g => q2 w2 (v :: vs) (O :: Ps) (Fins.cons f g)) fun _ _ z => z⟩
theorem pe_defk' {kws : List Keyword} {ks : List Str} {pm : List Nat} (O : EntOk X k φ kw en fa fd) (C : Cok k X) (hg : Gl X en.name) (hdb : (en.name == ("__debug__" : Str)) = false) (hk : PK X kws (rds ms)) (hm : (ks, pm) ∈ kw)
    (hall : (backToKw pos (keywordEach kws X.env)).all (·.1.isSome) = true) (hks : (backToKw pos (keywordEach kws X.env)).filterMap (·.1) = ks) (hno : (backToKw pos (keywordEach kws X.env)).any (·.1.isNone) = false) (hlen : ks.length = en.ps.length)
    (hpm : pm.length = en.ps.length) :
    PE X (.Call (.Name en.name p) [] kws pos) (rd (callE φ en.ps.length (permM pm ms))) := by
  refine ⟨fun pins s σ H Q I q => wpAny_Call_Name_kw (ld_glob I hg O.mg ?_ hdb)⟩
  have h : tCallG (spF en.ps.length φ) (rds (permM pm ms)) σ H Q := call_rd q
  obtain ⟨pv, w, en0, rfl, m0, h⟩ := h
  have h1 : ms.run en0 (fun os en' => pm.Perm (List.range os.length) ∧ ∀ w' vs Ps, Fins pv w σ en' w' vs (prm pm os) Ps → spF en.ps.length φ vs w'.H Q) noX := h
  refine PySem.W.callWith_KW0 (h₀ := X.base) I.ok.mod.kin O.kp hall (thn (hk.run pos pins s σ w.H (fun zs H2 => zs.length = pm.length ∧ spF en.ps.length φ (prmX .non pm zs) H2 Q) I ⟨pv, w, en0, rfl, m0, ms.mono h1 (fun os en1 q1 w1 vs Ps f => ⟨?_, q1.2 w1 _ _ (f.prm q1.1)⟩) fun _ _ z => z⟩) ?_) (by show (false || _) = false; rw [hno]; rfl)
  · rw [f.l1, q1.1.length_eq, List.length_range]
  · rintro us s1 ⟨zs, H1, I1, r, hz, q1⟩
    rw [hks]
    exact ⟨I1.kIn, run_fnG (args := ⟨[], ks.zip us⟩) (us := prmX .none pm us) O.f C.room C.guards I1 (fun _ => O.kw _ hm s1 us I1.kIn (by rw [← r.length, hz, hpm, hlen])) (vals_prm r) q1⟩
end
end Rf
end
section
set_option Elab.async false
set_option linter.all false
set_option maxRecDepth 100000
set_option maxHeartbeats 4000000
set_option autoImplicit false
/-! Rf22: from the text's trees to the language. -/
namespace Rf
open PySem PySem.Spec L2

structure Cc where
  N : List Str
  sc : Scope
  cells : List Str
  T : List FEnt
  kw : List (Nat × List Str × List Nat)
  gs : List (Str × D)
  bt : List Str
def bopOf : Operator → Option Bop
  | .Add => some .add | .Sub => some .sub | .Mult => some .mul | .FloorDiv => some .fdiv | .Mod => some .mod | .Pow => some .pow
  | _ => none
def copOf : CmpOp → Cop
  | .Eq => .eq | .NotEq => .ne | .Lt => .lt | .LtE => .le | .Gt => .gt | .GtE => .ge | .In => .isin | .NotIn => .notin | .Is => .is | .IsNot => .isnot
theorem cop_of (o : CmpOp) : cmpOf (copOf o) = o := by cases o <;> rfl
theorem bop_of {o : Operator} {b : Bop} (h : bopOf o = some b) : opOf b = o := by cases o <;> cases h <;> rfl
def isSet : Expr → Bool
  | .Set _ _ _ => true
  | _ => false
theorem marks_of {op : CmpOp} {b : Expr} (h : isSet b = false) : behindInMarks op b = false := by
  cases b <;> first | rfl | (simp [isSet] at h; done)
theorem folded_of {e : Expr} (h : isSet e = false) (env : Env) (x : Value) : foldedSetIterable e env x = pure x := by
  cases e <;> first | rfl | (simp [isSet] at h; done)
def ixOf (N : List Str) (x : Str) : Option Nat := N.findIdx? (· == x)
theorem ix_of {N : List Str} {x : Str} {i : Nat} (h : ixOf N x = some i) : N[i]? = some x := by
  unfold ixOf at h
  rw [List.findIdx?_eq_some_iff_getElem] at h
  obtain ⟨hi, h1, _⟩ := h
  rw [List.getElem?_eq_getElem hi, beq_iff_eq.mp h1]
def dun (x : Str) : Bool := x == ("__debug__" : Str) || x == ("__classdict__" : Str)
def visB (sc : Scope) (x : Str) : Bool := match sc.names.lookup x with
  | some .local => true
  | some .cell => true
  | some .free => true
  | _ => false
theorem vis_of {sc : Scope} {x : Str} (h : visB sc x = true) : Vis sc x := by
  unfold visB at h
  split at h
  · rename_i e; exact .inl e
  · rename_i e; exact .inr (.inl e)
  · rename_i e; exact .inr (.inr e)
  · cases h
def glbB (sc : Scope) (x : Str) : Bool := match sc.names.lookup x with
  | some .globalImplicit => true
  | _ => false
theorem glb_of {sc : Scope} {x : Str} (h : glbB sc x = true) : sc.names.lookup x = some .globalImplicit := by
  unfold glbB at h
  split at h
  · assumption
  · cases h
/-- a name that may be stored here -/
def stB (c : Cc) (x : Str) : Bool := match c.sc.names.lookup x with
  | some .local => true
  | some .cell => c.cells.contains x
  | _ => false
def gsOf (gs : List (Str × D)) (x : Str) : Option D := gs.lookup x
theorem gs_of {gs : List (Str × D)} {x : Str} {d : D} (h : gsOf gs x = some d) : (x, d) ∈ gs := by
  unfold gsOf at h
  induction gs with
  | nil => cases h
  | cons p gs ih =>
    obtain ⟨y, e⟩ := p
    rw [List.lookup_cons] at h
    split at h
    · rename_i q
      cases h
      rw [beq_iff_eq.mp q]
      exact List.mem_cons_self
    · exact List.mem_cons_of_mem _ (ih h)
def fIx (T : List FEnt) (x : Str) : Option (Nat × FEnt) := match T.findIdx? (fun e => e.name == x) with
  | some i => match T[i]? with
    | some e => some (i, e)
    | none => none
  | none => none
theorem fIx_of {T : List FEnt} {x : Str} {i : Nat} {e : FEnt} (h : fIx T x = some (i, e)) : T[i]? = some e ∧ e.name = x := by
  unfold fIx at h
  split at h
  · rename_i j h1
    split at h
    · rename_i e' h2
      cases h
      rw [List.findIdx?_eq_some_iff_getElem] at h1
      obtain ⟨hi, h3, _⟩ := h1
      rw [List.getElem?_eq_getElem hi] at h2
      cases h2
      exact ⟨List.getElem?_eq_getElem hi, beq_iff_eq.mp h3⟩
    · cases h
  · cases h
def biTab : List (Str × Nat × Bi) := [("len", 1, .len), ("int", 1, .int1), ("str", 1, .str1), ("max", 2, .max2), ("min", 2, .min2), ("max", 1, .maxl), ("min", 1, .minl), ("sum", 1, .sum1), ("sorted", 1, .sorted), ("list", 1, .list), ("tuple", 1, .tuple), ("dict", 1, .dict),
  ("any", 1, .any), ("all", 1, .all), ("repr", 1, .repr), ("abs", 1, .abs)]
def biOf (x : Str) (n : Nat) : Option Bi := (biTab.find? fun p => p.1 == x && p.2.1 == n).map (·.2.2)
theorem bi_of {x : Str} {n : Nat} {b : Bi} (h : biOf x n = some b) : biN b = x := by
  unfold biOf at h
  obtain ⟨p, h1, h2⟩ := Option.map_eq_some_iff.mp h
  have h3 := List.find?_some h1
  have h4 := List.mem_of_find?_eq_some h1
  have tab : ∀ p ∈ biTab, biN p.2.2 = p.1 := by decide
  have h5 := tab p h4
  simp only [Bool.and_eq_true, beq_iff_eq] at h3
  rw [← h2, h5, h3.1]
def tyTab : List (Str × Ty) := [("int", .int), ("bool", .bool), ("str", .str), ("list", .list), ("tuple", .tuple), ("dict", .dict)]
def tyOf (x : Str) : Option Ty := (tyTab.find? fun p => p.1 == x).map (·.2)
theorem ty_boot : ∀ p ∈ tyTab, p.1 = (tyN p.2 : Str) ∧ bootBuiltins (tyN p.2 : Str) = some (.type (tyN p.2)) ∧ (tyN p.2 : Str) ≠ "__name__" ∧ ((tyN p.2 : Str) == ("__debug__" : Str)) = false := by
  intro p hp
  simp only [tyTab, List.mem_cons, List.not_mem_nil, or_false] at hp
  rcases hp with rfl | rfl | rfl | rfl | rfl | rfl <;> exact ⟨by decide, by decide +kernel, by decide, by decide⟩
theorem ty_of {x : Str} {t : Ty} (h : tyOf x = some t) : x = (tyN t : Str) ∧ bootBuiltins (tyN t : Str) = some (.type (tyN t)) ∧ (tyN t : Str) ≠ "__name__" ∧ ((tyN t : Str) == ("__debug__" : Str)) = false := by
  unfold tyOf at h
  obtain ⟨p, h1, h2⟩ := Option.map_eq_some_iff.mp h
  have h3 := List.find?_some h1
  have h4 := List.mem_of_find?_eq_some h1
  have h5 := ty_boot p h4
  simp only [beq_iff_eq] at h3
  rw [← h2, ← h3]
  exact h5
/-- a block's own names with their places -/
def ownOf (N : List Str) (scope : Scope) : List (Str × Nat) := scope.names.filterMap fun y => match y.2, ixOf N y.1 with
  | .local, some i => some (y.1, i)
  | .cell, some i => some (y.1, i)
  | _, _ => none
def blkB (sc scope : Scope) : Bool := scope.kind == .function && scope.names.all fun y => scope.names.lookup y.1 == some y.2 && (y.2 != .free || (sc.names.lookup y.1 == some .cell || sc.names.lookup y.1 == some .free))
theorem ixOf_none {N : List Str} {x : Str} (h : ixOf N x = none) : x ∉ N := by
  unfold ixOf at h
  rw [List.findIdx?_eq_none_iff] at h
  intro hx
  have := h x hx
  simp at this
theorem blk_of {N : List Str} {sc scope : Scope} (h : blkB sc scope = true) : BlkOk N sc scope (ownOf N scope) := by
  unfold blkB at h
  simp only [Bool.and_eq_true, List.all_eq_true, beq_iff_eq, Bool.or_eq_true, bne_iff_ne] at h
  obtain ⟨h1, h2⟩ := h
  refine ⟨h1, fun y hy => (h2 y hy).1, fun p hp => ?_, fun y hy e => ?_, fun y hy e => ?_⟩
  · unfold ownOf at hp
    obtain ⟨y, hy, e⟩ := List.mem_filterMap.mp hp
    split at e
    · rename_i i _ hi
      cases e
      exact ix_of hi
    · rename_i i _ hi
      cases e
      exact ix_of hi
    · cases e
  · exact ((h2 y hy).2.resolve_left fun z => z e)
  · cases hi : ixOf N y.1 with
    | none => exact .inr (ixOf_none hi)
    | some i =>
      refine .inl (List.mem_map.mpr ⟨(y.1, i), ?_, rfl⟩)
      unfold ownOf
      refine List.mem_filterMap.mpr ⟨y, hy, ?_⟩
      rcases e with e | e <;> simp only [e, hi]
def blkC (c : Cc) (scope : Scope) : Cc := { c with sc := relS scope c.sc, cells := (scope.names.map (·.1)).filter fun x => scope.names.lookup x == some .cell }
/-! ### targets -/
def nmOf (c : Cc) : Expr → Option Nat
  | .Name x _ => if stB c x = true then ixOf c.N x else none
  | _ => none
def nmsOf (c : Cc) : List Expr → Option (List Nat)
  | [] => some []
  | e :: es => match nmOf c e, nmsOf c es with
    | some i, some is => some (i :: is)
    | _, _ => none
def cG (c : Cc) : Expr → Option Tg
  | .Name x p => (nmOf c (.Name x p)).map .nm
  | .Tuple es _ _ => (nmsOf c es).map .tp
  | _ => none
def tgTup : Expr → Bool
  | .Tuple _ _ _ => true
  | _ => false
/-- a test that is its value's truth -/
def tstP : Expr → Bool
  | .UnaryOp .Not _ _ => false
  | .BoolOp _ _ _ => false
  | .IfExp _ _ _ _ => false
  | .Compare _ _ _ _ => false
  | _ => true
theorem tst_of {e : Expr} (h : tstP e = true) (env : Env) (whole : Sem Value) : isTrue e env whole = (do let v ← whole; standAt e.pos; holding [v] (truthy v)) := by
  cases e with
  | UnaryOp op a p => cases op <;> first | rfl | (simp [tstP] at h; done)
  | _ => first | rfl | (simp [tstP] at h; done)
def slB : Expr → Bool
  | .Slice _ _ _ _ => true
  | _ => false
theorem sl_of {b : Expr} (h : slB b = false) : PlainIx b := by
  intro o i
  cases b <;> first | rfl | (simp [slB] at h; done)
/-- [::-1] -/
def isRev : Expr → Bool
  | .Slice none none (some (.UnaryOp .USub (.Constant (.int 1) _ _) _)) _ => true
  | _ => false
def kwNames : List Keyword → List Str
  | [] => []
  | ⟨some n, _, _⟩ :: r => n :: kwNames r
  | ⟨none, _, _⟩ :: r => kwNames r
def kwAll : List Keyword → Bool
  | [] => true
  | ⟨some _, _, _⟩ :: r => kwAll r
  | ⟨none, _, _⟩ :: _ => false
def kwExprs : List Keyword → List Expr
  | [] => []
  | ⟨_, e, _⟩ :: r => e :: kwExprs r
theorem kw_of (pos : Pos) (env : Env) : ∀ {kws : List Keyword}, kwAll kws = true → (backToKw pos (keywordEach kws env)).all (·.1.isSome) = true ∧ (backToKw pos (keywordEach kws env)).filterMap (·.1) = kwNames kws ∧ (backToKw pos (keywordEach kws env)).any (·.1.isNone) = false
  | [], _ => ⟨rfl, rfl, rfl⟩
  | ⟨some n, e, p⟩ :: r, h => by
    obtain ⟨h1, h2, h3⟩ := kw_of pos env (kws := r) h
    refine ⟨?_, ?_, ?_⟩
    · show (true && (backToKw pos (keywordEach r env)).all (·.1.isSome)) = true
      rw [h1]; rfl
    · show n :: (backToKw pos (keywordEach r env)).filterMap (·.1) = n :: kwNames r
      rw [h2]
    · show (false || (backToKw pos (keywordEach r env)).any (·.1.isNone)) = false
      rw [h3]; rfl
  | ⟨none, e, p⟩ :: r, h => by cases h
def pmOf (ps ks : List Str) : List Nat := ps.map fun p => (ixOf ks p).getD 0
mutual
def cE (c : Cc) : Nat → Expr → E
  | 0, _ => .nev
  | n + 1, .Constant k _ _ => match k with
    | .none => .c .none
    | .bool b => .c (.bool b)
    | .int i => .c (.int i)
    | .str x => .c (.str x)
    | _ => .nev
  | n + 1, .Name x _ => if dun x = true then .nev else if visB c.sc x = true then match ixOf c.N x with
      | some i => .var i
      | none => .nev
    else if glbB c.sc x = true then match gsOf c.gs x with
      | some d => .c d
      | none => .nev
    else .nev
  | n + 1, .BinOp a o b _ => match bopOf o with
    | some o => .bin o (cE c n a) (cE c n b)
    | none => .nev
  | n + 1, .UnaryOp op a _ => match op with
    | .USub => .neg (cE c n a)
    | .Not => .nt (cE c n a)
    | _ => .nev
  | n + 1, .BoolOp op vs _ => cB c n op vs
  | n + 1, .Compare l ops rs _ => match ops, rs with
    | [o], [r] => if isSet r = false then .cmp (copOf o) (cE c n l) (cE c n r) else .nev
    | [o, o'], [r, r'] => if isSet r' = false then .chn (copOf o) (copOf o') (cE c n l) (cE c n r) (cE c n r') else .nev
    | _, _ => .nev
  | n + 1, .IfExp t a b _ => .ite (cT c n t) (cE c n a) (cE c n b)
  | n + 1, .List es _ => if es.all plainE = true then .lst (cS c n es) else .nev
  | n + 1, .Tuple es _ _ => if es.all plainE = true then .tup (cS c n es) else .nev
  | n + 1, .Dict ks vs _ => if ks.all (·.isSome) = true ∧ ks.length = vs.length ∧ ks.length ≤ 15 then .dic (cP c n ks vs) else .nev
  | n + 1, .Subscript a i _ => match i with
    | .Slice lo hi st _ => match st with
      | none => .sl (cE c n a) (cO c n lo) (cO c n hi)
      | some _ => if isRev i = true then .rev (cE c n a) else .nev
    | i => .ix (cE c n a) (cE c n i)
  | n + 1, .ListComp elt gens scope _ => match gens with
    | [⟨tg, iter, ifs, 0⟩] => match cG (blkC c scope) tg with
      | some g => if blkB c.sc scope = true ∧ isSet iter = false ∧ (g.is.all fun i => ((ownOf c.N scope).map (·.2)).contains i) = true then
          .lc ((ownOf c.N scope).map (·.2)) g (cW c n (tgTup tg) iter) (cU (blkC c scope) n ifs) (cE (blkC c scope) n elt)
        else .nev
      | none => .nev
    | _ => .nev
  | n + 1, .Call f args kws pos => match f with
    | .Name x _ => if glbB c.sc x = true ∧ dun x = false then match kws with
      | [] => match fIx c.T x with
        | some (i, e) => if args.all plainE = true then .call i e.ps.length (cS c n args) else .nev
        | none => match args with
          | [] => .nev
          | a :: as => if c.bt.contains x = true then
              if x = "isinstance" then match as with
                | [.Name t _] => match tyOf t with
                  | some ty => if c.bt.contains t = true ∧ glbB c.sc t = true ∧ plainE a = true then .isi ty (cE c n a) else .nev
                  | none => .nev
                | _ => .nev
              else match biOf x (a :: as).length with
                | some b => if (a :: as).all plainE = true then .bi b (cS c n (a :: as)) else .nev
                | none => .nev
            else .nev
      | kw :: kws' => match args with
        | [] => match fIx c.T x with
          | some (i, e) => if kwAll (kw :: kws') = true ∧ c.kw.contains (i, kwNames (kw :: kws'), pmOf e.ps (kwNames (kw :: kws'))) = true ∧ (kwNames (kw :: kws')).length = e.ps.length then
              .callk i e.ps.length (pmOf e.ps (kwNames (kw :: kws'))) (cS c n (kwExprs (kw :: kws'))) else .nev
          | none => .nev
        | _ => .nev
      else .nev
    | .Attribute o m apos => if plainB o = true ∧ (apos.endLine == pos.line) = true ∧ kws.isEmpty = true then match args with
        | [] => if m = "pop" then .pop (cE c n o) else if m = "bit_length" then .bits (cE c n o) else .nev
        | [a] => if plainE a = true then (if m = "append" then .app (cE c n o) (cE c n a) else if m = "join" then .join (cE c n o) (cE c n a) else .nev) else .nev
        | _ => .nev
      else .nev
    | _ => .nev
  | _ + 1, _ => .nev
def cB (c : Cc) : Nat → BoolOp → List Expr → E
  | 0, _, _ => .nev
  | n + 1, op, a :: r => match r with
    | [] => cE c n a
    | b :: r => match op with
      | .And => .and (cE c n a) (cB c n op (b :: r))
      | .Or => .or (cE c n a) (cB c n op (b :: r))
  | _ + 1, _, [] => .nev
def cS (c : Cc) : Nat → List Expr → Es
  | 0, _ => .cons .nev .nil
  | _ + 1, [] => .nil
  | n + 1, e :: es => .cons (cE c n e) (cS c n es)
def cP (c : Cc) : Nat → List (Option Expr) → List Expr → Pr
  | n + 1, some k :: ks, v :: vs => .cons (cE c n k) (cE c n v) (cP c n ks vs)
  | _ + 1, [], [] => .nil
  | _, _, _ => .cons .nev .nev .nil
def cO (c : Cc) : Nat → Option Expr → Oe
  | _, none => .no
  | 0, some _ => .some .nev
  | n + 1, some e => .some (cE c n e)
def cT (c : Cc) : Nat → Expr → T
  | 0, _ => .nev
  | n + 1, .UnaryOp op a p => match op with
    | .Not => .not (cT c n a)
    | op => .e (cE c n (.UnaryOp op a p))
  | n + 1, .BoolOp op vs _ => cTB c n op vs
  | _ + 1, .IfExp _ _ _ _ => .nev
  | n + 1, .Compare l ops rs _ => match ops, rs with
    | [o], [r] => if isSet r = false then .cmp (copOf o) (cE c n l) (cE c n r) else .nev
    | [o, o'], [r, r'] => if isSet r' = false then .chn (copOf o) (copOf o') (cE c n l) (cE c n r) (cE c n r') else .nev
    | _, _ => .nev
  | n + 1, e => .e (cE c n e)
def cTB (c : Cc) : Nat → BoolOp → List Expr → T
  | 0, _, _ => .nev
  | n + 1, op, a :: r => match r with
    | [] => cT c n a
    | b :: r => match op with
      | .And => .and (cT c n a) (cTB c n op (b :: r))
      | .Or => .or (cT c n a) (cTB c n op (b :: r))
  | _ + 1, _, [] => .nev
def cU (c : Cc) : Nat → List Expr → Ot
  | _, [] => .no
  | n + 1, [t] => .some (cT c n t)
  | _, _ => .nev
def cW (c : Cc) : Nat → Bool → Expr → Wk
  | 0, _, _ => .nev
  | n + 1, tt, .Call f args kws pos => match f with
    | .Name x p => if x = "range" ∧ c.bt.contains x = true ∧ glbB c.sc x = true ∧ kws.isEmpty = true ∧ args.all plainE = true then match args with
        | [a] => .rng1 (cE c n a)
        | [a, b] => .rng2 (cE c n a) (cE c n b)
        | _ => .nev
      else if x = "zip" ∧ c.bt.contains x = true ∧ glbB c.sc x = true ∧ kws.isEmpty = true ∧ args.all plainE = true ∧ tt = true then match args with
        | [a, b] => .zip (cE c n a) (cE c n b)
        | _ => .nev
      else if x = "enumerate" ∧ c.bt.contains x = true ∧ glbB c.sc x = true ∧ kws.isEmpty = true ∧ args.all plainE = true ∧ tt = true then match args with
        | [a] => .enum (cE c n a)
        | _ => .nev
      else .e (cE c n (.Call (.Name x p) args kws pos))
    | .Attribute o m apos => if m = "items" ∧ args.isEmpty = true ∧ kws.isEmpty = true ∧ plainB o = true ∧ (apos.endLine == pos.line) = true ∧ tt = true then .items (cE c n o) else .e (cE c n (.Call (.Attribute o m apos) args kws pos))
    | f => .e (cE c n (.Call f args kws pos))
  | n + 1, _, e => .e (cE c n e)
end
/-! ### statements -/
/-- name = e: whether the store goes ahead of the list's end (a comprehension on one line) -/
def swB (c : Cc) (x : Str) (px : Pos) (e : Expr) : Bool := match e with
  | .ListComp _ _ scope pos => c.sc.names.lookup x == some .local && px.line == pos.line && !(scope.names.any fun (n, k) => n == x && (k == .local || k == .cell))
  | _ => false
def cmpB : Expr → Bool
  | .ListComp _ _ _ _ => true
  | .SetComp _ _ _ _ => true
  | .DictComp _ _ _ _ _ => true
  | _ => false
mutual
def cX (c : Cc) : Nat → Stmt → S
  | 0, _ => .nev
  | n + 1, .Assign ts e _ => match ts with
    | [.Name x p] => match nmOf c (.Name x p) with
      | some j => if cmpB e = false ∨ swB c x p e = true then .asg j (cE c n e) else .nev
      | none => .nev
    | [.Subscript o i _] => if slB i = false then .asgIx (cE c n o) (cE c n i) (cE c n e) else .nev
    | _ => .nev
  | n + 1, .Expr e _ => if cmpB e = false then .expr (cE c n e) else .nev
  | n + 1, .Return e _ => match e with
    | some e => .ret (cE c n e)
    | none => .retN
  | n + 1, .If t a b _ => .ifs (cT c n t) (cXs c n a) (cXs c n b)
  | n + 1, .For tg iter b els _ => match cG c tg with
    | some g => if els.isEmpty = true ∧ isSet iter = false then .for_ g (cW c n (tgTup tg) iter) (cXs c n b) else .nev
    | none => .nev
  | n + 1, .While t b els _ => if els.isEmpty = true then .whl (cT c n t) (cXs c n b) else .nev
  | _ + 1, .Pass _ => .pass
  | _ + 1, .Break _ => .brk
  | _ + 1, .Continue _ => .cnt
  | _ + 1, _ => .nev
def cXs (c : Cc) : Nat → List Stmt → Ss
  | _, [] => .nil
  | 0, _ :: _ => .cons .nev .nil
  | n + 1, s :: r => .cons (cX c n s) (cXs c n r)
end
end Rf
end
section
set_option Elab.async false
set_option linter.all false
set_option maxRecDepth 100000
set_option maxHeartbeats 4000000
set_option autoImplicit false
/-! Rf23: the trees mean what their forms in the language mean. -/
namespace Rf
open PySem PySem.Spec L2

structure Okx (c : Cc) (φ : Nat → Fn) (k : Nat) (X : Cx) : Prop where
  ck : Cok k X
  xe : X.xe = fun _ _ => False
  hN : X.N = c.N
  nd : c.N.Nodup
  sc : X.env.scope = c.sc
  fn : ∀ x ∈ c.cells, X.fn x = true
  bt : ∀ x ∈ c.bt, X.mg x = none
  gs : ∀ p ∈ c.gs, ∃ v u, X.mg p.1 = some u ∧ RelV v u ∧ ∀ F H, Rp F H v p.2
  tab : ∀ i e, c.T[i]? = some e → ∃ fa fd, EntOk X k (φ i) ((c.kw.filter (fun p => p.1 == i)).map (·.2)) e fa fd
theorem Okx.blk {c : Cc} {φ : Nat → Fn} {k : Nat} {X : Cx} (h : Okx c φ k X) (scope : Scope) (s : Shared) (H : Hp) (C : Addr) (cl : List (Str × Addr)) (fp : List Addr) : Okx (blkC c scope) φ k (X.blk s H scope (compEnvC scope cl C X.env) fp) where
  ck := ⟨h.ck.room, h.ck.calm, h.ck.guards, h.ck.sm⟩
  xe := rfl
  hN := h.hN
  nd := h.nd
  sc := by
    show relS scope X.env.scope = relS scope c.sc
    rw [h.sc]
  fn := fun x hx => (List.mem_filter.mp hx).2
  bt := h.bt
  gs := h.gs
  tab := fun i e he => by
    obtain ⟨fa, fd, O⟩ := h.tab i e he
    exact ⟨fa, fd, O.mg, O.kp, O.b, O.f, O.kw⟩
section
variable {X : Cx} {e tg : Expr} {es : List Expr} {kws : List Keyword} {st : Stmt} {pos : Pos} {op : BoolOp}
theorem pe_nev : PE X e (rd M.fail) := ⟨fun _ _ _ _ _ _ ⟨_, _, _, _, _, q⟩ => q.elim⟩
theorem pt_nev : PT X e (rdT M.fail) := ⟨fun _ _ _ _ _ _ ⟨_, _, _, _, _, q⟩ => q.elim⟩
theorem pw_nev : PW X e (rdT M.fail) := ⟨fun _ _ _ _ _ _ _ ⟨_, _, _, _, _, q⟩ => q.elim⟩
theorem pts_nev {ifs : List Expr} : PTs X ifs (rdT M.fail) := ⟨fun _ _ _ _ _ _ ⟨_, _, _, _, _, q⟩ => q.elim⟩
theorem pa_nev {f : List Opd → M (List Opd)} : PA X es (rds (M.fail >>= f)) := ⟨fun _ _ _ _ _ _ _ ⟨_, _, _, _, _, q⟩ => q.elim⟩
theorem pa_nevK {f : D → M (List Opd)} {g : Opd → M D} : PA X es (rds ((M.fail >>= g) >>= f)) := ⟨fun _ _ _ _ _ _ _ ⟨_, _, _, _, _, q⟩ => q.elim⟩
theorem pi_nev : PI X tg e (rIt M.fail) := ⟨fun _ _ _ _ _ _ ⟨_, _, _, _, _, q⟩ => q.elim⟩
theorem ps_nev : PS X st (rS M.fail) := ⟨fun _ _ _ _ _ _ ⟨_, _, _, _, _, q⟩ => q.elim⟩
theorem pss_nev {ss : List Stmt} {m : M Flw} : PSs X ss (rS (seqM M.fail m)) := ⟨fun _ _ _ _ _ _ ⟨_, _, _, _, _, q⟩ => q.elim⟩
theorem lookup_vis {c : Cc} {φ : Nat → Fn} {k : Nat} (h : Okx c φ k X) {x : Str} (hx : visB c.sc x = true) : Vis X.env.scope x := by rw [h.sc]; exact vis_of hx
theorem gl_of {c : Cc} {φ : Nat → Fn} {k : Nat} (h : Okx c φ k X) {x : Str} (hx : glbB c.sc x = true) : Gl X x := by
  show X.env.scope.names.lookup x = _
  rw [h.sc]
  exact glb_of hx
theorem st_of {c : Cc} {φ : Nat → Fn} {k : Nat} (h : Okx c φ k X) {x : Str} (hx : stB c x = true) : Loc X.env.scope x ∧ (X.fn x = true ∨ X.env.scope.names.lookup x = some .local) := by
  unfold stB at hx
  rw [h.sc]
  split at hx
  · rename_i e; exact ⟨.inl e, .inr e⟩
  · rename_i e; exact ⟨.inr e, .inl (h.fn x (by simpa using hx))⟩
  · cases hx
theorem dun_of {x : Str} (h : dun x = false) : (x == ("__debug__" : Str)) = false ∧ (x == ("__classdict__" : Str)) = false := by
  unfold dun at h
  exact Bool.or_eq_false_iff.mp h
theorem nm_of {c : Cc} {φ : Nat → Fn} {k : Nat} (h : Okx c φ k X) {i : Nat} (hi : nmOf c e = some i) : ∃ x p, e = .Name x p ∧ X.N[i]? = some x ∧ Loc X.env.scope x ∧ (X.fn x = true ∨ X.env.scope.names.lookup x = some .local) := by
  cases e with
  | Name x p =>
    simp only [nmOf] at hi
    split at hi
    · rename_i hs
      obtain ⟨h1, h2⟩ := st_of h hs
      exact ⟨x, p, rfl, by rw [h.hN]; exact ix_of hi, h1, h2⟩
    · cases hi
  | _ => cases hi
theorem nms_of {c : Cc} {φ : Nat → Fn} {k : Nat} (h : Okx c φ k X) : ∀ {es : List Expr} {is : List Nat}, nmsOf c es = some is → Nms X es is
  | [], is, e => by cases e; exact ⟨rfl, fun n e i a => by simp at a⟩
  | e :: es, is, q => by
    simp only [nmsOf] at q
    split at q
    · rename_i i is' h1 h2
      cases q
      have r := nms_of h h2
      exact ⟨by simp [r.l], fun n e' i' a b => by
        cases n with
        | zero =>
          simp only [List.getElem?_cons_zero, Option.some.injEq] at a b
          subst a b
          exact nm_of h h1
        | succ n => exact r.at_ n e' i' (by simpa using a) (by simpa using b)⟩
    · cases q
theorem cG_ok {c : Cc} {φ : Nat → Fn} {k : Nat} (h : Okx c φ k X) {g : Tg} (hg : cG c tg = some g) : PG X tg (rG g.is (bindT g)) := by
  have nd : X.N.Nodup := by rw [h.hN]; exact h.nd
  cases tg with
  | Name x p =>
    simp only [cG] at hg
    obtain ⟨i, h1, h2⟩ := Option.map_eq_some_iff.mp hg
    subst h2
    obtain ⟨y, p', e, a, b, d⟩ := nm_of h h1
    cases e
    exact pg_nm' nd a b d
  | Tuple es kk p =>
    simp only [cG] at hg
    obtain ⟨is, h1, h2⟩ := Option.map_eq_some_iff.mp hg
    subst h2
    exact pg_tp' h.ck.calm nd (nms_of h h1)
  | _ => cases hg
end
theorem pts_one' {X : Cx} {t : Expr} {m : M Bool} (h : PT X t (rdT m)) : PTs X [t] (rdT m) := pts_one h
theorem pts_nil' {X : Cx} : PTs X [] (rdT (pure true)) := ⟨fun pins s σ H Q I ⟨pv, w, en, e, m0, q⟩ => by
  subst e
  exact pts_nil.run pins s σ w.H Q I (q w (Ext.refl w) m0)⟩
abbrev ClE (n : Nat) : Prop := ∀ (c : Cc) (φ : Nat → Fn) (k : Nat) (X : Cx), Okx c φ k X → ∀ e, PE X e (rd (ev φ (cE c n e)))
abbrev ClB (n : Nat) : Prop := ∀ (c : Cc) (φ : Nat → Fn) (k : Nat) (X : Cx), Okx c φ k X → ∀ op vs pos, PE X (.BoolOp op vs pos) (rd (ev φ (cB c n op vs)))
abbrev ClS (n : Nat) : Prop := ∀ (c : Cc) (φ : Nat → Fn) (k : Nat) (X : Cx), Okx c φ k X → ∀ es, es.all plainE = true → PA X es (rds (evs φ (cS c n es))) ∧ PA X es (rds (evK φ (cS c n es) >>= fun ds => pure (vals0 ds)))
abbrev ClK (n : Nat) : Prop := ∀ (c : Cc) (φ : Nat → Fn) (k : Nat) (X : Cx), Okx c φ k X → ∀ kws, PK X kws (rds (evs φ (cS c n (kwExprs kws))))
abbrev ClP (n : Nat) : Prop := ∀ (c : Cc) (φ : Nat → Fn) (k : Nat) (X : Cx), Okx c φ k X → ∀ pos ks vs, ks.all (·.isSome) = true → ks.length = vs.length →
  ∃ l : List (M Opd × M Opd), evP φ (cP c n ks vs) = l.foldr (fun p r => pairK p.1 p.2 r) (pure []) ∧ PPs X pos ks vs (l.map fun p => (rd (p.1 >>= keep), rd (p.2 >>= keep)))
abbrev ClO (n : Nat) : Prop := ∀ (c : Cc) (φ : Nat → Fn) (k : Nat) (X : Cx), Okx c φ k X → ∀ o, PO X o (rdO (evO φ (cO c n o)))
abbrev ClT (n : Nat) : Prop := ∀ (c : Cc) (φ : Nat → Fn) (k : Nat) (X : Cx), Okx c φ k X → ∀ e, PT X e (rdT (evT φ (cT c n e)))
abbrev ClTB (n : Nat) : Prop := ∀ (c : Cc) (φ : Nat → Fn) (k : Nat) (X : Cx), Okx c φ k X → ∀ op vs pos, PW X (.BoolOp op vs pos) (rdT (evT φ (cTB c n op vs)))
abbrev ClU (n : Nat) : Prop := ∀ (c : Cc) (φ : Nat → Fn) (k : Nat) (X : Cx), Okx c φ k X → ∀ ifs, PTs X ifs (rdT (evU φ (cU c n ifs)))
abbrev ClW (n : Nat) : Prop := ∀ (c : Cc) (φ : Nat → Fn) (k : Nat) (X : Cx), Okx c φ k X → ∀ tg tt iter, (tt = true → tgTup tg = true) → PI X tg iter (rIt (evW φ (cW c n tt iter)))
theorem tg_of {tg : Expr} (h : tgTup tg = true) : ∃ es k p, tg = .Tuple es k p := by
  cases tg <;> first | exact ⟨_, _, _, rfl⟩ | (simp [tgTup] at h; done)
theorem ke_step {n : Nat} (hE : ClE n) (hS : ClK n) : ClK (n + 1) := fun c φ k X O kws => by
  cases kws with
  | nil => exact pk_nil'
  | cons a r =>
    obtain ⟨nm, e, p⟩ := a
    exact pk_cons' (hE c φ k X O e) (hS c φ k X O r)
theorem s_step {n : Nat} (hE : ClE n) (hS : ClS n) : ClS (n + 1) := fun c φ k X O es hp => by
  cases es with
  | nil => exact ⟨pa_nil', pa_nil'⟩
  | cons a r =>
    simp only [List.all_cons, Bool.and_eq_true] at hp
    obtain ⟨h1, h2⟩ := hS c φ k X O r hp.2
    exact ⟨pa_cons' (hE c φ k X O a) h1 (star_cons hp.1 _ _), pa_consK (hE c φ k X O a) h2 (star_cons hp.1 _ _)⟩
theorem p_step {n : Nat} (hE : ClE n) (hP : ClP n) : ClP (n + 1) := fun c φ k X O pos ks vs hs hl => by
  cases ks with
  | nil =>
    cases vs with
    | nil => exact ⟨[], rfl, pps_nil⟩
    | cons v vs => simp at hl
  | cons kk ks =>
    cases vs with
    | nil => simp at hl
    | cons v vs =>
      cases kk with
      | none => simp at hs
      | some kk =>
        obtain ⟨l, h1, h2⟩ := hP c φ k X O pos ks vs (by simpa using hs) (by simpa using hl)
        exact ⟨(ev φ (cE c n kk), ev φ (cE c n v)) :: l, by show pairK _ _ (evP φ (cP c n ks vs)) = _; rw [h1]; rfl, pps_cons (pe_keep (hE c φ k X O kk)) (pe_keep (hE c φ k X O v)) h2⟩
theorem b_step {n : Nat} (hE : ClE n) (hB : ClB n) : ClB (n + 1) := fun c φ k X O op vs pos => by
  cases vs with
  | nil => exact pe_nev
  | cons a r =>
    cases r with
    | nil => exact pe_one (hE c φ k X O a)
    | cons b r =>
      cases op with
      | And => exact pe_and' (hE c φ k X O a) (hB c φ k X O .And (b :: r) pos)
      | Or => exact pe_or' (hE c φ k X O a) (hB c φ k X O .Or (b :: r) pos)
theorem tb_step {n : Nat} (hT : ClT n) (hB : ClTB n) : ClTB (n + 1) := fun c φ k X O op vs pos => by
  cases vs with
  | nil => exact pw_nev
  | cons a r =>
    cases r with
    | nil =>
      cases op with
      | And => exact pw_and1 (hT c φ k X O a)
      | Or => exact pw_or1 (hT c φ k X O a)
    | cons b r =>
      cases op with
      | And => exact pw_and' (hT c φ k X O a) (hB c φ k X O .And (b :: r) pos)
      | Or => exact pw_or' (hT c φ k X O a) (hB c φ k X O .Or (b :: r) pos)
theorem cmp_lems {X : Cx} {k : Nat} {a b : Expr} {ma mb : M Opd} {pos : Pos} (C : Cok k X) (o : CmpOp) (ha : PE X a (rd ma)) (hb : PE X b (rd mb)) (h : isSet b = false) :
    PE X (.Compare a [o] [b] pos) (rd (do let x ← ma; let y ← mb; let r ← copB (copOf o) x y; pureV (.bool r))) ∧ PT X (.Compare a [o] [b] pos) (rdT (do let x ← ma; let y ← mb; copB (copOf o) x y)) := by
  have e := cop_of o
  have h1 := pe_cmp' (pos := pos) C (copOf o) ha hb (marks_of h)
  have h2 := pt_cmp' (pos := pos) C (copOf o) ha hb (marks_of h)
  rw [e] at h1 h2
  exact ⟨h1, h2⟩
theorem chn_lems {X : Cx} {k : Nat} {a b d : Expr} {ma mb md : M Opd} {pos : Pos} (C : Cok k X) (o o' : CmpOp) (ha : PE X a (rd ma)) (hb : PE X b (rd mb)) (hd : PE X d (rd md)) (h : isSet d = false) :
    PE X (.Compare a [o, o'] [b, d] pos) (rd (do let r ← chnM (copOf o) (copOf o') ma mb md; pureV (.bool r))) ∧ PT X (.Compare a [o, o'] [b, d] pos) (rdT (chnM (copOf o) (copOf o') ma mb md)) := by
  have hm : lastMarks [cmpOf (copOf o), cmpOf (copOf o')] [b, d] = false := by
    show behindInMarks (cmpOf (copOf o')) d = false
    exact marks_of h
  have h1 := pe_chn' (pos := pos) C (copOf o) (copOf o') ha hb hd hm
  have h2 := pt_chn' (pos := pos) C (copOf o) (copOf o') ha hb hd hm
  rw [cop_of, cop_of] at h1 h2
  exact ⟨h1, h2⟩
theorem t_step {n : Nat} (hE : ClE n) (hT : ClT n) (hB : ClTB n) : ClT (n + 1) := fun c φ k X O e => by
  have plain : ∀ {a : Expr}, tstP a = true → PT X a (rdT (ev φ (cE c n a) >>= truM)) := fun {a} h => pt_truth' (hE c φ k X O a) (tst_of h X.env)
  cases e with
  | UnaryOp op a p =>
    cases op with
    | Not => exact pt_not' (hT c φ k X O a)
    | _ => exact plain rfl
  | BoolOp op vs p => exact (hB c φ k X O op vs p).pt
  | IfExp _ _ _ _ => exact pt_nev
  | Compare l ops rs p =>
    simp only [cT]
    split
    · split
      · rename_i h
        exact (cmp_lems O.ck _ (hE c φ k X O _) (hE c φ k X O _) h).2
      · exact pt_nev
    · split
      · rename_i h
        exact (chn_lems O.ck _ _ (hE c φ k X O _) (hE c φ k X O _) (hE c φ k X O _) h).2
      · exact pt_nev
    · exact pt_nev
  | _ => exact plain rfl
theorem u_step {n : Nat} (hT : ClT n) : ClU (n + 1) := fun c φ k X O ifs => by
  match ifs with
  | [] => exact pts_nil'
  | [t] => exact pts_one' (hT c φ k X O t)
  | _ :: _ :: _ => exact pts_nev
theorem o_step {n : Nat} (hE : ClE n) : ClO (n + 1) := fun c φ k X O o => by
  cases o with
  | none => exact po_none'
  | some e => exact po_some' (hE c φ k X O e)
theorem bt_of {c : Cc} {φ : Nat → Fn} {k : Nat} {X : Cx} (O : Okx c φ k X) {x : Str} (h : c.bt.contains x = true) : X.mg x = none := O.bt x (by simpa using h)
theorem w_step {n : Nat} (hE : ClE n) : ClW (n + 1) := fun c φ k X O tg tt iter htt => by
  have dflt : ∀ e, PI X tg e (rIt (ev φ (cE c n e) >>= rowsM)) := fun e => pi_any' (hE c φ k X O e)
  cases iter with
  | Call f args kws pos =>
    cases f with
    | Name x p =>
      simp only [cW]
      split
      · rename_i h
        obtain ⟨rfl, h1, h2, h3, h4⟩ := h
        have hk : kws = [] := List.isEmpty_iff.mp h3
        subst hk
        match args, h4 with
        | [a], h4 =>
          simp only [List.all_cons, List.all_nil, Bool.and_true] at h4
          exact pi_rng1' (gl_of O h2) (bt_of O h1) (hE c φ k X O a) h4
        | [a, b], h4 =>
          simp only [List.all_cons, List.all_nil, Bool.and_true, Bool.and_eq_true] at h4
          exact pi_rng2' (gl_of O h2) (bt_of O h1) (hE c φ k X O a) (hE c φ k X O b) h4.1 h4.2
        | [], _ => exact pi_nev
        | _ :: _ :: _ :: _, _ => exact pi_nev
      · split
        · rename_i h
          obtain ⟨rfl, h1, h2, h3, h4, h5⟩ := h
          have hk : kws = [] := List.isEmpty_iff.mp h3
          subst hk
          obtain ⟨es, kk, pp, rfl⟩ := tg_of (htt h5)
          match args, h4 with
          | [a, b], h4 =>
            simp only [List.all_cons, List.all_nil, Bool.and_true, Bool.and_eq_true] at h4
            exact pi_zip' (gl_of O h2) (bt_of O h1) (hE c φ k X O a) (hE c φ k X O b) h4.1 h4.2
          | [], _ => exact pi_nev
          | [_], _ => exact pi_nev
          | _ :: _ :: _ :: _, _ => exact pi_nev
        · split
          · rename_i h
            obtain ⟨rfl, h1, h2, h3, h4, h5⟩ := h
            have hk : kws = [] := List.isEmpty_iff.mp h3
            subst hk
            obtain ⟨es, kk, pp, rfl⟩ := tg_of (htt h5)
            match args, h4 with
            | [a], h4 =>
              simp only [List.all_cons, List.all_nil, Bool.and_true] at h4
              exact pi_enum' (gl_of O h2) (bt_of O h1) (hE c φ k X O a) h4
            | [], _ => exact pi_nev
            | _ :: _ :: _, _ => exact pi_nev
          · exact dflt _
    | Attribute o m apos =>
      simp only [cW]
      split
      · rename_i h
        obtain ⟨rfl, h1, h2, h3, h4, h5⟩ := h
        have ha : args = [] := List.isEmpty_iff.mp h1
        have hk : kws = [] := List.isEmpty_iff.mp h2
        subst ha hk
        obtain ⟨es, kk, pp, rfl⟩ := tg_of (htt h5)
        exact pi_items' (hE c φ k X O o) h3 h4
      · exact dflt _
    | _ => exact dflt _
  | _ => exact dflt _
end Rf
end
section
set_option Elab.async false
set_option linter.all false
set_option maxRecDepth 100000
set_option maxHeartbeats 4000000
set_option autoImplicit false
/-! Rf24: .. expressions. -/
namespace Rf
open PySem PySem.Spec L2

theorem lc_parts {n : Nat} {c : Cc} {φ : Nat → Fn} {k : Nat} {X : Cx} (hE : ClE n) (hU : ClU n) (hW : ClW n) (O : Okx c φ k X) {tg iter elt : Expr} {ifs : List Expr} {scope : Scope} {g : Tg} (hg : cG (blkC c scope) tg = some g) (hb : blkB c.sc scope = true) (hs : isSet iter = false)
    (hi : (g.is.all fun i => ((ownOf c.N scope).map (·.2)).contains i) = true) :
    X.N.Nodup ∧ PI X tg iter (rIt (evW φ (cW c n (tgTup tg) iter))) ∧ BlkOk X.N X.env.scope scope (ownOf c.N scope) ∧
    (∀ (s : Shared) (H : Hp) (C : Addr) (cl : List (Str × Addr)) (fp : List Addr), PG (X.blk s H scope (compEnvC scope cl C X.env) fp) tg (rG g.is (bindT g))) ∧
    (∀ (s : Shared) (H : Hp) (C : Addr) (cl : List (Str × Addr)) (fp : List Addr), PTs (X.blk s H scope (compEnvC scope cl C X.env) fp) ifs (rdT (evU φ (cU (blkC c scope) n ifs)))) ∧
    (∀ (s : Shared) (H : Hp) (C : Addr) (cl : List (Str × Addr)) (fp : List Addr), PE (X.blk s H scope (compEnvC scope cl C X.env) fp) elt (rd (ev φ (cE (blkC c scope) n elt) >>= keep))) ∧ (∀ x, foldedSetIterable iter X.env x = pure x) ∧ ∀ j ∈ g.is, j ∈ (ownOf c.N scope).map (·.2) := by
  refine ⟨by rw [O.hN]; exact O.nd, hW c φ k X O tg _ iter id, by rw [O.hN, O.sc]; exact blk_of hb, fun s H C cl fp => cG_ok (O.blk scope s H C cl fp) hg, fun s H C cl fp => hU _ φ k _ (O.blk scope s H C cl fp) ifs, fun s H C cl fp => pe_keep (hE _ φ k _ (O.blk scope s H C cl fp) elt), folded_of hs X.env, fun j hj => ?_⟩
  have := List.all_eq_true.mp hi j hj
  simpa using this
theorem e_step {n : Nat} (hE : ClE n) (hB : ClB n) (hS : ClS n) (hK : ClK n) (hP : ClP n) (hO : ClO n) (hT : ClT n) (hU : ClU n) (hW : ClW n) : ClE (n + 1) := fun c φ k X O e => by
  have ih := hE c φ k X O
  cases e with
  | Constant kk a b =>
    cases kk with
    | none => exact pe_tC pe_non fun F H => .non
    | bool b => exact pe_tC pe_bl fun F H => .bl b
    | int i => exact pe_tC pe_int fun F H => .int i
    | str x => exact pe_tC pe_str fun F H => .str x
    | _ => exact pe_nev
  | Name x p =>
    simp only [cE]
    split
    · exact pe_nev
    · rename_i hd
      obtain ⟨d1, d2⟩ := dun_of (by simpa using hd)
      split
      · rename_i hv
        split
        · rename_i i hi
          exact pe_var' (by rw [O.hN]; exact ix_of hi) (lookup_vis O hv) d1 d2
        · exact pe_nev
      · split
        · rename_i hg
          split
          · rename_i d hgs
            obtain ⟨v, u, h1, h2, h3⟩ := O.gs _ (gs_of hgs)
            exact pe_tC (pe_glob (gl_of O hg) h1 h2 d1) h3
          · exact pe_nev
        · exact pe_nev
  | BinOp a o b p =>
    simp only [cE]
    split
    · rename_i o' h
      have := pe_bin' (pos := p) O.ck o' (ih a) (ih b)
      rw [bop_of h] at this
      exact this
    · exact pe_nev
  | UnaryOp op a p =>
    cases op with
    | USub => exact pe_neg' (ih a)
    | Not => exact pe_notT' (ih a)
    | _ => exact pe_nev
  | BoolOp op vs p => exact hB c φ k X O op vs p
  | Compare l ops rs p =>
    simp only [cE]
    split
    · split
      · rename_i h
        exact (cmp_lems O.ck _ (ih _) (ih _) h).1
      · exact pe_nev
    · split
      · rename_i h
        exact (chn_lems O.ck _ _ (ih _) (ih _) (ih _) h).1
      · exact pe_nev
    · exact pe_nev
  | IfExp t a b p => exact pe_ite' (hT c φ k X O t) (ih a) (ih b)
  | List es p =>
    simp only [cE]
    split
    · rename_i h
      exact pe_lst' (hS c φ k X O es h).2
    · exact pe_nev
  | Tuple es kk p =>
    simp only [cE]
    split
    · rename_i h
      exact pe_tup' (hS c φ k X O es h).2
    · exact pe_nev
  | Dict ks vs p =>
    simp only [cE]
    split
    · rename_i h
      obtain ⟨h1, h2, h3⟩ := h
      obtain ⟨l, h4, h5⟩ := hP c φ k X O p ks vs h1 h2
      show PE X _ (rd (dicE (evP φ (cP c n ks vs))))
      rw [h4]
      by_cases hz : ks = []
      · subst hz
        have hv : vs = [] := List.eq_nil_of_length_eq_zero (by simpa using h2.symm)
        subst hv
        cases n with
        | zero =>
          have e0 : evP φ (cP c 0 [] []) = M.fail := rfl
          rw [h4] at e0
          rw [e0]
          exact ⟨fun _ _ _ _ _ _ ⟨_, _, _, _, _, q⟩ => q.elim⟩
        | succ n =>
          have e0 : evP φ (cP c (n + 1) [] []) = pure [] := rfl
          rw [h4] at e0
          rw [e0]
          exact pe_dic0'
      · exact pe_dic' h5 h1 h2 hz h3
    · exact pe_nev
  | Subscript a i p =>
    simp only [cE]
    split
    · rename_i lo hi st p2
      split
      · exact pe_sl' (ih a) (hO c φ k X O lo) (hO c φ k X O hi)
      · split
        · rename_i h
          unfold isRev at h
          split at h
          · rename_i e
            cases e
            exact pe_rev' (ih a)
          · cases h
        · exact pe_nev
    · rename_i hn
      have hs : slB i = false := by
        cases i <;> first | rfl | exact absurd rfl (hn _ _ _ _)
      exact pe_ix' O.ck (ih a) (ih i) (sl_of hs)
  | ListComp elt gens scope p =>
    simp only [cE]
    split
    · rename_i tg iter ifs
      split
      · rename_i g hg
        split
        · rename_i h
          obtain ⟨h1, h2, h3⟩ := h
          obtain ⟨a1, a2, a3, a4, a5, a6, a7, a8⟩ := lc_parts hE hU hW O (elt := elt) (ifs := ifs) hg h1 h2 h3
          exact peI (pe_lc O.ck.calm a1 a2 a3 a4 a5 a6 a7) fun σ H Q q => lc_rd a8 q
        · exact pe_nev
      · exact pe_nev
    · exact pe_nev
  | Call f args kws pos =>
    cases f with
    | Name x p =>
      simp only [cE]
      split
      · rename_i h
        obtain ⟨hg, hd⟩ := h
        obtain ⟨d1, d2⟩ := dun_of hd
        split
        · -- no keywords
          split
          · rename_i i e hf
            obtain ⟨h1, rfl⟩ := fIx_of hf
            split
            · rename_i hp
              obtain ⟨fa, fd, En⟩ := O.tab i e h1
              cases args with
              | nil =>
                cases n with
                | zero => exact ⟨fun _ _ _ _ _ _ ⟨_, _, _, _, _, q⟩ => q.elim⟩
                | succ n => exact pe_def0' En O.ck (gl_of O hg) d1
              | cons a as => exact pe_def' En O.ck (gl_of O hg) d1 (hS c φ k X O (a :: as) hp).1 hp
            · exact pe_nev
          · split
            · exact pe_nev
            · rename_i a as
              split
              · rename_i hbt
                split
                · rename_i hx
                  subst hx
                  split
                  · rename_i t p1
                    split
                    · rename_i ty hty
                      split
                      · rename_i hh
                        obtain ⟨b1, b2, b3⟩ := hh
                        obtain ⟨rfl, t2, t3, t4⟩ := ty_of hty
                        exact pe_isi' (gl_of O hg) (bt_of O hbt) (gl_of O b2) (bt_of O b1) t2 t3 t4 (ih a) b3
                      · exact pe_nev
                    · exact pe_nev
                  · exact pe_nev
                · split
                  · rename_i b hb
                    split
                    · rename_i hp
                      have e := bi_of hb
                      subst e
                      exact pe_bi' O.ck b (gl_of O hg) (bt_of O hbt) (hS c φ k X O (a :: as) hp).1 hp
                    · exact pe_nev
                  · exact pe_nev
              · exact pe_nev
        · rename_i kw kws'
          split
          · split
            · rename_i i e hf
              obtain ⟨h1, rfl⟩ := fIx_of hf
              split
              · rename_i hh
                obtain ⟨b1, b2, b3⟩ := hh
                obtain ⟨fa, fd, En⟩ := O.tab i e h1
                obtain ⟨k1, k2, k3⟩ := kw_of pos X.env b1
                refine pe_defk' (ks := kwNames (kw :: kws')) En O.ck (gl_of O hg) d1 (hK c φ k X O (kw :: kws')) ?_ k1 k2 k3 b3 (by simp [pmOf])
                refine List.mem_map.mpr ⟨(i, kwNames (kw :: kws'), pmOf e.ps (kwNames (kw :: kws'))), List.mem_filter.mpr ⟨by simpa using b2, by simp⟩, rfl⟩
              · exact pe_nev
            · exact pe_nev
          · exact pe_nev
      · exact pe_nev
    | Attribute o m apos =>
      simp only [cE]
      split
      · rename_i h
        obtain ⟨h1, h2, h3⟩ := h
        have hk : kws = [] := List.isEmpty_iff.mp h3
        subst hk
        split
        · split
          · rename_i e
            subst e
            exact pe_pop' (ih o) h1 h2
          · split
            · rename_i e
              subst e
              exact pe_bits' (ih o) h1 h2
            · exact pe_nev
        · rename_i a
          split
          · rename_i hp
            split
            · rename_i e
              subst e
              exact pe_append' (ih o) (ih a) h1 hp h2
            · split
              · rename_i e
                subst e
                exact pe_join' (ih o) (ih a) h1 hp h2
              · exact pe_nev
          · exact pe_nev
        · exact pe_nev
      · exact pe_nev
    | _ => exact pe_nev
  | _ => exact pe_nev
structure All (n : Nat) : Prop where
  e : ClE n
  b : ClB n
  s : ClS n
  k : ClK n
  p : ClP n
  o : ClO n
  t : ClT n
  tb : ClTB n
  u : ClU n
  w : ClW n
theorem po_nev {X : Cx} {o : Option Expr} : PO X o (rdO (partM M.fail)) := ⟨fun _ _ _ _ _ _ ⟨_, _, _, _, _, q⟩ => q.elim⟩
theorem all_ok : ∀ n, All n
  | 0 => by
    refine ⟨fun c φ k X O e => pe_nev, fun c φ k X O op vs pos => pe_nev, fun c φ k X O es hp => ⟨⟨fun _ _ _ _ _ _ _ ⟨_, _, _, _, _, q⟩ => q.elim⟩, ⟨fun _ _ _ _ _ _ _ ⟨_, _, _, _, _, q⟩ => q.elim⟩⟩, fun c φ k X O kws => ⟨fun _ _ _ _ _ _ _ ⟨_, _, _, _, _, q⟩ => q.elim⟩, fun c φ k X O pos ks vs h1 h2 => ?_, fun c φ k X O o => ?_, fun c φ k X O e => pt_nev, fun c φ k X O op vs pos => pw_nev, fun c φ k X O ifs => ?_, fun c φ k X O tg tt iter h => pi_nev⟩
    · refine ⟨[(M.fail, M.fail)], ?_, ⟨fun _ _ _ _ _ _ ⟨_, _, _, _, _, q⟩ => q.elim⟩⟩
      cases ks <;> cases vs <;> rfl
    · cases o with
      | none => exact po_none'
      | some e => exact po_nev
    · match ifs with
      | [] => exact pts_nil'
      | [t] => exact pts_nev
      | _ :: _ :: _ => exact pts_nev
  | n + 1 => by
    obtain ⟨e, b, s, k, p, o, t, tb, u, w⟩ := all_ok n
    exact ⟨e_step e b s k p o t u w, b_step e b, s_step e s, ke_step e k, p_step e p, o_step e, t_step e t tb, tb_step t tb, u_step t, w_step e⟩
end Rf
end
section
set_option Elab.async false
set_option linter.all false
set_option maxRecDepth 100000
set_option maxHeartbeats 4000000
set_option autoImplicit false
/-! Rf25: .. statements, defs. -/
namespace Rf
open PySem PySem.Spec L2

theorem sw_none {e : Expr} (h : cmpB e = false) (t : Option Expr) (l : Nat) (env : Env) : swapsWith e t l env = pure false := by
  cases e <;> first | rfl | (simp [cmpB] at h; done)
theorem sws_sub {o i e : Expr} {p : Pos} (l : Nat) (env : Env) : swapsWithSole [.Subscript o i p] e l env = pure false := by
  cases e <;> rfl
theorem sub_asg {o i : Expr} {p : Pos} (h : slB i = false) (env : Env) (v : Value) : assign (.Subscript o i p) env v = (do
      let ov ← holding [v] (eval o env)
      let iv ← holding [v, ov] (eval i env)
      standAt p
      holding [v, ov, iv] (setItem ov iv v)
      release [v, ov, iv] []) := by
  cases i <;> first | rfl | (simp [slB] at h; done)
abbrev ClX (n : Nat) : Prop := ∀ (c : Cc) (φ : Nat → Fn) (k : Nat) (X : Cx), Okx c φ k X → c.sc.kind = .function → ∀ st, PS X st (rS (ex φ (cX c n st)))
abbrev ClXs (n : Nat) : Prop := ∀ (c : Cc) (φ : Nat → Fn) (k : Nat) (X : Cx), Okx c φ k X → c.sc.kind = .function → ∀ ss, PSs X ss (rS (exs φ (cXs c n ss)))
theorem passes_ok {c : Cc} {φ : Nat → Fn} {k : Nat} {X : Cx} (O : Okx c φ k X) : PassesOwn (model X.prog X.w) X.A X.env X.xe := by
  rw [O.xe]
  exact PassesOwn.never
theorem x_step {n : Nat} (hXs : ClXs n) : ClX (n + 1) := fun c φ k X O hk st => by
  have A := all_ok n
  have ih := A.e c φ k X O
  have nd : X.N.Nodup := by rw [O.hN]; exact O.nd
  cases st with
  | Assign ts e p =>
    simp only [cX]
    split
    · rename_i x px
      split
      · rename_i j hj
        split
        · rename_i h
          obtain ⟨y, p', e1, a, b, d⟩ := nm_of O hj
          cases e1
          by_cases hc : cmpB e = false
          · exact ps_set' nd a b (ih e) (sw_none hc _ _ _) d
          · have hs := h.resolve_left hc
            unfold swB at hs
            split at hs
            · rename_i elt gens scope lp
              simp only [Bool.and_eq_true, beq_iff_eq, Bool.not_eq_true'] at hs
              obtain ⟨⟨s1, s2⟩, s3⟩ := hs
              cases n with
              | zero => exact ⟨fun _ _ _ _ _ _ ⟨_, _, _, _, _, q⟩ => q.elim⟩
              | succ n =>
                have A' := all_ok n
                show PS X _ (rS (asgM j (ev φ (cE c (n + 1) (.ListComp elt gens scope lp)))))
                simp only [cE]
                have nv : PS X (.Assign [.Name x px] (.ListComp elt gens scope lp) p) (rS (asgM j (ev φ .nev))) := ⟨fun _ _ _ _ _ _ ⟨_, _, _, _, _, q⟩ => q.elim⟩
                split
                · rename_i tg iter ifs
                  split
                  · rename_i g hg
                    split
                    · rename_i hh
                      obtain ⟨h1, h2, h3⟩ := hh
                      obtain ⟨a1, a2, a3, a4, a5, a6, a7, a8⟩ := lc_parts A'.e A'.u A'.w O (elt := elt) (ifs := ifs) hg h1 h2 h3
                      have hl : X.env.scope.names.lookup x = some .local := by rw [O.sc]; exact s1
                      refine psI (ps_setLc O.ck.calm nd a hl (sw_true (by rw [O.sc]; exact hk) hl (by rw [s2]; exact beq_self_eq_true _) s3) a2 a3 a4 a5 a6 a7) fun E σ H q => ?_
                      have q1 := asg_rd q
                      -- the value is new, nothing is kept of it
                      have q2 : rd (do let ds ← lcM ((ownOf c.N scope).map (·.2)) (evW φ (cW c n (tgTup tg) iter)) (bindT g) (evU φ (cU (blkC c scope) n ifs)) (ev φ (cE (blkC c scope) n elt)); newV (.list ds)) σ H (fun x H1 => gName j x σ H1 E.nx) := q1
                      exact lc_rd a8 q2
                    · exact nv
                  · exact nv
                · exact nv
            · cases hs
        · exact ps_nev
      · exact ps_nev
    · rename_i o i tp
      split
      · rename_i h
        exact ps_asgIx' O.ck (ih e) (ih o) (ih i) (sws_sub _ _) rfl (sub_asg h X.env)
      · exact ps_nev
    · exact ps_nev
  | Expr e p =>
    simp only [cX]
    split
    · rename_i h
      exact ps_expr' (ih e) (sw_none h _ _ _)
    · exact ps_nev
  | Return e p =>
    cases e with
    | some e => exact ps_ret' (ih e)
    | none => exact ps_retN'
  | If t a b p => exact ps_if' (A.t c φ k X O t) (hXs c φ k X O hk a) (hXs c φ k X O hk b)
  | For tg iter b els p =>
    simp only [cX]
    split
    · rename_i g hg
      split
      · rename_i h
        obtain ⟨h1, h2⟩ := h
        have he : els = [] := List.isEmpty_iff.mp h1
        subst he
        exact ps_for' (passes_ok O) O.ck.calm (A.w c φ k X O tg _ iter id) (cG_ok O hg) (hXs c φ k X O hk b) (folded_of h2 X.env)
      · exact ps_nev
    · exact ps_nev
  | While t b els p =>
    simp only [cX]
    split
    · rename_i h
      have he : els = [] := List.isEmpty_iff.mp h
      subst he
      exact ps_while' (passes_ok O) (A.t c φ k X O t) (hXs c φ k X O hk b)
    · exact ps_nev
  | Pass p => exact ps_pass'
  | Break p => exact ps_brk'
  | Continue p => exact ps_cnt'
  | _ => exact ps_nev
theorem xs_ok : ∀ n, ClX n ∧ ClXs n
  | 0 => ⟨fun c φ k X O hk st => ps_nev, fun c φ k X O hk ss => by
    cases ss with
    | nil => exact pss_nil'
    | cons s r => exact pss_nev⟩
  | n + 1 => by
    obtain ⟨h1, h2⟩ := xs_ok n
    refine ⟨x_step h2, fun c φ k X O hk ss => ?_⟩
    cases ss with
    | nil => exact pss_nil'
    | cons s r => exact pss_cons' (h1 c φ k X O hk s) (h2 c φ k X O hk r)

/-! ### the defs of a text -/
/-- a def as the text has it -/
structure Df where
  name : Str
  ps : List Str
  N : List Str
  params : Arguments
  body : List Stmt
  scope : Scope
structure Tx where
  fs : List Df
  kw : List (Nat × List Str × List Nat)
  gs : List (Str × D)
  bt : List Str
  fuel : Nat
def Tx.T (t : Tx) : List FEnt := t.fs.map fun d => ⟨d.name, d.ps⟩
def Tx.cc (t : Tx) (d : Df) : Cc := ⟨d.N, d.scope, (d.scope.names.map (·.1)).filter (fun x => d.scope.names.lookup x == some .cell), t.T, t.kw, t.gs, t.bt⟩
/-- the text in the language -/
def Tx.ir (t : Tx) (i : Nat) : Option (Nat × Nat × Ss) := (t.fs[i]?).map fun d => (d.ps.length, d.N.length, cXs (t.cc d) t.fuel d.body)
/-- the defs' meanings, by how deep calls may go -/
def runL (ir : Nat → Option (Nat × Nat × Ss)) : Nat → Nat → Fn
  | 0, _ => Fn.none
  | k + 1, i => match ir i with
    | some (np, n, b) => fnOf np n (exs (runL ir k) b)
    | none => Fn.none
/-- what is checked of a def's row -/
structure DfOk (d : Df) : Prop where
  S : FnScope d.N d.ps d.scope
  le : d.ps.length ≤ d.N.length
/-- what the module's top has laid -/
structure TxOk (t : Tx) (K : PySem.W.Frag) (mg : Str → Option Value) : Prop where
  df : ∀ d ∈ t.fs, DfOk d
  bt : ∀ x ∈ t.bt, mg x = none
  gs : ∀ p ∈ t.gs, ∃ v u, mg p.1 = some u ∧ RelV v u ∧ ∀ F H, Rp F H v p.2
  fn : ∀ i d, t.fs[i]? = some d → ∃ fa fd, mg d.name = some (.ref fa) ∧ FunD K d.name d.name d.params d.body d.scope [] [] fa fd ∧ Binds K fd d.ps [] ∧ ∀ p ∈ t.kw, p.1 = i → KwB K fd d.ps p.2.1 p.2.2
theorem spF_none {np : Nat} {vs : List V} {H : Hp} {Q : VK} (h : spF np Fn.none vs H Q) : False := by
  obtain ⟨_, w, ss, _, _, q⟩ := h
  exact q
/-- every def keeps the promise that its meaning is -/
theorem defs_ok {P : Program} {w : World} {K : PySem.W.Frag} {mg : Str → Option Value} {base : Heap} {t : Tx} (T : TxOk t K mg) (sm : ∃ o, base.get? sysModules = some o) : ∀ (k i : Nat) (d : Df) (fa : Addr) (fd : FuncData), t.fs[i]? = some d → mg d.name = some (.ref fa) →
    FunD K d.name d.name d.params d.body d.scope [] [] fa fd → FnG P w K mg base k fa fd d.ps (spF d.ps.length (runL t.ir k i))
  | 0, i, d, fa, fd, hd, hm, F => ⟨fun vs H Q h => h.1, fun A o s H a us vs Q _ _ _ _ _ h => (spF_none h).elim⟩
  | k + 1, i, d, fa, fd, hd, hm, F => by
    have D := T.df d (List.mem_of_getElem? hd)
    have e : runL t.ir (k + 1) i = fnOf d.ps.length d.N.length (exs (runL t.ir k) (cXs (t.cc d) t.fuel d.body)) := by
      show (match t.ir i with | some (np, n, b) => fnOf np n (exs (runL t.ir k) b) | none => Fn.none) = _
      have : t.ir i = some (d.ps.length, d.N.length, cXs (t.cc d) t.fuel d.body) := by
        unfold Tx.ir
        rw [hd]
        rfl
      rw [this]
    rw [e]
    refine fn_ok F D.S D.le fun cd A outer s H hr hg => ?_
    have O : Okx (t.cc d) (runL t.ir k) k (bodyCx P w K mg base d.N d.name d.scope fa cd A outer s H) := by
      refine ⟨⟨hr, rfl, hg, sm⟩, rfl, rfl, D.S.nd, rfl, fun _ _ => rfl, T.bt, T.gs, fun j e he => ?_⟩
      have he' : (t.fs.map fun d => (⟨d.name, d.ps⟩ : FEnt))[j]? = some e := he
      rw [List.getElem?_map] at he'
      obtain ⟨dj, h1, h2⟩ := Option.map_eq_some_iff.mp he'
      subst h2
      obtain ⟨fj, fdj, g1, g2, g3, g4⟩ := T.fn j dj h1
      refine ⟨fj, fdj, g1, g2.kp, g3, defs_ok T sm k j dj fj fdj h1 g1 g2, fun p hp => ?_⟩
      obtain ⟨q, hq, e⟩ := List.mem_map.mp hp
      obtain ⟨hq1, hq2⟩ := List.mem_filter.mp hq
      rw [← e]
      exact g4 q hq1 (by simpa using hq2)
    exact (xs_ok t.fuel).2 (t.cc d) (runL t.ir k) k _ O D.S.kind d.body
end Rf
end
section
set_option Elab.async false
set_option linter.all false
set_option maxRecDepth 100000
set_option maxHeartbeats 4000000
set_option autoImplicit false
/-! Rf26: a law's end. -/
namespace Rf
open PySem PySem.Spec L2

/-- the written part without one address -/
def outK (K : PySem.W.Frag) (a : Addr) : PySem.W.Frag := K.filter fun p => !(p.1 == a)
theorem outK_ne {a b : Addr} (h : b ≠ a) : ∀ K : PySem.W.Frag, (outK K a).lookup b = K.lookup b
  | [] => rfl
  | (c, o) :: K => by
    have ih := outK_ne h K
    unfold outK at ih ⊢
    by_cases hc : c = a
    · subst hc
      rw [List.filter_cons]
      simp only [beq_self_eq_true, Bool.not_true, Bool.false_eq_true, if_false]
      rw [ih, List.lookup_cons]
      have : (b == c) = false := by simpa using h
      rw [this]
    · rw [List.filter_cons]
      have : (!(c == a)) = true := by simpa using hc
      simp only [this, if_true]
      rw [List.lookup_cons, List.lookup_cons, ih]
theorem outK_self (a : Addr) : ∀ K : PySem.W.Frag, (outK K a).lookup a = none
  | [] => rfl
  | (c, o) :: K => by
    have ih := outK_self a K
    unfold outK at ih ⊢
    rw [List.filter_cons]
    by_cases hc : c = a
    · subst hc
      simp only [beq_self_eq_true, Bool.not_true, Bool.false_eq_true, if_false]
      exact ih
    · have h1 : (!(c == a)) = true := by simpa using hc
      simp only [h1, if_true]
      rw [List.lookup_cons]
      have : (a == c) = false := by simpa using Ne.symm hc
      rw [this]
      exact ih
theorem outK_in {K : PySem.W.Frag} {h : Heap} (a : Addr) (x : K.In h) : (outK K a).In h := fun b o e => by
  by_cases hb : b = a
  · subst hb
    rw [outK_self] at e
    cases e
  · rw [outK_ne hb] at e
    exact x b o e
/-- a list is no def's object -/
theorem FunD.out {K : PySem.W.Frag} {h : Heap} {x qual : Str} {params : Arguments} {body : List Stmt} {scope : Scope} {f a : Addr} {fd : FuncData} {vs : Array Value} (X : K.In h) (ha : h.get? a = some { cls := .type "list", data := .seq vs }) (F : FunD K x qual params body scope [] [] f fd) :
    FunD (outK K a) x qual params body scope [] [] f fd := by
  obtain ⟨⟨oc, od, dV, kV, doc, pm, an, cdv, ct, osl, e, lk, cd, d1, d2⟩, kp⟩ := F
  have hf : f ≠ a := fun z => by
    have q := X _ _ lk
    rw [z, ha] at q
    have q2 := congrArg Obj.data (Option.some.inj q)
    cases q2
  refine ⟨⟨oc, od, dV, kV, doc, pm, an, cdv, ct, osl, e, by rw [outK_ne hf]; exact lk, ?_, .inl ?_, .inl rfl⟩, ?_⟩
  · unfold PySem.W.codeIn at cd ⊢
    split at cd
    · rename_i c
      by_cases hc : c = a
      · subst hc
        split at cd
        · rename_i l
          have q := X _ _ l
          rw [ha] at q
          have q2 := congrArg Obj.data (Option.some.inj q)
          cases q2
        · cases cd
      · rw [outK_ne hc]
        exact cd
    · cases cd
  · rcases d1 with z | z
    · exact z
    · exact absurd rfl z.1
  · unfold PySem.W.keepIn at kp ⊢
    dsimp only at kp ⊢
    rw [outK_ne hf, lk]
theorem TxOk.out {t : Tx} {K : PySem.W.Frag} {h : Heap} {mg : Str → Option Value} {a : Addr} {vs : Array Value} (T : TxOk t K mg) (X : K.In h) (ha : h.get? a = some { cls := .type "list", data := .seq vs })
    (hB : ∀ (K' : PySem.W.Frag) i d fa fd, t.fs[i]? = some d → FunD K' d.name d.name d.params d.body d.scope [] [] fa fd → Binds K' fd d.ps [] ∧ ∀ p ∈ t.kw, p.1 = i → KwB K' fd d.ps p.2.1 p.2.2) : TxOk t (outK K a) mg := by
  refine ⟨T.df, T.bt, T.gs, fun i d hd => ?_⟩
  obtain ⟨fa, fd, h1, h2, _, _⟩ := T.fn i d hd
  have F := FunD.out X ha h2
  obtain ⟨b1, b2⟩ := hB (outK K a) i d fa fd hd F
  exact ⟨fa, fd, h1, F, b1, b2⟩
theorem rps_ints {F : Addr → Prop} {H : Hp} (ns : List Int) : Rps F H (ns.map V.int) (ns.map .int) := rps_int ns
theorem walk_tx {l : PySem.W.OpenLaw} {n kk i : Nat} {q : Program} {loose : List Str} {XP : (Str → Option Value) → Heap → Prop} {YP : World → Heap → Prop} {d : PySem.DefRec} {t : Tx} {dl : Df} {x : Str}
    (hn : l.most = some n) (hn2 : n ≤ sizeLine) (hdf : d.params.defaults = []) (hr : Room kk callerA) (hi : PyProof.Rows.importsNone q = true)
    (hT : ∀ (w : World) (h : Heap) (mg : Str → Option Value), YP w h → h.Ns mainGlobals mg → ∃ K : PySem.W.Frag, K.In h ∧ TxOk t K mg)
    (hB : ∀ (K' : PySem.W.Frag) i d fa fd, t.fs[i]? = some d → FunD K' d.name d.name d.params d.body d.scope [] [] fa fd → Binds K' fd d.ps [] ∧ ∀ p ∈ t.kw, p.1 = i → KwB K' fd d.ps p.2.1 p.2.2)
    (hd : t.fs[i]? = some dl) (hdn : dl.name = d.name) (hps : dl.ps = [x])
    (plain : ∀ ns : List Int, ns.length ≤ n → (∀ z ∈ ns, Builtin.Int.intBits z ≤ 1048576) → (runL t.ir kk i).run [⟨.fz, .list (ns.map .int)⟩] (fun _ r => r.d = .bool true) noXF) :
    PySem.W.WalkO q loose XP YP l.row.toRowW d [] (fun f vs => PySem.call f vs) := by
  refine Att.attach_callB hn hdf fun w s₀ s₁ mg mb fa o pm cd doc a vs ns G Y ho hdd hcd hmg hobj hints hlen hbits hg => ?_
  obtain ⟨K0, KX0, T0⟩ := hT w _ mg Y G.T.g
  have T := T0.out KX0 hobj hB
  have KX := outK_in a KX0
  obtain ⟨fa', fd, m1, F, B, _⟩ := T.fn i dl hd
  have efa : fa' = fa := by
    rw [hdn, hmg] at m1
    cases m1
    rfl
  subst efa
  -- the script alone is tracked
  let ob : Obj := { cls := .type "list", data := .seq vs.toArray }
  let H : Hp := fun b => if b = a then some (.frz ob (.lst (ns.map V.int))) else none
  have Ha : H a = some (.frz ob (.lst (ns.map V.int))) := if_pos rfl
  have Hn : ∀ {b : Addr}, b ≠ a → H b = none := fun hb => if_neg hb
  have rv := vals_ints hints
  have lenV := hints.length
  have hok : HOk l.prog w H s₁.heap := fun b u e => by
    by_cases hb : b = a
    · subst hb
      rw [Ha] at e
      cases e
      exact ⟨hobj, by rw [List.length_map]; exact Nat.le_trans hlen hn2, vs, _, rv, hobj⟩
    · rw [Hn hb] at e
      cases e
  have hidden : ∀ {b : Addr} {u : Obj}, s₁.heap.get? b = some u → b ≠ a → (hidT s₁.heap H).get? b = some u := fun e hb => hidT_get e (Hn hb)
  have dict_ne : ∀ {b : Addr} {u : Obj} {es : Array DictEntry} {ep : Nat}, s₁.heap.get? b = some u → u.data = .dict es ep → b ≠ a := fun {b u es ep} e d z => by
    rw [z, hobj] at e
    have e2 := congrArg Obj.data (Option.some.inj e)
    rw [d] at e2
    cases e2
  have nsH : ∀ {b : Addr} {m : Str → Option Value}, s₁.heap.Ns b m → (hidT s₁.heap H).Ns b m := fun {b m} ⟨u, es, ep, e, d, r⟩ => ⟨u, es, ep, hidden e (dict_ne e d), d, r⟩
  have inH : (outK K0 a).In (hidT s₁.heap H) := fun b u e => hidden (KX b u e) fun z => by
    rw [z, outK_self] at e
    cases e
  have seer := G.T.seer hi
  have M0 : Mod (outK K0 a) mg (hidT s₁.heap H) := by
    refine ⟨inH, nsH G.T.g, ⟨mb, nsH G.T.b, G.T.builtins⟩, ?_⟩
    obtain ⟨mc, h1, h2⟩ := G.T.nolimit
    exact ⟨mc, nsH h1, h2⟩
  have sm : ∃ u, (hidT s₁.heap H).get? sysModules = some u := by
    obtain ⟨mm, h1, _⟩ := seer.mods
    obtain ⟨u, es, ep, e, _⟩ := nsH h1
    exact ⟨u, e⟩
  have E1 : Env0 l.prog w (outK K0 a) mg (hidT s₁.heap H) callerA [] s₁ H :=
    ⟨rfl, M0, fun b u e => of_hidT e, Nat.le_of_eq (hidT_size _ _), trivial, (fun b hb => by cases hb), hok, PyProof.Rows.AllBare.of_eq hg⟩
  have P := defs_ok (P := l.prog) (w := w) (base := hidT s₁.heap H) T sm kk i dl fa' fd hd (by rw [hdn]; exact hmg) F
  rw [hps] at P B
  have sp : spF 1 (runL t.ir kk i) [.ref a] H (fun v _ => v = .bl true) := by
    refine ⟨rfl, ⟨fun b => b = a, [[]], H⟩, [⟨.fz, .list (ns.map .int)⟩], rfl, ⟨⟨fun b hb => ?_, fun b _ z => by simp [Wd.o] at z, fun b z => by simp [Wd.o] at z, by simp [Wd.o]⟩, rfl, rfl, fun j s e => ?_⟩, (runL t.ir kk i).mono (plain ns hlen hbits) (fun fin r hr w' v O _ _ rel _ _ => ?_) fun _ _ z => z⟩
    · show H b ≠ none
      rw [show b = a from hb, Ha]
      simp
    · cases j with
      | zero =>
        simp only [List.getElem?_cons_zero, Option.some.injEq] at e
        subst e
        exact ⟨.ref a, [], rfl, rfl, rfl, .lst rfl (.inr ⟨ob, Ha⟩) (rps_ints ns)⟩
      | succ j => simp at e
    · obtain ⟨fl, rd⟩ := r
      have hr : rd = .bool true := hr
      subst hr
      cases fl with
      | fz =>
        obtain ⟨_, rp⟩ := rel
        cases rp
        rfl
      | top => cases (show Tp w'.F w'.H v (.bool true) O from rel)
  refine codeAny_mono (P.run callerA [] s₁ H ⟨[.ref a], []⟩ [.ref a] [.ref a] _ hr rfl E1 (B s₁ [.ref a] KX rfl) (.cons rfl .nil) sp) fun r s' h => ?_
  match r, h with
  | .ok (.ret u), ⟨v, H', os, bare, un, hok', r', hq⟩ =>
    have hq : v = .bl true := hq
    subst hq
    obtain rfl : u = Value.bool true := r'
    refine ⟨rfl, OldK.of_keep fun b u e => ?_, os, bare⟩
    by_cases hb : b = a
    · subst hb
      have z2 := un.frzs b ob _ Ha
      obtain ⟨e2, _⟩ := hok' b _ z2
      rw [hobj] at e
      cases e
      exact e2
    · exact un.keep b u e (Hn hb) (fun z => by cases z) (fun z => by cases z)
  | .ok .next, h => exact h.elim
  | .ok .brk, h => exact h.elim
  | .ok .cont, h => exact h.elim
  | .error _, h => exact h.elim
end Rf
end
section
set_option Elab.async false
set_option linter.all false
set_option maxRecDepth 100000
set_option maxHeartbeats 4000000
set_option autoImplicit false
/-! Rf27: from the head's facts. -/
namespace Rf
open PySem PySem.Spec L2

def Df.dd (d : Df) : He.DefD := ⟨(d.name, none), d.name, d.name, d.params, d.body, d.scope, [], []⟩
def gFa (p : Str × D) : He.Fa := match p.2 with
  | .int i => .int p.1 i
  | .str x => .str p.1 x
  | _ => .free p.1
def Tx.fa (t : Tx) : List He.Fa := t.fs.map (fun d => .glo d.name) ++ t.bt.map .free ++ t.gs.map gFa
def Tx.fn (t : Tx) : List He.DefD := t.fs.map Df.dd
def dfB (d : Df) : Bool := d.scope.kind == .function && !d.scope.isCoroutine && !d.scope.isGenerator && decide d.N.Nodup && d.N.take d.ps.length == d.ps && (d.ps.all fun x => d.scope.names.lookup x == some .local || d.scope.names.lookup x == some .cell) &&
  (d.scope.names.all fun y => y.2 != .free) && decide (d.ps.length ≤ d.N.length)
theorem df_of {d : Df} (h : dfB d = true) : DfOk d := by
  unfold dfB at h
  simp only [Bool.and_eq_true, beq_iff_eq, Bool.not_eq_true', decide_eq_true_eq, List.all_eq_true, Bool.or_eq_true, bne_iff_ne] at h
  obtain ⟨⟨⟨⟨⟨⟨⟨h1, h2⟩, h3⟩, h4⟩, h5⟩, h6⟩, h7⟩, h8⟩ := h
  exact ⟨⟨h1, h2, h3, h4, h5, h6, h7⟩, h8⟩
def gsB (gs : List (Str × D)) : Bool := gs.all fun p => match p.2 with
  | .int _ => true
  | .str _ => true
  | _ => false
theorem tx_ok {t : Tx} {K : PySem.W.Frag} {h : Heap} {mg : Str → Option Value} (c : He.SaysD t.fa t.fn K) (X : K.In h) (G : h.Ns mainGlobals mg) (hd : t.fs.all dfB = true) (hg : gsB t.gs = true)
    (hB : ∀ (K' : PySem.W.Frag) i d fa fd, t.fs[i]? = some d → FunD K' d.name d.name d.params d.body d.scope [] [] fa fd → Binds K' fd d.ps [] ∧ ∀ p ∈ t.kw, p.1 = i → KwB K' fd d.ps p.2.1 p.2.2) : TxOk t K mg := by
  refine ⟨fun d hm => df_of (List.all_eq_true.mp hd d hm), fun x hx => ?_, fun p hp => ?_, fun i d hi => ?_⟩
  · exact He.free_ok X G (He.SaysD.facts c (List.mem_append_left _ (List.mem_append_right _ (List.mem_map.mpr ⟨x, hx, rfl⟩))))
  · have f : (gFa p).ok K = true := He.SaysD.facts c (List.mem_append_right _ (List.mem_map.mpr ⟨p, hp, rfl⟩))
    have g := List.all_eq_true.mp hg p hp
    obtain ⟨x, d⟩ := p
    cases d with
    | int j =>
      obtain ⟨tk, e⟩ := He.int_ok X G (x := x) (i := j) f
      exact ⟨.int j, _, e, ⟨tk, rfl⟩, fun F H => .int j⟩
    | str z =>
      obtain ⟨tk, e⟩ := He.str_ok X G (x := x) (z := z) f
      exact ⟨.str z, _, e, ⟨tk, rfl⟩, fun F H => .str z⟩
    | _ => cases g
  · have f : (He.Fa.glo d.name).ok K = true := He.SaysD.facts c (List.mem_append_left _ (List.mem_append_left _ (List.mem_map.mpr ⟨d, List.mem_of_getElem? hi, rfl⟩)))
    have e := He.glo_ok X G f
    obtain ⟨fd, F⟩ := He.SaysD.defs c (d := d.dd) (List.mem_map.mpr ⟨d, List.mem_of_getElem? hi, rfl⟩)
    have F' : FunD K d.name d.name d.params d.body d.scope [] [] (He.ga K d.name) fd := F
    obtain ⟨b1, b2⟩ := hB K i d _ fd hi F'
    exact ⟨_, fd, e, F', b1, b2⟩

/-! ### the language, printed -/
def pStr (x : Str) : String := "⟨#[" ++ String.intercalate ", " (x.cps.toList.map toString) ++ "]⟩"
def pInt (i : Int) : String := if i < 0 then "(" ++ toString i ++ ")" else toString i
def pD : D → String
  | .none => ".none"
  | .bool b => "(.bool " ++ toString b ++ ")"
  | .int i => "(.int " ++ pInt i ++ ")"
  | .str x => "(.str " ++ pStr x ++ ")"
  | _ => "_"
def pL {α : Type} (f : α → String) (l : List α) : String := "[" ++ String.intercalate ", " (l.map f) ++ "]"
def pBop : Bop → String
  | .add => ".add" | .sub => ".sub" | .mul => ".mul" | .fdiv => ".fdiv" | .mod => ".mod" | .pow => ".pow"
def pCop : Cop → String
  | .eq => ".eq" | .ne => ".ne" | .lt => ".lt" | .le => ".le" | .gt => ".gt" | .ge => ".ge" | .isin => ".isin" | .notin => ".notin" | .is => ".is" | .isnot => ".isnot"
def pBi : Bi → String
  | .len => ".len" | .int1 => ".int1" | .str1 => ".str1" | .max2 => ".max2" | .min2 => ".min2" | .maxl => ".maxl" | .minl => ".minl" | .sum1 => ".sum1" | .sorted => ".sorted" | .list => ".list" | .tuple => ".tuple" | .dict => ".dict" | .any => ".any" | .all => ".all" | .repr => ".repr" | .abs => ".abs"
def pTy : Ty → String
  | .int => ".int" | .bool => ".bool" | .str => ".str" | .list => ".list" | .tuple => ".tuple" | .dict => ".dict" | .non => ".non"
def pTg : Tg → String
  | .nm i => "(.nm " ++ toString i ++ ")"
  | .tp is => "(.tp " ++ pL toString is ++ ")"
mutual
def pE : E → String
  | .c d => "(.c " ++ pD d ++ ")"
  | .var i => "(.var " ++ toString i ++ ")"
  | .bin o a b => "(.bin " ++ pBop o ++ " " ++ pE a ++ " " ++ pE b ++ ")"
  | .neg a => "(.neg " ++ pE a ++ ")"
  | .cmp o a b => "(.cmp " ++ pCop o ++ " " ++ pE a ++ " " ++ pE b ++ ")"
  | .chn o o' a b c => "(.chn " ++ pCop o ++ " " ++ pCop o' ++ " " ++ pE a ++ " " ++ pE b ++ " " ++ pE c ++ ")"
  | .nt a => "(.nt " ++ pE a ++ ")"
  | .and a b => "(.and " ++ pE a ++ " " ++ pE b ++ ")"
  | .or a b => "(.or " ++ pE a ++ " " ++ pE b ++ ")"
  | .ite t a b => "(.ite " ++ pT t ++ " " ++ pE a ++ " " ++ pE b ++ ")"
  | .call f n es => "(.call " ++ toString f ++ " " ++ toString n ++ " " ++ pEs es ++ ")"
  | .callk f n pm es => "(.callk " ++ toString f ++ " " ++ toString n ++ " " ++ pL toString pm ++ " " ++ pEs es ++ ")"
  | .bi b es => "(.bi " ++ pBi b ++ " " ++ pEs es ++ ")"
  | .isi t a => "(.isi " ++ pTy t ++ " " ++ pE a ++ ")"
  | .ix a i => "(.ix " ++ pE a ++ " " ++ pE i ++ ")"
  | .sl a lo hi => "(.sl " ++ pE a ++ " " ++ pO lo ++ " " ++ pO hi ++ ")"
  | .rev a => "(.rev " ++ pE a ++ ")"
  | .lst es => "(.lst " ++ pEs es ++ ")"
  | .tup es => "(.tup " ++ pEs es ++ ")"
  | .dic ps => "(.dic " ++ pP ps ++ ")"
  | .lc vs tg w ts e => "(.lc " ++ pL toString vs ++ " " ++ pTg tg ++ " " ++ pW w ++ " " ++ pU ts ++ " " ++ pE e ++ ")"
  | .app o a => "(.app " ++ pE o ++ " " ++ pE a ++ ")"
  | .pop o => "(.pop " ++ pE o ++ ")"
  | .join o a => "(.join " ++ pE o ++ " " ++ pE a ++ ")"
  | .bits o => "(.bits " ++ pE o ++ ")"
  | .nev => ".nev"
def pEs : Es → String
  | .nil => ".nil"
  | .cons e r => "(.cons " ++ pE e ++ " " ++ pEs r ++ ")"
def pP : Pr → String
  | .nil => ".nil"
  | .cons k v r => "(.cons " ++ pE k ++ " " ++ pE v ++ " " ++ pP r ++ ")"
def pO : Oe → String
  | .no => ".no"
  | .some e => "(.some " ++ pE e ++ ")"
def pT : T → String
  | .not t => "(.not " ++ pT t ++ ")"
  | .and a b => "(.and " ++ pT a ++ " " ++ pT b ++ ")"
  | .or a b => "(.or " ++ pT a ++ " " ++ pT b ++ ")"
  | .cmp o a b => "(.cmp " ++ pCop o ++ " " ++ pE a ++ " " ++ pE b ++ ")"
  | .chn o o' a b c => "(.chn " ++ pCop o ++ " " ++ pCop o' ++ " " ++ pE a ++ " " ++ pE b ++ " " ++ pE c ++ ")"
  | .e a => "(.e " ++ pE a ++ ")"
  | .nev => ".nev"
def pU : Ot → String
  | .no => ".no"
  | .some t => "(.some " ++ pT t ++ ")"
  | .nev => ".nev"
def pW : Wk → String
  | .e a => "(.e " ++ pE a ++ ")"
  | .rng1 a => "(.rng1 " ++ pE a ++ ")"
  | .rng2 a b => "(.rng2 " ++ pE a ++ " " ++ pE b ++ ")"
  | .enum a => "(.enum " ++ pE a ++ ")"
  | .zip a b => "(.zip " ++ pE a ++ " " ++ pE b ++ ")"
  | .items a => "(.items " ++ pE a ++ ")"
  | .nev => ".nev"
end
mutual
def pS : S → String
  | .asg j e => "(.asg " ++ toString j ++ " " ++ pE e ++ ")"
  | .asgIx o i e => "(.asgIx " ++ pE o ++ " " ++ pE i ++ " " ++ pE e ++ ")"
  | .expr e => "(.expr " ++ pE e ++ ")"
  | .ret e => "(.ret " ++ pE e ++ ")"
  | .retN => ".retN"
  | .ifs t a b => "(.ifs " ++ pT t ++ " " ++ pSs a ++ " " ++ pSs b ++ ")"
  | .for_ tg w b => "(.for_ " ++ pTg tg ++ " " ++ pW w ++ " " ++ pSs b ++ ")"
  | .whl t b => "(.whl " ++ pT t ++ " " ++ pSs b ++ ")"
  | .brk => ".brk"
  | .cnt => ".cnt"
  | .pass => ".pass"
  | .nev => ".nev"
def pSs : Ss → String
  | .nil => ".nil"
  | .cons s r => "(.cons " ++ pS s ++ " " ++ pSs r ++ ")"
end
end Rf
end
section
set_option Elab.async false
set_option linter.all false
set_option maxRecDepth 100000
set_option maxHeartbeats 4000000
set_option autoImplicit false
/-! Rf28: reckoning with the evaluator. -/
namespace Rf
open PySem PySem.Spec L2

theorem run_fail {α : Type} (s : En) (k : α → En → Prop) (x : Xc → En → Prop) : (M.fail : M α).run s k x = False := rfl
theorem run_assert (p : Prop) (s : En) (k : Unit → En → Prop) (x : Xc → En → Prop) : (M.assert p).run s k x = (p ∧ k () s) := rfl
theorem run_pick {α : Type} (P : α → Prop) (s : En) (k : α → En → Prop) (x : Xc → En → Prop) : (M.pick P).run s k x = ∀ a, P a → k a s := rfl
theorem run_get (s : En) (k : En → En → Prop) (x : Xc → En → Prop) : M.get.run s k x = k s s := rfl
theorem run_look (i : Nat) (e : En) (k : Opd → En → Prop) (x : Xc → En → Prop) : (look i).run e k x = match getSl e i with
    | some ⟨.fz, d⟩ => k (.val ⟨.fz, d⟩) e
    | some _ => k (.slot i) e
    | none => False := rfl
theorem look_fz {i : Nat} {e : En} {d : D} {k : Opd → En → Prop} {x : Xc → En → Prop} (h : getSl e i = some ⟨.fz, d⟩) : (look i).run e k x = k (.val ⟨.fz, d⟩) e := by
  rw [run_look, h]
theorem look_top {i : Nat} {e : En} {d : D} {k : Opd → En → Prop} {x : Xc → En → Prop} (h : getSl e i = some ⟨.top, d⟩) : (look i).run e k x = k (.slot i) e := by
  rw [run_look, h]
theorem peek_val (s : Sl) : peek (.val s) = pure s.d := rfl
theorem take_val (s : Sl) : take (.val s) = pure s.d := rfl
theorem own_val (s : Sl) : own (.val s) = pure s := rfl
theorem move_val (s : Sl) : move (.val s) = pure s := rfl
theorem run_peek (i : Nat) (e : En) (k : D → En → Prop) (x : Xc → En → Prop) : (peek (.slot i)).run e k x = match getSl e i with
    | some s => k s.d e
    | none => False := rfl
theorem runL_eq {ir : Nat → Option (Nat × Nat × Ss)} {i np n k : Nat} {b : Ss} (h : ir i = some (np, n, b)) : runL ir (k + 1) i = fnOf np n (exs (runL ir k) b) := by
  show (match ir i with | some (np, n, b) => fnOf np n (exs (runL ir k) b) | none => Fn.none) = _
  rw [h]
theorem fnOf_run (np n : Nat) (body : M Flw) (ss : List Sl) (k : List (Option Sl) → Sl → Prop) (x : List (Option Sl) → Xc → Prop) : (fnOf np n body).run ss k x = (ss.length = np ∧ body.run (initEn ss n) (fun fl en' => match fl with
    | .nx => k (finsOf np en') ⟨.fz, .none⟩
    | .rt s => k (finsOf np en') s
    | _ => False) (fun e en' => x (finsOf np en') e)) := rfl
theorem callM_run (φ : Fn) (xs : List Opd) (e : En) (k : Sl → En → Prop) (x : Xc → En → Prop) : (callM φ xs).run e k x = match loadArgs xs e with
    | some (ss, e') => φ.run ss (fun fin r => k r (backArgs xs fin e')) (fun fin ex => x ex (backArgs xs fin e'))
    | none => False := rfl
theorem run_bindSl (i : Nat) (s : Sl) (e : En) (k : Unit → En → Prop) (x : Xc → En → Prop) : (bindSl i s).run e k x = match e[i]? with
    | some ⟨false, _⟩ => k () (e.set i ⟨false, some s⟩)
    | _ => False := rfl

/-! ### comprehensions -/
def wpb (e : En) (i : Nat) : Prop := e[i]? = some (⟨false, none⟩ : Slt) ∨ ∃ d, e[i]? = some (⟨false, some ⟨.fz, d⟩⟩ : Slt)
theorem run_wipe1 {i : Nat} {e : En} {k : Unit → En → Prop} {x : Xc → En → Prop} (h : wpb e i) (hk : k () (e.set i ⟨false, none⟩)) : (wipe1 i).run e k x := by
  show (match e[i]? with
    | some ⟨false, none⟩ => k () (e.set i ⟨false, none⟩)
    | some ⟨false, some ⟨.fz, _⟩⟩ => k () (e.set i ⟨false, none⟩)
    | _ => False)
  rcases h with h | ⟨d, h⟩ <;> rw [h] <;> exact hk
theorem set_get {e : En} {i : Nat} {a b : Slt} (h : e[i]? = some a) : (e.set i b)[i]? = some b := List.getElem?_set_self (List.getElem?_eq_some_iff.mp h).1
theorem wpb_lt {e : En} {i : Nat} (h : wpb e i) : i < e.length := by
  rcases h with h | ⟨d, h⟩ <;> exact (List.getElem?_eq_some_iff.mp h).1
theorem rest_one {e0 e1 : En} {i : Nat} {a : Slt} (h : e0[i]? = some a) : restEn e0 [i] e1 = e1.set i a := by
  refine List.ext_getElem? fun j => ?_
  unfold restEn
  rw [List.getElem?_mapIdx]
  by_cases hj : j = i
  · subst hj
    by_cases hl : j < e1.length
    · rw [List.getElem?_set_self hl, List.getElem?_eq_getElem hl]
      simp [h]
    · rw [List.getElem?_eq_none (l := e1) (by omega), List.getElem?_eq_none (l := e1.set j a) (by simp; omega)]
      rfl
  · rw [List.getElem?_set_ne (Ne.symm hj)]
    cases e1[j]? with
    | none => rfl
    | some s => simp [hj]
theorem lcGo_one {i : Nat} {ts : M Bool} {me : M Opd} {x : Xc → En → Prop} (G : List D → List D → En → Prop)
    (step : ∀ d rest acc e, G (d :: rest) acc e → e[i]? = some (⟨false, none⟩ : Slt) ∧ ts.run (e.set i ⟨false, some ⟨.fz, d⟩⟩) (fun b e' => match b with
      | true => me.run e' (fun o e2 => (take o).run e2 (fun y e3 => wpb e3 i ∧ G rest (acc ++ [y]) (e3.set i ⟨false, none⟩)) x) x
      | false => wpb e' i ∧ G rest acc (e'.set i ⟨false, none⟩)) x) :
    ∀ (rows acc : List D) (e : En) (K : List D → En → Prop), wpb e i → G rows acc (e.set i ⟨false, none⟩) → (∀ ds e', wpb e' i → G [] (acc ++ ds) e' → K ds e') → (lcGo [i] (same ⟨none, rows⟩) (bindT (.nm i)) ts me rows).run e K x := by
  have gen : ∀ (xs rows acc : List D) (e : En) (K : List D → En → Prop), wpb e i → G rows acc (e.set i ⟨false, none⟩) → (∀ ds e', wpb e' i → G [] (acc ++ ds) e' → K ds e') → (lcGo [i] (same ⟨none, xs⟩) (bindT (.nm i)) ts me rows).run e K x := by
    intro xs rows
    induction rows with
    | nil =>
      intro acc e K hw hG hK
      show (wipe1 i).run e (fun _ e1 => True ∧ K [] e1) x
      refine run_wipe1 hw ⟨trivial, hK [] _ (.inl (List.getElem?_set_self (wpb_lt hw))) ?_⟩
      simpa using hG
    | cons d rows ih =>
      intro acc e K hw hG hK
      show (wipe1 i).run e (fun _ e1 => True ∧ (bindT (.nm i) d >>= fun _ => ts >>= fun b => match b with
          | true => me >>= fun o => take o >>= fun d => lcGo [i] (same ⟨none, xs⟩) (bindT (.nm i)) ts me rows >>= fun r => pure (d :: r)
          | false => lcGo [i] (same ⟨none, xs⟩) (bindT (.nm i)) ts me rows).run e1 K x) x
      refine run_wipe1 hw ⟨trivial, ?_⟩
      obtain ⟨h1, h2⟩ := step d rows acc _ hG
      show (match (e.set i (⟨false, none⟩ : Slt))[i]? with
        | some ⟨false, _⟩ => (ts >>= fun b => match b with
          | true => me >>= fun o => take o >>= fun d => lcGo [i] (same ⟨none, xs⟩) (bindT (.nm i)) ts me rows >>= fun r => pure (d :: r)
          | false => lcGo [i] (same ⟨none, xs⟩) (bindT (.nm i)) ts me rows).run ((e.set i (⟨false, none⟩ : Slt)).set i ⟨false, some ⟨.fz, d⟩⟩) K x
        | _ => False)
      rw [h1]
      refine ts.mono h2 (fun b e' q => ?_) fun _ _ z => z
      cases b with
      | true =>
        refine me.mono q (fun o e2 q2 => (take o).mono q2 (fun y e3 q3 => ?_) fun _ _ z => z) fun _ _ z => z
        exact ih (acc ++ [y]) e3 _ q3.1 q3.2 fun ds e4 w g => hK (y :: ds) e4 w (by simpa using g)
      | false => exact ih acc e' K q.1 q.2 hK
  exact fun rows acc e K => gen rows rows acc e K
/-- a comprehension over rows that stand, one name -/
theorem lc_run {i : Nat} {mi : M Rw} {ts : M Bool} {me : M Opd} {e : En} {K : List D → En → Prop} {x : Xc → En → Prop} (G : List D → List D → En → Prop)
    (hm : mi.run e (fun r e1 => r.src = none ∧ r.xs.length ≤ sizeLine ∧ wpb e1 i ∧ G r.xs [] (e1.set i ⟨false, none⟩) ∧ ∀ ds e', G [] ds e' → wpb e' i → K ds (e'.set i (e1[i]?.getD ⟨false, none⟩))) x)
    (step : ∀ d rest acc e, G (d :: rest) acc e → e[i]? = some (⟨false, none⟩ : Slt) ∧ ts.run (e.set i ⟨false, some ⟨.fz, d⟩⟩) (fun b e' => match b with
      | true => me.run e' (fun o e2 => (take o).run e2 (fun y e3 => wpb e3 i ∧ G rest (acc ++ [y]) (e3.set i ⟨false, none⟩)) x) x
      | false => wpb e' i ∧ G rest acc (e'.set i ⟨false, none⟩)) x) : (lcM [i] mi (bindT (.nm i)) ts me).run e K x := by
  refine mi.mono hm (fun r e1 q => ?_) fun _ _ z => z
  obtain ⟨src, xs⟩ := r
  obtain ⟨h1, h2, h3, h4, h5⟩ := q
  have h1 : src = none := h1
  subst h1
  refine ⟨h2, ?_⟩
  show (lcGo [i] (same ⟨none, xs⟩) (bindT (.nm i)) ts me xs).run e1 (fun ds e' => K ds (restEn e1 [i] e')) x
  refine lcGo_one G step xs [] e1 _ h3 h4 fun ds e' w g => ?_
  have h6 := h5 ds e' (by simpa using g) w
  have hl := wpb_lt h3
  rw [rest_one (a := e1[i]) (List.getElem?_eq_getElem hl)]
  rw [List.getElem?_eq_getElem hl] at h6
  exact h6
/-- nothing changes but the name -/
theorem lc_pure {i : Nat} {mi : M Rw} {ts : M Bool} {me : M Opd} {e : En} {K : List D → En → Prop} {x : Xc → En → Prop} {rows : List D} (t : D → Bool) (f : D → D) (he : wpb e i)
    (hm : ∀ K', K' ⟨none, rows⟩ e → mi.run e K' x) (hz : rows.length ≤ sizeLine)
    (ht : ∀ d ∈ rows, ∀ K', K' (t d) (e.set i ⟨false, some ⟨.fz, d⟩⟩) → ts.run (e.set i ⟨false, some ⟨.fz, d⟩⟩) K' x)
    (hf : ∀ d ∈ rows, t d = true → ∀ K', K' (f d) (e.set i ⟨false, some ⟨.fz, d⟩⟩) → (me >>= take).run (e.set i ⟨false, some ⟨.fz, d⟩⟩) K' x)
    (hK : K ((rows.filter t).map f) e) : (lcM [i] mi (bindT (.nm i)) ts me).run e K x := by
  have hl := wpb_lt he
  have es : ∀ a : Slt, (e.set i ⟨false, none⟩).set i a = e.set i a := fun a => by rw [List.set_set]
  refine lc_run (fun rest acc e' => e' = e.set i ⟨false, none⟩ ∧ (∀ d ∈ rest, d ∈ rows) ∧ acc ++ (rest.filter t).map f = (rows.filter t).map f) (hm _ ⟨rfl, hz, he, ⟨rfl, fun _ h => h, by simp⟩, fun ds e' g w => ?_⟩) fun d rest acc e' g => ?_
  · obtain ⟨rfl, _, h⟩ := g
    have h : ds = (rows.filter t).map f := by simpa using h
    subst h
    rw [es, List.getElem?_eq_getElem hl]
    have : e.set i e[i] = e := List.set_getElem_self hl
    show K _ (e.set i e[i])
    rw [this]
    exact hK
  · obtain ⟨rfl, h1, h2⟩ := g
    refine ⟨List.getElem?_set_self hl, ?_⟩
    rw [es]
    have hd := h1 d (by simp)
    refine ht d hd _ ?_
    have w : wpb (e.set i ⟨false, some ⟨.fz, d⟩⟩) i := .inr ⟨d, List.getElem?_set_self hl⟩
    have e2 : (e.set i (⟨false, some ⟨.fz, d⟩⟩ : Slt)).set i ⟨false, none⟩ = e.set i ⟨false, none⟩ := by rw [List.set_set]
    cases htd : t d with
    | true => exact hf d hd htd _ ⟨w, e2, fun y hy => h1 y (List.mem_cons_of_mem _ hy), by rw [← h2]; simp [htd]⟩
    | false => exact ⟨w, e2, fun y hy => h1 y (List.mem_cons_of_mem _ hy), by rw [← h2]; simp [htd]⟩
/-- two names, over pairs -/
theorem rest_two {e0 e1 : En} {i j : Nat} {a b : Slt} (hij : i ≠ j) (h : e0[i]? = some a) (h' : e0[j]? = some b) : restEn e0 [i, j] e1 = (e1.set i a).set j b := by
  refine List.ext_getElem? fun l => ?_
  unfold restEn
  rw [List.getElem?_mapIdx]
  by_cases hj : l = j
  · subst hj
    by_cases hl : l < e1.length
    · rw [List.getElem?_set_self (by simpa using hl), List.getElem?_eq_getElem hl]
      simp [h']
    · rw [List.getElem?_eq_none (l := e1) (by omega), List.getElem?_eq_none (l := (e1.set i a).set l b) (by simp; omega)]
      rfl
  · rw [List.getElem?_set_ne (Ne.symm hj)]
    by_cases hi : l = i
    · subst hi
      by_cases hl : l < e1.length
      · rw [List.getElem?_set_self hl, List.getElem?_eq_getElem hl]
        simp [h]
      · rw [List.getElem?_eq_none (l := e1) (by omega), List.getElem?_eq_none (l := e1.set l a) (by simp; omega)]
        rfl
    · rw [List.getElem?_set_ne (Ne.symm hi)]
      cases e1[l]? with
      | none => rfl
      | some s => simp [hi, hj]
theorem lc_pure2X {i j : Nat} {mi : M Rw} {me : M Opd} {e0 : En} (e : En) {K : List D → En → Prop} {x : Xc → En → Prop} {rows : List (D × D)} (f : D → D → D) (hij : i ≠ j) (he : e[i]? = some (⟨false, none⟩ : Slt)) (he' : e[j]? = some (⟨false, none⟩ : Slt))
    (hm : ∀ K', K' ⟨none, rows.map fun p => .tuple [p.1, p.2]⟩ e → mi.run e0 K' x) (hz : rows.length ≤ sizeLine)
    (hf : ∀ p ∈ rows, ∀ K', K' (f p.1 p.2) ((e.set i ⟨false, some ⟨.fz, p.1⟩⟩).set j ⟨false, some ⟨.fz, p.2⟩⟩) → (me >>= take).run ((e.set i ⟨false, some ⟨.fz, p.1⟩⟩).set j ⟨false, some ⟨.fz, p.2⟩⟩) K' x)
    (hK : K (rows.map fun p => f p.1 p.2) e) : (lcM [i, j] mi (bindT (.tp [i, j])) (pure true) me).run e0 K x := by
  have li := (List.getElem?_eq_some_iff.mp he).1
  have lj := (List.getElem?_eq_some_iff.mp he').1
  refine hm _ ⟨by simpa using hz, ?_⟩
  show (lcGo [i, j] (same ⟨none, rows.map fun p => .tuple [p.1, p.2]⟩) (bindT (.tp [i, j])) (pure true) me (rows.map fun p => .tuple [p.1, p.2])).run e (fun ds e' => K ds (restEn e [i, j] e')) x
  have gen : ∀ (xs : List D) (rs : List (D × D)) (e1 : En) (K' : List D → En → Prop), (∀ p ∈ rs, p ∈ rows) → (e1.set j ⟨false, none⟩).set i ⟨false, none⟩ = e → wpb e1 j → wpb (e1.set j ⟨false, none⟩) i → K' (rs.map fun p => f p.1 p.2) e →
      (lcGo [i, j] (same ⟨none, xs⟩) (bindT (.tp [i, j])) (pure true) me (rs.map fun p => .tuple [p.1, p.2])).run e1 K' x := by
    intro xs rs
    induction rs with
    | nil =>
      intro e1 K' _ h1 h2 h3 hk
      show (wipe1 j).run e1 (fun _ e2 => (wipe1 i).run e2 (fun _ e3 => True ∧ K' [] e3) x) x
      refine run_wipe1 h2 (run_wipe1 h3 ⟨trivial, ?_⟩)
      rw [h1]
      exact hk
    | cons p rs ih =>
      intro e1 K' hp h1 h2 h3 hk
      show (wipe1 j).run e1 (fun _ e2 => (wipe1 i).run e2 (fun _ e3 => True ∧ (bindT (.tp [i, j]) (.tuple [p.1, p.2]) >>= fun _ => (me >>= take) >>= fun d => lcGo [i, j] (same ⟨none, xs⟩) (bindT (.tp [i, j])) (pure true) me (rs.map fun p => .tuple [p.1, p.2]) >>= fun r => pure (d :: r)).run e3 K' x) x) x
      refine run_wipe1 h2 (run_wipe1 h3 ⟨trivial, ?_⟩)
      rw [h1]
      show (match e[i]? with
        | some ⟨false, _⟩ => (match (e.set i (⟨false, some ⟨.fz, p.1⟩⟩ : Slt))[j]? with
          | some ⟨false, _⟩ => ((me >>= take) >>= fun d => lcGo [i, j] (same ⟨none, xs⟩) (bindT (.tp [i, j])) (pure true) me (rs.map fun p => .tuple [p.1, p.2]) >>= fun r => pure (d :: r)).run ((e.set i ⟨false, some ⟨.fz, p.1⟩⟩).set j ⟨false, some ⟨.fz, p.2⟩⟩) K' x
          | _ => False)
        | _ => False)
      rw [he]
      dsimp only
      rw [List.getElem?_set_ne hij, he']
      dsimp only
      refine hf p (hp p (by simp)) _ ?_
      have ew : ((((e.set i (⟨false, some ⟨.fz, p.1⟩⟩ : Slt)).set j ⟨false, some ⟨.fz, p.2⟩⟩).set j ⟨false, none⟩).set i ⟨false, none⟩) = e := by
        refine List.ext_getElem? fun l => ?_
        by_cases hl : l = i
        · subst hl
          rw [List.getElem?_set_self (by simpa using li), he]
        · rw [List.getElem?_set_ne (Ne.symm hl)]
          by_cases hl2 : l = j
          · subst hl2
            rw [List.getElem?_set_self (by simpa using lj), he']
          · rw [List.getElem?_set_ne (Ne.symm hl2), List.getElem?_set_ne (Ne.symm hl2), List.getElem?_set_ne (Ne.symm hl)]
      refine ih _ _ (fun q hq => hp q (List.mem_cons_of_mem _ hq)) ew (.inr ⟨p.2, List.getElem?_set_self (by simpa using lj)⟩) (.inr ⟨p.1, ?_⟩) ?_
      · rw [List.getElem?_set_ne (Ne.symm hij), List.getElem?_set_ne (Ne.symm hij), List.getElem?_set_self li]
      · simp only [List.map_cons] at hk
        exact hk
  have eZ : (e.set j (⟨false, none⟩ : Slt)).set i ⟨false, none⟩ = e := by
    refine List.ext_getElem? fun l => ?_
    by_cases hl : l = i
    · subst hl
      rw [List.getElem?_set_self (by simpa using li), he]
    · rw [List.getElem?_set_ne (Ne.symm hl)]
      by_cases hl2 : l = j
      · subst hl2
        rw [List.getElem?_set_self lj, he']
      · rw [List.getElem?_set_ne (Ne.symm hl2)]
  refine gen _ rows e _ (fun _ h => h) eZ (.inl he') (.inl ?_) ?_
  · rw [List.getElem?_set_ne (Ne.symm hij)]
    exact he
  · rw [rest_two hij he he']
    have e3 : (e.set i (⟨false, none⟩ : Slt)).set j ⟨false, none⟩ = e := by
      rw [List.set_comm _ _ hij]
      exact eZ
    rw [e3]
    exact hK

theorem lc_pure2 {i j : Nat} {mi : M Rw} {me : M Opd} {e : En} {K : List D → En → Prop} {x : Xc → En → Prop} {rows : List (D × D)} (f : D → D → D) (hij : i ≠ j) (he : e[i]? = some (⟨false, none⟩ : Slt)) (he' : e[j]? = some (⟨false, none⟩ : Slt))
    (hm : ∀ K', K' ⟨none, rows.map fun p => .tuple [p.1, p.2]⟩ e → mi.run e K' x) (hz : rows.length ≤ sizeLine)
    (hf : ∀ p ∈ rows, ∀ K', K' (f p.1 p.2) ((e.set i ⟨false, some ⟨.fz, p.1⟩⟩).set j ⟨false, some ⟨.fz, p.2⟩⟩) → (me >>= take).run ((e.set i ⟨false, some ⟨.fz, p.1⟩⟩).set j ⟨false, some ⟨.fz, p.2⟩⟩) K' x)
    (hK : K (rows.map fun p => f p.1 p.2) e) : (lcM [i, j] mi (bindT (.tp [i, j])) (pure true) me).run e K x := lc_pure2X e f hij he he' hm hz hf hK

/-! ### for -/
theorem for_run {tg : Tg} {mi : M Rw} {mb : M Flw} {e : En} {K : Flw → En → Prop} {x : Xc → En → Prop} (G : List D → En → Prop) (hm : mi.run e (fun r e1 => r.src = none ∧ G r.xs e1) x)
    (step : ∀ d rest e, G (d :: rest) e → (bindT tg d >>= fun _ => mb).run e (fun f e' => match f with
      | .nx => G rest e'
      | .ct => G rest e'
      | .bk => K .nx e'
      | .rt s => K (.rt s) e') x) (fin : ∀ e, G [] e → K .nx e) : (forM mi (bindT tg) mb).run e K x := by
  refine mi.mono hm (fun r e1 q => ?_) fun _ _ z => z
  obtain ⟨src, xs⟩ := r
  obtain ⟨h1, h2⟩ := q
  have h1 : src = none := h1
  subst h1
  show (forGo (pure ()) (bindT tg) mb xs).run e1 K x
  have g0 : G xs e1 := h2
  clear hm h1 h2
  induction xs generalizing e1 with
  | nil => exact fin e1 g0
  | cons d xs ih =>
    have q := step d xs e1 g0
    show (bindT tg d >>= fun _ => mb >>= fun f => match f with
      | .nx => forGo (pure ()) (bindT tg) mb xs
      | .ct => forGo (pure ()) (bindT tg) mb xs
      | .bk => pure .nx
      | .rt s => pure (.rt s)).run e1 K x
    refine (bindT tg d >>= fun _ => mb).mono q (fun f e' z => ?_) fun _ _ z => z
    cases f with
    | nx => exact ih e' z
    | ct => exact ih e' z
    | bk => exact z
    | rt s => exact z
/-! ### a def's promise in plain words -/
/-- shared arguments in, a value out -/
def Gives (φ : Fn) (ds : List D) (P : Sl → Prop) : Prop := ∀ (K : List (Option Sl) → Sl → Prop) (x : List (Option Sl) → Xc → Prop), (∀ r, P r → K (ds.map fun _ => none) r) → φ.run (ds.map fun d => ⟨.fz, d⟩) K x
theorem load_vals : ∀ (ss : List Sl) (e : En), loadArgs (ss.map Opd.val) e = some (ss, e)
  | [], e => rfl
  | s :: ss, e => by
    show (match loadArgs (ss.map Opd.val) e with | some (ss, e') => some (s :: ss, e') | none => none) = _
    rw [load_vals ss e]
theorem back_vals : ∀ (ss : List Sl) (fin : List (Option Sl)) (e : En), backArgs (ss.map Opd.val) fin e = e
  | [], _, e => rfl
  | s :: ss, [], e => rfl
  | s :: ss, f :: fin, e => back_vals ss fin e
/-- a call with values alone -/
theorem call_vals {φ : Fn} {np : Nat} {ms : M (List Opd)} {ds : List D} {P : Sl → Prop} {e : En} {K : Opd → En → Prop} {x : Xc → En → Prop} (g : Gives φ ds P) (hn : ds.length = np) (hm : ∀ K', K' (ds.map val0) e → ms.run e K' x) (hK : ∀ r, P r → K (.val r) e) : (callE φ np ms).run e K x := by
  refine hm _ ⟨by simpa using hn, ?_⟩
  show (callM φ (ds.map val0)).run e (fun s e' => K (.val s) e') x
  rw [callM_run]
  have e1 : ds.map val0 = (ds.map fun d => (⟨.fz, d⟩ : Sl)).map Opd.val := by simp [val0]
  rw [e1, load_vals]
  dsimp only
  refine g _ _ fun r hr => ?_
  rw [back_vals]
  exact hK r hr
end Rf
end
section
set_option Elab.async false
set_option linter.all false
set_option maxRecDepth 100000
set_option maxHeartbeats 4000000
set_option autoImplicit false
/-! Rf29: facts of plain data. -/
namespace Rf
open PySem PySem.Spec L2

theorem layAll_iff : ∀ {ds : List D}, PyData.canLayAll0 ds = true ↔ ∀ d ∈ ds, d.canLay0 = true
  | [] => by simp [PyData.canLayAll0]
  | d :: ds => by simp [PyData.canLayAll0, layAll_iff (ds := ds)]
theorem depthAll_le {n : Nat} : ∀ {ds : List D}, PyData.depthAll ds ≤ n ↔ ∀ d ∈ ds, d.depth ≤ n
  | [] => by simp [PyData.depthAll]
  | d :: ds => by
    simp only [PyData.depthAll, List.mem_cons, forall_eq_or_imp, ← depthAll_le (ds := ds)]
    omega
theorem shap_list {ds : List D} (h : ∀ d ∈ ds, d.canLay0 = true ∧ d.depth ≤ 63) : shap (.list ds) := by
  show (PyData.canLay0 (.list ds) && decide (PyData.depth (.list ds) ≤ 64)) = true
  have h1 : PyData.canLayAll0 ds = true := layAll_iff.mpr fun d hd => (h d hd).1
  have h2 : PyData.depthAll ds ≤ 63 := depthAll_le.mpr fun d hd => (h d hd).2
  rw [Bool.and_eq_true, decide_eq_true_eq]
  exact ⟨by simpa [PyData.canLay0] using h1, by simpa [PyData.depth] using h2⟩
theorem shap_nil : shap (.list []) := shap_list (by simp)
theorem shap_iff {d : D} : shap d ↔ d.canLay0 = true ∧ d.depth ≤ 64 := by
  show (d.canLay0 && decide (d.depth ≤ 64)) = true ↔ _
  simp
theorem eqv_nil : ∀ ds : List D, PyData.eqv (.list ds) (.list []) = ds.isEmpty
  | [] => by simp [PyData.eqv, PyData.eqvAll]
  | d :: ds => by simp [PyData.eqv, PyData.eqvAll]
/-- a list against [] -/
theorem cop_nil {f g : Fl} {ds : List D} {e : En} {K : Bool → En → Prop} {x : Xc → En → Prop} (h : shap (.list ds)) (hK : K ds.isEmpty e) : (copB .eq (.val ⟨f, .list ds⟩) (.val ⟨g, .list []⟩)).run e K x := by
  refine ⟨⟨h, shap_nil⟩, ?_⟩
  rw [eqv_nil]
  exact hK
theorem cop_nil_ne {f g : Fl} {ds : List D} {e : En} {K : Bool → En → Prop} {x : Xc → En → Prop} (h : shap (.list ds)) (hK : K (!ds.isEmpty) e) : (copB .ne (.val ⟨f, .list ds⟩) (.val ⟨g, .list []⟩)).run e K x := by
  refine ⟨⟨h, shap_nil⟩, ?_⟩
  rw [eqv_nil]
  exact hK
theorem filter_nil {α : Type} {p : α → Bool} : ∀ {l : List α}, (l.filter p).isEmpty = l.all fun a => !p a
  | [] => rfl
  | a :: l => by
    rw [List.filter_cons, List.all_cons]
    cases h : p a with
    | true => simp [h]
    | false => simp [h, filter_nil (l := l)]
/-- one sign in a text -/
theorem sign_in (x : Str) (c : Nat) : (!(Builtin.Str.occurrences x ⟨#[c]⟩ 0 x.length 1).isEmpty) = decide (c ∈ x.cps.toList) := StrLaws.found_one x c
/-- what may be shown, compared, told -/
structure Fine (d : D) : Prop where
  s : d.showable = true
  l : d.leavesShort 40 = true
  w : d.weight ≤ 2 ^ 18
  dp : d.depth ≤ 60
  c : d.canLay0 = true ∨ ∃ kvs, d = .dict kvs
theorem Fine.shown {d : D} (f : Fine d) : d.shown.length ≤ sizeLine := by
  have h := PyData.shown_le 40 (by decide) d f.l
  have h2 := f.w
  rw [sizeLine_eq]
  have h3 : (40 + 2) * d.weight ≤ 42 * 2 ^ 18 := Nat.mul_le_mul (by decide) h2
  omega
theorem Fine.repr {d : D} (f : Fine d) : d.showable = true ∧ d.depth ≤ 64 ∧ d.shown.length ≤ sizeLine := ⟨f.s, by have := f.dp; omega, f.shown⟩
theorem weight_mem : ∀ {ds : List D} {d : D}, d ∈ ds → d.weight ≤ PyData.weightAll ds
  | e :: ds, d, h => by
    simp only [PyData.weightAll]
    rcases List.mem_cons.mp h with rfl | h
    · omega
    · have := weight_mem h
      omega
end Rf
end
section
set_option Elab.async false
set_option linter.all false
set_option maxRecDepth 100000
set_option maxHeartbeats 0
namespace HD
open PySem PySem.Spec PyProof.Rows L2 Rf
abbrev PP : Program := PySem.Challenge.pw_escapehall_k01_names_and_lots_of_names
def top (i : Nat) : Stmt := PP.main.body.getD i (.Pass ⟨0, 0, 0, 0⟩)
def df (i : Nat) (x : Str) (ps N : List Str) : Df := ⟨x, ps, N, defArgs (top i), defBody (top i), defScope (top i)⟩
def tx : Tx := ⟨[
  df 4 "is_signs" ["value", "signs"] ["value", "signs", "sign"],
  df 5 "is_name" ["value"] ["value"],
  df 6 "ascends" ["items"] ["items", "at"],
  df 7 "is_names" ["value"] ["value", "item"],
  df 9 "_law_hash" ["seed", "index"] ["seed", "index", "mixed"],
  df 10 "_law_cell" ["script", "index"] ["script", "index"],
  df 11 "_law_generator" ["script", "index"] ["script", "index", "seed"],
  df 12 "_law_random" ["generator", "bound"] ["generator", "bound", "drawn", "turn"],
  df 13 "_law_pick" ["generator", "things"] ["generator", "things"],
  df 14 "_law_copied" ["value"] ["value", "item", "key"],
  df 15 "_law_exact" ["told", "due"] ["told", "due", "one", "other"],
  df 16 "_law_unlike" ["items"] ["items", "found", "item"],
  df 17 "_law_any" ["generator"] ["generator", "menu"],
  df 18 "_law_name" ["value"] ["value", "sign"],
  df 19 "_law_rise" ["items"] ["items", "at"],
  df 20 "_law_string" ["generator"] ["generator", "signs", "turn"],
  df 21 "_law_numbers" ["generator"] ["generator", "turn"],
  df 22 "_law_judged" ["value"] ["value", "kept", "lots", "due", "told", "again", "item"],
  df 23 "law" ["script"] ["script", "index", "many", "due", "generator", "turn", "numbers", "menu", "names", "good", "lists", "value", "at", "name"]],
  [(1, ["value"], [0]), (3, ["value"], [0])],
  [("SMALL", .str "abcdefghijklmnopqrstuvwxyz"), ("FIGURES", .str "0123456789"), ("MOST_NAME", .int (8))],
  ["bool", "dict", "int", "isinstance", "len", "list", "max", "range", "repr", "sorted", "str", "sum", "tuple", "zip"], 60⟩
abbrev R : PySem.W.OpenRow := PySem.W.OpenLaw.row PySem.Challenge.rw_escapehall_k01_names_and_lots_of_names
abbrev hk : PySem.W.Hook := He.hookD 4 tx.fa tx.fn
def ob (s : PySem.W.SharedT) : He.AlD := He.obsDG 4 tx.fa tx.fn (HandSHeadRun.getT s)
theorem ob_eq (s : PySem.W.SharedT) : ob s = hk.obs s.abs := He.obsDG_eq (HandSHeadRun.getT_eq s)
def loose : List PySem.Str := (["SMALL", "FIGURES", "MOST_NAME", "is_signs", "is_name", "ascends", "is_names", "_law_hash", "_law_cell", "_law_generator", "_law_random", "_law_pick", "_law_copied", "_law_exact", "_law_unlike", "_law_any", "_law_name", "_law_rise", "_law_string", "_law_numbers", "_law_judged"] : List PySem.Str)
theorem no_kw {n : Nat} {p : Nat × List Str × List Nat} (h : p ∈ tx.kw) (hn : (tx.kw.map (·.1)).all (fun i => i != n) = true) : p.1 ≠ n := fun e => by
  have := List.all_eq_true.mp hn p.1 (List.mem_map.mpr ⟨p, h, rfl⟩)
  rw [e] at this
  simp at this
theorem kwd1 (K : PySem.W.Frag) (fa : Addr) (fd : FuncData) (F : FunD K "is_name" "is_name" (defArgs (top 5)) (defBody (top 5)) (defScope (top 5)) [] [] fa fd) (p : Nat × List Str × List Nat) (hp : p ∈ tx.kw) (e : p.1 = 1) : KwB K fd ["value"] p.2.1 p.2.2 := by
  obtain ⟨oc, od, dV, kV, doc, pm, an, cdv, ct, osl, rfl, lk, hcd, hD, hK⟩ := F.ex
  obtain rfl : dV = .none := (hD.resolve_right fun z => z.1 rfl).2
  simp only [tx, List.mem_cons, List.not_mem_nil, or_false] at hp
  rcases hp with rfl | rfl
  · exact fun s us _ hl => .of_eq (match us, hl with | [_], _ => rfl)
  · cases e
theorem kwd3 (K : PySem.W.Frag) (fa : Addr) (fd : FuncData) (F : FunD K "is_names" "is_names" (defArgs (top 7)) (defBody (top 7)) (defScope (top 7)) [] [] fa fd) (p : Nat × List Str × List Nat) (hp : p ∈ tx.kw) (e : p.1 = 3) : KwB K fd ["value"] p.2.1 p.2.2 := by
  obtain ⟨oc, od, dV, kV, doc, pm, an, cdv, ct, osl, rfl, lk, hcd, hD, hK⟩ := F.ex
  obtain rfl : dV = .none := (hD.resolve_right fun z => z.1 rfl).2
  simp only [tx, List.mem_cons, List.not_mem_nil, or_false] at hp
  rcases hp with rfl | rfl
  · cases e
  · exact fun s us _ hl => .of_eq (match us, hl with | [_], _ => rfl)
theorem binds : ∀ (K : PySem.W.Frag) (i : Nat) (d : Df) (fa : Addr) (fd : FuncData), tx.fs[i]? = some d → FunD K d.name d.name d.params d.body d.scope [] [] fa fd → Binds K fd d.ps [] ∧ ∀ p ∈ tx.kw, p.1 = i → KwB K fd d.ps p.2.1 p.2.2
  | K, 0, _, fa, fd, rfl, F => by
    refine ⟨F.bindsN fun _ _ _ _ _ _ us hl => match us, hl with | [_, _], _ => rfl, fun p hp e => ?_⟩
    exact absurd e (no_kw hp (by decide))
  | K, 1, _, fa, fd, rfl, F => by
    refine ⟨F.bindsN fun _ _ _ _ _ _ us hl => match us, hl with | [_], _ => rfl, fun p hp e => ?_⟩
    exact kwd1 K fa fd F p hp e
  | K, 2, _, fa, fd, rfl, F => by
    refine ⟨F.bindsN fun _ _ _ _ _ _ us hl => match us, hl with | [_], _ => rfl, fun p hp e => ?_⟩
    exact absurd e (no_kw hp (by decide))
  | K, 3, _, fa, fd, rfl, F => by
    refine ⟨F.bindsN fun _ _ _ _ _ _ us hl => match us, hl with | [_], _ => rfl, fun p hp e => ?_⟩
    exact kwd3 K fa fd F p hp e
  | K, 4, _, fa, fd, rfl, F => by
    refine ⟨F.bindsN fun _ _ _ _ _ _ us hl => match us, hl with | [_, _], _ => rfl, fun p hp e => ?_⟩
    exact absurd e (no_kw hp (by decide))
  | K, 5, _, fa, fd, rfl, F => by
    refine ⟨F.bindsN fun _ _ _ _ _ _ us hl => match us, hl with | [_, _], _ => rfl, fun p hp e => ?_⟩
    exact absurd e (no_kw hp (by decide))
  | K, 6, _, fa, fd, rfl, F => by
    refine ⟨F.bindsN fun _ _ _ _ _ _ us hl => match us, hl with | [_, _], _ => rfl, fun p hp e => ?_⟩
    exact absurd e (no_kw hp (by decide))
  | K, 7, _, fa, fd, rfl, F => by
    refine ⟨F.bindsN fun _ _ _ _ _ _ us hl => match us, hl with | [_, _], _ => rfl, fun p hp e => ?_⟩
    exact absurd e (no_kw hp (by decide))
  | K, 8, _, fa, fd, rfl, F => by
    refine ⟨F.bindsN fun _ _ _ _ _ _ us hl => match us, hl with | [_, _], _ => rfl, fun p hp e => ?_⟩
    exact absurd e (no_kw hp (by decide))
  | K, 9, _, fa, fd, rfl, F => by
    refine ⟨F.bindsN fun _ _ _ _ _ _ us hl => match us, hl with | [_], _ => rfl, fun p hp e => ?_⟩
    exact absurd e (no_kw hp (by decide))
  | K, 10, _, fa, fd, rfl, F => by
    refine ⟨F.bindsN fun _ _ _ _ _ _ us hl => match us, hl with | [_, _], _ => rfl, fun p hp e => ?_⟩
    exact absurd e (no_kw hp (by decide))
  | K, 11, _, fa, fd, rfl, F => by
    refine ⟨F.bindsN fun _ _ _ _ _ _ us hl => match us, hl with | [_], _ => rfl, fun p hp e => ?_⟩
    exact absurd e (no_kw hp (by decide))
  | K, 12, _, fa, fd, rfl, F => by
    refine ⟨F.bindsN fun _ _ _ _ _ _ us hl => match us, hl with | [_], _ => rfl, fun p hp e => ?_⟩
    exact absurd e (no_kw hp (by decide))
  | K, 13, _, fa, fd, rfl, F => by
    refine ⟨F.bindsN fun _ _ _ _ _ _ us hl => match us, hl with | [_], _ => rfl, fun p hp e => ?_⟩
    exact absurd e (no_kw hp (by decide))
  | K, 14, _, fa, fd, rfl, F => by
    refine ⟨F.bindsN fun _ _ _ _ _ _ us hl => match us, hl with | [_], _ => rfl, fun p hp e => ?_⟩
    exact absurd e (no_kw hp (by decide))
  | K, 15, _, fa, fd, rfl, F => by
    refine ⟨F.bindsN fun _ _ _ _ _ _ us hl => match us, hl with | [_], _ => rfl, fun p hp e => ?_⟩
    exact absurd e (no_kw hp (by decide))
  | K, 16, _, fa, fd, rfl, F => by
    refine ⟨F.bindsN fun _ _ _ _ _ _ us hl => match us, hl with | [_], _ => rfl, fun p hp e => ?_⟩
    exact absurd e (no_kw hp (by decide))
  | K, 17, _, fa, fd, rfl, F => by
    refine ⟨F.bindsN fun _ _ _ _ _ _ us hl => match us, hl with | [_], _ => rfl, fun p hp e => ?_⟩
    exact absurd e (no_kw hp (by decide))
  | K, 18, _, fa, fd, rfl, F => by
    refine ⟨F.bindsN fun _ _ _ _ _ _ us hl => match us, hl with | [_], _ => rfl, fun p hp e => ?_⟩
    exact absurd e (no_kw hp (by decide))
  | K, n + 19, _, fa, fd, h, F => by cases h
theorem dfs : tx.fs.all dfB = true := by kernel_rfl
theorem gss : gsB tx.gs = true := by kernel_rfl
theorem facts {K : PySem.W.Frag} {h : Heap} {mg : Str → Option Value} (c : He.SaysD tx.fa tx.fn K) (X : K.In h) (G : h.Ns mainGlobals mg) : TxOk tx K mg := tx_ok c X G dfs gss binds
end HD
end
section
set_option Elab.async false
set_option linter.all false
set_option maxRecDepth 100000
set_option maxHeartbeats 0
namespace HD
open Rf
def ir0 : Ss := (.cons (.ret (.and (.isi .str (.var 0)) (.cmp .eq (.lc [2] (.nm 2) (.e (.var 0)) (.some (.cmp .notin (.var 2) (.var 1))) (.var 2)) (.lst .nil)))) .nil)
theorem ir_0 : tx.ir 0 = some (2, 3, ir0) := by kernel_rfl
def ir1 : Ss := (.cons (.ret (.and (.call 0 2 (.cons (.var 0) (.cons (.bin .add (.c (.str ⟨#[97, 98, 99, 100, 101, 102, 103, 104, 105, 106, 107, 108, 109, 110, 111, 112, 113, 114, 115, 116, 117, 118, 119, 120, 121, 122]⟩)) (.c (.str ⟨#[48, 49, 50, 51, 52, 53, 54, 55, 56, 57]⟩))) .nil))) (.and (.chn .lt .le (.c (.int 0)) (.bi .len (.cons (.var 0) .nil)) (.c (.int 8))) (.cmp .isin (.ix (.var 0) (.c (.int 0))) (.c (.str ⟨#[97, 98, 99, 100, 101, 102, 103, 104, 105, 106, 107, 108, 109, 110, 111, 112, 113, 114, 115, 116, 117, 118, 119, 120, 121, 122]⟩)))))) .nil)
theorem ir_1 : tx.ir 1 = some (1, 1, ir1) := by kernel_rfl
def ir2 : Ss := (.cons (.ret (.cmp .eq (.lc [1] (.nm 1) (.rng2 (.c (.int 1)) (.bi .len (.cons (.var 0) .nil))) (.some (.cmp .ge (.ix (.var 0) (.bin .sub (.var 1) (.c (.int 1)))) (.ix (.var 0) (.var 1)))) (.var 1)) (.lst .nil))) .nil)
theorem ir_2 : tx.ir 2 = some (1, 2, ir2) := by kernel_rfl
def ir3 : Ss := (.cons (.ifs (.or (.not (.e (.isi .list (.var 0)))) (.cmp .ne (.lc [1] (.nm 1) (.e (.var 0)) (.some (.not (.e (.call 1 1 (.cons (.var 1) .nil))))) (.var 1)) (.lst .nil))) (.cons (.ret (.c (.bool false))) .nil) .nil) (.cons (.ret (.call 2 1 (.cons (.var 0) .nil))) .nil))
theorem ir_3 : tx.ir 3 = some (1, 2, ir3) := by kernel_rfl
def ir4 : Ss := (.cons (.asg 2 (.bin .mod (.bi .int1 (.cons (.bin .add (.bin .add (.bin .add (.bin .mul (.var 0) (.c (.int 1140671))) (.bin .mul (.bin .mul (.c (.int 27644437)) (.var 1)) (.var 1))) (.bin .mul (.c (.int 131)) (.var 1))) (.c (.int 19))) .nil)) (.c (.int 2147483629)))) (.cons (.asg 2 (.bin .mod (.bi .int1 (.cons (.bin .add (.bin .add (.bin .mul (.var 2) (.var 2)) (.bin .mul (.c (.int 62089)) (.var 1))) (.c (.int 32416187))) .nil)) (.c (.int 2147483587)))) (.cons (.ret (.bin .mod (.bi .int1 (.cons (.bin .mul (.var 2) (.c (.int 48271))) .nil)) (.c (.int 2147483647)))) .nil)))
theorem ir_4 : tx.ir 4 = some (2, 3, ir4) := by kernel_rfl
def ir5 : Ss := (.cons (.ifs (.cmp .lt (.var 1) (.bi .len (.cons (.var 0) .nil))) (.cons (.ret (.ix (.var 0) (.var 1))) .nil) .nil) (.cons (.ret (.bin .mod (.bi .sum1 (.cons (.sl (.var 0) .no (.some (.c (.int 1)))) .nil)) (.c (.int 1000003)))) .nil))
theorem ir_5 : tx.ir 5 = some (2, 2, ir5) := by kernel_rfl
def ir6 : Ss := (.cons (.asg 2 (.call 5 2 (.cons (.var 0) (.cons (.var 1) .nil)))) (.cons (.ret (.lst (.cons (.bin .mod (.bi .int1 (.cons (.bi .max2 (.cons (.bin .sub (.var 2) (.bin .pow (.c (.int 10)) (.c (.int 18)))) (.cons (.c (.int 0)) .nil))) .nil)) (.bin .pow (.bin .pow (.c (.int 10)) (.c (.int 60))) (.c (.int 10)))) (.cons (.bin .mod (.bi .int1 (.cons (.var 2) .nil)) (.c (.int 2147483647))) (.cons (.bin .mul (.c (.int 1000)) (.var 1)) .nil))))) .nil))
theorem ir_6 : tx.ir 6 = some (2, 3, ir6) := by kernel_rfl
def ir7 : Ss := (.cons (.ifs (.cmp .gt (.ix (.var 0) (.c (.int 0))) (.c (.int 0))) (.cons (.asg 2 (.bin .mod (.bi .int1 (.cons (.ix (.var 0) (.c (.int 0))) .nil)) (.var 1))) (.cons (.asgIx (.var 0) (.c (.int 0)) (.bin .fdiv (.ix (.var 0) (.c (.int 0))) (.var 1))) (.cons (.ret (.var 2)) .nil))) .nil) (.cons (.asg 2 (.c (.int 0))) (.cons (.for_ (.nm 3) (.rng1 (.bin .add (.c (.int 1)) (.bin .fdiv (.bits (.var 1)) (.c (.int 30))))) (.cons (.asgIx (.var 0) (.c (.int 2)) (.bin .add (.ix (.var 0) (.c (.int 2))) (.c (.int 1)))) (.cons (.asg 2 (.bin .add (.bin .mul (.var 2) (.c (.int 2147483587))) (.call 4 2 (.cons (.ix (.var 0) (.c (.int 1))) (.cons (.ix (.var 0) (.c (.int 2))) .nil))))) .nil))) (.cons (.ret (.bin .mod (.bi .int1 (.cons (.var 2) .nil)) (.var 1))) .nil))))
theorem ir_7 : tx.ir 7 = some (2, 4, ir7) := by kernel_rfl
def ir8 : Ss := (.cons (.ret (.ix (.var 1) (.call 7 2 (.cons (.var 0) (.cons (.bi .len (.cons (.var 1) .nil)) .nil))))) .nil)
theorem ir_8 : tx.ir 8 = some (2, 2, ir8) := by kernel_rfl
def ir9 : Ss := (.cons (.ifs (.e (.isi .list (.var 0))) (.cons (.ret (.lc [1] (.nm 1) (.e (.var 0)) .no (.call 9 1 (.cons (.var 1) .nil)))) .nil) .nil) (.cons (.ifs (.e (.isi .tuple (.var 0))) (.cons (.ret (.bi .tuple (.cons (.lc [1] (.nm 1) (.e (.var 0)) .no (.call 9 1 (.cons (.var 1) .nil))) .nil))) .nil) .nil) (.cons (.ret (.ite (.e (.isi .dict (.var 0))) (.bi .dict (.cons (.lc [2] (.nm 2) (.e (.var 0)) .no (.tup (.cons (.var 2) (.cons (.call 9 1 (.cons (.ix (.var 0) (.var 2)) .nil)) .nil)))) .nil)) (.var 0))) .nil)))
theorem ir_9 : tx.ir 9 = some (1, 3, ir9) := by kernel_rfl
def ir10 : Ss := (.cons (.ifs (.e (.isi .list (.var 1))) (.cons (.ret (.and (.isi .list (.var 0)) (.and (.cmp .eq (.bi .len (.cons (.var 0) .nil)) (.bi .len (.cons (.var 1) .nil))) (.cmp .notin (.c (.bool false)) (.lc [2, 3] (.tp [2, 3]) (.zip (.var 0) (.var 1)) .no (.call 10 2 (.cons (.var 2) (.cons (.var 3) .nil)))))))) .nil) .nil) (.cons (.ifs (.e (.isi .tuple (.var 1))) (.cons (.ret (.and (.isi .tuple (.var 0)) (.and (.cmp .eq (.bi .len (.cons (.var 0) .nil)) (.bi .len (.cons (.var 1) .nil))) (.cmp .notin (.c (.bool false)) (.lc [2, 3] (.tp [2, 3]) (.zip (.var 0) (.var 1)) .no (.call 10 2 (.cons (.var 2) (.cons (.var 3) .nil)))))))) .nil) .nil) (.cons (.ifs (.cmp .is (.var 1) (.c .none)) (.cons (.ret (.cmp .is (.var 0) (.c .none))) .nil) .nil) (.cons (.ifs (.cmp .is (.var 1) (.c (.bool true))) (.cons (.ret (.cmp .is (.var 0) (.c (.bool true)))) .nil) .nil) (.cons (.ifs (.cmp .is (.var 1) (.c (.bool false))) (.cons (.ret (.cmp .is (.var 0) (.c (.bool false)))) .nil) .nil) (.cons (.ifs (.e (.isi .int (.var 1))) (.cons (.ret (.and (.isi .int (.var 0)) (.and (.nt (.isi .bool (.var 0))) (.cmp .eq (.var 0) (.var 1))))) .nil) .nil) (.cons (.ret (.and (.isi .str (.var 0)) (.cmp .eq (.var 0) (.var 1)))) .nil)))))))
theorem ir_10 : tx.ir 10 = some (2, 4, ir10) := by kernel_rfl
def ir11 : Ss := (.cons (.asg 1 (.lst .nil)) (.cons (.for_ (.nm 2) (.e (.bi .sorted (.cons (.var 0) .nil))) (.cons (.ifs (.cmp .notin (.var 2) (.var 1)) (.cons (.expr (.app (.var 1) (.var 2))) .nil) .nil) .nil)) (.cons (.ret (.var 1)) .nil)))
theorem ir_11 : tx.ir 11 = some (1, 3, ir11) := by kernel_rfl
def ir12 : Ss := (.cons (.asg 1 (.lst (.cons (.c .none) (.cons (.c (.bool true)) (.cons (.c (.bool false)) (.cons (.c (.int 0)) (.cons (.c (.int 1)) (.cons (.neg (.c (.int 1))) (.cons (.bin .pow (.c (.int 10)) (.c (.int 29))) (.cons (.c (.str ⟨#[]⟩)) (.cons (.c (.str ⟨#[97]⟩)) (.cons (.c (.str ⟨#[65]⟩)) (.cons (.c (.str ⟨#[97, 98]⟩)) (.cons (.c (.str ⟨#[97, 32, 98]⟩)) (.cons (.c (.str ⟨#[49, 97]⟩)) (.cons (.c (.str ⟨#[97, 49]⟩)) (.cons (.c (.str ⟨#[32]⟩)) (.cons (.c (.str ⟨#[97, 10]⟩)) (.cons (.bin .mul (.c (.str ⟨#[122]⟩)) (.c (.int 20))) (.cons (.bin .mul (.c (.str ⟨#[122]⟩)) (.c (.int 21))) (.cons (.c (.str ⟨#[97, 98, 99, 100, 101, 102, 103, 104]⟩)) (.cons (.c (.str ⟨#[97, 98, 99, 100, 101, 102, 103, 104, 105]⟩)) .nil)))))))))))))))))))))) (.cons (.asg 1 (.bin .add (.var 1) (.lst (.cons (.lst .nil) (.cons (.tup .nil) (.cons (.dic .nil) (.cons (.lst (.cons (.c (.int 0)) .nil)) (.cons (.lst (.cons (.c (.int 1)) (.cons (.c (.int 0)) .nil))) (.cons (.lst (.cons (.c (.int 0)) (.cons (.c (.str ⟨#[97]⟩)) .nil))) (.cons (.lst (.cons (.c (.str ⟨#[97]⟩)) (.cons (.c (.int 0)) .nil))) (.cons (.lst (.cons (.c .none) (.cons (.c (.int 0)) .nil))) (.cons (.lst (.cons (.c (.int 0)) (.cons (.lst (.cons (.c (.int 1)) .nil)) .nil))) (.cons (.lst (.cons (.c (.int 0)) (.cons (.tup (.cons (.c (.int 1)) .nil)) .nil))) (.cons (.lst (.cons (.c (.bool true)) .nil)) (.cons (.lst (.cons (.c (.int 0)) (.cons (.c (.int 1)) .nil))) (.cons (.lst (.cons (.c (.int 0)) (.cons (.c (.int 0)) .nil))) (.cons (.tup (.cons (.c (.int 0)) (.cons (.c (.int 1)) .nil))) (.cons (.lst (.cons (.c (.str ⟨#[97]⟩)) .nil)) (.cons (.lst (.cons (.lst .nil) .nil)) .nil))))))))))))))))))) (.cons (.asg 1 (.bin .add (.var 1) (.lst (.cons (.dic (.cons (.c (.str ⟨#[97]⟩)) (.c (.int 1)) .nil)) (.cons (.lst (.cons (.c (.int 1)) (.cons (.c (.int 2)) (.cons (.bin .pow (.c (.int 10)) (.c (.int 29))) .nil)))) (.cons (.lst (.cons (.neg (.c (.int 1))) .nil)) (.cons (.c (.str ⟨#[97, 95, 98]⟩)) (.cons (.c (.str ⟨#[97, 66]⟩)) (.cons (.bin .mul (.c (.str ⟨#[97]⟩)) (.c (.int 200))) (.cons (.c (.str ⟨#[101, 48]⟩)) (.cons (.c (.str ⟨#[48]⟩)) (.cons (.c (.str ⟨#[104, 111, 117, 115, 101]⟩)) (.cons (.tup (.cons (.c (.str ⟨#[104, 111, 117, 115, 101]⟩)) .nil)) .nil))))))))))))) (.cons (.ret (.call 9 1 (.cons (.call 8 2 (.cons (.var 0) (.cons (.var 1) .nil))) .nil))) .nil))))
theorem ir_12 : tx.ir 12 = some (1, 2, ir12) := by kernel_rfl
def ir13 : Ss := (.cons (.ifs (.or (.not (.e (.isi .str (.var 0)))) (.or (.cmp .gt (.bi .len (.cons (.var 0) .nil)) (.c (.int 8))) (.cmp .notin (.sl (.var 0) .no (.some (.c (.int 1)))) (.bi .list (.cons (.c (.str ⟨#[97, 98, 99, 100, 101, 102, 103, 104, 105, 106, 107, 108, 109, 110, 111, 112, 113, 114, 115, 116, 117, 118, 119, 120, 121, 122]⟩)) .nil))))) (.cons (.ret (.c (.bool false))) .nil) .nil) (.cons (.ret (.cmp .eq (.lc [1] (.nm 1) (.e (.var 0)) (.some (.cmp .notin (.var 1) (.c (.str ⟨#[97, 98, 99, 100, 101, 102, 103, 104, 105, 106, 107, 108, 109, 110, 111, 112, 113, 114, 115, 116, 117, 118, 119, 120, 121, 122, 48, 49, 50, 51, 52, 53, 54, 55, 56, 57]⟩)))) (.var 1)) (.lst .nil))) .nil))
theorem ir_13 : tx.ir 13 = some (1, 2, ir13) := by kernel_rfl
def ir14 : Ss := (.cons (.ret (.cmp .eq (.lc [1] (.nm 1) (.rng2 (.c (.int 1)) (.bi .len (.cons (.var 0) .nil))) (.some (.cmp .ge (.ix (.var 0) (.bin .sub (.var 1) (.c (.int 1)))) (.ix (.var 0) (.var 1)))) (.var 1)) (.lst .nil))) .nil)
theorem ir_14 : tx.ir 14 = some (1, 2, ir14) := by kernel_rfl
def ir15 : Ss := (.cons (.asg 1 (.call 8 2 (.cons (.var 0) (.cons (.lst (.cons (.c (.str ⟨#[97, 98]⟩)) (.cons (.c (.str ⟨#[97, 98, 99, 100, 101, 102, 103, 104, 105, 106, 107, 108, 109, 110, 111, 112, 113, 114, 115, 116, 117, 118, 119, 120, 121, 122]⟩)) (.cons (.c (.str ⟨#[97, 48, 49, 50, 51, 52, 53, 54, 55, 56, 57]⟩)) (.cons (.c (.str ⟨#[97, 90, 95, 32, 45, 126]⟩)) (.cons (.c (.str ⟨#[97, 48, 10, 9]⟩)) .nil)))))) .nil)))) (.cons (.ret (.join (.c (.str ⟨#[]⟩)) (.lc [2] (.nm 2) (.rng1 (.call 7 2 (.cons (.var 0) (.cons (.c (.int 24)) .nil)))) .no (.call 8 2 (.cons (.var 0) (.cons (.var 1) .nil)))))) .nil))
theorem ir_15 : tx.ir 15 = some (1, 3, ir15) := by kernel_rfl
def ir16 : Ss := (.cons (.ret (.lc [1] (.nm 1) (.rng1 (.call 7 2 (.cons (.var 0) (.cons (.c (.int 6)) .nil)))) .no (.bin .sub (.call 7 2 (.cons (.var 0) (.cons (.call 8 2 (.cons (.var 0) (.cons (.lst (.cons (.c (.int 3)) (.cons (.c (.int 9)) (.cons (.bin .pow (.c (.int 10)) (.c (.int 12))) .nil)))) .nil))) .nil))) (.call 7 2 (.cons (.var 0) (.cons (.c (.int 2)) .nil)))))) .nil)
theorem ir_16 : tx.ir 16 = some (1, 2, ir16) := by kernel_rfl
def ir17 : Ss := (.cons (.asg 1 (.bi .repr (.cons (.var 0) .nil))) (.cons (.asg 2 (.and (.isi .list (.var 0)) (.cmp .eq (.lc [6] (.nm 6) (.e (.var 0)) (.some (.not (.e (.call 13 1 (.cons (.var 6) .nil))))) (.var 6)) (.lst .nil)))) (.cons (.asg 3 (.lst (.cons (.call 13 1 (.cons (.var 0) .nil)) (.cons (.and (.var 2) (.call 14 1 (.cons (.var 0) .nil))) .nil)))) (.cons (.asg 4 (.lst (.cons (.call 1 1 (.cons (.var 0) .nil)) (.cons (.call 3 1 (.cons (.var 0) .nil)) .nil)))) (.cons (.asg 5 (.lst (.cons (.callk 1 1 [0] (.cons (.var 0) .nil)) (.cons (.callk 3 1 [0] (.cons (.var 0) .nil)) .nil)))) (.cons (.ret (.and (.call 10 2 (.cons (.var 4) (.cons (.var 3) .nil))) (.and (.call 10 2 (.cons (.var 5) (.cons (.var 3) .nil))) (.cmp .eq (.bi .repr (.cons (.var 0) .nil)) (.var 1))))) .nil))))))
theorem ir_17 : tx.ir 17 = some (1, 7, ir17) := by kernel_rfl
def ir18 : Ss := (.cons (.for_ (.nm 1) (.rng1 (.c (.int 3))) (.cons (.asg 4 (.call 6 2 (.cons (.var 0) (.cons (.var 1) .nil)))) (.cons (.for_ (.nm 5) (.rng1 (.c (.int 12))) (.cons (.asg 6 (.call 16 1 (.cons (.var 4) .nil))) (.cons (.asg 7 (.lst (.cons (.c (.str ⟨#[97]⟩)) (.cons (.c (.str ⟨#[98]⟩)) (.cons (.c (.str ⟨#[97, 98]⟩)) (.cons (.c (.str ⟨#[97, 49]⟩)) (.cons (.c (.str ⟨#[122]⟩)) (.cons (.c (.str ⟨#[97, 98, 99, 100, 101, 102, 103, 104]⟩)) (.cons (.c (.str ⟨#[97, 98, 99, 100, 101, 102, 103, 104, 105]⟩)) (.cons (.c (.str ⟨#[65]⟩)) (.cons (.c (.str ⟨#[]⟩)) (.cons (.c (.str ⟨#[49, 97]⟩)) (.cons (.c (.int 1)) (.cons (.c .none) (.cons (.c (.str ⟨#[97, 114, 109]⟩)) (.cons (.c (.str ⟨#[111, 108, 100]⟩)) (.cons (.c (.str ⟨#[97, 32, 98]⟩)) (.cons (.c (.str ⟨#[97, 66]⟩)) (.cons (.c (.str ⟨#[97, 95, 98]⟩)) (.cons (.c (.str ⟨#[97, 10]⟩)) .nil)))))))))))))))))))) (.cons (.asg 8 (.lc [12] (.nm 12) (.rng1 (.call 7 2 (.cons (.var 4) (.cons (.c (.int 5)) .nil)))) .no (.call 8 2 (.cons (.var 4) (.cons (.var 7) .nil))))) (.cons (.asg 9 (.lc [13] (.nm 13) (.e (.var 8)) (.some (.and (.e (.isi .str (.var 13))) (.e (.call 13 1 (.cons (.var 13) .nil))))) (.var 13))) (.cons (.asg 10 (.lst (.cons (.var 8) (.cons (.var 9) (.cons (.bi .sorted (.cons (.var 9) .nil)) (.cons (.call 11 1 (.cons (.var 9) .nil)) (.cons (.bi .tuple (.cons (.call 11 1 (.cons (.var 9) .nil)) .nil)) (.cons (.sl (.call 11 1 (.cons (.var 9) .nil)) .no (.some (.c (.int 1)))) (.cons (.rev (.call 11 1 (.cons (.var 9) .nil))) .nil))))))))) (.cons (.for_ (.nm 11) (.e (.bin .add (.lst (.cons (.call 12 1 (.cons (.var 4) .nil)) (.cons (.call 15 1 (.cons (.var 4) .nil)) (.cons (.var 6) (.cons (.bi .sorted (.cons (.var 6) .nil)) (.cons (.call 11 1 (.cons (.var 6) .nil)) (.cons (.bi .tuple (.cons (.call 11 1 (.cons (.var 6) .nil)) .nil)) .nil))))))) (.var 10))) (.cons (.ifs (.not (.e (.call 17 1 (.cons (.var 11) .nil)))) (.cons (.ret (.c (.bool false))) .nil) .nil) .nil)) .nil))))))) .nil))) (.cons (.asg 2 (.lc [12] (.nm 12) (.rng1 (.c (.int 60))) .no (.bin .add (.c (.str ⟨#[110]⟩)) (.bi .str1 (.cons (.bin .add (.c (.int 10)) (.var 12)) .nil))))) (.cons (.asg 3 (.lc [11] (.nm 11) (.e (.lst (.cons (.var 2) (.cons (.bin .add (.sl (.var 2) .no (.some (.c (.int 58)))) (.lst (.cons (.ix (.var 2) (.c (.int 59))) (.cons (.ix (.var 2) (.c (.int 58))) .nil)))) (.cons (.bin .add (.sl (.var 2) .no (.some (.c (.int 59)))) (.lst (.cons (.ix (.var 2) (.c (.int 58))) .nil))) (.cons (.bin .add (.var 2) (.lst (.cons (.c (.str ⟨#[65]⟩)) .nil))) .nil)))))) .no (.call 17 1 (.cons (.var 11) .nil)))) (.cons (.asg 3 (.bin .add (.var 3) (.lc [11] (.nm 11) (.e (.lst (.cons (.lst (.cons (.c (.int 0)) (.cons (.c (.str ⟨#[97]⟩)) .nil))) (.cons (.lst (.cons (.c (.str ⟨#[97]⟩)) (.cons (.c (.int 0)) .nil))) (.cons (.lst (.cons (.c .none) (.cons (.c (.int 0)) .nil))) (.cons (.lst (.cons (.c (.int 0)) (.cons (.lst (.cons (.c (.int 1)) .nil)) .nil))) (.cons (.c (.int 0)) (.cons (.bin .pow (.c (.int 10)) (.c (.int 12))) (.cons (.c (.bool true)) (.cons (.neg (.c (.int 1))) (.cons (.bin .mul (.c (.str ⟨#[97]⟩)) (.c (.int 8))) (.cons (.bin .mul (.c (.str ⟨#[97]⟩)) (.c (.int 9))) (.cons (.c (.str ⟨#[97, 48]⟩)) (.cons (.c (.str ⟨#[48, 97]⟩)) (.cons (.lst .nil) (.cons (.lst (.cons (.c (.int 0)) .nil)) (.cons (.lst (.cons (.c (.int 0)) (.cons (.bin .pow (.c (.int 10)) (.c (.int 12))) .nil))) (.cons (.lst (.cons (.c (.bool true)) .nil)) (.cons (.lst (.cons (.c (.int 1)) (.cons (.c (.int 1)) .nil))) (.cons (.lst (.cons (.c (.int 2)) (.cons (.c (.int 1)) .nil))) .nil)))))))))))))))))))) .no (.call 17 1 (.cons (.var 11) .nil))))) (.cons (.ret (.cmp .notin (.c (.bool false)) (.var 3))) .nil)))))
theorem ir_18 : tx.ir 18 = some (1, 14, ir18) := by kernel_rfl
end HD
end
section
set_option Elab.async false
set_option linter.all false
set_option maxRecDepth 100000
set_option maxHeartbeats 4000000
namespace HD
open PySem PySem.Spec L2 Rf

def isSigns (d : D) (sg : Str) : Bool := match d with
  | .str y => y.cps.toList.all (fun c => decide (c ∈ sg.cps.toList))
  | _ => false
/-- what a string must be to be walked and told -/
def strF (d : D) : Prop := ∀ y, d = .str y → y.length ≤ sizeLine ∧ PyData.strOk y = true
theorem signs_lay {y : Str} (h : PyData.strOk y = true) : ∀ d ∈ signs y, d.canLay0 = true ∧ d.depth ≤ 63 := by
  intro d hd
  unfold signs at hd
  obtain ⟨c, hc, rfl⟩ := List.mem_map.mp hd
  unfold PyData.strOk at h
  have := Array.all_eq_true'.mp h c (by simpa using hc)
  refine ⟨?_, by simp [PyData.depth]⟩
  simp only [PyData.canLay0, PyData.strOk]
  simpa using this
/-- the signs of a text that stand not in another one -/
theorem run_signs {e : En} {i : Nat} {ts : M Bool} {me : M Opd} {y sg : Str} {K : List D → En → Prop} {x : Xc → En → Prop} (hy : y.length ≤ sizeLine) (he : wpb e i)
    (ht : ∀ c, ∀ K' : Bool → En → Prop, K' (!(!(Builtin.Str.occurrences sg ⟨#[c]⟩ 0 sg.length 1).isEmpty)) (e.set i ⟨false, some ⟨.fz, .str ⟨#[c]⟩⟩⟩) → ts.run (e.set i ⟨false, some ⟨.fz, .str ⟨#[c]⟩⟩⟩) K' x)
    (hf : ∀ d, ∀ K' : D → En → Prop, K' d (e.set i ⟨false, some ⟨.fz, d⟩⟩) → (me >>= take).run (e.set i ⟨false, some ⟨.fz, d⟩⟩) K' x) {mi : M Rw} (hm : ∀ K' : Rw → En → Prop, K' ⟨none, signs y⟩ e → mi.run e K' x)
    (hK : ∀ ds : List D, (∀ d ∈ ds, d ∈ signs y) → ds.isEmpty = isSigns (.str y) sg → K ds e) : (lcM [i] mi (bindT (.nm i)) ts me).run e K x := by
  refine lc_pure (rows := signs y) (fun d => match d with | .str z => !(!(Builtin.Str.occurrences sg z 0 sg.length 1).isEmpty) | _ => false) (fun d => d) he hm (by simpa [signs, Str.length] using hy) (fun d hd K' hk => ?_) (fun d hd _ K' hk => hf d K' hk) ?_
  · unfold signs at hd
    obtain ⟨c, hc, rfl⟩ := List.mem_map.mp hd
    exact ht c K' hk
  · refine hK _ (fun d hd => ?_) ?_
    · rw [List.map_id'] at hd
      exact (List.mem_filter.mp hd).1
    · rw [List.map_id', filter_nil]
      show (signs y).all _ = y.cps.toList.all _
      unfold signs
      rw [List.all_map]
      refine List.all_congr (by rfl) fun c => ?_
      show (!(!(!(Builtin.Str.occurrences sg ⟨#[c]⟩ 0 sg.length 1).isEmpty))) = _
      rw [sign_in, Bool.not_not]
theorem g0 (k : Nat) (d : D) (sg : Str) (hd : strF d) : Gives (runL tx.ir (k + 1) 0) [d, .str sg] (fun r => r = ⟨.fz, .bool (isSigns d sg)⟩) := by
  intro K x hK
  rw [runL_eq ir_0, fnOf_run]
  refine ⟨rfl, ?_⟩
  show (exs _ ir0).run [⟨false, some ⟨.fz, d⟩⟩, ⟨false, some ⟨.fz, .str sg⟩⟩, ⟨false, none⟩] _ _
  cases d with
  | str y =>
    obtain ⟨h1, h2⟩ := hd y rfl
    simp only [ir0, exs, ex, ev, evs, evK, evT, evU, evW, evO, evP, seqM, Rf.andM, Rf.orM, isiM, asgM, negM, revM, callE, permM, prm, consO, consK, run_bind, run_pure, run_look, getSl, peek_val, take_val, own_val, move_val, pureV, newV, val0, List.map_cons, List.map_nil, List.getElem?_cons_zero, List.getElem?_cons_succ, truM, pure_bind', bind_assoc', truth, tyIs, lstE, tupE, run_assert, biM, peeks, partM, List.set_cons_zero, List.set_cons_succ, run_bindSl]
    refine run_signs (sg := sg) h1 (.inl rfl) (fun c K' hk => ?_) (fun d K' hk => ?_) (fun K' hk => ?_) fun ds h3 h4 => ?_
    · simpa only [exs, ex, ev, evs, evK, evT, evU, evW, evO, evP, seqM, Rf.andM, Rf.orM, isiM, asgM, negM, revM, callE, permM, prm, consO, consK, run_bind, run_pure, run_look, getSl, peek_val, take_val, own_val, move_val, pureV, newV, val0, List.map_cons, List.map_nil, List.getElem?_cons_zero, List.getElem?_cons_succ, truM, pure_bind', bind_assoc', truth, tyIs, lstE, tupE, run_assert, biM, peeks, partM, List.set_cons_zero, List.set_cons_succ, run_bindSl, copB, cop, inM] using hk
    · simpa only [exs, ex, ev, evs, evK, evT, evU, evW, evO, evP, seqM, Rf.andM, Rf.orM, isiM, asgM, negM, revM, callE, permM, prm, consO, consK, run_bind, run_pure, run_look, getSl, peek_val, take_val, own_val, move_val, pureV, newV, val0, List.map_cons, List.map_nil, List.getElem?_cons_zero, List.getElem?_cons_succ, truM, pure_bind', bind_assoc', truth, tyIs, lstE, tupE, run_assert, biM, peeks, partM, List.set_cons_zero, List.set_cons_succ, run_bindSl] using hk
    · simpa only [exs, ex, ev, evs, evK, evT, evU, evW, evO, evP, seqM, Rf.andM, Rf.orM, isiM, asgM, negM, revM, callE, permM, prm, consO, consK, run_bind, run_pure, run_look, getSl, peek_val, take_val, own_val, move_val, pureV, newV, val0, List.map_cons, List.map_nil, List.getElem?_cons_zero, List.getElem?_cons_succ, truM, pure_bind', bind_assoc', truth, tyIs, lstE, tupE, run_assert, biM, peeks, partM, List.set_cons_zero, List.set_cons_succ, run_bindSl, rowsM, itemsOf] using hk
    · refine ⟨by simp, cop_nil (shap_list fun d hd => signs_lay h2 d (h3 d hd)) ?_⟩
      rw [h4]
      exact hK _ rfl
  | _ =>
    simp only [ir0, exs, ex, ev, evs, evK, evT, evU, evW, evO, evP, seqM, Rf.andM, Rf.orM, isiM, asgM, negM, revM, callE, permM, prm, consO, consK, run_bind, run_pure, run_look, getSl, peek_val, take_val, own_val, move_val, pureV, newV, val0, List.map_cons, List.map_nil, List.getElem?_cons_zero, List.getElem?_cons_succ, truM, pure_bind', bind_assoc', truth, tyIs, lstE, tupE, run_assert, biM, peeks, partM, List.set_cons_zero, List.set_cons_succ, run_bindSl]
    exact hK _ rfl

abbrev SM : Str := ⟨#[97, 98, 99, 100, 101, 102, 103, 104, 105, 106, 107, 108, 109, 110, 111, 112, 113, 114, 115, 116, 117, 118, 119, 120, 121, 122]⟩
abbrev FG : Str := ⟨#[48, 49, 50, 51, 52, 53, 54, 55, 56, 57]⟩
abbrev SF : Str := ⟨#[97, 98, 99, 100, 101, 102, 103, 104, 105, 106, 107, 108, 109, 110, 111, 112, 113, 114, 115, 116, 117, 118, 119, 120, 121, 122, 48, 49, 50, 51, 52, 53, 54, 55, 56, 57]⟩
def headIn (l : List Nat) : Bool := match l with
  | c :: _ => decide (c ∈ SM.cps.toList)
  | [] => false
/-- a name -/
def isNm (d : D) : Bool := match d with
  | .str y => decide (y.length ≤ 8) && headIn y.cps.toList && isSigns d SF
  | _ => false
theorem any_sign (c : Nat) : ∀ l : List Nat, ((l.map fun z => (PyData.str ⟨#[z]⟩)).any fun z => PyData.eqv z (.str ⟨#[c]⟩)) = decide (c ∈ l)
  | [] => rfl
  | a :: l => by
    rw [List.map_cons, List.any_cons, any_sign c l]
    have e : PyData.eqv (.str ⟨#[a]⟩) (.str ⟨#[c]⟩) = decide (c = a) := by
      rw [Bool.eq_iff_iff]
      simp [PyData.eqv]
      exact eq_comm
    rw [e, Bool.eq_iff_iff]
    simp
theorem any_none (l : List Nat) : ((l.map fun z => (PyData.str ⟨#[z]⟩)).any fun z => PyData.eqv z (.str ⟨#[]⟩)) = false := by
  rw [List.any_map, List.any_eq_false]
  intro a _
  simp [PyData.eqv]
theorem shap_str {y : Str} (h : PyData.strOk y = true) : shap (.str y) := shap_iff.mpr ⟨by simpa [PyData.canLay0] using h, by simp [PyData.depth]⟩
theorem strOk_iff {l : List Nat} : PyData.strOk ⟨l.toArray⟩ = true ↔ ∀ c ∈ l, c < 0x110000 := by
  unfold PyData.strOk
  simp [Array.all_eq_true]
theorem ok_SM : PyData.strOk SM = true := strOk_iff.mpr (by decide)
theorem shap_SM : shap (.list (signs SM)) := shap_list (signs_lay ok_SM)
theorem g13 (k : Nat) (d : D) (hd : strF d) : Gives (runL tx.ir (k + 1) 13) [d] (fun r => r = ⟨.fz, .bool (isNm d)⟩) := by
  intro K x hK
  rw [runL_eq ir_13, fnOf_run]
  refine ⟨rfl, ?_⟩
  show (exs _ ir13).run [⟨false, some ⟨.fz, d⟩⟩, ⟨false, none⟩] _ _
  cases d with
  | str y =>
    obtain ⟨h1, h2⟩ := hd y rfl
    obtain ⟨⟨l⟩⟩ := y
    have hl : (⟨⟨l⟩⟩ : Str).length = l.length := by simp [Str.length]
    have hl2 : (⟨⟨l⟩⟩ : Str).cps.toList = l := rfl
    simp only [ir13, exs, ex, ev, evs, evK, evT, evU, evW, evO, evP, seqM, Rf.andM, Rf.orM, isiM, asgM, negM, revM, callE, permM, prm, consO, consK, run_bind, run_pure, run_look, getSl, peek_val, take_val, own_val, move_val, pureV, newV, val0, List.map_cons, List.map_nil, List.getElem?_cons_zero, List.getElem?_cons_succ, truM, pure_bind', bind_assoc', truth, tyIs, lstE, tupE, run_assert, biM, peeks, partM, List.set_cons_zero, List.set_cons_succ, run_bindSl, biD, copB, cop, ltM, Bool.not_true, listM]
    refine ⟨h1, ?_⟩
    rw [hl]
    by_cases h8 : 8 < l.length
    · have e1 : decide ((8 : Int) < (l.length : Int)) = true := by simp; omega
      rw [e1]
      have e2 : isNm (.str ⟨⟨l⟩⟩) = false := by
        have : decide ((⟨⟨l⟩⟩ : Str).length ≤ 8) = false := by rw [hl]; simpa using h8
        simp [isNm, this]
      exact hK ⟨.fz, .bool false⟩ (by rw [e2])
    · have e1 : decide ((8 : Int) < (l.length : Int)) = false := by simp; omega
      rw [e1]
      have d8 : decide ((⟨⟨l⟩⟩ : Str).length ≤ 8) = true := by rw [hl]; simp; omega
      have hq : ((signs SM).any fun z => PyData.eqv z (.str (cutS ⟨⟨l⟩⟩ none (some 1)))) = headIn l := by
        cases l with
        | nil => exact any_none _
        | cons c l =>
          have e : cutS ⟨⟨c :: l⟩⟩ none (some 1) = ⟨#[c]⟩ := by simp [cutS, HT.sIx, Str.length]
          rw [e]
          exact any_sign c _
      refine ⟨h1, by decide, ⟨?_, shap_SM⟩, ?_⟩
      · cases l with
        | nil => exact shap_str (strOk_iff.mpr (by simp [cutS, HT.sIx]))
        | cons c l =>
          have hc := strOk_iff.mp h2 c (by simp)
          exact shap_str (strOk_iff.mpr (by simp [cutS, HT.sIx, hl]; exact hc))
      · have hq2 : ((signs ⟨#[97, 98, 99, 100, 101, 102, 103, 104, 105, 106, 107, 108, 109, 110, 111, 112, 113, 114, 115, 116, 117, 118, 119, 120, 121, 122]⟩).any fun z => PyData.eqv z (.str (cutS ⟨⟨l⟩⟩ none (some 1)))) = headIn l := hq
        rw [hq2]
        cases hh : headIn l with
        | false => exact hK ⟨.fz, .bool false⟩ (by simp [isNm, hh])
        | true =>
          simp only [exs, ex, ev, evs, evK, evT, evU, evW, evO, evP, seqM, Rf.andM, Rf.orM, isiM, asgM, negM, revM, callE, permM, prm, consO, consK, run_bind, run_pure, run_look, getSl, peek_val, take_val, own_val, move_val, pureV, newV, val0, List.map_cons, List.map_nil, List.getElem?_cons_zero, List.getElem?_cons_succ, truM, pure_bind', bind_assoc', truth, tyIs, lstE, tupE, run_assert, biM, peeks, partM, List.set_cons_zero, List.set_cons_succ, run_bindSl, Bool.not_true]
          refine run_signs (y := ⟨⟨l⟩⟩) (sg := SF) h1 (.inl rfl) (fun c K' hk => ?_) (fun d K' hk => ?_) (fun K' hk => ?_) fun ds h3 h4 => ?_
          · simpa only [exs, ex, ev, evs, evK, evT, evU, evW, evO, evP, seqM, Rf.andM, Rf.orM, isiM, asgM, negM, revM, callE, permM, prm, consO, consK, run_bind, run_pure, run_look, getSl, peek_val, take_val, own_val, move_val, pureV, newV, val0, List.map_cons, List.map_nil, List.getElem?_cons_zero, List.getElem?_cons_succ, truM, pure_bind', bind_assoc', truth, tyIs, lstE, tupE, run_assert, biM, peeks, partM, List.set_cons_zero, List.set_cons_succ, run_bindSl, copB, cop, inM] using hk
          · simpa only [exs, ex, ev, evs, evK, evT, evU, evW, evO, evP, seqM, Rf.andM, Rf.orM, isiM, asgM, negM, revM, callE, permM, prm, consO, consK, run_bind, run_pure, run_look, getSl, peek_val, take_val, own_val, move_val, pureV, newV, val0, List.map_cons, List.map_nil, List.getElem?_cons_zero, List.getElem?_cons_succ, truM, pure_bind', bind_assoc', truth, tyIs, lstE, tupE, run_assert, biM, peeks, partM, List.set_cons_zero, List.set_cons_succ, run_bindSl] using hk
          · simpa only [exs, ex, ev, evs, evK, evT, evU, evW, evO, evP, seqM, Rf.andM, Rf.orM, isiM, asgM, negM, revM, callE, permM, prm, consO, consK, run_bind, run_pure, run_look, getSl, peek_val, take_val, own_val, move_val, pureV, newV, val0, List.map_cons, List.map_nil, List.getElem?_cons_zero, List.getElem?_cons_succ, truM, pure_bind', bind_assoc', truth, tyIs, lstE, tupE, run_assert, biM, peeks, partM, List.set_cons_zero, List.set_cons_succ, run_bindSl, rowsM, itemsOf] using hk
          · refine ⟨by simp, cop_nil (f := .top) (g := .top) (shap_list fun d hd => signs_lay h2 d (h3 d hd)) ?_⟩
            rw [h4]
            exact hK ⟨.fz, .bool (isSigns (.str ⟨⟨l⟩⟩) SF)⟩ (by simp only [isNm, d8, hh, Bool.true_and])
  | _ =>
    simp only [ir13, exs, ex, ev, evs, evK, evT, evU, evW, evO, evP, seqM, Rf.andM, Rf.orM, isiM, asgM, negM, revM, callE, permM, prm, consO, consK, run_bind, run_pure, run_look, getSl, peek_val, take_val, own_val, move_val, pureV, newV, val0, List.map_cons, List.map_nil, List.getElem?_cons_zero, List.getElem?_cons_succ, truM, pure_bind', bind_assoc', truth, tyIs, lstE, tupE, run_assert, biM, peeks, partM, List.set_cons_zero, List.set_cons_succ, run_bindSl]
    exact hK _ rfl

theorem g1 (k : Nat) (d : D) (hd : strF d) : Gives (runL tx.ir (k + 2) 1) [d] (fun r => r = ⟨.fz, .bool (isNm d)⟩) := by
  intro K x hK
  rw [runL_eq ir_1, fnOf_run]
  refine ⟨rfl, ?_⟩
  show (exs _ ir1).run [⟨false, some ⟨.fz, d⟩⟩] _ _
  have G0 := g0 k d (SM ++ FG) hd
  have eSF : SM ++ FG = SF := by decide
  rw [eSF] at G0
  simp only [ir1, exs, ex, ev, evK, evT, evU, evW, evO, evP, seqM, Rf.andM, Rf.orM, isiM, asgM, negM, revM, prm, consK, run_bind, run_pure, run_look, getSl, peek_val, take_val, own_val, move_val, pureV, newV, val0, List.map_cons, List.map_nil, List.getElem?_cons_zero, List.getElem?_cons_succ, truM, pure_bind', bind_assoc', truth, tyIs, lstE, tupE, run_assert, biM, peeks, partM, List.set_cons_zero, List.set_cons_succ, run_bindSl]
  refine call_vals G0 rfl (fun K' hk => ?_) fun r hr => ?_
  · simp only [exs, ex, ev, evs, evK, evT, evU, evW, evO, evP, seqM, Rf.andM, Rf.orM, isiM, asgM, negM, revM, callE, permM, prm, consO, consK, run_bind, run_pure, run_look, getSl, peek_val, take_val, own_val, move_val, pureV, newV, val0, List.map_cons, List.map_nil, List.getElem?_cons_zero, List.getElem?_cons_succ, truM, pure_bind', bind_assoc', truth, tyIs, lstE, tupE, run_assert, biM, peeks, partM, List.set_cons_zero, List.set_cons_succ, run_bindSl, bopM, bop]
    exact ⟨by decide, by have e : (SM ++ FG) = SF := eSF; exact (e ▸ hk : K' [val0 d, val0 (.str (SM ++ FG))] _)⟩
  · subst hr
    simp only [exs, ex, ev, evs, evK, evT, evU, evW, evO, evP, seqM, Rf.andM, Rf.orM, isiM, asgM, negM, revM, callE, permM, prm, consO, consK, run_bind, run_pure, run_look, getSl, peek_val, take_val, own_val, move_val, pureV, newV, val0, List.map_cons, List.map_nil, List.getElem?_cons_zero, List.getElem?_cons_succ, truM, pure_bind', bind_assoc', truth, tyIs, lstE, tupE, run_assert, biM, peeks, partM, List.set_cons_zero, List.set_cons_succ, run_bindSl]
    cases hs : isSigns d SF with
    | false =>
      refine hK ⟨.fz, .bool false⟩ ?_
      cases d <;> simp_all [isNm]
    | true =>
      cases d with
      | str y =>
        obtain ⟨h1, h2⟩ := hd y rfl
        obtain ⟨⟨l⟩⟩ := y
        have hl : (⟨⟨l⟩⟩ : Str).length = l.length := by simp [Str.length]
        simp only [exs, ex, ev, evs, evK, evT, evU, evW, evO, evP, seqM, Rf.andM, Rf.orM, isiM, asgM, negM, revM, callE, permM, prm, consO, consK, run_bind, run_pure, run_look, getSl, peek_val, take_val, own_val, move_val, pureV, newV, val0, List.map_cons, List.map_nil, List.getElem?_cons_zero, List.getElem?_cons_succ, truM, pure_bind', bind_assoc', truth, tyIs, lstE, tupE, run_assert, biM, peeks, partM, List.set_cons_zero, List.set_cons_succ, run_bindSl, chnM, copB, biD, cop, ltM, Bool.not_true]
        refine ⟨h1, ?_⟩
        rw [hl]
        cases l with
        | nil => exact hK ⟨.fz, .bool false⟩ (by simp [isNm, headIn])
        | cons c l =>
          have e1 : decide ((0 : Int) < (((c :: l).length : Nat) : Int)) = true := by simp
          rw [e1]
          by_cases h8 : 8 < (c :: l).length
          · have e2 : decide ((8 : Int) < (((c :: l).length : Nat) : Int)) = true := by simp only [decide_eq_true_eq]; omega
            rw [e2]
            have e3 : isNm (.str ⟨⟨c :: l⟩⟩) = false := by
              have : decide ((⟨⟨c :: l⟩⟩ : Str).length ≤ 8) = false := by rw [hl]; simp only [decide_eq_false_iff_not]; omega
              simp [isNm, this]
            exact hK ⟨.fz, .bool false⟩ (by rw [e3])
          · have e2 : decide ((8 : Int) < (((c :: l).length : Nat) : Int)) = false := by simp only [decide_eq_false_iff_not]; omega
            rw [e2]
            have d8 : decide ((⟨⟨c :: l⟩⟩ : Str).length ≤ 8) = true := by rw [hl]; simp only [decide_eq_true_eq]; omega
            have e4 : atI (signs ⟨⟨c :: l⟩⟩) 0 = some (.str ⟨#[c]⟩) := by simp [atI, signs, ixN]
            simp only [exs, ex, ev, evs, evK, evT, evU, evW, evO, evP, seqM, Rf.andM, Rf.orM, isiM, asgM, negM, revM, callE, permM, prm, consO, consK, run_bind, run_pure, run_look, getSl, peek_val, take_val, own_val, move_val, pureV, newV, val0, List.map_cons, List.map_nil, List.getElem?_cons_zero, List.getElem?_cons_succ, truM, pure_bind', bind_assoc', truth, tyIs, lstE, tupE, run_assert, biM, peeks, partM, List.set_cons_zero, List.set_cons_succ, run_bindSl, Bool.not_false, ixO, ixM, e4, inM]
            refine ⟨h1, ?_⟩
            exact hK ⟨.fz, .bool _⟩ (by rw [sign_in]; simp only [isNm, d8, hs, headIn, Bool.true_and, Bool.and_true])
      | _ => simp [isSigns] at hs
end HD
end
section
set_option Elab.async false
set_option linter.all false
set_option maxRecDepth 100000
set_option maxHeartbeats 4000000
namespace HD
open PySem PySem.Spec L2 Rf
theorem atI_nat {ds : List D} {n : Nat} (h : n < ds.length) : atI ds (n : Int) = some ds[n] := by
  have e : ixN ds.length (n : Int) = some n := by simp [ixN, h]
  simp [atI, e, h]
def asct (ds : List D) (d : D) : Bool := match d with
  | .int i => match atI ds (i - 1), atI ds i with
    | some (.str x), some (.str y) => !decide (x.cps.toList < y.cps.toList)
    | _, _ => false
  | _ => false
def asc (ds : List D) : Bool := ((rngD 1 ds.length).filter (asct ds)).isEmpty
theorem shap_ints {n m : Int} {ds : List D} (h : ∀ d ∈ ds, d ∈ rngD n m) : shap (.list ds) := shap_list fun d hd => by
  have := h d hd
  unfold rngD at this
  obtain ⟨i, _, rfl⟩ := List.mem_map.mp this
  exact ⟨rfl, by simp [PyData.depth]⟩
theorem asc_run {φ : Nat → Fn} {ds : List D} {K : Flw → En → Prop} {x : Xc → En → Prop} (hn : ds.length ≤ sizeLine) (hs : ∀ d ∈ ds, ∃ y, d = .str y)
    (hK : K (.rt ⟨.fz, .bool (asc ds)⟩) [⟨false, some ⟨.fz, .list ds⟩⟩, ⟨false, none⟩]) : (exs φ ir14).run [⟨false, some ⟨.fz, .list ds⟩⟩, ⟨false, none⟩] K x := by
  have hz : sizeLine < 2 ^ 62 := by rw [sizeLine_eq]; decide
  simp only [ir14, exs, ex, ev, evs, evK, evT, evU, evW, evO, evP, seqM, Rf.andM, Rf.orM, isiM, asgM, negM, revM, callE, permM, prm, consO, consK, run_bind, run_pure, run_look, getSl, peek_val, take_val, own_val, move_val, pureV, newV, val0, List.map_cons, List.map_nil, List.getElem?_cons_zero, List.getElem?_cons_succ, truM, pure_bind', bind_assoc', truth, tyIs, lstE, tupE, run_assert, biM, peeks, partM, List.set_cons_zero, List.set_cons_succ, run_bindSl]
  refine lc_pure (rows := rngD 1 ds.length) (asct ds) (fun d => d) (.inl rfl) (fun K' hk => ?_) ?_ (fun d hd K' hk => ?_) (fun d hd _ K' hk => ?_) ?_
  · simp only [exs, ex, ev, evs, evK, evT, evU, evW, evO, evP, seqM, Rf.andM, Rf.orM, isiM, asgM, negM, revM, callE, permM, prm, consO, consK, run_bind, run_pure, run_look, getSl, peek_val, take_val, own_val, move_val, pureV, newV, val0, List.map_cons, List.map_nil, List.getElem?_cons_zero, List.getElem?_cons_succ, truM, pure_bind', bind_assoc', truth, tyIs, lstE, tupE, run_assert, biM, peeks, partM, List.set_cons_zero, List.set_cons_succ, run_bindSl, rng2M, intM, biD]
    exact ⟨⟨by decide, by decide, by omega, by omega⟩, hk⟩
  · simp [rngD]; omega
  · unfold rngD at hd
    obtain ⟨i, hi, rfl⟩ := List.mem_map.mp hd
    have hi : i < ds.length - 1 := by have := List.mem_range.mp hi; omega
    have a1 : atI ds (1 + (i : Int) - 1) = some ds[i] := by
      rw [show (1 + (i : Int) - 1) = ((i : Nat) : Int) by omega]
      exact atI_nat (by omega)
    have a2 : atI ds (1 + (i : Int)) = some ds[i + 1] := by
      rw [show (1 + (i : Int)) = ((i + 1 : Nat) : Int) by omega]
      exact atI_nat (by omega)
    obtain ⟨y1, b1⟩ := hs ds[i] (List.getElem_mem _)
    obtain ⟨y2, b2⟩ := hs ds[i + 1] (List.getElem_mem _)
    rw [b1] at a1
    rw [b2] at a2
    simp only [exs, ex, ev, evs, evK, evT, evU, evW, evO, evP, seqM, Rf.andM, Rf.orM, isiM, asgM, negM, revM, callE, permM, prm, consO, consK, run_bind, run_pure, run_look, getSl, peek_val, take_val, own_val, move_val, pureV, newV, val0, List.map_cons, List.map_nil, List.getElem?_cons_zero, List.getElem?_cons_succ, truM, pure_bind', bind_assoc', truth, tyIs, lstE, tupE, run_assert, biM, peeks, partM, List.set_cons_zero, List.set_cons_succ, run_bindSl, bopM, bop, copB, cop, ixO, ixM, a1, a2, ltM]
    simp only [asct, a1, a2, List.set_cons_succ, List.set_cons_zero] at hk
    exact hk
  · simpa only [exs, ex, ev, evs, evK, evT, evU, evW, evO, evP, seqM, Rf.andM, Rf.orM, isiM, asgM, negM, revM, callE, permM, prm, consO, consK, run_bind, run_pure, run_look, getSl, peek_val, take_val, own_val, move_val, pureV, newV, val0, List.map_cons, List.map_nil, List.getElem?_cons_zero, List.getElem?_cons_succ, truM, pure_bind', bind_assoc', truth, tyIs, lstE, tupE, run_assert, biM, peeks, partM, List.set_cons_zero, List.set_cons_succ, run_bindSl] using hk
  · rw [List.map_id']
    exact ⟨by simp, cop_nil (f := .top) (g := .top) (shap_ints fun d hd => (List.mem_filter.mp hd).1) hK⟩
theorem g14 (k : Nat) (ds : List D) (hn : ds.length ≤ sizeLine) (hs : ∀ d ∈ ds, ∃ y, d = .str y) : Gives (runL tx.ir (k + 1) 14) [.list ds] (fun r => r = ⟨.fz, .bool (asc ds)⟩) := by
  intro K x hK
  rw [runL_eq ir_14, fnOf_run]
  exact ⟨rfl, asc_run hn hs (hK _ rfl)⟩
theorem g2 (k : Nat) (ds : List D) (hn : ds.length ≤ sizeLine) (hs : ∀ d ∈ ds, ∃ y, d = .str y) : Gives (runL tx.ir (k + 1) 2) [.list ds] (fun r => r = ⟨.fz, .bool (asc ds)⟩) := by
  intro K x hK
  rw [runL_eq ir_2, fnOf_run]
  exact ⟨rfl, asc_run hn hs (hK _ rfl)⟩
/-- what may be judged: the items of a list -/
def itF (d : D) : Prop := ∀ ds, d = .list ds → ds.length ≤ sizeLine ∧ ∀ y ∈ ds, strF y ∧ y.canLay0 = true ∧ y.depth ≤ 63
/-- a list of names, rising -/
def isNms (d : D) : Bool := match d with
  | .list ds => ds.all isNm && asc ds
  | _ => false
theorem nm_str {d : D} (h : isNm d = true) : ∃ y, d = .str y := by
  cases d <;> simp_all [isNm]
theorem g3 (k : Nat) (d : D) (hd : itF d) : Gives (runL tx.ir (k + 3) 3) [d] (fun r => r = ⟨.fz, .bool (isNms d)⟩) := by
  intro K x hK
  rw [runL_eq ir_3, fnOf_run]
  refine ⟨rfl, ?_⟩
  show (exs _ ir3).run [⟨false, some ⟨.fz, d⟩⟩, ⟨false, none⟩] _ _
  cases d with
  | list ds =>
    obtain ⟨h1, h2⟩ := hd ds rfl
    simp only [ir3, exs, ex, ev, evK, evT, evU, evW, evO, evP, seqM, Rf.andM, Rf.orM, isiM, asgM, negM, revM, prm, consK, run_bind, run_pure, run_look, getSl, peek_val, take_val, own_val, move_val, pureV, newV, val0, List.map_cons, List.map_nil, List.getElem?_cons_zero, List.getElem?_cons_succ, truM, pure_bind', bind_assoc', truth, tyIs, lstE, tupE, run_assert, biM, peeks, partM, List.set_cons_zero, List.set_cons_succ, run_bindSl, Bool.not_true]
    refine lc_pure (rows := ds) (fun d => !isNm d) (fun d => d) (.inl rfl) (fun K' hk => ?_) h1 (fun d hd K' hk => ?_) (fun d hd _ K' hk => ?_) ?_
    · simpa only [exs, ex, ev, evs, evK, evT, evU, evW, evO, evP, seqM, Rf.andM, Rf.orM, isiM, asgM, negM, revM, callE, permM, prm, consO, consK, run_bind, run_pure, run_look, getSl, peek_val, take_val, own_val, move_val, pureV, newV, val0, List.map_cons, List.map_nil, List.getElem?_cons_zero, List.getElem?_cons_succ, truM, pure_bind', bind_assoc', truth, tyIs, lstE, tupE, run_assert, biM, peeks, partM, List.set_cons_zero, List.set_cons_succ, run_bindSl, rowsM, itemsOf] using hk
    · simp only [exs, ex, ev, evK, evT, evU, evW, evO, evP, seqM, Rf.andM, Rf.orM, isiM, asgM, negM, revM, prm, consK, run_bind, run_pure, run_look, getSl, peek_val, take_val, own_val, move_val, pureV, newV, val0, List.map_cons, List.map_nil, List.getElem?_cons_zero, List.getElem?_cons_succ, truM, pure_bind', bind_assoc', truth, tyIs, lstE, tupE, run_assert, biM, peeks, partM, List.set_cons_zero, List.set_cons_succ, run_bindSl]
      refine call_vals (g1 k d (h2 d hd).1) rfl (fun K' hk => ?_) fun r hr => ?_
      · simpa only [exs, ex, ev, evs, evK, evT, evU, evW, evO, evP, seqM, Rf.andM, Rf.orM, isiM, asgM, negM, revM, callE, permM, prm, consO, consK, run_bind, run_pure, run_look, getSl, peek_val, take_val, own_val, move_val, pureV, newV, val0, List.map_cons, List.map_nil, List.getElem?_cons_zero, List.getElem?_cons_succ, truM, pure_bind', bind_assoc', truth, tyIs, lstE, tupE, run_assert, biM, peeks, partM, List.set_cons_zero, List.set_cons_succ, run_bindSl] using hk
      · subst hr
        simpa only [exs, ex, ev, evs, evK, evT, evU, evW, evO, evP, seqM, Rf.andM, Rf.orM, isiM, asgM, negM, revM, callE, permM, prm, consO, consK, run_bind, run_pure, run_look, getSl, peek_val, take_val, own_val, move_val, pureV, newV, val0, List.map_cons, List.map_nil, List.getElem?_cons_zero, List.getElem?_cons_succ, truM, pure_bind', bind_assoc', truth, tyIs, lstE, tupE, run_assert, biM, peeks, partM, List.set_cons_zero, List.set_cons_succ, run_bindSl] using hk
    · simpa only [exs, ex, ev, evs, evK, evT, evU, evW, evO, evP, seqM, Rf.andM, Rf.orM, isiM, asgM, negM, revM, callE, permM, prm, consO, consK, run_bind, run_pure, run_look, getSl, peek_val, take_val, own_val, move_val, pureV, newV, val0, List.map_cons, List.map_nil, List.getElem?_cons_zero, List.getElem?_cons_succ, truM, pure_bind', bind_assoc', truth, tyIs, lstE, tupE, run_assert, biM, peeks, partM, List.set_cons_zero, List.set_cons_succ, run_bindSl] using hk
    · rw [List.map_id']
      refine ⟨by simp, cop_nil_ne (f := .top) (g := .top) (shap_list fun d hd => (h2 d (List.mem_filter.mp hd).1).2) ?_⟩
      have e : (ds.filter fun d => !isNm d).isEmpty = ds.all isNm := by
        rw [filter_nil]; exact List.all_congr rfl fun d => Bool.not_not _
      rw [e]
      cases ha : ds.all isNm with
      | false => exact hK ⟨.fz, .bool false⟩ (by simp [isNms, ha])
      | true =>
        simp only [exs, ex, ev, evK, evT, evU, evW, evO, evP, seqM, Rf.andM, Rf.orM, isiM, asgM, negM, revM, prm, consK, run_bind, run_pure, run_look, getSl, peek_val, take_val, own_val, move_val, pureV, newV, val0, List.map_cons, List.map_nil, List.getElem?_cons_zero, List.getElem?_cons_succ, truM, pure_bind', bind_assoc', truth, tyIs, lstE, tupE, run_assert, biM, peeks, partM, List.set_cons_zero, List.set_cons_succ, run_bindSl, Bool.not_true]
        refine call_vals (g2 (k + 1) ds h1 fun d hd => nm_str (List.all_eq_true.mp ha d hd)) rfl (fun K' hk => ?_) fun r hr => ?_
        · simpa only [exs, ex, ev, evs, evK, evT, evU, evW, evO, evP, seqM, Rf.andM, Rf.orM, isiM, asgM, negM, revM, callE, permM, prm, consO, consK, run_bind, run_pure, run_look, getSl, peek_val, take_val, own_val, move_val, pureV, newV, val0, List.map_cons, List.map_nil, List.getElem?_cons_zero, List.getElem?_cons_succ, truM, pure_bind', bind_assoc', truth, tyIs, lstE, tupE, run_assert, biM, peeks, partM, List.set_cons_zero, List.set_cons_succ, run_bindSl] using hk
        · subst hr
          exact hK ⟨.fz, .bool (asc ds)⟩ (by simp [isNms, ha])
  | _ =>
    simp only [ir3, exs, ex, ev, evs, evK, evT, evU, evW, evO, evP, seqM, Rf.andM, Rf.orM, isiM, asgM, negM, revM, callE, permM, prm, consO, consK, run_bind, run_pure, run_look, getSl, peek_val, take_val, own_val, move_val, pureV, newV, val0, List.map_cons, List.map_nil, List.getElem?_cons_zero, List.getElem?_cons_succ, truM, pure_bind', bind_assoc', truth, tyIs, lstE, tupE, run_assert, biM, peeks, partM, List.set_cons_zero, List.set_cons_succ, run_bindSl]
    exact hK ⟨.fz, .bool false⟩ rfl
end HD
end
section
set_option Elab.async false
set_option linter.all false
set_option maxRecDepth 100000
set_option maxHeartbeats 800000
namespace HD
open PySem PySem.Spec L2 Rf
theorem g10a (k : Nat) (a c : Bool) : Gives (runL tx.ir (k + 1) 10) [.bool a, .bool c] (fun r => r = ⟨.fz, .bool (a == c)⟩) := by
  intro K x hK
  rw [runL_eq ir_10, fnOf_run]
  refine ⟨rfl, ?_⟩
  show (exs _ ir10).run [⟨false, some ⟨.fz, .bool a⟩⟩, ⟨false, some ⟨.fz, .bool c⟩⟩, ⟨false, none⟩, ⟨false, none⟩] _ _
  cases a <;> cases c <;> (simp only [ir10, exs, ex, ev, evs, evK, evT, evU, evW, evO, evP, seqM, Rf.andM, Rf.orM, isiM, asgM, negM, revM, callE, permM, prm, consO, consK, run_bind, run_pure, run_look, getSl, peek_val, take_val, own_val, move_val, pureV, newV, val0, List.map_cons, List.map_nil, List.getElem?_cons_zero, List.getElem?_cons_succ, truM, pure_bind', bind_assoc', truth, tyIs, lstE, tupE, run_assert, biM, peeks, partM, List.set_cons_zero, List.set_cons_succ, run_bindSl, copB, cop, isM]; exact hK _ rfl)
def finF (f : Fl) (d : D) : Option Sl := match f with
  | .top => some ⟨.fz, d⟩
  | _ => none
theorem g10s (k : Nat) (f : Fl) (a b c d : Bool) (K : List (Option Sl) → Sl → Prop) (x : List (Option Sl) → Xc → Prop) (h : f = .top ∨ f = .fz) (hK : K [some ⟨.fz, .list [.bool a, .bool b]⟩, finF f (.list [.bool c, .bool d])] ⟨.fz, .bool ((a == c) && (b == d))⟩) :
    (runL tx.ir (k + 2) 10).run [⟨.top, .list [.bool a, .bool b]⟩, ⟨f, .list [.bool c, .bool d]⟩] K x := by
  rw [runL_eq ir_10, fnOf_run]
  refine ⟨rfl, ?_⟩
  have e1 : initEn [⟨.top, .list [.bool a, .bool b]⟩, ⟨f, .list [.bool c, .bool d]⟩] 4 = [⟨true, some ⟨.top, .list [.bool a, .bool b]⟩⟩, ⟨decide (f = .top), some ⟨f, .list [.bool c, .bool d]⟩⟩, ⟨false, none⟩, ⟨false, none⟩] := by
    rcases h with rfl | rfl <;> rfl
  rw [e1]
  have e2 : K (finsOf 2 [⟨true, some ⟨.fz, .list [.bool a, .bool b]⟩⟩, ⟨decide (f = .top), some ⟨.fz, .list [.bool c, .bool d]⟩⟩, ⟨false, none⟩, ⟨false, none⟩]) ⟨.fz, .bool ((a == c) && (b == d))⟩ := by
    rcases h with rfl | rfl <;> exact hK
  have core : ∀ (p : Bool) (K' : Flw → En → Prop) (x' : Xc → En → Prop), K' (.rt ⟨.fz, .bool ((a == c) && (b == d))⟩) [⟨true, some ⟨.fz, .list [.bool a, .bool b]⟩⟩, ⟨p, some ⟨.fz, .list [.bool c, .bool d]⟩⟩, ⟨false, none⟩, ⟨false, none⟩] →
      (exs (runL tx.ir (k + 1)) ir10).run [⟨true, some ⟨.top, .list [.bool a, .bool b]⟩⟩, ⟨p, some ⟨f, .list [.bool c, .bool d]⟩⟩, ⟨false, none⟩, ⟨false, none⟩] K' x' := by
    intro p K' x' hk'
    rcases h with rfl | rfl
    all_goals
      simp only [ir10, exs, ex, ev, evK, evT, evU, evW, evO, evP, seqM, Rf.andM, Rf.orM, isiM, asgM, negM, revM, prm, consK, run_bind, run_pure, run_look, getSl, peek_val, take_val, own_val, move_val, pureV, newV, val0, List.map_cons, List.map_nil, List.getElem?_cons_zero, List.getElem?_cons_succ, truM, pure_bind', bind_assoc', truth, tyIs, lstE, tupE, run_assert, biM, peeks, partM, List.set_cons_zero, List.set_cons_succ, run_bindSl, evs, consO, copB, biD, cop, eqM, scalD, peek, Int.reduceEq]
      have eL : ((PyData.int ([PyData.bool a, PyData.bool b].length : Nat)).eqv (PyData.int ([PyData.bool c, PyData.bool d].length : Nat))) = true := by simp [PyData.eqv]
      simp only [eL, exs, ex, ev, evK, evT, evU, evW, evO, evP, seqM, Rf.andM, Rf.orM, isiM, asgM, negM, revM, prm, consK, run_bind, run_pure, run_look, getSl, peek_val, take_val, own_val, move_val, pureV, newV, val0, List.map_cons, List.map_nil, List.getElem?_cons_zero, List.getElem?_cons_succ, truM, pure_bind', bind_assoc', truth, tyIs, lstE, tupE, run_assert, biM, peeks, partM, List.set_cons_zero, List.set_cons_succ, run_bindSl]
      refine lc_pure2X [⟨true, some ⟨.fz, .list [.bool a, .bool b]⟩⟩, ⟨p, some ⟨.fz, .list [.bool c, .bool d]⟩⟩, ⟨false, none⟩, ⟨false, none⟩] (rows := [(.bool a, .bool c), (.bool b, .bool d)]) (fun p q => .bool (match p, q with | .bool s, .bool t => s == t | _, _ => false)) (show 2 ≠ 3 by decide) rfl rfl (fun K' hk => ?_) (by rw [sizeLine_eq]; simp) (fun q hp K' hk => ?_) ?_
      · simp only [exs, ex, ev, evs, evK, evT, evU, evW, evO, evP, seqM, Rf.andM, Rf.orM, isiM, asgM, negM, revM, callE, permM, prm, consO, consK, run_bind, run_pure, run_look, getSl, peek_val, take_val, own_val, move_val, pureV, newV, val0, List.map_cons, List.map_nil, List.getElem?_cons_zero, List.getElem?_cons_succ, truM, pure_bind', bind_assoc', truth, tyIs, lstE, tupE, run_assert, biM, peeks, partM, List.set_cons_zero, List.set_cons_succ, run_bindSl, zipM]
        exact hk
      · have e : ∃ s t, q = (.bool s, .bool t) := by
          simp only [List.mem_cons, List.not_mem_nil, or_false] at hp
          rcases hp with rfl | rfl
          · exact ⟨_, _, rfl⟩
          · exact ⟨_, _, rfl⟩
        obtain ⟨s, t, rfl⟩ := e
        simp only [exs, ex, ev, evK, evT, evU, evW, evO, evP, seqM, Rf.andM, Rf.orM, isiM, asgM, negM, revM, prm, consK, run_bind, run_pure, run_look, getSl, peek_val, take_val, own_val, move_val, pureV, newV, val0, List.map_cons, List.map_nil, List.getElem?_cons_zero, List.getElem?_cons_succ, truM, pure_bind', bind_assoc', truth, tyIs, lstE, tupE, run_assert, biM, peeks, partM, List.set_cons_zero, List.set_cons_succ, run_bindSl]
        refine call_vals (g10a k s t) rfl (fun K' hk => ?_) fun r hr => ?_
        · simpa only [exs, ex, ev, evs, evK, evT, evU, evW, evO, evP, seqM, Rf.andM, Rf.orM, isiM, asgM, negM, revM, callE, permM, prm, consO, consK, run_bind, run_pure, run_look, getSl, peek_val, take_val, own_val, move_val, pureV, newV, val0, List.map_cons, List.map_nil, List.getElem?_cons_zero, List.getElem?_cons_succ, truM, pure_bind', bind_assoc', truth, tyIs, lstE, tupE, run_assert, biM, peeks, partM, List.set_cons_zero, List.set_cons_succ, run_bindSl] using hk
        · subst hr
          simpa only [exs, ex, ev, evs, evK, evT, evU, evW, evO, evP, seqM, Rf.andM, Rf.orM, isiM, asgM, negM, revM, callE, permM, prm, consO, consK, run_bind, run_pure, run_look, getSl, peek_val, take_val, own_val, move_val, pureV, newV, val0, List.map_cons, List.map_nil, List.getElem?_cons_zero, List.getElem?_cons_succ, truM, pure_bind', bind_assoc', truth, tyIs, lstE, tupE, run_assert, biM, peeks, partM, List.set_cons_zero, List.set_cons_succ, run_bindSl] using hk
      · simp only [exs, ex, ev, evs, evK, evT, evU, evW, evO, evP, seqM, Rf.andM, Rf.orM, isiM, asgM, negM, revM, callE, permM, prm, consO, consK, run_bind, run_pure, run_look, getSl, peek_val, take_val, own_val, move_val, pureV, newV, val0, List.map_cons, List.map_nil, List.getElem?_cons_zero, List.getElem?_cons_succ, truM, pure_bind', bind_assoc', truth, tyIs, lstE, tupE, run_assert, biM, peeks, partM, List.set_cons_zero, List.set_cons_succ, run_bindSl, inM]
        refine ⟨⟨rfl, rfl⟩, ?_⟩
        have e5 : ∀ z : Bool, z = ((a == c) && (b == d)) → K' (.rt ⟨.fz, .bool z⟩) [⟨true, some ⟨.fz, .list [.bool a, .bool b]⟩⟩, ⟨p, some ⟨.fz, .list [.bool c, .bool d]⟩⟩, ⟨false, none⟩, ⟨false, none⟩] := fun z hz => by rw [hz]; exact hk'
        refine e5 _ ?_
        cases a <;> cases b <;> cases c <;> cases d <;> rfl
  exact core _ _ _ e2
end HD
end
section
set_option Elab.async false
set_option linter.all false
set_option maxRecDepth 100000
set_option maxHeartbeats 800000
namespace HD
open PySem PySem.Spec L2 Rf
/-- what may be judged -/
structure Jd (d : D) : Prop where
  f : Fine d
  s : strF d
  i : itF d
def drop2 : Ss → Ss
  | .cons _ (.cons _ r) => r
  | _ => .nil
def s17a : S := match ir17 with | .cons a _ => a | _ => .pass
def s17b : S := match ir17 with | .cons _ (.cons a _) => a | _ => .pass
def t17 : Ss := drop2 ir17
theorem e17 : ir17 = .cons s17a (.cons s17b t17) := rfl
def nmsB (d : D) : Bool := match d with | .list ds => ds.all isNm | _ => false
theorem isNms_eq {d : D} : isNms d = (nmsB d && (match d with | .list ds => asc ds | _ => false)) := by
  cases d <;> rfl
theorem t17_run (k : Nat) (d : D) (hd : Jd d) (b : Bool) (hb : nmsB d = b) (K : Flw → En → Prop) (x : Xc → En → Prop) (hK : ∀ e : En, e[0]? = some ⟨false, some ⟨.fz, d⟩⟩ → K (.rt ⟨.fz, .bool true⟩) e) :
    (exs (runL tx.ir (k + 3)) t17).run [⟨false, some ⟨.fz, d⟩⟩, ⟨false, some ⟨.fz, .str d.shown⟩⟩, ⟨false, some ⟨.fz, .bool b⟩⟩, ⟨false, none⟩, ⟨false, none⟩, ⟨false, none⟩, ⟨false, none⟩] K x := by
  subst hb
  have two : ∀ (a b : Bool), ([.bool a, .bool b] : List D).length ≤ sizeLine := fun a b => by rw [sizeLine_eq]; simp
  have fr := hd.f.repr
  simp only [t17, drop2, ir17, exs, ex, ev, evK, evT, evU, evW, evO, evP, seqM, Rf.andM, Rf.orM, isiM, asgM, negM, revM, prm, consK, run_bind, run_pure, run_look, getSl, peek_val, take_val, own_val, move_val, pureV, newV, val0, List.map_cons, List.map_nil, List.getElem?_cons_zero, List.getElem?_cons_succ, truM, pure_bind', bind_assoc', truth, tyIs, lstE, tupE, run_assert, biM, peeks, partM, List.set_cons_zero, List.set_cons_succ, run_bindSl]
  refine call_vals (g13 (k + 2) d hd.s) rfl (fun K' hk => ?_) fun r hr => ?_
  · simpa only [exs, ex, ev, evs, evK, evT, evU, evW, evO, evP, seqM, Rf.andM, Rf.orM, isiM, asgM, negM, revM, callE, permM, prm, consO, consK, run_bind, run_pure, run_look, getSl, peek_val, take_val, own_val, move_val, pureV, newV, val0, List.map_cons, List.map_nil, List.getElem?_cons_zero, List.getElem?_cons_succ, truM, pure_bind', bind_assoc', truth, tyIs, lstE, tupE, run_assert, biM, peeks, partM, List.set_cons_zero, List.set_cons_succ, run_bindSl] using hk
  subst hr
  simp only [exs, ex, ev, evK, evT, evU, evW, evO, evP, seqM, Rf.andM, Rf.orM, isiM, asgM, negM, revM, prm, consK, run_bind, run_pure, run_look, getSl, peek_val, take_val, own_val, move_val, pureV, newV, val0, List.map_cons, List.map_nil, List.getElem?_cons_zero, List.getElem?_cons_succ, truM, pure_bind', bind_assoc', truth, tyIs, lstE, tupE, run_assert, biM, peeks, partM, List.set_cons_zero, List.set_cons_succ, run_bindSl]
  -- the second of the two
  have join : ∀ (K1 : Opd → En → Prop), K1 (.val ⟨.fz, .bool (isNms d)⟩) [⟨false, some ⟨.fz, d⟩⟩, ⟨false, some ⟨.fz, .str d.shown⟩⟩, ⟨false, some ⟨.fz, .bool (nmsB d)⟩⟩, ⟨false, none⟩, ⟨false, none⟩, ⟨false, none⟩, ⟨false, none⟩] →
      (match nmsB d with | true => callE (runL tx.ir (k + 3) 14) 1 (evs (runL tx.ir (k + 3)) (.cons (.var 0) .nil)) | false => pure (Opd.val ⟨.fz, .bool (nmsB d)⟩)).run [⟨false, some ⟨.fz, d⟩⟩, ⟨false, some ⟨.fz, .str d.shown⟩⟩, ⟨false, some ⟨.fz, .bool (nmsB d)⟩⟩, ⟨false, none⟩, ⟨false, none⟩, ⟨false, none⟩, ⟨false, none⟩] K1 x := by
    intro K1 h1
    rw [isNms_eq] at h1
    cases hb : nmsB d with
    | false => simp only [hb] at h1 ⊢; exact h1
    | true =>
      cases d with
      | list ds =>
        have hb2 : ds.all isNm = true := hb
        obtain ⟨h3, h4⟩ := hd.i ds rfl
        refine call_vals (g14 (k + 2) ds h3 fun d hd => nm_str (List.all_eq_true.mp hb2 d hd)) rfl (fun K' hk => ?_) fun r hr => ?_
        · simp only [hb] at *
          simpa only [exs, ex, ev, evs, evK, evT, evU, evW, evO, evP, seqM, Rf.andM, Rf.orM, isiM, asgM, negM, revM, callE, permM, prm, consO, consK, run_bind, run_pure, run_look, getSl, peek_val, take_val, own_val, move_val, pureV, newV, val0, List.map_cons, List.map_nil, List.getElem?_cons_zero, List.getElem?_cons_succ, truM, pure_bind', bind_assoc', truth, tyIs, lstE, tupE, run_assert, biM, peeks, partM, List.set_cons_zero, List.set_cons_succ, run_bindSl] using hk
        · subst hr
          simp only [hb] at *
          exact h1
      | _ => simp [nmsB] at hb
  refine join _ ?_
  simp only [exs, ex, ev, evK, evT, evU, evW, evO, evP, seqM, Rf.andM, Rf.orM, isiM, asgM, negM, revM, prm, consK, run_bind, run_pure, run_look, getSl, peek_val, take_val, own_val, move_val, pureV, newV, val0, List.map_cons, List.map_nil, List.getElem?_cons_zero, List.getElem?_cons_succ, truM, pure_bind', bind_assoc', truth, tyIs, lstE, tupE, run_assert, biM, peeks, partM, List.set_cons_zero, List.set_cons_succ, run_bindSl]
  refine ⟨two _ _, ?_⟩
  refine call_vals (g1 (k + 1) d hd.s) rfl (fun K' hk => ?_) fun r hr => ?_
  · simpa only [exs, ex, ev, evs, evK, evT, evU, evW, evO, evP, seqM, Rf.andM, Rf.orM, isiM, asgM, negM, revM, callE, permM, prm, consO, consK, run_bind, run_pure, run_look, getSl, peek_val, take_val, own_val, move_val, pureV, newV, val0, List.map_cons, List.map_nil, List.getElem?_cons_zero, List.getElem?_cons_succ, truM, pure_bind', bind_assoc', truth, tyIs, lstE, tupE, run_assert, biM, peeks, partM, List.set_cons_zero, List.set_cons_succ, run_bindSl] using hk
  subst hr
  simp only [exs, ex, ev, evK, evT, evU, evW, evO, evP, seqM, Rf.andM, Rf.orM, isiM, asgM, negM, revM, prm, consK, run_bind, run_pure, run_look, getSl, peek_val, take_val, own_val, move_val, pureV, newV, val0, List.map_cons, List.map_nil, List.getElem?_cons_zero, List.getElem?_cons_succ, truM, pure_bind', bind_assoc', truth, tyIs, lstE, tupE, run_assert, biM, peeks, partM, List.set_cons_zero, List.set_cons_succ, run_bindSl]
  refine call_vals (g3 k d hd.i) rfl (fun K' hk => ?_) fun r hr => ?_
  · simpa only [exs, ex, ev, evs, evK, evT, evU, evW, evO, evP, seqM, Rf.andM, Rf.orM, isiM, asgM, negM, revM, callE, permM, prm, consO, consK, run_bind, run_pure, run_look, getSl, peek_val, take_val, own_val, move_val, pureV, newV, val0, List.map_cons, List.map_nil, List.getElem?_cons_zero, List.getElem?_cons_succ, truM, pure_bind', bind_assoc', truth, tyIs, lstE, tupE, run_assert, biM, peeks, partM, List.set_cons_zero, List.set_cons_succ, run_bindSl] using hk
  subst hr
  simp only [exs, ex, ev, evK, evT, evU, evW, evO, evP, seqM, Rf.andM, Rf.orM, isiM, asgM, negM, revM, prm, consK, run_bind, run_pure, run_look, getSl, peek_val, take_val, own_val, move_val, pureV, newV, val0, List.map_cons, List.map_nil, List.getElem?_cons_zero, List.getElem?_cons_succ, truM, pure_bind', bind_assoc', truth, tyIs, lstE, tupE, run_assert, biM, peeks, partM, List.set_cons_zero, List.set_cons_succ, run_bindSl]
  refine ⟨two _ _, ?_⟩
  refine call_vals (g1 (k + 1) d hd.s) rfl (fun K' hk => ?_) fun r hr => ?_
  · simp only [exs, ex, ev, evs, evK, evT, evU, evW, evO, evP, seqM, Rf.andM, Rf.orM, isiM, asgM, negM, revM, callE, permM, prm, consO, consK, run_bind, run_pure, run_look, getSl, peek_val, take_val, own_val, move_val, pureV, newV, val0, List.map_cons, List.map_nil, List.getElem?_cons_zero, List.getElem?_cons_succ, truM, pure_bind', bind_assoc', truth, tyIs, lstE, tupE, run_assert, biM, peeks, partM, List.set_cons_zero, List.set_cons_succ, run_bindSl]
    exact ⟨.refl _, by simpa [val0] using hk⟩
  subst hr
  simp only [exs, ex, ev, evK, evT, evU, evW, evO, evP, seqM, Rf.andM, Rf.orM, isiM, asgM, negM, revM, prm, consK, run_bind, run_pure, run_look, getSl, peek_val, take_val, own_val, move_val, pureV, newV, val0, List.map_cons, List.map_nil, List.getElem?_cons_zero, List.getElem?_cons_succ, truM, pure_bind', bind_assoc', truth, tyIs, lstE, tupE, run_assert, biM, peeks, partM, List.set_cons_zero, List.set_cons_succ, run_bindSl]
  refine call_vals (g3 k d hd.i) rfl (fun K' hk => ?_) fun r hr => ?_
  · simp only [exs, ex, ev, evs, evK, evT, evU, evW, evO, evP, seqM, Rf.andM, Rf.orM, isiM, asgM, negM, revM, callE, permM, prm, consO, consK, run_bind, run_pure, run_look, getSl, peek_val, take_val, own_val, move_val, pureV, newV, val0, List.map_cons, List.map_nil, List.getElem?_cons_zero, List.getElem?_cons_succ, truM, pure_bind', bind_assoc', truth, tyIs, lstE, tupE, run_assert, biM, peeks, partM, List.set_cons_zero, List.set_cons_succ, run_bindSl]
    exact ⟨.refl _, by simpa [val0] using hk⟩
  subst hr
  simp only [exs, ex, ev, evK, evT, evU, evW, evO, evP, seqM, Rf.andM, Rf.orM, isiM, asgM, negM, revM, prm, consK, run_bind, run_pure, run_look, getSl, peek_val, take_val, own_val, move_val, pureV, newV, val0, List.map_cons, List.map_nil, List.getElem?_cons_zero, List.getElem?_cons_succ, truM, pure_bind', bind_assoc', truth, tyIs, lstE, tupE, run_assert, biM, peeks, partM, List.set_cons_zero, List.set_cons_succ, run_bindSl]
  refine ⟨two _ _, ?_⟩
  simp only [exs, ex, ev, evs, evK, evT, evU, evW, evO, evP, seqM, Rf.andM, Rf.orM, isiM, asgM, negM, revM, callE, permM, prm, consO, consK, run_bind, run_pure, run_look, getSl, peek_val, take_val, own_val, move_val, pureV, newV, val0, List.map_cons, List.map_nil, List.getElem?_cons_zero, List.getElem?_cons_succ, truM, pure_bind', bind_assoc', truth, tyIs, lstE, tupE, run_assert, biM, peeks, partM, List.set_cons_zero, List.set_cons_succ, run_bindSl, callM_run, loadArgs, putSl]
  refine ⟨rfl, g10s (k + 1) .top _ _ _ _ _ _ (.inl rfl) ?_⟩
  simp only [exs, ex, ev, evs, evK, evT, evU, evW, evO, evP, seqM, Rf.andM, Rf.orM, isiM, asgM, negM, revM, callE, permM, prm, consO, consK, run_bind, run_pure, run_look, getSl, peek_val, take_val, own_val, move_val, pureV, newV, val0, List.map_cons, List.map_nil, List.getElem?_cons_zero, List.getElem?_cons_succ, truM, pure_bind', bind_assoc', truth, tyIs, lstE, tupE, run_assert, biM, peeks, partM, List.set_cons_zero, List.set_cons_succ, run_bindSl, backArgs, putSl, finF, beq_self_eq_true, Bool.and_self, callM_run, loadArgs]
  refine ⟨rfl, g10s (k + 1) .fz _ _ _ _ _ _ (.inr rfl) ?_⟩
  simp only [exs, ex, ev, evs, evK, evT, evU, evW, evO, evP, seqM, Rf.andM, Rf.orM, isiM, asgM, negM, revM, callE, permM, prm, consO, consK, run_bind, run_pure, run_look, getSl, peek_val, take_val, own_val, move_val, pureV, newV, val0, List.map_cons, List.map_nil, List.getElem?_cons_zero, List.getElem?_cons_succ, truM, pure_bind', bind_assoc', truth, tyIs, lstE, tupE, run_assert, biM, peeks, partM, List.set_cons_zero, List.set_cons_succ, run_bindSl, backArgs, putSl, finF, beq_self_eq_true, Bool.and_self, biD, copB, cop, eqM, scalD]
  refine ⟨fr, ?_⟩
  have e : PyData.eqv (.str d.shown) (.str d.shown) = true := by simp [PyData.eqv]
  rw [e]
  exact hK _ rfl
theorem g17 (k : Nat) (d : D) (hd : Jd d) : Gives (runL tx.ir (k + 4) 17) [d] (fun r => r = ⟨.fz, .bool true⟩) := by
  intro K x hK
  rw [runL_eq ir_17, fnOf_run]
  refine ⟨rfl, ?_⟩
  show (exs _ ir17).run [⟨false, some ⟨.fz, d⟩⟩, ⟨false, none⟩, ⟨false, none⟩, ⟨false, none⟩, ⟨false, none⟩, ⟨false, none⟩, ⟨false, none⟩] _ _
  have fr := hd.f.repr
  have fin : ∀ e : En, e[0]? = some ⟨false, some ⟨.fz, d⟩⟩ → K (finsOf 1 e) ⟨.fz, .bool true⟩ := fun e he => by
    cases e with
    | nil => simp at he
    | cons a e =>
      simp only [List.getElem?_cons_zero, Option.some.injEq] at he
      subst he
      exact hK _ rfl
  rw [e17]
  cases d with
  | list ds =>
    obtain ⟨h1, h2⟩ := hd.i ds rfl
    simp only [s17a, s17b, ir17, exs, ex, ev, evK, evT, evU, evW, evO, evP, seqM, Rf.andM, Rf.orM, isiM, asgM, negM, revM, prm, consK, run_bind, run_pure, run_look, getSl, peek_val, take_val, own_val, move_val, pureV, newV, val0, List.map_cons, List.map_nil, List.getElem?_cons_zero, List.getElem?_cons_succ, truM, pure_bind', bind_assoc', truth, tyIs, lstE, tupE, run_assert, biM, peeks, partM, List.set_cons_zero, List.set_cons_succ, run_bindSl, evs, consO, biD]
    refine ⟨fr, ?_⟩
    refine lc_pure (rows := ds) (fun d => !isNm d) (fun d => d) (.inl rfl) (fun K' hk => ?_) h1 (fun d hd K' hk => ?_) (fun d hd _ K' hk => ?_) ?_
    · simpa only [exs, ex, ev, evs, evK, evT, evU, evW, evO, evP, seqM, Rf.andM, Rf.orM, isiM, asgM, negM, revM, callE, permM, prm, consO, consK, run_bind, run_pure, run_look, getSl, peek_val, take_val, own_val, move_val, pureV, newV, val0, List.map_cons, List.map_nil, List.getElem?_cons_zero, List.getElem?_cons_succ, truM, pure_bind', bind_assoc', truth, tyIs, lstE, tupE, run_assert, biM, peeks, partM, List.set_cons_zero, List.set_cons_succ, run_bindSl, rowsM, itemsOf] using hk
    · simp only [exs, ex, ev, evK, evT, evU, evW, evO, evP, seqM, Rf.andM, Rf.orM, isiM, asgM, negM, revM, prm, consK, run_bind, run_pure, run_look, getSl, peek_val, take_val, own_val, move_val, pureV, newV, val0, List.map_cons, List.map_nil, List.getElem?_cons_zero, List.getElem?_cons_succ, truM, pure_bind', bind_assoc', truth, tyIs, lstE, tupE, run_assert, biM, peeks, partM, List.set_cons_zero, List.set_cons_succ, run_bindSl]
      refine call_vals (g13 (k + 2) d (h2 d hd).1) rfl (fun K' hk => ?_) fun r hr => ?_
      · simpa only [exs, ex, ev, evs, evK, evT, evU, evW, evO, evP, seqM, Rf.andM, Rf.orM, isiM, asgM, negM, revM, callE, permM, prm, consO, consK, run_bind, run_pure, run_look, getSl, peek_val, take_val, own_val, move_val, pureV, newV, val0, List.map_cons, List.map_nil, List.getElem?_cons_zero, List.getElem?_cons_succ, truM, pure_bind', bind_assoc', truth, tyIs, lstE, tupE, run_assert, biM, peeks, partM, List.set_cons_zero, List.set_cons_succ, run_bindSl] using hk
      · subst hr
        simpa only [exs, ex, ev, evs, evK, evT, evU, evW, evO, evP, seqM, Rf.andM, Rf.orM, isiM, asgM, negM, revM, callE, permM, prm, consO, consK, run_bind, run_pure, run_look, getSl, peek_val, take_val, own_val, move_val, pureV, newV, val0, List.map_cons, List.map_nil, List.getElem?_cons_zero, List.getElem?_cons_succ, truM, pure_bind', bind_assoc', truth, tyIs, lstE, tupE, run_assert, biM, peeks, partM, List.set_cons_zero, List.set_cons_succ, run_bindSl] using hk
    · simpa only [exs, ex, ev, evs, evK, evT, evU, evW, evO, evP, seqM, Rf.andM, Rf.orM, isiM, asgM, negM, revM, callE, permM, prm, consO, consK, run_bind, run_pure, run_look, getSl, peek_val, take_val, own_val, move_val, pureV, newV, val0, List.map_cons, List.map_nil, List.getElem?_cons_zero, List.getElem?_cons_succ, truM, pure_bind', bind_assoc', truth, tyIs, lstE, tupE, run_assert, biM, peeks, partM, List.set_cons_zero, List.set_cons_succ, run_bindSl] using hk
    · rw [List.map_id']
      refine ⟨by simp, cop_nil (f := .top) (g := .top) (shap_list fun d hd => (h2 d (List.mem_filter.mp hd).1).2) ?_⟩
      have e : (ds.filter fun d => !isNm d).isEmpty = nmsB (.list ds) := by
        rw [filter_nil]; exact List.all_congr rfl fun d => Bool.not_not _
      rw [e]
      simp only [exs, ex, ev, evK, evT, evU, evW, evO, evP, seqM, Rf.andM, Rf.orM, isiM, asgM, negM, revM, prm, consK, run_bind, run_pure, run_look, getSl, peek_val, take_val, own_val, move_val, pureV, newV, val0, List.map_cons, List.map_nil, List.getElem?_cons_zero, List.getElem?_cons_succ, truM, pure_bind', bind_assoc', truth, tyIs, lstE, tupE, run_assert, biM, peeks, partM, List.set_cons_zero, List.set_cons_succ, run_bindSl]
      exact t17_run k _ hd _ rfl _ _ fin
  | _ =>
    simp only [s17a, s17b, ir17, exs, ex, ev, evK, evT, evU, evW, evO, evP, seqM, Rf.andM, Rf.orM, isiM, asgM, negM, revM, prm, consK, run_bind, run_pure, run_look, getSl, peek_val, take_val, own_val, move_val, pureV, newV, val0, List.map_cons, List.map_nil, List.getElem?_cons_zero, List.getElem?_cons_succ, truM, pure_bind', bind_assoc', truth, tyIs, lstE, tupE, run_assert, biM, peeks, partM, List.set_cons_zero, List.set_cons_succ, run_bindSl, evs, consO, biD]
    refine ⟨fr, ?_⟩
    refine t17_run k _ hd false rfl _ _ ?_
    exact fin
end HD
end
section
set_option Elab.async false
set_option linter.all false
set_option maxRecDepth 100000
set_option maxHeartbeats 800000
namespace HD
open PySem PySem.Spec L2 Rf
/-- a number of so many bits -/
def Bt (n : Nat) (i : Int) : Prop := i.natAbs < 2 ^ n
theorem Bt.mono {n m : Nat} {i : Int} (h : Bt n i) (hm : n ≤ m) : Bt m i := Nat.lt_of_lt_of_le h (Nat.pow_le_pow_right (by decide) hm)
theorem Bt.mul {n m : Nat} {i j : Int} (h : Bt n i) (h' : Bt m j) : Bt (n + m) (i * j) := by
  unfold Bt at *
  rw [Int.natAbs_mul, Nat.pow_add]
  exact Nat.mul_lt_mul'' h h'
theorem Bt.add {n : Nat} {i j : Int} (h : Bt n i) (h' : Bt n j) : Bt (n + 1) (i + j) := by
  unfold Bt at *
  have := Int.natAbs_add_le i j
  rw [Nat.pow_succ]
  omega
theorem Bt.lg {n : Nat} {i : Int} (h : Bt n i) : i.natAbs.log2 ≤ n := by
  by_cases hz : i.natAbs = 0
  · rw [hz]; simp
  · exact Nat.le_of_lt ((Nat.log2_lt hz).mpr h)
theorem mw {n m : Nat} {i j : Int} (h : Bt n i) (h' : Bt m j) (hn : n + m < 1000000) : CMulW i j := by
  have a := h.lg
  have b := h'.lg
  unfold CMulW
  omega
theorem Bt.mod {i j : Int} {n : Nat} (h : 0 < j) (h' : Bt n j) : Bt n (i % j) := by
  have h1 := Int.emod_nonneg i (Int.ne_of_gt h)
  have h2 := Int.emod_lt_of_pos i h
  unfold Bt at *
  omega
theorem g4 (k : Nat) (s i : Int) (hs : Bt 100 s) (hi : Bt 100 i) : Gives (runL tx.ir (k + 1) 4) [.int s, .int i] (fun r => ∃ h : Int, r = ⟨.fz, .int h⟩ ∧ 0 ≤ h ∧ h < 2147483647) := by
  intro K x hK
  rw [runL_eq ir_4, fnOf_run]
  refine ⟨rfl, ?_⟩
  show (exs _ ir4).run [⟨false, some ⟨.fz, .int s⟩⟩, ⟨false, some ⟨.fz, .int i⟩⟩, ⟨false, none⟩] _ _
  have cB : ∀ c : Int, c.natAbs < 2 ^ 31 → Bt 31 c := fun c h => h
  simp only [ir4, exs, ex, ev, evs, evK, evT, evU, evW, evO, evP, seqM, Rf.andM, Rf.orM, isiM, asgM, negM, revM, callE, permM, prm, consO, consK, run_bind, run_pure, run_look, getSl, peek_val, take_val, own_val, move_val, pureV, newV, val0, List.map_cons, List.map_nil, List.getElem?_cons_zero, List.getElem?_cons_succ, truM, pure_bind', bind_assoc', truth, tyIs, lstE, tupE, run_assert, biM, peeks, partM, List.set_cons_zero, List.set_cons_succ, run_bindSl, bopM, bop, biD]
  refine ⟨mw hs (cB 1140671 (by decide)) (by decide), mw (cB 27644437 (by decide)) hi (by decide), mw ((cB 27644437 (by decide)).mul hi) hi (by decide), mw (cB 131 (by decide)) hi (by decide), by decide, ?_⟩
  have b1 : Bt 31 ((s * 1140671 + 27644437 * i * i + 131 * i + 19) % 2147483629) := Bt.mod (by decide) (cB _ (by decide))
  refine ⟨mw b1 b1 (by decide), mw (cB 62089 (by decide)) hi (by decide), by decide, ?_⟩
  refine ⟨mw (n := 31) (Bt.mod (by decide) (cB _ (by decide))) (cB 48271 (by decide)) (by decide), by decide, ?_⟩
  exact hK _ ⟨_, rfl, Int.emod_nonneg _ (by decide), Int.emod_lt_of_pos _ (by decide)⟩
/-- a generator, with so much left -/
def Gn (n : Nat) (d : D) : Prop := ∃ b s i : Int, d = .list [.int b, .int s, .int i] ∧ 0 ≤ b ∧ b < 10 ^ 600 ∧ 0 ≤ s ∧ s < 2147483647 ∧ 0 ≤ i ∧ i + n ≤ 2 ^ 60
theorem Gn.mono {n m : Nat} {d : D} (h : Gn n d) (hm : m ≤ n) : Gn m d := by
  obtain ⟨b, s, i, h1, h2, h3, h4, h5, h6, h7⟩ := h
  exact ⟨b, s, i, h1, h2, h3, h4, h5, h6, by omega⟩
theorem at0 (a b c : D) : atI [a, b, c] 0 = some a := rfl
theorem at1 (a b c : D) : atI [a, b, c] 1 = some b := rfl
theorem at2 (a b c : D) : atI [a, b, c] 2 = some c := rfl
theorem ix0 (a b c : D) : ixN [a, b, c].length 0 = some 0 := rfl
theorem ix2 (a b c : D) : ixN [a, b, c].length 2 = some 2 := rfl
theorem run_change (i : Nat) (d : D) (e : En) (k : Unit → En → Prop) (x : Xc → En → Prop) : (change i d).run e k x = match getSl e i with
  | some ⟨.top, _⟩ => k () (putSl e i (some ⟨.top, d⟩))
  | _ => False := rfl
def bd : Nat → Int
  | 2 => 1
  | 1 => 2 ^ 40
  | _ => 2 ^ 80
theorem g7 (k : Nat) (g : D) (n : Int) (m : Nat) (hg : Gn (m + 2) g) (hn : 0 < n) (hn2 : n < 2 ^ 41) (K : List (Option Sl) → Sl → Prop) (x : List (Option Sl) → Xc → Prop)
    (hK : ∀ g' r, Gn m g' → 0 ≤ r → r < n → K [some ⟨.top, g'⟩, none] ⟨.fz, .int r⟩) : (runL tx.ir (k + 2) 7).run [⟨.top, g⟩, ⟨.fz, .int n⟩] K x := by
  obtain ⟨b, s, i, rfl, h1, h2, h3, h4, h5, h6⟩ := hg
  rw [runL_eq ir_7, fnOf_run]
  refine ⟨rfl, ?_⟩
  show (exs _ ir7).run [⟨true, some ⟨.top, .list [.int b, .int s, .int i]⟩⟩, ⟨false, some ⟨.fz, .int n⟩⟩, ⟨false, none⟩, ⟨false, none⟩] _ _
  have hb : Bt 2000 b := by
    have : b.natAbs < 10 ^ 600 := by omega
    exact Nat.lt_of_lt_of_le this (by decide)
  have hnB : Bt 41 n := by unfold Bt; omega
  simp only [ir7, exs, ex, ev, evK, evT, evU, evW, evO, evP, seqM, Rf.andM, Rf.orM, isiM, asgM, negM, revM, prm, consK, run_bind, run_pure, run_look, getSl, peek_val, take_val, own_val, move_val, pureV, newV, val0, List.map_cons, List.map_nil, List.getElem?_cons_zero, List.getElem?_cons_succ, truM, pure_bind', bind_assoc', truth, tyIs, lstE, tupE, run_assert, biM, peeks, partM, List.set_cons_zero, List.set_cons_succ, run_bindSl, copB, cop, ltM, ixO, peek, ixM, at0]
  by_cases hz : 0 < b
  · rw [decide_eq_true hz]
    simp only [exs, ex, ev, evs, evK, evT, evU, evW, evO, evP, seqM, Rf.andM, Rf.orM, isiM, asgM, negM, revM, callE, permM, prm, consO, consK, run_bind, run_pure, run_look, getSl, peek_val, take_val, own_val, move_val, pureV, newV, val0, List.map_cons, List.map_nil, List.getElem?_cons_zero, List.getElem?_cons_succ, truM, pure_bind', bind_assoc', truth, tyIs, lstE, tupE, run_assert, biM, peeks, partM, List.set_cons_zero, List.set_cons_succ, run_bindSl, bopM, bop, biD, asgIxM, setM, setD, take, ixO, peek, ixM, at0, ix0, run_change, putSl, List.set_cons_zero]
    refine ⟨hn, ⟨hn, by have := hnB.lg; omega⟩, ?_⟩
    refine hK _ _ ⟨_, s, i, rfl, Int.ediv_nonneg h1 (by omega), ?_, h3, h4, h5, by omega⟩ (Int.emod_nonneg _ (by omega)) (Int.emod_lt_of_pos _ hn)
    have : b / n ≤ b := Int.ediv_le_self _ h1
    omega
  · rw [decide_eq_false hz]
    simp only [exs, ex, ev, evK, evT, evU, evW, evO, evP, seqM, Rf.andM, Rf.orM, isiM, asgM, negM, revM, prm, consK, run_bind, run_pure, run_look, getSl, peek_val, take_val, own_val, move_val, pureV, newV, val0, List.map_cons, List.map_nil, List.getElem?_cons_zero, List.getElem?_cons_succ, truM, pure_bind', bind_assoc', truth, tyIs, lstE, tupE, run_assert, biM, peeks, partM, List.set_cons_zero, List.set_cons_succ, run_bindSl, bitsE]
    have hbits : Builtin.Int.intBits n ≤ 41 := by
      unfold Builtin.Int.intBits
      have hz2 : n.natAbs ≠ 0 := by omega
      have := (Nat.log2_lt hz2).mpr hnB
      split <;> omega
    refine for_run (fun rest e => ∃ (v2 i' : Int) (p3 : Option Sl), e = [⟨true, some ⟨.top, .list [.int b, .int s, .int i']⟩⟩, ⟨false, some ⟨.fz, .int n⟩⟩, ⟨false, some ⟨.fz, .int v2⟩⟩, ⟨false, p3⟩] ∧ rest.length ≤ 2 ∧ 0 ≤ v2 ∧ v2 < bd rest.length ∧ 0 ≤ i' ∧ i' + m + rest.length ≤ 2 ^ 60) ?_ ?_ ?_
    · simp only [exs, ex, ev, evs, evK, evT, evU, evW, evO, evP, seqM, Rf.andM, Rf.orM, isiM, asgM, negM, revM, callE, permM, prm, consO, consK, run_bind, run_pure, run_look, getSl, peek_val, take_val, own_val, move_val, pureV, newV, val0, List.map_cons, List.map_nil, List.getElem?_cons_zero, List.getElem?_cons_succ, truM, pure_bind', bind_assoc', truth, tyIs, lstE, tupE, run_assert, biM, peeks, partM, List.set_cons_zero, List.set_cons_succ, run_bindSl, rng1M, intM, bitsE, bopM, bop]
      have q1 : (0 : Int) ≤ (Builtin.Int.intBits n : Int) / 30 := Int.ediv_nonneg (by omega) (by decide)
      have q2 : (Builtin.Int.intBits n : Int) / 30 ≤ 1 := by omega
      refine ⟨⟨by decide, by decide⟩, ⟨by omega, by omega⟩, trivial, 0, i, none, rfl, ?_, Int.le_refl _, ?_, h5, ?_⟩
      · simp [rngD]; omega
      · have : (rngD 0 (1 + (Builtin.Int.intBits n : Int) / 30)).length ≤ 2 := by simp [rngD]; omega
        revert this
        generalize (rngD 0 (1 + (Builtin.Int.intBits n : Int) / 30)).length = l
        intro hl
        match l, hl with
        | 0, _ => simp [bd]
        | 1, _ => simp [bd]
        | 2, _ => simp [bd]
      · simp [rngD]; omega
    · rintro d rest e ⟨v2, i', p3, rfl, c1, c2, c3, c4, c5⟩
      simp only [bindT, exs, ex, ev, evK, evT, evU, evW, evO, evP, seqM, Rf.andM, Rf.orM, isiM, asgM, negM, revM, prm, consK, run_bind, run_pure, run_look, getSl, peek_val, take_val, own_val, move_val, pureV, newV, val0, List.map_cons, List.map_nil, List.getElem?_cons_zero, List.getElem?_cons_succ, truM, pure_bind', bind_assoc', truth, tyIs, lstE, tupE, run_assert, biM, peeks, partM, List.set_cons_zero, List.set_cons_succ, run_bindSl, bopM, bop, asgIxM, setM, setD, take, ixO, peek, ixM, at2, ix2, run_change, putSl]
      simp only [List.length_cons] at c1 c3 c5
      have bv : Bt 81 v2 := by
        have : v2 < 2 ^ 80 := by
          match rest.length, c1, c3 with
          | 0, _, h => simp [bd] at h; omega
          | 1, _, h => simp [bd] at h; omega
        unfold Bt; omega
      refine ⟨mw bv (show Bt 31 2147483587 from (by decide : (2147483587 : Int).natAbs < 2 ^ 31)) (by decide), ?_⟩
      refine call_vals (g4 k s (i' + 1) (by unfold Bt; omega) (by unfold Bt; omega)) rfl (fun K' hk => ?_) fun r hr => ?_
      · simp only [exs, ex, ev, evs, evK, evT, evU, evW, evO, evP, seqM, Rf.andM, Rf.orM, isiM, asgM, negM, revM, callE, permM, prm, consO, consK, run_bind, run_pure, run_look, getSl, peek_val, take_val, own_val, move_val, pureV, newV, val0, List.map_cons, List.map_nil, List.getElem?_cons_zero, List.getElem?_cons_succ, truM, pure_bind', bind_assoc', truth, tyIs, lstE, tupE, run_assert, biM, peeks, partM, List.set_cons_zero, List.set_cons_succ, run_bindSl, ixO, peek, ixM, at1, at2, List.set_cons_succ, List.set_cons_zero]
        exact hk
      · obtain ⟨h, rfl, d1, d2⟩ := hr
        simp only [exs, ex, ev, evs, evK, evT, evU, evW, evO, evP, seqM, Rf.andM, Rf.orM, isiM, asgM, negM, revM, callE, permM, prm, consO, consK, run_bind, run_pure, run_look, getSl, peek_val, take_val, own_val, move_val, pureV, newV, val0, List.map_cons, List.map_nil, List.getElem?_cons_zero, List.getElem?_cons_succ, truM, pure_bind', bind_assoc', truth, tyIs, lstE, tupE, run_assert, biM, peeks, partM, List.set_cons_zero, List.set_cons_succ, run_bindSl]
        refine ⟨_, _, _, rfl, by omega, by omega, ?_, by omega, by omega⟩
        match rest.length, c1, c3 with
        | 0, _, h => simp [bd] at h ⊢; omega
        | 1, _, h => simp [bd] at h ⊢; omega
    · rintro e ⟨v2, i', p3, rfl, c1, c2, c3, c4, c5⟩
      simp only [exs, ex, ev, evs, evK, evT, evU, evW, evO, evP, seqM, Rf.andM, Rf.orM, isiM, asgM, negM, revM, callE, permM, prm, consO, consK, run_bind, run_pure, run_look, getSl, peek_val, take_val, own_val, move_val, pureV, newV, val0, List.map_cons, List.map_nil, List.getElem?_cons_zero, List.getElem?_cons_succ, truM, pure_bind', bind_assoc', truth, tyIs, lstE, tupE, run_assert, biM, peeks, partM, List.set_cons_zero, List.set_cons_succ, run_bindSl, bopM, bop, biD]
      refine ⟨hn, ?_⟩
      exact hK _ _ ⟨b, s, i', rfl, h1, h2, h3, h4, c4, by simpa using c5⟩ (Int.emod_nonneg _ (by omega)) (Int.emod_lt_of_pos _ hn)
end HD
end
section
set_option Elab.async false
set_option linter.all false
set_option maxRecDepth 100000
set_option maxHeartbeats 800000
namespace HD
open PySem PySem.Spec L2 Rf
def lim : Nat → Nat
  | 0 => 4
  | _ => 64
/-- plain values of small size -/
def gd : Nat → D → Bool
  | _, .none => true
  | _, .bool _ => true
  | _, .int i => decide (i.natAbs < 10 ^ 12) || decide (i = 10 ^ 12) || decide (i = 10 ^ 29)
  | _, .str y => PyData.strOk y && decide (y.cps.size ≤ 300)
  | n + 1, .list ds => decide (ds.length ≤ lim n) && ds.all (gd n)
  | n + 1, .tuple ds => decide (ds.length ≤ lim n) && ds.all (gd n)
  | _, _ => false
def wB : Nat → Nat
  | 0 => 300
  | n + 1 => lim n * (wB n + 1) + 300
theorem wB_300 : ∀ n, 300 ≤ wB n
  | 0 => Nat.le_refl _
  | n + 1 => Nat.le_add_left _ _
structure Gd (n : Nat) (d : D) : Prop where
  s : d.showable = true
  l : d.leavesShort 40 = true
  c : d.canLay0 = true
  dp : d.depth ≤ n
  w : d.weight ≤ wB n
theorem gd_all {n : Nat} (h : ∀ d, gd n d = true → Gd n d) : ∀ ds : List D, ds.all (gd n) = true → PyData.showableAll ds = true ∧ PyData.leavesShortAll 40 ds = true ∧ PyData.canLayAll0 ds = true ∧ PyData.depthAll ds ≤ n ∧ PyData.weightAll ds ≤ ds.length * (wB n + 1)
  | [], _ => ⟨rfl, rfl, rfl, Nat.zero_le _, Nat.zero_le _⟩
  | d :: ds, q => by
    rw [List.all_cons, Bool.and_eq_true] at q
    have a := h d q.1
    obtain ⟨b1, b2, b3, b4, b5⟩ := gd_all h ds q.2
    have a5 := a.w
    have a4 := a.dp
    refine ⟨?_, ?_, ?_, ?_, ?_⟩
    · simp only [PyData.showableAll, a.s, b1, Bool.and_self]
    · simp only [PyData.leavesShortAll, a.l, b2, Bool.and_self]
    · simp only [PyData.canLayAll0, a.c, b3, Bool.and_self]
    · simp only [PyData.depthAll]; omega
    · simp only [PyData.weightAll, List.length_cons, Nat.succ_mul]; omega
theorem gd_int {n : Nat} {i : Int} (h : gd n (.int i) = true) : Gd n (.int i) := by
  have h : (decide (i.natAbs < 10 ^ 12) || decide (i = 10 ^ 12) || decide (i = 10 ^ 29)) = true := by cases n <;> exact h
  have hw := wB_300 n
  rw [Bool.or_eq_true, Bool.or_eq_true, decide_eq_true_eq, decide_eq_true_eq, decide_eq_true_eq] at h
  have hb : i.natAbs < 2 ^ 100 := by
    rcases h with (h | rfl) | rfl
    · exact Nat.lt_of_lt_of_le h (by decide)
    · decide
    · decide
  have hl := Bt.lg hb
  refine ⟨?_, ?_, rfl, Nat.zero_le _, ?_⟩
  · simp only [PyData.showable, decide_eq_true_eq]; omega
  · simp only [PyData.leavesShort, decide_eq_true_eq]
    rcases h with (h | rfl) | rfl
    · have := PyData.shown_int_le h; omega
    · decide +kernel
    · decide +kernel
  · simp only [PyData.weight]
    split <;> omega
theorem gd_str {n : Nat} {y : Str} (h : gd n (.str y) = true) : Gd n (.str y) := by
  have h : (PyData.strOk y && decide (y.cps.size ≤ 300)) = true := by cases n <;> exact h
  have hw := wB_300 n
  rw [Bool.and_eq_true, decide_eq_true_eq] at h
  refine ⟨rfl, ?_, by simpa [PyData.canLay0] using h.1, Nat.zero_le _, ?_⟩
  · simp only [PyData.leavesShort]
    obtain ⟨⟨l⟩⟩ := y
    have q := strOk_iff.mp h.1
    rw [List.all_eq_true]
    intro c hc
    have := q c hc
    simp only [decide_eq_true_eq]
    omega
  · simp only [PyData.weight]; omega
theorem gd_ok : ∀ (n : Nat) (d : D), gd n d = true → Gd n d := by
  intro n
  induction n with
  | zero =>
    intro d h
    cases d with
    | none => exact ⟨rfl, rfl, rfl, Nat.zero_le _, Nat.zero_le _⟩
    | bool b => exact ⟨rfl, rfl, rfl, Nat.zero_le _, Nat.zero_le _⟩
    | int i => exact gd_int h
    | str y => exact gd_str h
    | _ => exact Bool.noConfusion h
  | succ n ih =>
    intro d h
    cases d with
    | none => exact ⟨rfl, rfl, rfl, Nat.zero_le _, Nat.zero_le _⟩
    | bool b => exact ⟨rfl, rfl, rfl, Nat.zero_le _, Nat.zero_le _⟩
    | int i => exact gd_int h
    | str y => exact gd_str h
    | list ds =>
      have h : (decide (ds.length ≤ lim n) && ds.all (gd n)) = true := h
      rw [Bool.and_eq_true, decide_eq_true_eq] at h
      obtain ⟨b1, b2, b3, b4, b5⟩ := gd_all ih ds h.2
      have := Nat.mul_le_mul_right (wB n + 1) h.1
      refine ⟨by simpa [PyData.showable] using b1, by simpa [PyData.leavesShort] using b2, by simpa [PyData.canLay0] using b3, by simpa [PyData.depth] using b4, ?_⟩
      simp only [PyData.weight, wB]; omega
    | tuple ds =>
      have h : (decide (ds.length ≤ lim n) && ds.all (gd n)) = true := h
      rw [Bool.and_eq_true, decide_eq_true_eq] at h
      obtain ⟨b1, b2, b3, b4, b5⟩ := gd_all ih ds h.2
      have := Nat.mul_le_mul_right (wB n + 1) h.1
      refine ⟨by simpa [PyData.showable] using b1, by simpa [PyData.leavesShort] using b2, by simpa [PyData.canLay0] using b3, by simpa [PyData.depth] using b4, ?_⟩
      simp only [PyData.weight, wB]; omega
    | dict _ => exact Bool.noConfusion h
theorem gd_strF {n : Nat} {d : D} (h : gd n d = true) : strF d := by
  rintro y rfl
  have h : (PyData.strOk y && decide (y.cps.size ≤ 300)) = true := by cases n <;> exact h
  rw [Bool.and_eq_true, decide_eq_true_eq] at h
  refine ⟨?_, h.1⟩
  have : y.length = y.cps.size := rfl
  rw [this, sizeLine_eq]
  omega
theorem gd_items {n : Nat} {ds : List D} (h : gd (n + 1) (.list ds) = true) : ds.length ≤ 64 ∧ ∀ d ∈ ds, gd n d = true := by
  have h : (decide (ds.length ≤ lim n) && ds.all (gd n)) = true := h
  rw [Bool.and_eq_true, decide_eq_true_eq, List.all_eq_true] at h
  refine ⟨?_, h.2⟩
  have : lim n ≤ 64 := by cases n <;> simp [lim]
  omega
theorem gd_jd {d : D} (h : gd 2 d = true) : Jd d := by
  have a := gd_ok 2 d h
  refine ⟨⟨a.s, a.l, Nat.le_trans a.w (by decide), Nat.le_trans a.dp (by decide), .inl a.c⟩, gd_strF h, ?_⟩
  rintro ds rfl
  obtain ⟨h1, h2⟩ := gd_items h
  refine ⟨by rw [sizeLine_eq]; omega, fun y hy => ?_⟩
  have b := gd_ok 1 y (h2 y hy)
  exact ⟨gd_strF (h2 y hy), b.c, Nat.le_trans b.dp (by decide)⟩
/-- the dicts that are judged -/
def isD (d : D) : Bool := match d with
  | .dict [] => true
  | .dict [(.str x, .int i)] => decide (x = ⟨#[97]⟩) && decide (i = 1)
  | _ => false
theorem isD_cases {d : D} (h : isD d = true) : d = .dict [] ∨ d = .dict [(.str ⟨#[97]⟩, .int 1)] := by
  unfold isD at h
  split at h
  · exact .inl rfl
  · rw [Bool.and_eq_true, decide_eq_true_eq, decide_eq_true_eq] at h
    obtain ⟨rfl, rfl⟩ := h
    exact .inr rfl
  · exact Bool.noConfusion h
theorem isD_jd {d : D} (h : isD d = true) : Jd d := by
  rcases isD_cases h with rfl | rfl
  · exact ⟨⟨rfl, rfl, by decide, by decide, .inr ⟨_, rfl⟩⟩, fun y e => by simp at e, fun y e => by simp at e⟩
  · exact ⟨⟨by decide +kernel, by decide +kernel, by decide +kernel, by decide +kernel, .inr ⟨_, rfl⟩⟩, fun y e => by simp at e, fun y e => by simp at e⟩
end HD
end
section
set_option Elab.async false
set_option linter.all false
set_option maxRecDepth 100000
set_option maxHeartbeats 800000
namespace HD
open PySem PySem.Spec L2 Rf
def finT (f : Fl) (d : D) : Option Sl := match f with
  | .top => some ⟨.top, d⟩
  | _ => none
/-- the items that a pick draws from -/
def menuOf : D → List D
  | .list ds => ds
  | .str y => signs y
  | _ => []
theorem g8 (k : Nat) (g m : D) (f : Fl) (n : Nat) (hg : Gn (n + 2) g) (hf : f = .top ∨ f = .fz) (hm : (∃ ds, m = .list ds) ∨ ∃ y, m = .str y) (h0 : 0 < (menuOf m).length) (h1 : (menuOf m).length < 2 ^ 20) (K : List (Option Sl) → Sl → Prop) (x : List (Option Sl) → Xc → Prop)
    (hK : ∀ g' d, Gn n g' → d ∈ menuOf m → K [some ⟨.top, g'⟩, finT f m] ⟨.fz, d⟩) : (runL tx.ir (k + 3) 8).run [⟨.top, g⟩, ⟨f, m⟩] K x := by
  rw [runL_eq ir_8, fnOf_run]
  refine ⟨rfl, ?_⟩
  have e1 : initEn [⟨.top, g⟩, ⟨f, m⟩] 2 = [⟨true, some ⟨.top, g⟩⟩, ⟨decide (f = .top), some ⟨f, m⟩⟩] := by
    rcases hf with rfl | rfl <;> rfl
  rw [e1]
  have e2 : ∀ g', finsOf 2 [⟨true, some ⟨.top, g'⟩⟩, ⟨decide (f = .top), some ⟨f, m⟩⟩] = [some ⟨.top, g'⟩, finT f m] := by
    intro g'
    rcases hf with rfl | rfl <;> rfl
  have core : ∀ (p : Bool) (K' : Flw → En → Prop) (x' : Xc → En → Prop), (∀ g' d, Gn n g' → d ∈ menuOf m → K' (.rt ⟨.fz, d⟩) [⟨true, some ⟨.top, g'⟩⟩, ⟨p, some ⟨f, m⟩⟩]) → (exs (runL tx.ir (k + 2)) ir8).run [⟨true, some ⟨.top, g⟩⟩, ⟨p, some ⟨f, m⟩⟩] K' x' := by
    intro p K' x' hk'
    have lz : sizeLine = 2 ^ 24 := by rw [sizeLine_eq]
    have hat : ∀ (ds : List D) (r : Int), 0 ≤ r → r < (ds.length : Nat) → ∃ d, atI ds r = some d ∧ d ∈ ds := by
      intro ds r h2 h3
      obtain ⟨j, rfl⟩ := Int.eq_ofNat_of_zero_le h2
      have hj : j < ds.length := by omega
      exact ⟨ds[j], atI_nat hj, List.getElem_mem hj⟩
    rcases hm with ⟨ds, rfl⟩ | ⟨y, rfl⟩
    · have h0 : 0 < ds.length := h0
      have h1 : ds.length < 2 ^ 20 := h1
      rcases hf with rfl | rfl
      all_goals
        simp only [ir8, exs, ex, ev, evs, evK, evT, evU, evW, evO, evP, seqM, Rf.andM, Rf.orM, isiM, asgM, negM, revM, callE, permM, prm, consO, consK, run_bind, run_pure, run_look, getSl, peek_val, take_val, own_val, move_val, pureV, newV, val0, List.map_cons, List.map_nil, List.getElem?_cons_zero, List.getElem?_cons_succ, truM, pure_bind', bind_assoc', truth, tyIs, lstE, tupE, run_assert, biM, peeks, partM, List.set_cons_zero, List.set_cons_succ, run_bindSl, biD, peek, callM_run, loadArgs, putSl]
        refine ⟨rfl, g7 k g _ n hg (by omega) (by omega) _ _ fun g' r q1 q2 q3 => ?_⟩
        obtain ⟨d, a1, a2⟩ := hat ds r q2 q3
        simp only [exs, ex, ev, evs, evK, evT, evU, evW, evO, evP, seqM, Rf.andM, Rf.orM, isiM, asgM, negM, revM, callE, permM, prm, consO, consK, run_bind, run_pure, run_look, getSl, peek_val, take_val, own_val, move_val, pureV, newV, val0, List.map_cons, List.map_nil, List.getElem?_cons_zero, List.getElem?_cons_succ, truM, pure_bind', bind_assoc', truth, tyIs, lstE, tupE, run_assert, biM, peeks, partM, List.set_cons_zero, List.set_cons_succ, run_bindSl, backArgs, putSl, ixO, peek, ixM, a1]
        exact hk' _ _ q1 a2
    · have h0 : 0 < (signs y).length := h0
      have h1 : (signs y).length < 2 ^ 20 := h1
      have hl : (signs y).length = y.length := by simp [signs, Str.length]
      rcases hf with rfl | rfl
      all_goals
        simp only [ir8, exs, ex, ev, evs, evK, evT, evU, evW, evO, evP, seqM, Rf.andM, Rf.orM, isiM, asgM, negM, revM, callE, permM, prm, consO, consK, run_bind, run_pure, run_look, getSl, peek_val, take_val, own_val, move_val, pureV, newV, val0, List.map_cons, List.map_nil, List.getElem?_cons_zero, List.getElem?_cons_succ, truM, pure_bind', bind_assoc', truth, tyIs, lstE, tupE, run_assert, biM, peeks, partM, List.set_cons_zero, List.set_cons_succ, run_bindSl, biD, peek, callM_run, loadArgs, putSl]
        refine ⟨by omega, rfl, g7 k g _ n hg (by omega) (by omega) _ _ fun g' r q1 q2 q3 => ?_⟩
        obtain ⟨d, a1, a2⟩ := hat (signs y) r q2 (by omega)
        simp only [exs, ex, ev, evs, evK, evT, evU, evW, evO, evP, seqM, Rf.andM, Rf.orM, isiM, asgM, negM, revM, callE, permM, prm, consO, consK, run_bind, run_pure, run_look, getSl, peek_val, take_val, own_val, move_val, pureV, newV, val0, List.map_cons, List.map_nil, List.getElem?_cons_zero, List.getElem?_cons_succ, truM, pure_bind', bind_assoc', truth, tyIs, lstE, tupE, run_assert, biM, peeks, partM, List.set_cons_zero, List.set_cons_succ, run_bindSl, backArgs, putSl, ixO, peek, ixM, a1]
        exact ⟨by omega, hk' _ _ q1 a2⟩
  exact core _ _ _ fun g' d h2 h3 => by
    show K (finsOf 2 _) _
    rw [e2]
    exact hK g' d h2 h3
theorem filt_t {α : Type} (l : List α) : l.filter (fun _ => true) = l := by
  rw [List.filter_eq_self]; simp
theorem g9 : ∀ (n k : Nat) (d : D), gd n d = true → Gives (runL tx.ir (k + n + 1) 9) [d] (fun r => r.d = d) := by
  intro n
  induction n with
  | zero =>
    intro k d h K x hK
    rw [runL_eq ir_9, fnOf_run]
    refine ⟨rfl, ?_⟩
    show (exs _ ir9).run [⟨false, some ⟨.fz, d⟩⟩, ⟨false, none⟩, ⟨false, none⟩] _ _
    cases d with
    | list ds => exact Bool.noConfusion h
    | tuple ds => exact Bool.noConfusion h
    | dict ds => exact Bool.noConfusion h
    | _ =>
      simp only [ir9, exs, ex, ev, evs, evK, evT, evU, evW, evO, evP, seqM, Rf.andM, Rf.orM, isiM, asgM, negM, revM, callE, permM, prm, consO, consK, run_bind, run_pure, run_look, getSl, peek_val, take_val, own_val, move_val, pureV, newV, val0, List.map_cons, List.map_nil, List.getElem?_cons_zero, List.getElem?_cons_succ, truM, pure_bind', bind_assoc', truth, tyIs, lstE, tupE, run_assert, biM, peeks, partM, List.set_cons_zero, List.set_cons_succ, run_bindSl]
      exact hK _ rfl
  | succ n ih =>
    intro k d h K x hK
    rw [runL_eq ir_9, fnOf_run]
    refine ⟨rfl, ?_⟩
    show (exs _ ir9).run [⟨false, some ⟨.fz, d⟩⟩, ⟨false, none⟩, ⟨false, none⟩] _ _
    have lz : sizeLine = 2 ^ 24 := by rw [sizeLine_eq]
    have hlim : lim n ≤ 64 := by cases n <;> simp [lim]
    cases d with
    | list ds =>
      have h : (decide (ds.length ≤ lim n) && ds.all (gd n)) = true := h
      rw [Bool.and_eq_true, decide_eq_true_eq, List.all_eq_true] at h
      simp only [ir9, exs, ex, ev, evK, evT, evU, evW, evO, evP, seqM, Rf.andM, Rf.orM, isiM, asgM, negM, revM, prm, consK, run_bind, run_pure, run_look, getSl, peek_val, take_val, own_val, move_val, pureV, newV, val0, List.map_cons, List.map_nil, List.getElem?_cons_zero, List.getElem?_cons_succ, truM, pure_bind', bind_assoc', truth, tyIs, lstE, tupE, run_assert, biM, peeks, partM, List.set_cons_zero, List.set_cons_succ, run_bindSl]
      refine lc_pure (rows := ds) (fun _ => true) (fun d => d) (.inl rfl) (fun K' hk => ?_) (by omega) (fun d hd K' hk => ?_) (fun d hd _ K' hk => ?_) ?_
      · simpa only [exs, ex, ev, evs, evK, evT, evU, evW, evO, evP, seqM, Rf.andM, Rf.orM, isiM, asgM, negM, revM, callE, permM, prm, consO, consK, run_bind, run_pure, run_look, getSl, peek_val, take_val, own_val, move_val, pureV, newV, val0, List.map_cons, List.map_nil, List.getElem?_cons_zero, List.getElem?_cons_succ, truM, pure_bind', bind_assoc', truth, tyIs, lstE, tupE, run_assert, biM, peeks, partM, List.set_cons_zero, List.set_cons_succ, run_bindSl, rowsM, itemsOf] using hk
      · simpa only [exs, ex, ev, evs, evK, evT, evU, evW, evO, evP, seqM, Rf.andM, Rf.orM, isiM, asgM, negM, revM, callE, permM, prm, consO, consK, run_bind, run_pure, run_look, getSl, peek_val, take_val, own_val, move_val, pureV, newV, val0, List.map_cons, List.map_nil, List.getElem?_cons_zero, List.getElem?_cons_succ, truM, pure_bind', bind_assoc', truth, tyIs, lstE, tupE, run_assert, biM, peeks, partM, List.set_cons_zero, List.set_cons_succ, run_bindSl] using hk
      · simp only [exs, ex, ev, evK, evT, evU, evW, evO, evP, seqM, Rf.andM, Rf.orM, isiM, asgM, negM, revM, prm, consK, run_bind, run_pure, run_look, getSl, peek_val, take_val, own_val, move_val, pureV, newV, val0, List.map_cons, List.map_nil, List.getElem?_cons_zero, List.getElem?_cons_succ, truM, pure_bind', bind_assoc', truth, tyIs, lstE, tupE, run_assert, biM, peeks, partM, List.set_cons_zero, List.set_cons_succ, run_bindSl]
        refine call_vals (ih k d (h.2 d hd)) rfl (fun K' hk => ?_) fun r hr => ?_
        · simpa only [exs, ex, ev, evs, evK, evT, evU, evW, evO, evP, seqM, Rf.andM, Rf.orM, isiM, asgM, negM, revM, callE, permM, prm, consO, consK, run_bind, run_pure, run_look, getSl, peek_val, take_val, own_val, move_val, pureV, newV, val0, List.map_cons, List.map_nil, List.getElem?_cons_zero, List.getElem?_cons_succ, truM, pure_bind', bind_assoc', truth, tyIs, lstE, tupE, run_assert, biM, peeks, partM, List.set_cons_zero, List.set_cons_succ, run_bindSl] using hk
        · simp only [exs, ex, ev, evs, evK, evT, evU, evW, evO, evP, seqM, Rf.andM, Rf.orM, isiM, asgM, negM, revM, callE, permM, prm, consO, consK, run_bind, run_pure, run_look, getSl, peek_val, take_val, own_val, move_val, pureV, newV, val0, List.map_cons, List.map_nil, List.getElem?_cons_zero, List.getElem?_cons_succ, truM, pure_bind', bind_assoc', truth, tyIs, lstE, tupE, run_assert, biM, peeks, partM, List.set_cons_zero, List.set_cons_succ, run_bindSl, take]
          rw [hr]
          exact hk
      · simp only [List.map_id', filt_t, exs, ex, ev, evs, evK, evT, evU, evW, evO, evP, seqM, Rf.andM, Rf.orM, isiM, asgM, negM, revM, callE, permM, prm, consO, consK, run_bind, run_pure, run_look, getSl, peek_val, take_val, own_val, move_val, pureV, newV, val0, List.map_cons, List.map_nil, List.getElem?_cons_zero, List.getElem?_cons_succ, truM, pure_bind', bind_assoc', truth, tyIs, lstE, tupE, run_assert, biM, peeks, partM, List.set_cons_zero, List.set_cons_succ, run_bindSl]
        exact hK _ rfl
    | tuple ds =>
      have h : (decide (ds.length ≤ lim n) && ds.all (gd n)) = true := h
      rw [Bool.and_eq_true, decide_eq_true_eq, List.all_eq_true] at h
      simp only [ir9, exs, ex, ev, evK, evT, evU, evW, evO, evP, seqM, Rf.andM, Rf.orM, isiM, asgM, negM, revM, prm, consK, run_bind, run_pure, run_look, getSl, peek_val, take_val, own_val, move_val, pureV, newV, val0, List.map_cons, List.map_nil, List.getElem?_cons_zero, List.getElem?_cons_succ, truM, pure_bind', bind_assoc', truth, tyIs, lstE, tupE, run_assert, biM, peeks, partM, List.set_cons_zero, List.set_cons_succ, run_bindSl, evs, consO]
      refine lc_pure (rows := ds) (fun _ => true) (fun d => d) (.inl rfl) (fun K' hk => ?_) (by omega) (fun d hd K' hk => ?_) (fun d hd _ K' hk => ?_) ?_
      · simpa only [exs, ex, ev, evs, evK, evT, evU, evW, evO, evP, seqM, Rf.andM, Rf.orM, isiM, asgM, negM, revM, callE, permM, prm, consO, consK, run_bind, run_pure, run_look, getSl, peek_val, take_val, own_val, move_val, pureV, newV, val0, List.map_cons, List.map_nil, List.getElem?_cons_zero, List.getElem?_cons_succ, truM, pure_bind', bind_assoc', truth, tyIs, lstE, tupE, run_assert, biM, peeks, partM, List.set_cons_zero, List.set_cons_succ, run_bindSl, rowsM, itemsOf] using hk
      · simpa only [exs, ex, ev, evs, evK, evT, evU, evW, evO, evP, seqM, Rf.andM, Rf.orM, isiM, asgM, negM, revM, callE, permM, prm, consO, consK, run_bind, run_pure, run_look, getSl, peek_val, take_val, own_val, move_val, pureV, newV, val0, List.map_cons, List.map_nil, List.getElem?_cons_zero, List.getElem?_cons_succ, truM, pure_bind', bind_assoc', truth, tyIs, lstE, tupE, run_assert, biM, peeks, partM, List.set_cons_zero, List.set_cons_succ, run_bindSl] using hk
      · simp only [exs, ex, ev, evK, evT, evU, evW, evO, evP, seqM, Rf.andM, Rf.orM, isiM, asgM, negM, revM, prm, consK, run_bind, run_pure, run_look, getSl, peek_val, take_val, own_val, move_val, pureV, newV, val0, List.map_cons, List.map_nil, List.getElem?_cons_zero, List.getElem?_cons_succ, truM, pure_bind', bind_assoc', truth, tyIs, lstE, tupE, run_assert, biM, peeks, partM, List.set_cons_zero, List.set_cons_succ, run_bindSl]
        refine call_vals (ih k d (h.2 d hd)) rfl (fun K' hk => ?_) fun r hr => ?_
        · simpa only [exs, ex, ev, evs, evK, evT, evU, evW, evO, evP, seqM, Rf.andM, Rf.orM, isiM, asgM, negM, revM, callE, permM, prm, consO, consK, run_bind, run_pure, run_look, getSl, peek_val, take_val, own_val, move_val, pureV, newV, val0, List.map_cons, List.map_nil, List.getElem?_cons_zero, List.getElem?_cons_succ, truM, pure_bind', bind_assoc', truth, tyIs, lstE, tupE, run_assert, biM, peeks, partM, List.set_cons_zero, List.set_cons_succ, run_bindSl] using hk
        · simp only [exs, ex, ev, evs, evK, evT, evU, evW, evO, evP, seqM, Rf.andM, Rf.orM, isiM, asgM, negM, revM, callE, permM, prm, consO, consK, run_bind, run_pure, run_look, getSl, peek_val, take_val, own_val, move_val, pureV, newV, val0, List.map_cons, List.map_nil, List.getElem?_cons_zero, List.getElem?_cons_succ, truM, pure_bind', bind_assoc', truth, tyIs, lstE, tupE, run_assert, biM, peeks, partM, List.set_cons_zero, List.set_cons_succ, run_bindSl, take]
          rw [hr]
          exact hk
      · simp only [List.map_id', filt_t, exs, ex, ev, evs, evK, evT, evU, evW, evO, evP, seqM, Rf.andM, Rf.orM, isiM, asgM, negM, revM, callE, permM, prm, consO, consK, run_bind, run_pure, run_look, getSl, peek_val, take_val, own_val, move_val, pureV, newV, val0, List.map_cons, List.map_nil, List.getElem?_cons_zero, List.getElem?_cons_succ, truM, pure_bind', bind_assoc', truth, tyIs, lstE, tupE, run_assert, biM, peeks, partM, List.set_cons_zero, List.set_cons_succ, run_bindSl, biD]
        exact hK _ rfl
    | dict ds => exact Bool.noConfusion h
    | _ =>
      simp only [ir9, exs, ex, ev, evs, evK, evT, evU, evW, evO, evP, seqM, Rf.andM, Rf.orM, isiM, asgM, negM, revM, callE, permM, prm, consO, consK, run_bind, run_pure, run_look, getSl, peek_val, take_val, own_val, move_val, pureV, newV, val0, List.map_cons, List.map_nil, List.getElem?_cons_zero, List.getElem?_cons_succ, truM, pure_bind', bind_assoc', truth, tyIs, lstE, tupE, run_assert, biM, peeks, partM, List.set_cons_zero, List.set_cons_succ, run_bindSl]
      exact hK _ rfl
end HD
end
section
set_option Elab.async false
set_option linter.all false
set_option maxRecDepth 100000
set_option maxHeartbeats 800000
namespace HD
open PySem PySem.Spec L2 Rf
def okS (r0 : Rw) (e : En) : Prop := match r0.src with
  | none => True
  | some (i, d) => ∃ p, e[i]? = some (⟨p, some ⟨.top, d⟩⟩ : Slt)
theorem lcGo_oneS {i : Nat} {ts : M Bool} {me : M Opd} {x : Xc → En → Prop} (r0 : Rw) (G : List D → List D → En → Prop) (hS : ∀ rest acc e, G rest acc e → okS r0 e)
    (step : ∀ d rest acc e, G (d :: rest) acc e → e[i]? = some (⟨false, none⟩ : Slt) ∧ ts.run (e.set i ⟨false, some ⟨.fz, d⟩⟩) (fun b e' => match b with
      | true => me.run e' (fun o e2 => (take o).run e2 (fun y e3 => wpb e3 i ∧ G rest (acc ++ [y]) (e3.set i ⟨false, none⟩)) x) x
      | false => wpb e' i ∧ G rest acc (e'.set i ⟨false, none⟩)) x) :
    ∀ (rows acc : List D) (e : En) (K : List D → En → Prop), wpb e i → G rows acc (e.set i ⟨false, none⟩) → (∀ ds e', wpb e' i → G [] (acc ++ ds) e' → K ds e') → (lcGo [i] (same r0) (bindT (.nm i)) ts me rows).run e K x := by
  intro rows
  induction rows with
  | nil =>
    intro acc e K hw hG hK
    show (wipe1 i).run e (fun _ e1 => okS r0 e1 ∧ K [] e1) x
    refine run_wipe1 hw ⟨hS _ _ _ hG, hK [] _ (.inl (List.getElem?_set_self (wpb_lt hw))) ?_⟩
    simpa using hG
  | cons d rows ih =>
    intro acc e K hw hG hK
    show (wipe1 i).run e (fun _ e1 => okS r0 e1 ∧ (bindT (.nm i) d >>= fun _ => ts >>= fun b => match b with
        | true => me >>= fun o => take o >>= fun d => lcGo [i] (same r0) (bindT (.nm i)) ts me rows >>= fun r => pure (d :: r)
        | false => lcGo [i] (same r0) (bindT (.nm i)) ts me rows).run e1 K x) x
    refine run_wipe1 hw ⟨hS _ _ _ hG, ?_⟩
    obtain ⟨h1, h2⟩ := step d rows acc _ hG
    show (match (e.set i (⟨false, none⟩ : Slt))[i]? with
      | some ⟨false, _⟩ => (ts >>= fun b => match b with
        | true => me >>= fun o => take o >>= fun d => lcGo [i] (same r0) (bindT (.nm i)) ts me rows >>= fun r => pure (d :: r)
        | false => lcGo [i] (same r0) (bindT (.nm i)) ts me rows).run ((e.set i (⟨false, none⟩ : Slt)).set i ⟨false, some ⟨.fz, d⟩⟩) K x
      | _ => False)
    rw [h1]
    refine ts.mono h2 (fun b e' q => ?_) fun _ _ z => z
    cases b with
    | true =>
      refine me.mono q (fun o e2 q2 => (take o).mono q2 (fun y e3 q3 => ?_) fun _ _ z => z) fun _ _ z => z
      exact ih (acc ++ [y]) e3 _ q3.1 q3.2 fun ds e4 w g => hK (y :: ds) e4 w (by simpa using g)
    | false => exact ih acc e' K q.1 q.2 hK
/-- over the list that stands in a slot -/
theorem lc_pureS {i j : Nat} {ts : M Bool} {me : M Opd} {e : En} {K : List D → En → Prop} {x : Xc → En → Prop} {rows : List D} {p : Bool} (t : D → Bool) (f : D → D) (he : wpb e i) (hij : i ≠ j) (hj : e[j]? = some (⟨p, some ⟨.top, .list rows⟩⟩ : Slt)) {mi : M Rw}
    (hm : ∀ K', K' ⟨some (j, .list rows), rows⟩ e → mi.run e K' x) (hz : rows.length ≤ sizeLine)
    (ht : ∀ d ∈ rows, ∀ K', K' (t d) (e.set i ⟨false, some ⟨.fz, d⟩⟩) → ts.run (e.set i ⟨false, some ⟨.fz, d⟩⟩) K' x)
    (hf : ∀ d ∈ rows, t d = true → ∀ K', K' (f d) (e.set i ⟨false, some ⟨.fz, d⟩⟩) → (me >>= take).run (e.set i ⟨false, some ⟨.fz, d⟩⟩) K' x)
    (hK : K ((rows.filter t).map f) e) : (lcM [i] mi (bindT (.nm i)) ts me).run e K x := by
  have hl := wpb_lt he
  have es : ∀ a : Slt, (e.set i ⟨false, none⟩).set i a = e.set i a := fun a => by rw [List.set_set]
  refine hm _ ⟨hz, ?_⟩
  show (lcGo [i] (same ⟨some (j, .list rows), rows⟩) (bindT (.nm i)) ts me rows).run e (fun ds e' => K ds (restEn e [i] e')) x
  refine lcGo_oneS ⟨some (j, .list rows), rows⟩ (fun rest acc e' => e' = e.set i ⟨false, none⟩ ∧ (∀ d ∈ rest, d ∈ rows) ∧ acc ++ (rest.filter t).map f = (rows.filter t).map f) (fun rest acc e' g => ?_) (fun d rest acc e' g => ?_) rows [] e _ he ⟨rfl, fun _ h => h, by simp⟩ fun ds e' w g => ?_
  · obtain ⟨rfl, _⟩ := g
    refine ⟨p, ?_⟩
    rw [List.getElem?_set_ne hij]
    exact hj
  · obtain ⟨rfl, h1, h2⟩ := g
    refine ⟨List.getElem?_set_self hl, ?_⟩
    rw [es]
    have hd := h1 d (by simp)
    refine ht d hd _ ?_
    have w : wpb (e.set i ⟨false, some ⟨.fz, d⟩⟩) i := .inr ⟨d, List.getElem?_set_self hl⟩
    have e2 : (e.set i (⟨false, some ⟨.fz, d⟩⟩ : Slt)).set i ⟨false, none⟩ = e.set i ⟨false, none⟩ := by rw [List.set_set]
    cases htd : t d with
    | true => exact hf d hd htd _ ⟨w, e2, fun y hy => h1 y (List.mem_cons_of_mem _ hy), by rw [← h2]; simp [htd]⟩
    | false => exact ⟨w, e2, fun y hy => h1 y (List.mem_cons_of_mem _ hy), by rw [← h2]; simp [htd]⟩
  · obtain ⟨rfl, _, h⟩ := g
    have h : ds = (rows.filter t).map f := by simpa using h
    subst h
    rw [rest_one (a := e[i]) (List.getElem?_eq_getElem hl), es, List.set_getElem_self hl]
    exact hK
/-! ### sorted -/
def Hom (ds : List D) : Prop := (∃ ns : List Int, ds = ns.map .int) ∨ ∃ ys : List Str, ds = ys.map .str
theorem ints_map : ∀ ns : List Int, intsOf (ns.map .int) = some ns
  | [] => rfl
  | n :: ns => by
    show (match intsOf (ns.map .int) with | some l => some (n :: l) | none => none) = _
    rw [ints_map ns]
theorem strs_map : ∀ ys : List Str, strsOf (ys.map .str) = some ys
  | [] => rfl
  | y :: ys => by
    show (match strsOf (ys.map .str) with | some l => some (y :: l) | none => none) = _
    rw [strs_map ys]
theorem sorted_run {ds : List D} {e : En} {K : Opd → En → Prop} {x : Xc → En → Prop} (h : Hom ds) (hl : ds.length < 64) (hK : ∀ es, es.Perm ds → Hom es → K (.val ⟨.top, .list es⟩) e) : (biD .sorted [.list ds]).run e K x := by
  have hI : ∀ ns : List Int, ds = ns.map .int → (biD .sorted [.list ds]).run e K x := by
    rintro ns rfl
    simp only [biD, ints_map]
    refine ⟨by simpa using hl, fun r hr => ?_⟩
    exact hK _ (hr.1.map _) (.inl ⟨r, rfl⟩)
  rcases h with ⟨ns, h⟩ | ⟨ys, rfl⟩
  · exact hI ns h
  · cases ys with
    | nil => exact hI [] rfl
    | cons y ys =>
      have e1 : intsOf ((y :: ys).map .str) = none := rfl
      simp only [biD, e1, strs_map]
      refine ⟨by simpa using hl, fun r hr => ?_⟩
      exact hK _ (hr.1.map _) (.inr ⟨r, rfl⟩)
theorem filt_true {α : Type} (l : List α) : l.filter (fun _ => true) = l := by
  rw [List.filter_eq_self]; simp
theorem any_eqv_mem {d : D} {ds : List D} : True := trivial
theorem Hom.tail {d : D} {ds : List D} (h : Hom (d :: ds)) : Hom ds := by
  rcases h with ⟨ns, h⟩ | ⟨ns, h⟩
  · cases ns with
    | nil => simp at h
    | cons n ns => exact .inl ⟨ns, by simp at h; exact h.2⟩
  · cases ns with
    | nil => simp at h
    | cons n ns => exact .inr ⟨ns, by simp at h; exact h.2⟩
theorem g11 (k : Nat) (ds : List D) (h : Hom ds) (hl : ds.length < 64) (hg : ∀ d ∈ ds, gd 1 d = true) : Gives (runL tx.ir (k + 1) 11) [.list ds] (fun r => ∃ es, r = ⟨.top, .list es⟩ ∧ (∀ d ∈ es, d ∈ ds) ∧ es.length ≤ ds.length) := by
  intro K x hK
  rw [runL_eq ir_11, fnOf_run]
  refine ⟨rfl, ?_⟩
  show (exs _ ir11).run [⟨false, some ⟨.fz, .list ds⟩⟩, ⟨false, none⟩, ⟨false, none⟩] _ _
  have lz : sizeLine = 2 ^ 24 := by rw [sizeLine_eq]
  simp only [ir11, exs, ex, ev, evs, evK, evT, evU, evW, evO, evP, seqM, Rf.andM, Rf.orM, isiM, asgM, negM, revM, callE, permM, prm, consO, consK, run_bind, run_pure, run_look, getSl, peek_val, take_val, own_val, move_val, pureV, newV, val0, List.map_cons, List.map_nil, List.getElem?_cons_zero, List.getElem?_cons_succ, truM, pure_bind', bind_assoc', truth, tyIs, lstE, tupE, run_assert, biM, peeks, partM, List.set_cons_zero, List.set_cons_succ, run_bindSl, List.length_nil]
  refine ⟨Nat.zero_le _, ?_⟩
  refine for_run (fun rest e => ∃ (es : List D) (p : Option Sl), e = [⟨false, some ⟨.fz, .list ds⟩⟩, ⟨false, some ⟨.top, .list es⟩⟩, ⟨false, p⟩] ∧ (∀ d ∈ es, d ∈ ds) ∧ (∀ d ∈ rest, d ∈ ds) ∧ es.length + rest.length ≤ ds.length) ?_ ?_ ?_
  · simp only [exs, ex, ev, evs, evK, evT, evU, evW, evO, evP, seqM, Rf.andM, Rf.orM, isiM, asgM, negM, revM, callE, permM, prm, consO, consK, run_bind, run_pure, run_look, getSl, peek_val, take_val, own_val, move_val, pureV, newV, val0, List.map_cons, List.map_nil, List.getElem?_cons_zero, List.getElem?_cons_succ, truM, pure_bind', bind_assoc', truth, tyIs, lstE, tupE, run_assert, biM, peeks, partM, List.set_cons_zero, List.set_cons_succ, run_bindSl]
    refine sorted_run h hl fun es hp _ => ?_
    simp only [exs, ex, ev, evs, evK, evT, evU, evW, evO, evP, seqM, Rf.andM, Rf.orM, isiM, asgM, negM, revM, callE, permM, prm, consO, consK, run_bind, run_pure, run_look, getSl, peek_val, take_val, own_val, move_val, pureV, newV, val0, List.map_cons, List.map_nil, List.getElem?_cons_zero, List.getElem?_cons_succ, truM, pure_bind', bind_assoc', truth, tyIs, lstE, tupE, run_assert, biM, peeks, partM, List.set_cons_zero, List.set_cons_succ, run_bindSl, rowsM, itemsOf]
    exact ⟨trivial, [], none, rfl, by simp, fun d hd => hp.mem_iff.mp hd, by simp [hp.length_eq]⟩
  · rintro d rest e ⟨es, p, rfl, h1, h2, h3⟩
    simp only [List.length_cons] at h3
    simp only [bindT, exs, ex, ev, evs, evK, evT, evU, evW, evO, evP, seqM, Rf.andM, Rf.orM, isiM, asgM, negM, revM, callE, permM, prm, consO, consK, run_bind, run_pure, run_look, getSl, peek_val, take_val, own_val, move_val, pureV, newV, val0, List.map_cons, List.map_nil, List.getElem?_cons_zero, List.getElem?_cons_succ, truM, pure_bind', bind_assoc', truth, tyIs, lstE, tupE, run_assert, biM, peeks, partM, List.set_cons_zero, List.set_cons_succ, run_bindSl, copB, cop, inM, peek]
    have sh : ∀ d ∈ ds, d.canLay0 = true ∧ d.depth ≤ 63 := fun d hd => by
      have := gd_ok 1 d (hg d hd)
      exact ⟨this.c, Nat.le_trans this.dp (by decide)⟩
    have hd := h2 d (by simp)
    refine ⟨⟨shap_iff.mpr ⟨(sh d hd).1, by have := (sh d hd).2; omega⟩, shap_list fun y hy => sh y (h1 y hy)⟩, ?_⟩
    cases hq : es.any fun z => z.eqv d with
    | true =>
      simp only [exs, ex, ev, evs, evK, evT, evU, evW, evO, evP, seqM, Rf.andM, Rf.orM, isiM, asgM, negM, revM, callE, permM, prm, consO, consK, run_bind, run_pure, run_look, getSl, peek_val, take_val, own_val, move_val, pureV, newV, val0, List.map_cons, List.map_nil, List.getElem?_cons_zero, List.getElem?_cons_succ, truM, pure_bind', bind_assoc', truth, tyIs, lstE, tupE, run_assert, biM, peeks, partM, List.set_cons_zero, List.set_cons_succ, run_bindSl, Bool.not_true]
      exact ⟨es, _, rfl, h1, fun y hy => h2 y (List.mem_cons_of_mem _ hy), by omega⟩
    | false =>
      simp only [exs, ex, ev, evs, evK, evT, evU, evW, evO, evP, seqM, Rf.andM, Rf.orM, isiM, asgM, negM, revM, callE, permM, prm, consO, consK, run_bind, run_pure, run_look, getSl, peek_val, take_val, own_val, move_val, pureV, newV, val0, List.map_cons, List.map_nil, List.getElem?_cons_zero, List.getElem?_cons_succ, truM, pure_bind', bind_assoc', truth, tyIs, lstE, tupE, run_assert, biM, peeks, partM, List.set_cons_zero, List.set_cons_succ, run_bindSl, Bool.not_false, appE, lstM, appM, peek, take, run_change, putSl]
      refine ⟨by omega, es ++ [d], _, rfl, fun y hy => ?_, fun y hy => h2 y (List.mem_cons_of_mem _ hy), by simp; omega⟩
      rcases List.mem_append.mp hy with hy | hy
      · exact h1 y hy
      · simp at hy; subst hy; exact hd
  · rintro e ⟨es, p, rfl, h1, h2, h3⟩
    simp only [exs, ex, ev, evs, evK, evT, evU, evW, evO, evP, seqM, Rf.andM, Rf.orM, isiM, asgM, negM, revM, callE, permM, prm, consO, consK, run_bind, run_pure, run_look, getSl, peek_val, take_val, own_val, move_val, pureV, newV, val0, List.map_cons, List.map_nil, List.getElem?_cons_zero, List.getElem?_cons_succ, truM, pure_bind', bind_assoc', truth, tyIs, lstE, tupE, run_assert, biM, peeks, partM, List.set_cons_zero, List.set_cons_succ, run_bindSl, move, putSl]
    exact hK _ ⟨es, rfl, h1, by simpa using h3⟩
end HD
end
section
set_option Elab.async false
set_option linter.all false
set_option maxRecDepth 100000
set_option maxHeartbeats 800000
namespace HD
open PySem PySem.Spec L2 Rf
theorem g9d (k : Nat) (d : D) (h : isD d = true) : Gives (runL tx.ir (k + 2) 9) [d] (fun r => r.d = d) := by
  intro K x hK
  rw [runL_eq ir_9, fnOf_run]
  refine ⟨rfl, ?_⟩
  show (exs _ ir9).run [⟨false, some ⟨.fz, d⟩⟩, ⟨false, none⟩, ⟨false, none⟩] _ _
  have lz : sizeLine = 2 ^ 24 := by rw [sizeLine_eq]
  rcases isD_cases h with rfl | rfl
  · simp only [ir9, exs, ex, ev, evK, evT, evU, evW, evO, evP, seqM, Rf.andM, Rf.orM, isiM, asgM, negM, revM, prm, consK, run_bind, run_pure, run_look, getSl, peek_val, take_val, own_val, move_val, pureV, newV, val0, List.map_cons, List.map_nil, List.getElem?_cons_zero, List.getElem?_cons_succ, truM, pure_bind', bind_assoc', truth, tyIs, lstE, tupE, run_assert, biM, peeks, partM, List.set_cons_zero, List.set_cons_succ, run_bindSl, evs, consO]
    refine lc_pure (rows := []) (fun _ => true) (fun d => d) (.inl rfl) (fun K' hk => ?_) (by simp) (fun d hd K' hk => ?_) (fun d hd _ K' hk => ?_) ?_
    · simpa only [exs, ex, ev, evs, evK, evT, evU, evW, evO, evP, seqM, Rf.andM, Rf.orM, isiM, asgM, negM, revM, callE, permM, prm, consO, consK, run_bind, run_pure, run_look, getSl, peek_val, take_val, own_val, move_val, pureV, newV, val0, List.map_cons, List.map_nil, List.getElem?_cons_zero, List.getElem?_cons_succ, truM, pure_bind', bind_assoc', truth, tyIs, lstE, tupE, run_assert, biM, peeks, partM, List.set_cons_zero, List.set_cons_succ, run_bindSl, rowsM, itemsOf] using hk
    · simp at hd
    · simp at hd
    · simp only [exs, ex, ev, evs, evK, evT, evU, evW, evO, evP, seqM, Rf.andM, Rf.orM, isiM, asgM, negM, revM, callE, permM, prm, consO, consK, run_bind, run_pure, run_look, getSl, peek_val, take_val, own_val, move_val, pureV, newV, val0, List.map_cons, List.map_nil, List.getElem?_cons_zero, List.getElem?_cons_succ, truM, pure_bind', bind_assoc', truth, tyIs, lstE, tupE, run_assert, biM, peeks, partM, List.set_cons_zero, List.set_cons_succ, run_bindSl, biD, List.filter_nil, prsOf]
      exact hK _ rfl
  · simp only [ir9, exs, ex, ev, evK, evT, evU, evW, evO, evP, seqM, Rf.andM, Rf.orM, isiM, asgM, negM, revM, prm, consK, run_bind, run_pure, run_look, getSl, peek_val, take_val, own_val, move_val, pureV, newV, val0, List.map_cons, List.map_nil, List.getElem?_cons_zero, List.getElem?_cons_succ, truM, pure_bind', bind_assoc', truth, tyIs, lstE, tupE, run_assert, biM, peeks, partM, List.set_cons_zero, List.set_cons_succ, run_bindSl, evs, consO]
    refine lc_pure (rows := [.str ⟨#[97]⟩]) (fun _ => true) (fun d => .tuple [d, .int 1]) (.inl rfl) (fun K' hk => ?_) (by rw [lz]; simp) (fun d hd K' hk => ?_) (fun d hd _ K' hk => ?_) ?_
    · simpa only [exs, ex, ev, evs, evK, evT, evU, evW, evO, evP, seqM, Rf.andM, Rf.orM, isiM, asgM, negM, revM, callE, permM, prm, consO, consK, run_bind, run_pure, run_look, getSl, peek_val, take_val, own_val, move_val, pureV, newV, val0, List.map_cons, List.map_nil, List.getElem?_cons_zero, List.getElem?_cons_succ, truM, pure_bind', bind_assoc', truth, tyIs, lstE, tupE, run_assert, biM, peeks, partM, List.set_cons_zero, List.set_cons_succ, run_bindSl, rowsM, itemsOf] using hk
    · simpa only [exs, ex, ev, evs, evK, evT, evU, evW, evO, evP, seqM, Rf.andM, Rf.orM, isiM, asgM, negM, revM, callE, permM, prm, consO, consK, run_bind, run_pure, run_look, getSl, peek_val, take_val, own_val, move_val, pureV, newV, val0, List.map_cons, List.map_nil, List.getElem?_cons_zero, List.getElem?_cons_succ, truM, pure_bind', bind_assoc', truth, tyIs, lstE, tupE, run_assert, biM, peeks, partM, List.set_cons_zero, List.set_cons_succ, run_bindSl] using hk
    · have hd : d = .str ⟨#[97]⟩ := by simpa using hd
      subst hd
      simp only [exs, ex, ev, evK, evT, evU, evW, evO, evP, seqM, Rf.andM, Rf.orM, isiM, asgM, negM, revM, prm, consK, run_bind, run_pure, run_look, getSl, peek_val, take_val, own_val, move_val, pureV, newV, val0, List.map_cons, List.map_nil, List.getElem?_cons_zero, List.getElem?_cons_succ, truM, pure_bind', bind_assoc', truth, tyIs, lstE, tupE, run_assert, biM, peeks, partM, List.set_cons_zero, List.set_cons_succ, run_bindSl, evs, consO, ixO, ixM, take]
      have e1 : valD [(.str ⟨#[97]⟩, .int 1)] (.str ⟨#[97]⟩) = some (.int 1) := rfl
      refine call_vals (g9 0 k (.int 1) (by decide)) rfl (fun K' hk => ?_) fun r hr => ?_
      · simp only [exs, ex, ev, evs, evK, evT, evU, evW, evO, evP, seqM, Rf.andM, Rf.orM, isiM, asgM, negM, revM, callE, permM, prm, consO, consK, run_bind, run_pure, run_look, getSl, peek_val, take_val, own_val, move_val, pureV, newV, val0, List.map_cons, List.map_nil, List.getElem?_cons_zero, List.getElem?_cons_succ, truM, pure_bind', bind_assoc', truth, tyIs, lstE, tupE, run_assert, biM, peeks, partM, List.set_cons_zero, List.set_cons_succ, run_bindSl, ixO, ixM, e1]
        exact ⟨rfl, hk⟩
      · simp only [exs, ex, ev, evs, evK, evT, evU, evW, evO, evP, seqM, Rf.andM, Rf.orM, isiM, asgM, negM, revM, callE, permM, prm, consO, consK, run_bind, run_pure, run_look, getSl, peek_val, take_val, own_val, move_val, pureV, newV, val0, List.map_cons, List.map_nil, List.getElem?_cons_zero, List.getElem?_cons_succ, truM, pure_bind', bind_assoc', truth, tyIs, lstE, tupE, run_assert, biM, peeks, partM, List.set_cons_zero, List.set_cons_succ, run_bindSl, take]
        rw [hr]
        exact ⟨by rw [lz]; simp, hk⟩
    · simp only [exs, ex, ev, evs, evK, evT, evU, evW, evO, evP, seqM, Rf.andM, Rf.orM, isiM, asgM, negM, revM, callE, permM, prm, consO, consK, run_bind, run_pure, run_look, getSl, peek_val, take_val, own_val, move_val, pureV, newV, val0, List.map_cons, List.map_nil, List.getElem?_cons_zero, List.getElem?_cons_succ, truM, pure_bind', bind_assoc', truth, tyIs, lstE, tupE, run_assert, biM, peeks, partM, List.set_cons_zero, List.set_cons_succ, run_bindSl, biD, filt_t]
      exact hK _ rfl
/-- what g12 hands out -/
def ok12 (d : D) : Bool := gd 2 d || isD d
theorem ok12_jd {d : D} (h : ok12 d = true) : Jd d := by
  rcases Bool.or_eq_true_iff.mp h with h | h
  · exact gd_jd h
  · exact isD_jd h
theorem g9o (k : Nat) (d : D) (h : ok12 d = true) : Gives (runL tx.ir (k + 3) 9) [d] (fun r => r.d = d) := by
  rcases Bool.or_eq_true_iff.mp h with h | h
  · exact g9 2 k d h
  · exact g9d (k + 1) d h
theorem g12 (k : Nat) (g : D) (n : Nat) (hg : Gn (n + 2) g) (K : List (Option Sl) → Sl → Prop) (x : List (Option Sl) → Xc → Prop) (hK : ∀ g' r, Gn n g' → ok12 r.d = true → K [some ⟨.top, g'⟩] r) : (runL tx.ir (k + 4) 12).run [⟨.top, g⟩] K x := by
  rw [runL_eq ir_12, fnOf_run]
  refine ⟨rfl, ?_⟩
  show (exs _ ir12).run [⟨true, some ⟨.top, g⟩⟩, ⟨false, none⟩] _ _
  have lz : sizeLine = 2 ^ 24 := by rw [sizeLine_eq]
  simp only [ir12, exs, ex, ev, evK, evT, evU, evW, evO, evP, seqM, Rf.andM, Rf.orM, isiM, asgM, negM, revM, prm, consK, run_bind, run_pure, run_look, getSl, peek_val, take_val, own_val, move_val, pureV, newV, val0, List.map_cons, List.map_nil, List.getElem?_cons_zero, List.getElem?_cons_succ, truM, pure_bind', bind_assoc', truth, tyIs, lstE, tupE, run_assert, biM, peeks, partM, List.set_cons_zero, List.set_cons_succ, run_bindSl, bopM, bop, take, dicE, pairK, peek]
  repeat ((with_reducible refine And.intro ?sd ?_); (case sd => first | rfl | exact ⟨by decide, by decide +kernel⟩ | exact ⟨by decide, by decide, by decide⟩ | (rw [lz]; simp; done) | exact ⟨by decide, by simp [keyOkD]⟩))
  simp only [exs, ex, ev, evs, evK, evT, evU, evW, evO, evP, seqM, Rf.andM, Rf.orM, isiM, asgM, negM, revM, callE, permM, prm, consO, consK, run_bind, run_pure, run_look, getSl, peek_val, take_val, own_val, move_val, pureV, newV, val0, List.map_cons, List.map_nil, List.getElem?_cons_zero, List.getElem?_cons_succ, truM, pure_bind', bind_assoc', truth, tyIs, lstE, tupE, run_assert, biM, peeks, partM, List.set_cons_zero, List.set_cons_succ, run_bindSl, callM_run, loadArgs, putSl, peek]
  refine ⟨rfl, g8 k g _ .top n hg (.inl rfl) (.inl ⟨_, rfl⟩) (by simp [menuOf]) (by simp [menuOf]) _ _ fun g' d q1 q2 => ?_⟩
  have q3 : ok12 d = true := by
    have all : ∀ l : List D, l.all ok12 = true → d ∈ l → ok12 d = true := fun l h1 h2 => List.all_eq_true.mp h1 d h2
    refine all _ ?_ q2
    decide +kernel
  simp only [exs, ex, ev, evs, evK, evT, evU, evW, evO, evP, seqM, Rf.andM, Rf.orM, isiM, asgM, negM, revM, callE, permM, prm, consO, consK, run_bind, run_pure, run_look, getSl, peek_val, take_val, own_val, move_val, pureV, newV, val0, List.map_cons, List.map_nil, List.getElem?_cons_zero, List.getElem?_cons_succ, truM, pure_bind', bind_assoc', truth, tyIs, lstE, tupE, run_assert, biM, peeks, partM, List.set_cons_zero, List.set_cons_succ, run_bindSl, callM_run, loadArgs, backArgs, putSl, finT]
  refine ⟨rfl, g9o k d q3 _ _ fun r hr => ?_⟩
  simp only [exs, ex, ev, evs, evK, evT, evU, evW, evO, evP, seqM, Rf.andM, Rf.orM, isiM, asgM, negM, revM, callE, permM, prm, consO, consK, run_bind, run_pure, run_look, getSl, peek_val, take_val, own_val, move_val, pureV, newV, val0, List.map_cons, List.map_nil, List.getElem?_cons_zero, List.getElem?_cons_succ, truM, pure_bind', bind_assoc', truth, tyIs, lstE, tupE, run_assert, biM, peeks, partM, List.set_cons_zero, List.set_cons_succ, run_bindSl, backArgs]
  exact hK _ _ q1 (by rw [hr]; exact q3)
end HD
end
section
set_option Elab.async false
set_option linter.all false
set_option maxRecDepth 100000
set_option maxHeartbeats 800000
namespace HD
open PySem PySem.Spec L2 Rf
theorem join_cs : ∀ cs : List Nat, Str.join ⟨#[]⟩ (cs.map fun c => (⟨#[c]⟩ : Str)) = ⟨cs.toArray⟩
  | [] => rfl
  | [c] => rfl
  | c :: d :: r => by
    show (⟨#[c]⟩ : Str) ++ ⟨#[]⟩ ++ Str.join ⟨#[]⟩ ((d :: r).map fun c => (⟨#[c]⟩ : Str)) = _
    rw [join_cs (d :: r)]
    show (⟨#[c] ++ #[] ++ (d :: r).toArray⟩ : Str) = _
    simp
def sgn (d : D) : Prop := ∃ c, c < 0x110000 ∧ d = .str ⟨#[c]⟩
theorem sgn_list : ∀ ds : List D, (∀ d ∈ ds, sgn d) → ∃ cs : List Nat, ds = (cs.map fun c => (⟨#[c]⟩ : Str)).map .str ∧ ∀ c ∈ cs, c < 0x110000
  | [], _ => ⟨[], rfl, by simp⟩
  | d :: ds, h => by
    obtain ⟨c, h1, rfl⟩ := h d (by simp)
    obtain ⟨cs, h2, h3⟩ := sgn_list ds fun y hy => h y (List.mem_cons_of_mem _ hy)
    exact ⟨c :: cs, by simp [h2], by simpa using ⟨h1, h3⟩⟩
theorem sum_ones : ∀ cs : List Nat, ((cs.map fun c => (⟨#[c]⟩ : Str)).map (·.length)).sum = cs.length
  | [] => rfl
  | c :: cs => by
    have := sum_ones cs
    simp only [List.map_cons, List.sum_cons, List.length_cons, this]
    show 1 + cs.length = _
    omega
theorem rng_len (r : Int) : (rngD 0 r).length = r.toNat := by simp [rngD]
theorem g15 (k : Nat) (g : D) (n : Nat) (hg : Gn (n + 50) g) (K : List (Option Sl) → Sl → Prop) (x : List (Option Sl) → Xc → Prop) (hK : ∀ g' y, Gn n g' → gd 2 (.str y) = true → K [some ⟨.top, g'⟩] ⟨.fz, .str y⟩) : (runL tx.ir (k + 4) 15).run [⟨.top, g⟩] K x := by
  rw [runL_eq ir_15, fnOf_run]
  refine ⟨rfl, ?_⟩
  show (exs _ ir15).run [⟨true, some ⟨.top, g⟩⟩, ⟨false, none⟩, ⟨false, none⟩] _ _
  have lz : sizeLine = 2 ^ 24 := by rw [sizeLine_eq]
  simp only [ir15, exs, ex, ev, evs, evK, evT, evU, evW, evO, evP, seqM, Rf.andM, Rf.orM, isiM, asgM, negM, revM, callE, permM, prm, consO, consK, run_bind, run_pure, run_look, getSl, peek_val, take_val, own_val, move_val, pureV, newV, val0, List.map_cons, List.map_nil, List.getElem?_cons_zero, List.getElem?_cons_succ, truM, pure_bind', bind_assoc', truth, tyIs, lstE, tupE, run_assert, biM, peeks, partM, List.set_cons_zero, List.set_cons_succ, run_bindSl, take, callM_run, loadArgs, putSl]
  repeat ((with_reducible refine And.intro ?sd ?_); (case sd => first | rfl | exact ⟨by decide, by decide +kernel⟩ | exact ⟨by decide, by decide, by decide⟩ | (rw [lz]; simp; done) | exact ⟨by decide, by simp [keyOkD]⟩))
  refine g8 k g _ .top (n + 48) (hg.mono (by omega)) (.inl rfl) (.inl ⟨_, rfl⟩) (by simp [menuOf]) (by simp [menuOf]) _ _ fun g' d q1 q2 => ?_
  have q3 : ∃ y, d = .str y ∧ 0 < (signs y).length ∧ (signs y).length < 2 ^ 20 ∧ ∀ z ∈ signs y, sgn z := by
    have sg : ∀ l : List Nat, (l.all fun c => decide (c < 0x110000)) = true → ∀ z ∈ signs ⟨l.toArray⟩, sgn z := by
      intro l hl z hz
      unfold signs at hz
      obtain ⟨c, hc, rfl⟩ := List.mem_map.mp hz
      exact ⟨c, of_decide_eq_true (List.all_eq_true.mp hl c (by simpa using hc)), rfl⟩
    simp only [menuOf, List.mem_cons, List.not_mem_nil, or_false] at q2
    rcases q2 with rfl | rfl | rfl | rfl | rfl <;> exact ⟨_, rfl, by decide, by decide, sg _ (by decide)⟩
  obtain ⟨y, rfl, y1, y2, y3⟩ := q3
  simp only [exs, ex, ev, evs, evK, evT, evU, evW, evO, evP, seqM, Rf.andM, Rf.orM, isiM, asgM, negM, revM, callE, permM, prm, consO, consK, run_bind, run_pure, run_look, getSl, peek_val, take_val, own_val, move_val, pureV, newV, val0, List.map_cons, List.map_nil, List.getElem?_cons_zero, List.getElem?_cons_succ, truM, pure_bind', bind_assoc', truth, tyIs, lstE, tupE, run_assert, biM, peeks, partM, List.set_cons_zero, List.set_cons_succ, run_bindSl, backArgs, putSl, finT, joinE, strM]
  refine lc_run (fun rest acc e => ∃ g', e = [⟨true, some ⟨.top, g'⟩⟩, ⟨false, some ⟨.fz, .str y⟩⟩, ⟨false, none⟩] ∧ Gn (n + 2 * rest.length) g' ∧ acc.length + rest.length ≤ 23 ∧ ∀ d ∈ acc, sgn d) ?_ ?_
  · simp only [exs, ex, ev, evs, evK, evT, evU, evW, evO, evP, seqM, Rf.andM, Rf.orM, isiM, asgM, negM, revM, callE, permM, prm, consO, consK, run_bind, run_pure, run_look, getSl, peek_val, take_val, own_val, move_val, pureV, newV, val0, List.map_cons, List.map_nil, List.getElem?_cons_zero, List.getElem?_cons_succ, truM, pure_bind', bind_assoc', truth, tyIs, lstE, tupE, run_assert, biM, peeks, partM, List.set_cons_zero, List.set_cons_succ, run_bindSl, rng1M, callM_run, loadArgs, putSl]
    refine ⟨rfl, g7 (k + 1) g' _ (n + 46) q1 (by omega) (by omega) _ _ fun g2 r w1 w2 w3 => ?_⟩
    simp only [exs, ex, ev, evs, evK, evT, evU, evW, evO, evP, seqM, Rf.andM, Rf.orM, isiM, asgM, negM, revM, callE, permM, prm, consO, consK, run_bind, run_pure, run_look, getSl, peek_val, take_val, own_val, move_val, pureV, newV, val0, List.map_cons, List.map_nil, List.getElem?_cons_zero, List.getElem?_cons_succ, truM, pure_bind', bind_assoc', truth, tyIs, lstE, tupE, run_assert, biM, peeks, partM, List.set_cons_zero, List.set_cons_succ, run_bindSl, backArgs, putSl, intM]
    refine ⟨⟨by omega, by omega⟩, trivial, by rw [rng_len]; omega, .inl rfl, ⟨g2, rfl, w1.mono (by rw [rng_len]; omega), by rw [rng_len]; simp; omega, by simp⟩, ?_⟩
    rintro ds e' ⟨g3, rfl, v1, v2, v3⟩ _
    obtain ⟨cs, rfl, c1⟩ := sgn_list ds v3
    simp only [exs, ex, ev, evs, evK, evT, evU, evW, evO, evP, seqM, Rf.andM, Rf.orM, isiM, asgM, negM, revM, callE, permM, prm, consO, consK, run_bind, run_pure, run_look, getSl, peek_val, take_val, own_val, move_val, pureV, newV, val0, List.map_cons, List.map_nil, List.getElem?_cons_zero, List.getElem?_cons_succ, truM, pure_bind', bind_assoc', truth, tyIs, lstE, tupE, run_assert, biM, peeks, partM, List.set_cons_zero, List.set_cons_succ, run_bindSl, joinD, strs_map, List.length_map, List.length_nil] at v2 ⊢
    refine ⟨by rw [sum_ones]; show cs.length + cs.length * 0 ≤ _; omega, ?_⟩
    refine hK g3 _ (by simpa using v1) ?_
    have e1 : Txt.join ⟨#[]⟩ (cs.map fun c => (⟨#[c]⟩ : Str)) = ⟨cs.toArray⟩ := (StrLaws.glued_eq_join _ _).trans (join_cs cs)
    rw [e1]
    show (PyData.strOk ⟨cs.toArray⟩ && decide (cs.toArray.size ≤ 300)) = true
    rw [strOk_iff.mpr c1]
    simp
    omega
  · rintro d rest acc e ⟨g3, rfl, v1, v2, v3⟩
    refine ⟨rfl, ?_⟩
    simp only [List.length_cons] at v1 v2
    simp only [exs, ex, ev, evs, evK, evT, evU, evW, evO, evP, seqM, Rf.andM, Rf.orM, isiM, asgM, negM, revM, callE, permM, prm, consO, consK, run_bind, run_pure, run_look, getSl, peek_val, take_val, own_val, move_val, pureV, newV, val0, List.map_cons, List.map_nil, List.getElem?_cons_zero, List.getElem?_cons_succ, truM, pure_bind', bind_assoc', truth, tyIs, lstE, tupE, run_assert, biM, peeks, partM, List.set_cons_zero, List.set_cons_succ, run_bindSl, callM_run, loadArgs, putSl]
    refine ⟨rfl, g8 k g3 _ .fz (n + 2 * rest.length) (v1.mono (by omega)) (.inr rfl) (.inr ⟨_, rfl⟩) y1 y2 _ _ fun g4 d4 w1 w2 => ?_⟩
    simp only [exs, ex, ev, evs, evK, evT, evU, evW, evO, evP, seqM, Rf.andM, Rf.orM, isiM, asgM, negM, revM, callE, permM, prm, consO, consK, run_bind, run_pure, run_look, getSl, peek_val, take_val, own_val, move_val, pureV, newV, val0, List.map_cons, List.map_nil, List.getElem?_cons_zero, List.getElem?_cons_succ, truM, pure_bind', bind_assoc', truth, tyIs, lstE, tupE, run_assert, biM, peeks, partM, List.set_cons_zero, List.set_cons_succ, run_bindSl, backArgs, putSl, finT, take]
    refine ⟨.inr ⟨_, rfl⟩, g4, rfl, w1, by simp; omega, fun z hz => ?_⟩
    rcases List.mem_append.mp hz with hz | hz
    · exact v3 z hz
    · simp at hz; subst hz; exact y3 _ w2
end HD
end
section
set_option Elab.async false
set_option linter.all false
set_option maxRecDepth 100000
set_option maxHeartbeats 800000
namespace HD
open PySem PySem.Spec L2 Rf
def smi (d : D) : Prop := ∃ i : Int, d = .int i ∧ i.natAbs < 10 ^ 12
theorem smi_list : ∀ ds : List D, (∀ d ∈ ds, smi d) → ∃ ns : List Int, ds = ns.map .int ∧ ∀ i ∈ ns, i.natAbs < 10 ^ 12
  | [], _ => ⟨[], rfl, by simp⟩
  | d :: ds, h => by
    obtain ⟨c, rfl, h1⟩ := h d (by simp)
    obtain ⟨cs, h2, h3⟩ := smi_list ds fun y hy => h y (List.mem_cons_of_mem _ hy)
    exact ⟨c :: cs, by simp [h2], fun i hi => by
      rcases List.mem_cons.mp hi with rfl | hi
      · exact h1
      · exact h3 i hi⟩
theorem g16 (k : Nat) (g : D) (n : Nat) (hg : Gn (n + 32) g) (K : List (Option Sl) → Sl → Prop) (x : List (Option Sl) → Xc → Prop) (hK : ∀ g' ds, Gn n g' → (∀ d ∈ ds, smi d) → ds.length ≤ 5 → K [some ⟨.top, g'⟩] ⟨.top, .list ds⟩) : (runL tx.ir (k + 4) 16).run [⟨.top, g⟩] K x := by
  rw [runL_eq ir_16, fnOf_run]
  refine ⟨rfl, ?_⟩
  show (exs _ ir16).run [⟨true, some ⟨.top, g⟩⟩, ⟨false, none⟩] _ _
  have lz : sizeLine = 2 ^ 24 := by rw [sizeLine_eq]
  simp only [ir16, exs, ex, ev, evs, evK, evT, evU, evW, evO, evP, seqM, Rf.andM, Rf.orM, isiM, asgM, negM, revM, callE, permM, prm, consO, consK, run_bind, run_pure, run_look, getSl, peek_val, take_val, own_val, move_val, pureV, newV, val0, List.map_cons, List.map_nil, List.getElem?_cons_zero, List.getElem?_cons_succ, truM, pure_bind', bind_assoc', truth, tyIs, lstE, tupE, run_assert, biM, peeks, partM, List.set_cons_zero, List.set_cons_succ, run_bindSl, take, callM_run, loadArgs, putSl]
  refine lc_run (fun rest acc e => ∃ g', e = [⟨true, some ⟨.top, g'⟩⟩, ⟨false, none⟩] ∧ Gn (n + 6 * rest.length) g' ∧ acc.length + rest.length ≤ 5 ∧ ∀ d ∈ acc, smi d) ?_ ?_
  · simp only [exs, ex, ev, evs, evK, evT, evU, evW, evO, evP, seqM, Rf.andM, Rf.orM, isiM, asgM, negM, revM, callE, permM, prm, consO, consK, run_bind, run_pure, run_look, getSl, peek_val, take_val, own_val, move_val, pureV, newV, val0, List.map_cons, List.map_nil, List.getElem?_cons_zero, List.getElem?_cons_succ, truM, pure_bind', bind_assoc', truth, tyIs, lstE, tupE, run_assert, biM, peeks, partM, List.set_cons_zero, List.set_cons_succ, run_bindSl, rng1M, callM_run, loadArgs, putSl]
    refine ⟨rfl, g7 (k + 1) g _ (n + 30) (hg.mono (by omega)) (by omega) (by omega) _ _ fun g2 r w1 w2 w3 => ?_⟩
    simp only [exs, ex, ev, evs, evK, evT, evU, evW, evO, evP, seqM, Rf.andM, Rf.orM, isiM, asgM, negM, revM, callE, permM, prm, consO, consK, run_bind, run_pure, run_look, getSl, peek_val, take_val, own_val, move_val, pureV, newV, val0, List.map_cons, List.map_nil, List.getElem?_cons_zero, List.getElem?_cons_succ, truM, pure_bind', bind_assoc', truth, tyIs, lstE, tupE, run_assert, biM, peeks, partM, List.set_cons_zero, List.set_cons_succ, run_bindSl, backArgs, putSl, intM]
    refine ⟨⟨by omega, by omega⟩, trivial, by rw [rng_len]; omega, .inl rfl, ⟨g2, rfl, w1.mono (by rw [rng_len]; omega), by rw [rng_len]; simp; omega, by simp⟩, ?_⟩
    rintro ds e' ⟨g3, rfl, v1, v2, v3⟩ _
    simp only [exs, ex, ev, evs, evK, evT, evU, evW, evO, evP, seqM, Rf.andM, Rf.orM, isiM, asgM, negM, revM, callE, permM, prm, consO, consK, run_bind, run_pure, run_look, getSl, peek_val, take_val, own_val, move_val, pureV, newV, val0, List.map_cons, List.map_nil, List.getElem?_cons_zero, List.getElem?_cons_succ, truM, pure_bind', bind_assoc', truth, tyIs, lstE, tupE, run_assert, biM, peeks, partM, List.set_cons_zero, List.set_cons_succ, run_bindSl, List.length_nil] at v2 ⊢
    exact hK g3 _ (by simpa using v1) v3 (by simpa using v2)
  · rintro d rest acc e ⟨g3, rfl, v1, v2, v3⟩
    refine ⟨rfl, ?_⟩
    simp only [List.length_cons] at v1 v2
    simp only [exs, ex, ev, evs, evK, evT, evU, evW, evO, evP, seqM, Rf.andM, Rf.orM, isiM, asgM, negM, revM, callE, permM, prm, consO, consK, run_bind, run_pure, run_look, getSl, peek_val, take_val, own_val, move_val, pureV, newV, val0, List.map_cons, List.map_nil, List.getElem?_cons_zero, List.getElem?_cons_succ, truM, pure_bind', bind_assoc', truth, tyIs, lstE, tupE, run_assert, biM, peeks, partM, List.set_cons_zero, List.set_cons_succ, run_bindSl, callM_run, loadArgs, putSl, bopM, bop, take]
    repeat ((with_reducible refine And.intro ?sd ?_); (case sd => first | rfl | exact ⟨by decide, by decide +kernel⟩ | exact ⟨by decide, by decide, by decide⟩ | (rw [lz]; simp; done) | exact ⟨by decide, by simp [keyOkD]⟩))
    refine g8 k g3 _ .top (n + 6 * rest.length + 4) (v1.mono (by omega)) (.inl rfl) (.inl ⟨_, rfl⟩) (by simp [menuOf]) (by simp [menuOf]) _ _ fun g4 d4 w1 w2 => ?_
    have q : ∃ b : Int, d4 = .int b ∧ 0 < b ∧ b ≤ 10 ^ 12 := by
      simp only [menuOf, List.mem_cons, List.not_mem_nil, or_false] at w2
      rcases w2 with rfl | rfl | rfl <;> exact ⟨_, rfl, by decide, by decide⟩
    obtain ⟨b, rfl, b1, b2⟩ := q
    simp only [exs, ex, ev, evs, evK, evT, evU, evW, evO, evP, seqM, Rf.andM, Rf.orM, isiM, asgM, negM, revM, callE, permM, prm, consO, consK, run_bind, run_pure, run_look, getSl, peek_val, take_val, own_val, move_val, pureV, newV, val0, List.map_cons, List.map_nil, List.getElem?_cons_zero, List.getElem?_cons_succ, truM, pure_bind', bind_assoc', truth, tyIs, lstE, tupE, run_assert, biM, peeks, partM, List.set_cons_zero, List.set_cons_succ, run_bindSl, backArgs, putSl, finT, callM_run, loadArgs]
    refine ⟨rfl, g7 (k + 1) g4 b (n + 6 * rest.length + 2) (w1.mono (by omega)) b1 (by omega) _ _ fun g5 r5 w5 w6 w7 => ?_⟩
    simp only [exs, ex, ev, evs, evK, evT, evU, evW, evO, evP, seqM, Rf.andM, Rf.orM, isiM, asgM, negM, revM, callE, permM, prm, consO, consK, run_bind, run_pure, run_look, getSl, peek_val, take_val, own_val, move_val, pureV, newV, val0, List.map_cons, List.map_nil, List.getElem?_cons_zero, List.getElem?_cons_succ, truM, pure_bind', bind_assoc', truth, tyIs, lstE, tupE, run_assert, biM, peeks, partM, List.set_cons_zero, List.set_cons_succ, run_bindSl, backArgs, putSl, callM_run, loadArgs]
    refine ⟨rfl, g7 (k + 1) g5 2 (n + 6 * rest.length) (w5.mono (by omega)) (by omega) (by omega) _ _ fun g6 r6 z5 z6 z7 => ?_⟩
    simp only [exs, ex, ev, evs, evK, evT, evU, evW, evO, evP, seqM, Rf.andM, Rf.orM, isiM, asgM, negM, revM, callE, permM, prm, consO, consK, run_bind, run_pure, run_look, getSl, peek_val, take_val, own_val, move_val, pureV, newV, val0, List.map_cons, List.map_nil, List.getElem?_cons_zero, List.getElem?_cons_succ, truM, pure_bind', bind_assoc', truth, tyIs, lstE, tupE, run_assert, biM, peeks, partM, List.set_cons_zero, List.set_cons_succ, run_bindSl, backArgs, putSl, take, bop]
    refine ⟨.inr ⟨_, rfl⟩, g6, rfl, z5, by simp; omega, fun z hz => ?_⟩
    rcases List.mem_append.mp hz with hz | hz
    · exact v3 z hz
    · simp at hz; subst hz; exact ⟨_, rfl, by omega⟩
end HD
end
section
set_option Elab.async false
set_option linter.all false
set_option maxRecDepth 100000
set_option maxHeartbeats 800000
set_option exponentiation.threshold 3000
namespace HD
open PySem PySem.Spec L2 Rf
theorem g5 (k : Nat) (ns : List Int) (j : Int) (hj : 0 ≤ j) : Gives (runL tx.ir (k + 1) 5) [.list (ns.map .int), .int j] (fun r => ∃ i : Int, r = ⟨.fz, .int i⟩) := by
  intro K x hK
  rw [runL_eq ir_5, fnOf_run]
  refine ⟨rfl, ?_⟩
  show (exs _ ir5).run [⟨false, some ⟨.fz, .list (ns.map .int)⟩⟩, ⟨false, some ⟨.fz, .int j⟩⟩] _ _
  simp only [ir5, exs, ex, ev, evs, evK, evT, evU, evW, evO, evP, seqM, Rf.andM, Rf.orM, isiM, asgM, negM, revM, callE, permM, prm, consO, consK, run_bind, run_pure, run_look, getSl, peek_val, take_val, own_val, move_val, pureV, newV, val0, List.map_cons, List.map_nil, List.getElem?_cons_zero, List.getElem?_cons_succ, truM, pure_bind', bind_assoc', truth, tyIs, lstE, tupE, run_assert, biM, peeks, partM, List.set_cons_zero, List.set_cons_succ, run_bindSl, copB, cop, ltM, biD, List.length_map]
  by_cases h : j < (ns.length : Nat)
  · rw [decide_eq_true h]
    obtain ⟨n, rfl⟩ := Int.eq_ofNat_of_zero_le hj
    have hn : n < (ns.map PyData.int).length := by simp; omega
    have e : atI (ns.map PyData.int) (n : Int) = some (.int (ns[n]'(by simpa using hn))) := by
      rw [atI_nat hn]; simp
    simp only [exs, ex, ev, evs, evK, evT, evU, evW, evO, evP, seqM, Rf.andM, Rf.orM, isiM, asgM, negM, revM, callE, permM, prm, consO, consK, run_bind, run_pure, run_look, getSl, peek_val, take_val, own_val, move_val, pureV, newV, val0, List.map_cons, List.map_nil, List.getElem?_cons_zero, List.getElem?_cons_succ, truM, pure_bind', bind_assoc', truth, tyIs, lstE, tupE, run_assert, biM, peeks, partM, List.set_cons_zero, List.set_cons_succ, run_bindSl, ixO, ixM, e]
    exact hK _ ⟨_, rfl⟩
  · rw [decide_eq_false h]
    have e : ∃ l : List Int, cutD (ns.map PyData.int) none (some 1) = l.map .int := by
      unfold cutD
      rw [← List.map_drop, ← List.map_take]
      exact ⟨_, rfl⟩
    obtain ⟨l, e⟩ := e
    simp only [exs, ex, ev, evs, evK, evT, evU, evW, evO, evP, seqM, Rf.andM, Rf.orM, isiM, asgM, negM, revM, callE, permM, prm, consO, consK, run_bind, run_pure, run_look, getSl, peek_val, take_val, own_val, move_val, pureV, newV, val0, List.map_cons, List.map_nil, List.getElem?_cons_zero, List.getElem?_cons_succ, truM, pure_bind', bind_assoc', truth, tyIs, lstE, tupE, run_assert, biM, peeks, partM, List.set_cons_zero, List.set_cons_succ, run_bindSl, slM, slD, e, biD, ints_map, bopM, bop]
    exact ⟨by decide, hK _ ⟨_, rfl⟩⟩
theorem g6 (k : Nat) (ns : List Int) (j : Int) (hj : 0 ≤ j) (hj2 : j ≤ 2) : Gives (runL tx.ir (k + 2) 6) [.list (ns.map .int), .int j] (fun r => ∃ g, r = ⟨.top, g⟩ ∧ Gn 50000 g) := by
  intro K x hK
  rw [runL_eq ir_6, fnOf_run]
  refine ⟨rfl, ?_⟩
  show (exs _ ir6).run [⟨false, some ⟨.fz, .list (ns.map .int)⟩⟩, ⟨false, some ⟨.fz, .int j⟩⟩, ⟨false, none⟩] _ _
  have lz : sizeLine = 2 ^ 24 := by rw [sizeLine_eq]
  simp only [ir6, exs, ex, ev, evK, evT, evU, evW, evO, evP, seqM, Rf.andM, Rf.orM, isiM, asgM, negM, revM, prm, consK, run_bind, run_pure, run_look, getSl, peek_val, take_val, own_val, move_val, pureV, newV, val0, List.map_cons, List.map_nil, List.getElem?_cons_zero, List.getElem?_cons_succ, truM, pure_bind', bind_assoc', truth, tyIs, lstE, tupE, run_assert, biM, peeks, partM, List.set_cons_zero, List.set_cons_succ, run_bindSl]
  refine call_vals (g5 k ns j hj) rfl (fun K' hk => ?_) fun r hr => ?_
  · simpa only [exs, ex, ev, evs, evK, evT, evU, evW, evO, evP, seqM, Rf.andM, Rf.orM, isiM, asgM, negM, revM, callE, permM, prm, consO, consK, run_bind, run_pure, run_look, getSl, peek_val, take_val, own_val, move_val, pureV, newV, val0, List.map_cons, List.map_nil, List.getElem?_cons_zero, List.getElem?_cons_succ, truM, pure_bind', bind_assoc', truth, tyIs, lstE, tupE, run_assert, biM, peeks, partM, List.set_cons_zero, List.set_cons_succ, run_bindSl] using hk
  · obtain ⟨v, rfl⟩ := hr
    simp only [exs, ex, ev, evs, evK, evT, evU, evW, evO, evP, seqM, Rf.andM, Rf.orM, isiM, asgM, negM, revM, callE, permM, prm, consO, consK, run_bind, run_pure, run_look, getSl, peek_val, take_val, own_val, move_val, pureV, newV, val0, List.map_cons, List.map_nil, List.getElem?_cons_zero, List.getElem?_cons_succ, truM, pure_bind', bind_assoc', truth, tyIs, lstE, tupE, run_assert, biM, peeks, partM, List.set_cons_zero, List.set_cons_succ, run_bindSl, bopM, bop, biD, take]
    have hp : (0 : Int) < (10 ^ (Int.toNat 60)) ^ (Int.toNat 10) := by decide +kernel
    have he : (10 ^ (Int.toNat 60) : Int) ^ (Int.toNat 10) = 10 ^ 600 := by decide +kernel
    have e7 : ((10 : Int) ^ (Int.toNat 60)) = 10 ^ 60 := by decide +kernel
    refine ⟨⟨by decide, by decide +kernel⟩, ⟨by decide, by decide +kernel⟩, ⟨by decide, by decide +kernel⟩, hp, by decide, ?_, by rw [lz]; simp, ?_⟩
    · exact mw (show Bt 10 1000 from by unfold Bt; decide) (show Bt 10 j from by unfold Bt; omega) (by decide)
    · refine hK _ ⟨_, rfl, _, _, _, rfl, Int.emod_nonneg _ (Int.ne_of_gt hp), ?_, Int.emod_nonneg _ (by decide), Int.emod_lt_of_pos _ (by decide), by omega, by omega⟩
      rw [← he]
      exact Int.emod_lt_of_pos _ hp
theorem jl {ds : List D} (h : ∀ d ∈ ds, gd 1 d = true) (hl : ds.length ≤ 64) : Jd (.list ds) ∧ Jd (.tuple ds) := by
  have q : (decide (ds.length ≤ lim 1) && ds.all (gd 1)) = true := by
    rw [Bool.and_eq_true, decide_eq_true_eq, List.all_eq_true]
    exact ⟨hl, h⟩
  exact ⟨gd_jd q, gd_jd q⟩
theorem smi_gd {d : D} (h : smi d) : gd 1 d = true := by
  obtain ⟨i, rfl, h⟩ := h
  show (decide (i.natAbs < 10 ^ 12) || decide (i = 10 ^ 12) || decide (i = 10 ^ 29)) = true
  rw [decide_eq_true h]
  rfl
theorem smi_hom {ds : List D} (h : ∀ d ∈ ds, smi d) : Hom ds := by
  obtain ⟨ns, h, _⟩ := smi_list ds h
  exact .inl ⟨ns, h⟩
theorem str_hom : ∀ {ds : List D}, (∀ d ∈ ds, ∃ y, d = .str y) → Hom ds := fun {ds} h => .inr (by
  induction ds with
  | nil => exact ⟨[], rfl⟩
  | cons d ds ih =>
    obtain ⟨y, rfl⟩ := h d (by simp)
    obtain ⟨ys, e⟩ := ih fun d hd => h d (List.mem_cons_of_mem _ hd)
    exact ⟨y :: ys, by simp [e]⟩)
theorem cut_mem {ds : List D} {a b : Option Int} {d : D} (h : d ∈ cutD ds a b) : d ∈ ds := List.mem_of_mem_drop (List.mem_of_mem_take h)
theorem cut_len {ds : List D} {a b : Option Int} : (cutD ds a b).length ≤ ds.length := by
  unfold cutD
  rw [List.length_take, List.length_drop]
  omega
def body1 : Ss := match ir18 with
  | .cons (.for_ _ _ b) _ => b
  | _ => .nil
def body5 : Ss := match body1 with
  | .cons _ (.cons (.for_ _ _ b) _) => b
  | _ => .nil
def t18 : Ss := match ir18 with
  | .cons _ r => r
  | _ => .nil
theorem e_body1 : body1 = .cons (.asg 4 (.call 6 2 (.cons (.var 0) (.cons (.var 1) .nil)))) (.cons (.for_ (.nm 5) (.rng1 (.c (.int 12))) body5) .nil) := rfl
theorem e18 : ir18 = .cons (.for_ (.nm 1) (.rng1 (.c (.int 3))) body1) t18 := rfl
end HD
end
section
set_option Elab.async false
set_option linter.all false
set_option maxRecDepth 100000
set_option maxHeartbeats 1600000
namespace HD
open PySem PySem.Spec L2 Rf
def E14 (a0 : D) (p1 p4 p5 p6 p7 p8 p9 p10 p11 : Option Sl) : En := [⟨false, some ⟨.fz, a0⟩⟩, ⟨false, p1⟩, ⟨false, none⟩, ⟨false, none⟩, ⟨false, p4⟩, ⟨false, p5⟩, ⟨false, p6⟩, ⟨false, p7⟩, ⟨false, p8⟩, ⟨false, p9⟩, ⟨false, p10⟩, ⟨false, p11⟩, ⟨false, none⟩, ⟨false, none⟩]
def ok11 (p : Option Sl) : Prop := p = none ∨ ∃ d, p = some ⟨.fz, d⟩
def b5b : Ss := match body5 with
  | .cons _ (.cons _ (.cons _ (.cons _ r))) => r
  | _ => .nil
def b5c : Ss := match b5b with
  | .cons _ r => r
  | _ => .nil
def s6 : S := match body5 with | .cons a _ => a | _ => .pass
def s7 : S := match body5 with | .cons _ (.cons a _) => a | _ => .pass
def s8 : S := match body5 with | .cons _ (.cons _ (.cons a _)) => a | _ => .pass
def s9 : S := match body5 with | .cons _ (.cons _ (.cons _ (.cons a _))) => a | _ => .pass
def s10 : S := match b5b with | .cons a _ => a | _ => .pass
theorem e_body5 : body5 = .cons s6 (.cons s7 (.cons s8 (.cons s9 b5b))) := rfl
theorem e_b5b : b5b = .cons s10 b5c := rfl
theorem bi_tup (ds : List D) : biD .tuple [.list ds] = pureV (.tuple ds) := rfl
theorem sl_lst (ds : List D) (a b : Option Int) : slD (.list ds) a b = newV (.list (cutD ds a b)) := rfl
theorem b5c_run (k n : Nat) (a0 g : D) (p1 p5 p7 p8 p9 p11 : Option Sl) (ds6 l10 : List D) (hg : Gn (n + 52) g) (h6 : ∀ d ∈ ds6, smi d) (l6 : ds6.length ≤ 5) (h10 : ∀ d ∈ l10, Jd d) (ll : l10.length ≤ 10) (K : Flw → En → Prop) (x : Xc → En → Prop)
    (h11 : ok11 p11) (hK : ∀ g' p6 p7 p8 p9 p10 p11, ok11 p11 → Gn n g' → K .nx (E14 a0 p1 (some ⟨.top, g'⟩) p5 p6 p7 p8 p9 p10 p11)) :
    (exs (runL tx.ir (k + 4)) b5c).run (E14 a0 p1 (some ⟨.top, g⟩) p5 (some ⟨.top, .list ds6⟩) p7 p8 p9 (some ⟨.top, .list l10⟩) p11) K x := by
  have lz : sizeLine = 2 ^ 24 := by rw [sizeLine_eq]
  have gd6 : ∀ d ∈ ds6, gd 1 d = true := fun d hd => smi_gd (h6 d hd)
  unfold E14 at hK ⊢
  simp only [b5c, b5b, body5, body1, ir18, exs, ex, ev, evK, evT, evU, evW, evO, evP, seqM, Rf.andM, Rf.orM, isiM, asgM, negM, revM, prm, consK, run_bind, run_pure, run_look, getSl, peek_val, take_val, own_val, move_val, pureV, newV, val0, List.map_cons, List.map_nil, List.getElem?_cons_zero, List.getElem?_cons_succ, truM, pure_bind', bind_assoc', truth, tyIs, lstE, tupE, run_assert, biM, peeks, partM, List.set_cons_zero, List.set_cons_succ, run_bindSl]
  refine for_run (fun rest e => (∃ g' p6 p7 p8 p9 p10 p11, e = [⟨false, some ⟨.fz, a0⟩⟩, ⟨false, p1⟩, ⟨false, none⟩, ⟨false, none⟩, ⟨false, some ⟨.top, g'⟩⟩, ⟨false, p5⟩, ⟨false, p6⟩, ⟨false, p7⟩, ⟨false, p8⟩, ⟨false, p9⟩, ⟨false, p10⟩, ⟨false, p11⟩, ⟨false, none⟩, ⟨false, none⟩] ∧ ok11 p11 ∧ Gn n g') ∧ ∀ d ∈ rest, Jd d) ?_ ?_ ?_
  · simp only [exs, ex, ev, evs, evK, evT, evU, evW, evO, evP, seqM, Rf.andM, Rf.orM, isiM, asgM, negM, revM, callE, permM, prm, consO, consK, run_bind, run_pure, run_look, getSl, peek_val, take_val, own_val, move_val, pureV, newV, val0, List.map_cons, List.map_nil, List.getElem?_cons_zero, List.getElem?_cons_succ, truM, pure_bind', bind_assoc', truth, tyIs, lstE, tupE, run_assert, biM, peeks, partM, List.set_cons_zero, List.set_cons_succ, run_bindSl, take, callM_run, loadArgs, putSl, bopM]
    refine ⟨rfl, g12 k g (n + 50) (hg.mono (by omega)) _ _ fun g1 r1 w1 o1 => ?_⟩
    simp only [exs, ex, ev, evs, evK, evT, evU, evW, evO, evP, seqM, Rf.andM, Rf.orM, isiM, asgM, negM, revM, callE, permM, prm, consO, consK, run_bind, run_pure, run_look, getSl, peek_val, take_val, own_val, move_val, pureV, newV, val0, List.map_cons, List.map_nil, List.getElem?_cons_zero, List.getElem?_cons_succ, truM, pure_bind', bind_assoc', truth, tyIs, lstE, tupE, run_assert, biM, peeks, partM, List.set_cons_zero, List.set_cons_succ, run_bindSl, take, backArgs, putSl, callM_run, loadArgs]
    refine ⟨rfl, g15 k g1 n w1 _ _ fun g2 y w2 o2 => ?_⟩
    simp only [exs, ex, ev, evs, evK, evT, evU, evW, evO, evP, seqM, Rf.andM, Rf.orM, isiM, asgM, negM, revM, callE, permM, prm, consO, consK, run_bind, run_pure, run_look, getSl, peek_val, take_val, own_val, move_val, pureV, newV, val0, List.map_cons, List.map_nil, List.getElem?_cons_zero, List.getElem?_cons_succ, truM, pure_bind', bind_assoc', truth, tyIs, lstE, tupE, run_assert, biM, peeks, partM, List.set_cons_zero, List.set_cons_succ, run_bindSl, take, backArgs, putSl]
    refine sorted_run (smi_hom h6) (by omega) fun es hp hh => ?_
    simp only [exs, ex, ev, evs, evK, evT, evU, evW, evO, evP, seqM, Rf.andM, Rf.orM, isiM, asgM, negM, revM, callE, permM, prm, consO, consK, run_bind, run_pure, run_look, getSl, peek_val, take_val, own_val, move_val, pureV, newV, val0, List.map_cons, List.map_nil, List.getElem?_cons_zero, List.getElem?_cons_succ, truM, pure_bind', bind_assoc', truth, tyIs, lstE, tupE, run_assert, biM, peeks, partM, List.set_cons_zero, List.set_cons_succ, run_bindSl, take, callM_run, loadArgs]
    refine ⟨rfl, g11 (k + 3) ds6 (smi_hom h6) (by omega) gd6 _ _ fun r hr => ?_⟩
    obtain ⟨e1, rfl, m1, z1⟩ := hr
    simp only [exs, ex, ev, evs, evK, evT, evU, evW, evO, evP, seqM, Rf.andM, Rf.orM, isiM, asgM, negM, revM, callE, permM, prm, consO, consK, run_bind, run_pure, run_look, getSl, peek_val, take_val, own_val, move_val, pureV, newV, val0, List.map_cons, List.map_nil, List.getElem?_cons_zero, List.getElem?_cons_succ, truM, pure_bind', bind_assoc', truth, tyIs, lstE, tupE, run_assert, biM, peeks, partM, List.set_cons_zero, List.set_cons_succ, run_bindSl, take, backArgs, callM_run, loadArgs]
    refine ⟨rfl, g11 (k + 3) ds6 (smi_hom h6) (by omega) gd6 _ _ fun r hr => ?_⟩
    obtain ⟨e2, rfl, m2, z2⟩ := hr
    simp only [exs, ex, ev, evs, evK, evT, evU, evW, evO, evP, seqM, Rf.andM, Rf.orM, isiM, asgM, negM, revM, callE, permM, prm, consO, consK, run_bind, run_pure, run_look, getSl, peek_val, take_val, own_val, move_val, pureV, newV, val0, List.map_cons, List.map_nil, List.getElem?_cons_zero, List.getElem?_cons_succ, truM, pure_bind', bind_assoc', truth, tyIs, lstE, tupE, run_assert, biM, peeks, partM, List.set_cons_zero, List.set_cons_succ, run_bindSl, take, backArgs, bi_tup]
    refine ⟨by rw [lz]; simp, ?_⟩
    simp only [exs, ex, ev, evs, evK, evT, evU, evW, evO, evP, seqM, Rf.andM, Rf.orM, isiM, asgM, negM, revM, callE, permM, prm, consO, consK, run_bind, run_pure, run_look, getSl, peek_val, take_val, own_val, move_val, pureV, newV, val0, List.map_cons, List.map_nil, List.getElem?_cons_zero, List.getElem?_cons_succ, truM, pure_bind', bind_assoc', truth, tyIs, lstE, tupE, run_assert, biM, peeks, partM, List.set_cons_zero, List.set_cons_succ, run_bindSl, peek, bop]
    refine ⟨by simp only [List.length_cons, List.length_nil]; omega, ?_⟩
    simp only [exs, ex, ev, evs, evK, evT, evU, evW, evO, evP, seqM, Rf.andM, Rf.orM, isiM, asgM, negM, revM, callE, permM, prm, consO, consK, run_bind, run_pure, run_look, getSl, peek_val, take_val, own_val, move_val, pureV, newV, val0, List.map_cons, List.map_nil, List.getElem?_cons_zero, List.getElem?_cons_succ, truM, pure_bind', bind_assoc', truth, tyIs, lstE, tupE, run_assert, biM, peeks, partM, List.set_cons_zero, List.set_cons_succ, run_bindSl, rowsM, itemsOf]
    refine ⟨trivial, ⟨g2, _, _, _, _, _, _, rfl, h11, w2⟩, fun d hd => ?_⟩
    rcases List.mem_append.mp hd with hd | hd
    · simp only [List.mem_cons, List.not_mem_nil, or_false] at hd
      rcases hd with rfl | rfl | rfl | rfl | rfl | rfl
      · exact ok12_jd o1
      · exact gd_jd o2
      · exact (jl gd6 (by omega)).1
      · exact (jl (fun d hd => gd6 d (hp.mem_iff.mp hd)) (by rw [hp.length_eq]; omega)).1
      · exact (jl (fun d hd => gd6 d (m1 d hd)) (by omega)).1
      · exact (jl (fun d hd => gd6 d (m2 d hd)) (by omega)).2
    · exact h10 d hd
  · rintro d rest e ⟨⟨g', p6, p7, p8, p9, p10, p11, rfl, u11, w⟩, hj⟩
    simp only [bindT, exs, ex, ev, evs, evK, evT, evU, evW, evO, evP, seqM, Rf.andM, Rf.orM, isiM, asgM, negM, revM, callE, permM, prm, consO, consK, run_bind, run_pure, run_look, getSl, peek_val, take_val, own_val, move_val, pureV, newV, val0, List.map_cons, List.map_nil, List.getElem?_cons_zero, List.getElem?_cons_succ, truM, pure_bind', bind_assoc', truth, tyIs, lstE, tupE, run_assert, biM, peeks, partM, List.set_cons_zero, List.set_cons_succ, run_bindSl, callM_run, loadArgs]
    refine ⟨rfl, g17 k d (hj d (by simp)) _ _ fun r hr => ?_⟩
    subst hr
    simp only [exs, ex, ev, evs, evK, evT, evU, evW, evO, evP, seqM, Rf.andM, Rf.orM, isiM, asgM, negM, revM, callE, permM, prm, consO, consK, run_bind, run_pure, run_look, getSl, peek_val, take_val, own_val, move_val, pureV, newV, val0, List.map_cons, List.map_nil, List.getElem?_cons_zero, List.getElem?_cons_succ, truM, pure_bind', bind_assoc', truth, tyIs, lstE, tupE, run_assert, biM, peeks, partM, List.set_cons_zero, List.set_cons_succ, run_bindSl, backArgs, Bool.not_true]
    exact ⟨⟨g', _, _, _, _, _, _, rfl, .inr ⟨_, rfl⟩, w⟩, fun y hy => hj y (List.mem_cons_of_mem _ hy)⟩
  · rintro e ⟨⟨g', p6, p7, p8, p9, p10, p11, rfl, u11, w⟩, hj⟩
    simp only [exs, ex, ev, evs, evK, evT, evU, evW, evO, evP, seqM, Rf.andM, Rf.orM, isiM, asgM, negM, revM, callE, permM, prm, consO, consK, run_bind, run_pure, run_look, getSl, peek_val, take_val, own_val, move_val, pureV, newV, val0, List.map_cons, List.map_nil, List.getElem?_cons_zero, List.getElem?_cons_succ, truM, pure_bind', bind_assoc', truth, tyIs, lstE, tupE, run_assert, biM, peeks, partM, List.set_cons_zero, List.set_cons_succ, run_bindSl]
    exact hK g' p6 p7 p8 p9 p10 p11 u11 w
end HD
end
section
set_option Elab.async false
set_option linter.all false
set_option maxRecDepth 100000
set_option maxHeartbeats 1600000
namespace HD
open PySem PySem.Spec L2 Rf
theorem b5b_run (k n : Nat) (a0 g : D) (p1 p5 p7 p10 p11 : Option Sl) (ds6 ds8 ds9 : List D) (hg : Gn (n + 52) g) (h6 : ∀ d ∈ ds6, smi d) (l6 : ds6.length ≤ 5) (h8 : ∀ d ∈ ds8, gd 1 d = true) (l8 : ds8.length ≤ 4) (m9 : ∀ d ∈ ds9, gd 1 d = true ∧ ∃ y, d = .str y) (l9 : ds9.length ≤ 4) (K : Flw → En → Prop) (x : Xc → En → Prop)
    (h11 : ok11 p11) (hK : ∀ g' p6 p7 p8 p9 p10 p11, ok11 p11 → Gn n g' → K .nx (E14 a0 p1 (some ⟨.top, g'⟩) p5 p6 p7 p8 p9 p10 p11)) :
    (exs (runL tx.ir (k + 4)) b5b).run (E14 a0 p1 (some ⟨.top, g⟩) p5 (some ⟨.top, .list ds6⟩) p7 (some ⟨.top, .list ds8⟩) (some ⟨.top, .list ds9⟩) p10 p11) K x := by
  have lz : sizeLine = 2 ^ 24 := by rw [sizeLine_eq]
  have hom9 : Hom ds9 := str_hom fun d hd => (m9 d hd).2
  have gd9 : ∀ d ∈ ds9, gd 1 d = true := fun d hd => (m9 d hd).1
  rw [e_b5b]
  unfold E14
  simp only [s10, b5b, body5, body1, ir18, exs, ex, ev, evs, evK, evT, evU, evW, evO, evP, seqM, Rf.andM, Rf.orM, isiM, asgM, negM, revM, callE, permM, prm, consO, consK, run_bind, run_pure, run_look, getSl, peek_val, take_val, own_val, move_val, pureV, newV, val0, List.map_cons, List.map_nil, List.getElem?_cons_zero, List.getElem?_cons_succ, truM, pure_bind', bind_assoc', truth, tyIs, lstE, tupE, run_assert, biM, peeks, partM, List.set_cons_zero, List.set_cons_succ, run_bindSl, take, putSl]
  refine sorted_run hom9 (by omega) fun es hp hh => ?_
  simp only [exs, ex, ev, evs, evK, evT, evU, evW, evO, evP, seqM, Rf.andM, Rf.orM, isiM, asgM, negM, revM, callE, permM, prm, consO, consK, run_bind, run_pure, run_look, getSl, peek_val, take_val, own_val, move_val, pureV, newV, val0, List.map_cons, List.map_nil, List.getElem?_cons_zero, List.getElem?_cons_succ, truM, pure_bind', bind_assoc', truth, tyIs, lstE, tupE, run_assert, biM, peeks, partM, List.set_cons_zero, List.set_cons_succ, run_bindSl, take, callM_run, loadArgs]
  refine ⟨rfl, g11 (k + 3) ds9 hom9 (by omega) gd9 _ _ fun r hr => ?_⟩
  obtain ⟨e1, rfl, m1, z1⟩ := hr
  simp only [exs, ex, ev, evs, evK, evT, evU, evW, evO, evP, seqM, Rf.andM, Rf.orM, isiM, asgM, negM, revM, callE, permM, prm, consO, consK, run_bind, run_pure, run_look, getSl, peek_val, take_val, own_val, move_val, pureV, newV, val0, List.map_cons, List.map_nil, List.getElem?_cons_zero, List.getElem?_cons_succ, truM, pure_bind', bind_assoc', truth, tyIs, lstE, tupE, run_assert, biM, peeks, partM, List.set_cons_zero, List.set_cons_succ, run_bindSl, take, backArgs, callM_run, loadArgs]
  refine ⟨rfl, g11 (k + 3) ds9 hom9 (by omega) gd9 _ _ fun r hr => ?_⟩
  obtain ⟨e2, rfl, m2, z2⟩ := hr
  simp only [exs, ex, ev, evs, evK, evT, evU, evW, evO, evP, seqM, Rf.andM, Rf.orM, isiM, asgM, negM, revM, callE, permM, prm, consO, consK, run_bind, run_pure, run_look, getSl, peek_val, take_val, own_val, move_val, pureV, newV, val0, List.map_cons, List.map_nil, List.getElem?_cons_zero, List.getElem?_cons_succ, truM, pure_bind', bind_assoc', truth, tyIs, lstE, tupE, run_assert, biM, peeks, partM, List.set_cons_zero, List.set_cons_succ, run_bindSl, take, backArgs, bi_tup, callM_run, loadArgs]
  refine ⟨rfl, g11 (k + 3) ds9 hom9 (by omega) gd9 _ _ fun r hr => ?_⟩
  obtain ⟨e3, rfl, m3, z3⟩ := hr
  simp only [exs, ex, ev, evs, evK, evT, evU, evW, evO, evP, seqM, Rf.andM, Rf.orM, isiM, asgM, negM, revM, callE, permM, prm, consO, consK, run_bind, run_pure, run_look, getSl, peek_val, take_val, own_val, move_val, pureV, newV, val0, List.map_cons, List.map_nil, List.getElem?_cons_zero, List.getElem?_cons_succ, truM, pure_bind', bind_assoc', truth, tyIs, lstE, tupE, run_assert, biM, peeks, partM, List.set_cons_zero, List.set_cons_succ, run_bindSl, take, backArgs, slM, sl_lst, callM_run, loadArgs]
  refine ⟨rfl, g11 (k + 3) ds9 hom9 (by omega) gd9 _ _ fun r hr => ?_⟩
  obtain ⟨e4, rfl, m4, z4⟩ := hr
  simp only [exs, ex, ev, evs, evK, evT, evU, evW, evO, evP, seqM, Rf.andM, Rf.orM, isiM, asgM, negM, revM, callE, permM, prm, consO, consK, run_bind, run_pure, run_look, getSl, peek_val, take_val, own_val, move_val, pureV, newV, val0, List.map_cons, List.map_nil, List.getElem?_cons_zero, List.getElem?_cons_succ, truM, pure_bind', bind_assoc', truth, tyIs, lstE, tupE, run_assert, biM, peeks, partM, List.set_cons_zero, List.set_cons_succ, run_bindSl, take, backArgs]
  refine ⟨by rw [lz]; simp, ?_⟩
  refine b5c_run k n a0 g p1 p5 p7 _ _ p11 ds6 _ hg h6 l6 (fun d hd => ?_) (by simp) K x h11 hK
  simp only [List.mem_cons, List.not_mem_nil, or_false] at hd
  rcases hd with rfl | rfl | rfl | rfl | rfl | rfl | rfl
  · exact (jl h8 (by omega)).1
  · exact (jl gd9 (by omega)).1
  · exact (jl (fun d hd => gd9 d (hp.mem_iff.mp hd)) (by rw [hp.length_eq]; omega)).1
  · exact (jl (fun d hd => gd9 d (m1 d hd)) (by omega)).1
  · exact (jl (fun d hd => gd9 d (m2 d hd)) (by omega)).2
  · exact (jl (fun d hd => gd9 d (m3 d (cut_mem hd))) (Nat.le_trans cut_len (by omega))).1
  · exact (jl (fun d hd => gd9 d (m4 d (List.mem_reverse.mp hd))) (by rw [List.length_reverse]; omega)).1
end HD
end
section
set_option Elab.async false
set_option linter.all false
set_option maxRecDepth 100000
set_option maxHeartbeats 1600000
namespace HD
open PySem PySem.Spec L2 Rf
theorem body5_run (k n : Nat) (a0 g : D) (p1 p5 p6 p7 p8 p9 p10 p11 : Option Sl) (hg : Gn (n + 100) g) (K : Flw → En → Prop) (x : Xc → En → Prop)
    (h11 : ok11 p11) (hK : ∀ g' p6 p7 p8 p9 p10 p11, ok11 p11 → Gn n g' → K .nx (E14 a0 p1 (some ⟨.top, g'⟩) p5 p6 p7 p8 p9 p10 p11)) :
    (exs (runL tx.ir (k + 4)) body5).run (E14 a0 p1 (some ⟨.top, g⟩) p5 p6 p7 p8 p9 p10 p11) K x := by
  have lz : sizeLine = 2 ^ 24 := by rw [sizeLine_eq]
  unfold E14 at hK ⊢
  rw [e_body5]
  simp only [s6, s7, s8, s9, body5, body1, ir18, exs, ex, ev, evs, evK, evT, evU, evW, evO, evP, seqM, Rf.andM, Rf.orM, isiM, asgM, negM, revM, callE, permM, prm, consO, consK, run_bind, run_pure, run_look, getSl, peek_val, take_val, own_val, move_val, pureV, newV, val0, List.map_cons, List.map_nil, List.getElem?_cons_zero, List.getElem?_cons_succ, truM, pure_bind', bind_assoc', truth, tyIs, lstE, tupE, run_assert, biM, peeks, partM, List.set_cons_zero, List.set_cons_succ, run_bindSl, take, callM_run, loadArgs, putSl]
  refine ⟨rfl, g16 k g (n + 68) (hg.mono (by omega)) _ _ fun g1 ds6 h1 h6 l6 => ?_⟩
  simp only [exs, ex, ev, evs, evK, evT, evU, evW, evO, evP, seqM, Rf.andM, Rf.orM, isiM, asgM, negM, revM, callE, permM, prm, consO, consK, run_bind, run_pure, run_look, getSl, peek_val, take_val, own_val, move_val, pureV, newV, val0, List.map_cons, List.map_nil, List.getElem?_cons_zero, List.getElem?_cons_succ, truM, pure_bind', bind_assoc', truth, tyIs, lstE, tupE, run_assert, biM, peeks, partM, List.set_cons_zero, List.set_cons_succ, run_bindSl, take, backArgs, putSl]
  repeat ((with_reducible refine And.intro ?sd ?_); (case sd => first | rfl | exact ⟨by decide, by decide +kernel⟩ | exact ⟨by decide, by decide, by decide⟩ | (rw [lz]; simp; done) | exact ⟨by decide, by simp [keyOkD]⟩))
  refine lc_run (fun rest acc e => ∃ g', e = [⟨false, some ⟨.fz, a0⟩⟩, ⟨false, p1⟩, ⟨false, none⟩, ⟨false, none⟩, ⟨false, some ⟨.top, g'⟩⟩, ⟨false, p5⟩, ⟨false, some ⟨.top, .list ds6⟩⟩, ⟨false, some ⟨.top, .list [.str ⟨#[97]⟩, .str ⟨#[98]⟩, .str ⟨#[97, 98]⟩, .str ⟨#[97, 49]⟩, .str ⟨#[122]⟩, .str ⟨#[97, 98, 99, 100, 101, 102, 103, 104]⟩, .str ⟨#[97, 98, 99, 100, 101, 102, 103, 104, 105]⟩, .str ⟨#[65]⟩, .str ⟨#[]⟩, .str ⟨#[49, 97]⟩, .int 1, .none, .str ⟨#[97, 114, 109]⟩, .str ⟨#[111, 108, 100]⟩, .str ⟨#[97, 32, 98]⟩, .str ⟨#[97, 66]⟩, .str ⟨#[97, 95, 98]⟩, .str ⟨#[97, 10]⟩]⟩⟩, ⟨false, p8⟩, ⟨false, p9⟩, ⟨false, p10⟩, ⟨false, p11⟩, ⟨false, none⟩, ⟨false, none⟩] ∧ Gn (n + 56 + 2 * rest.length) g' ∧ acc.length + rest.length ≤ 4 ∧ ∀ d ∈ acc, gd 1 d = true) ?_ ?_
  · simp only [exs, ex, ev, evs, evK, evT, evU, evW, evO, evP, seqM, Rf.andM, Rf.orM, isiM, asgM, negM, revM, callE, permM, prm, consO, consK, run_bind, run_pure, run_look, getSl, peek_val, take_val, own_val, move_val, pureV, newV, val0, List.map_cons, List.map_nil, List.getElem?_cons_zero, List.getElem?_cons_succ, truM, pure_bind', bind_assoc', truth, tyIs, lstE, tupE, run_assert, biM, peeks, partM, List.set_cons_zero, List.set_cons_succ, run_bindSl, rng1M, callM_run, loadArgs, putSl]
    refine ⟨rfl, g7 (k + 2) g1 _ (n + 66) (h1.mono (by omega)) (by omega) (by omega) _ _ fun g2 r w1 w2 w3 => ?_⟩
    simp only [exs, ex, ev, evs, evK, evT, evU, evW, evO, evP, seqM, Rf.andM, Rf.orM, isiM, asgM, negM, revM, callE, permM, prm, consO, consK, run_bind, run_pure, run_look, getSl, peek_val, take_val, own_val, move_val, pureV, newV, val0, List.map_cons, List.map_nil, List.getElem?_cons_zero, List.getElem?_cons_succ, truM, pure_bind', bind_assoc', truth, tyIs, lstE, tupE, run_assert, biM, peeks, partM, List.set_cons_zero, List.set_cons_succ, run_bindSl, backArgs, putSl, intM]
    refine ⟨⟨by omega, by omega⟩, trivial, by rw [rng_len]; omega, .inl rfl, ⟨g2, rfl, w1.mono (by rw [rng_len]; omega), by rw [rng_len]; simp; omega, by simp⟩, ?_⟩
    rintro ds8 e' ⟨g3, rfl, v1, v2, v3⟩ _
    simp only [List.length_nil] at v1 v2
    simp only [exs, ex, ev, evs, evK, evT, evU, evW, evO, evP, seqM, Rf.andM, Rf.orM, isiM, asgM, negM, revM, callE, permM, prm, consO, consK, run_bind, run_pure, run_look, getSl, peek_val, take_val, own_val, move_val, pureV, newV, val0, List.map_cons, List.map_nil, List.getElem?_cons_zero, List.getElem?_cons_succ, truM, pure_bind', bind_assoc', truth, tyIs, lstE, tupE, run_assert, biM, peeks, partM, List.set_cons_zero, List.set_cons_succ, run_bindSl, Option.getD_some]
    refine lc_pureS (i := 13) (j := 8) (rows := ds8) (p := false) (fun d => match d with | .str _ => isNm d | _ => false) (fun d => d) (.inl rfl) (by decide) rfl (fun K' hk => ?_) (by omega) (fun d hd K' hk => ?_) (fun d hd _ K' hk => ?_) ?_
    · simp only [exs, ex, ev, evs, evK, evT, evU, evW, evO, evP, seqM, Rf.andM, Rf.orM, isiM, asgM, negM, revM, callE, permM, prm, consO, consK, run_bind, run_pure, run_look, getSl, peek_val, take_val, own_val, move_val, pureV, newV, val0, List.map_cons, List.map_nil, List.getElem?_cons_zero, List.getElem?_cons_succ, truM, pure_bind', bind_assoc', truth, tyIs, lstE, tupE, run_assert, biM, peeks, partM, List.set_cons_zero, List.set_cons_succ, run_bindSl, rowsM]
      exact hk
    · cases d with
      | str y =>
        simp only [exs, ex, ev, evs, evK, evT, evU, evW, evO, evP, seqM, Rf.andM, Rf.orM, isiM, asgM, negM, revM, callE, permM, prm, consO, consK, run_bind, run_pure, run_look, getSl, peek_val, take_val, own_val, move_val, pureV, newV, val0, List.map_cons, List.map_nil, List.getElem?_cons_zero, List.getElem?_cons_succ, truM, pure_bind', bind_assoc', truth, tyIs, lstE, tupE, run_assert, biM, peeks, partM, List.set_cons_zero, List.set_cons_succ, run_bindSl, callM_run, loadArgs]
        refine ⟨rfl, g13 (k + 3) _ (gd_strF (v3 _ hd)) _ _ fun r hr => ?_⟩
        subst hr
        simp only [exs, ex, ev, evs, evK, evT, evU, evW, evO, evP, seqM, Rf.andM, Rf.orM, isiM, asgM, negM, revM, callE, permM, prm, consO, consK, run_bind, run_pure, run_look, getSl, peek_val, take_val, own_val, move_val, pureV, newV, val0, List.map_cons, List.map_nil, List.getElem?_cons_zero, List.getElem?_cons_succ, truM, pure_bind', bind_assoc', truth, tyIs, lstE, tupE, run_assert, biM, peeks, partM, List.set_cons_zero, List.set_cons_succ, run_bindSl, backArgs]
        simpa only [exs, ex, ev, evs, evK, evT, evU, evW, evO, evP, seqM, Rf.andM, Rf.orM, isiM, asgM, negM, revM, callE, permM, prm, consO, consK, run_bind, run_pure, run_look, getSl, peek_val, take_val, own_val, move_val, pureV, newV, val0, List.map_cons, List.map_nil, List.getElem?_cons_zero, List.getElem?_cons_succ, truM, pure_bind', bind_assoc', truth, tyIs, lstE, tupE, run_assert, biM, peeks, partM, List.set_cons_zero, List.set_cons_succ, run_bindSl] using hk
      | _ =>
        simp only [exs, ex, ev, evs, evK, evT, evU, evW, evO, evP, seqM, Rf.andM, Rf.orM, isiM, asgM, negM, revM, callE, permM, prm, consO, consK, run_bind, run_pure, run_look, getSl, peek_val, take_val, own_val, move_val, pureV, newV, val0, List.map_cons, List.map_nil, List.getElem?_cons_zero, List.getElem?_cons_succ, truM, pure_bind', bind_assoc', truth, tyIs, lstE, tupE, run_assert, biM, peeks, partM, List.set_cons_zero, List.set_cons_succ, run_bindSl]
        simpa only [exs, ex, ev, evs, evK, evT, evU, evW, evO, evP, seqM, Rf.andM, Rf.orM, isiM, asgM, negM, revM, callE, permM, prm, consO, consK, run_bind, run_pure, run_look, getSl, peek_val, take_val, own_val, move_val, pureV, newV, val0, List.map_cons, List.map_nil, List.getElem?_cons_zero, List.getElem?_cons_succ, truM, pure_bind', bind_assoc', truth, tyIs, lstE, tupE, run_assert, biM, peeks, partM, List.set_cons_zero, List.set_cons_succ, run_bindSl] using hk
    · simp only [exs, ex, ev, evs, evK, evT, evU, evW, evO, evP, seqM, Rf.andM, Rf.orM, isiM, asgM, negM, revM, callE, permM, prm, consO, consK, run_bind, run_pure, run_look, getSl, peek_val, take_val, own_val, move_val, pureV, newV, val0, List.map_cons, List.map_nil, List.getElem?_cons_zero, List.getElem?_cons_succ, truM, pure_bind', bind_assoc', truth, tyIs, lstE, tupE, run_assert, biM, peeks, partM, List.set_cons_zero, List.set_cons_succ, run_bindSl, take]
      simpa only [exs, ex, ev, evs, evK, evT, evU, evW, evO, evP, seqM, Rf.andM, Rf.orM, isiM, asgM, negM, revM, callE, permM, prm, consO, consK, run_bind, run_pure, run_look, getSl, peek_val, take_val, own_val, move_val, pureV, newV, val0, List.map_cons, List.map_nil, List.getElem?_cons_zero, List.getElem?_cons_succ, truM, pure_bind', bind_assoc', truth, tyIs, lstE, tupE, run_assert, biM, peeks, partM, List.set_cons_zero, List.set_cons_succ, run_bindSl] using hk
    · rw [List.map_id']
      have m9 : ∀ d ∈ ds8.filter (fun d => match d with | .str _ => isNm d | _ => false), gd 1 d = true ∧ ∃ y, d = .str y := fun d hd => by
        have h := List.mem_filter.mp hd
        refine ⟨v3 d h.1, ?_⟩
        have h2 := h.2
        cases d with
        | str y => exact ⟨y, rfl⟩
        | _ => simp at h2
      have l9 : (ds8.filter (fun d => match d with | .str _ => isNm d | _ => false)).length ≤ 4 := Nat.le_trans (List.length_filter_le _ _) (by omega)
      revert m9 l9
      generalize ds8.filter (fun d => match d with | .str _ => isNm d | _ => false) = ds9
      intro m9 l9
      simp only [exs, ex, ev, evs, evK, evT, evU, evW, evO, evP, seqM, Rf.andM, Rf.orM, isiM, asgM, negM, revM, callE, permM, prm, consO, consK, run_bind, run_pure, run_look, getSl, peek_val, take_val, own_val, move_val, pureV, newV, val0, List.map_cons, List.map_nil, List.getElem?_cons_zero, List.getElem?_cons_succ, truM, pure_bind', bind_assoc', truth, tyIs, lstE, tupE, run_assert, biM, peeks, partM, List.set_cons_zero, List.set_cons_succ, run_bindSl]
      exact b5b_run k n a0 g3 p1 p5 _ p10 p11 ds6 ds8 ds9 (v1.mono (by omega)) h6 l6 v3 (by omega) m9 l9 K x h11 hK
  · rintro d rest acc e ⟨g3, rfl, v1, v2, v3⟩
    refine ⟨rfl, ?_⟩
    simp only [List.length_cons] at v1 v2
    simp only [exs, ex, ev, evs, evK, evT, evU, evW, evO, evP, seqM, Rf.andM, Rf.orM, isiM, asgM, negM, revM, callE, permM, prm, consO, consK, run_bind, run_pure, run_look, getSl, peek_val, take_val, own_val, move_val, pureV, newV, val0, List.map_cons, List.map_nil, List.getElem?_cons_zero, List.getElem?_cons_succ, truM, pure_bind', bind_assoc', truth, tyIs, lstE, tupE, run_assert, biM, peeks, partM, List.set_cons_zero, List.set_cons_succ, run_bindSl, callM_run, loadArgs, putSl]
    refine ⟨rfl, g8 (k + 1) g3 _ .top (n + 56 + 2 * rest.length) (v1.mono (by omega)) (.inl rfl) (.inl ⟨_, rfl⟩) (by simp [menuOf]) (by simp [menuOf]) _ _ fun g4 d4 w1 w2 => ?_⟩
    simp only [exs, ex, ev, evs, evK, evT, evU, evW, evO, evP, seqM, Rf.andM, Rf.orM, isiM, asgM, negM, revM, callE, permM, prm, consO, consK, run_bind, run_pure, run_look, getSl, peek_val, take_val, own_val, move_val, pureV, newV, val0, List.map_cons, List.map_nil, List.getElem?_cons_zero, List.getElem?_cons_succ, truM, pure_bind', bind_assoc', truth, tyIs, lstE, tupE, run_assert, biM, peeks, partM, List.set_cons_zero, List.set_cons_succ, run_bindSl, backArgs, putSl, finT, take]
    refine ⟨.inr ⟨_, rfl⟩, g4, rfl, w1, by simp; omega, fun z hz => ?_⟩
    rcases List.mem_append.mp hz with hz | hz
    · exact v3 z hz
    · simp at hz; subst hz
      have all : ∀ l : List D, l.all (gd 1) = true → z ∈ l → gd 1 z = true := fun l h1 h2 => List.all_eq_true.mp h1 z h2
      exact all _ (by decide +kernel) w2
end HD
end
section
set_option Elab.async false
set_option linter.all false
set_option maxRecDepth 100000
set_option maxHeartbeats 1600000
namespace HD
open PySem PySem.Spec L2 Rf
theorem rng_mem {n : Int} {d : D} (h : d ∈ rngD 0 n) : ∃ i : Int, d = .int i ∧ 0 ≤ i ∧ i < n := by
  unfold rngD at h
  obtain ⟨i, hi, rfl⟩ := List.mem_map.mp h
  have := List.mem_range.mp hi
  exact ⟨_, rfl, by omega, by omega⟩
theorem body1_run (k : Nat) (ns : List Int) (j : Int) (hj : 0 ≤ j) (hj2 : j ≤ 2) (p4 p5 p6 p7 p8 p9 p10 p11 : Option Sl) (K : Flw → En → Prop) (x : Xc → En → Prop)
    (h11 : ok11 p11) (hK : ∀ p4 p5 p6 p7 p8 p9 p10 p11, ok11 p11 → K .nx (E14 (.list (ns.map .int)) (some ⟨.fz, .int j⟩) p4 p5 p6 p7 p8 p9 p10 p11)) :
    (exs (runL tx.ir (k + 4)) body1).run (E14 (.list (ns.map .int)) (some ⟨.fz, .int j⟩) p4 p5 p6 p7 p8 p9 p10 p11) K x := by
  rw [e_body1]
  unfold E14
  simp only [exs, ex, ev, evK, evT, evU, evW, evO, evP, seqM, Rf.andM, Rf.orM, isiM, asgM, negM, revM, prm, consK, run_bind, run_pure, run_look, getSl, peek_val, take_val, own_val, move_val, pureV, newV, val0, List.map_cons, List.map_nil, List.getElem?_cons_zero, List.getElem?_cons_succ, truM, pure_bind', bind_assoc', truth, tyIs, lstE, tupE, run_assert, biM, peeks, partM, List.set_cons_zero, List.set_cons_succ, run_bindSl]
  refine call_vals (g6 (k + 2) ns j hj hj2) rfl (fun K' hk => ?_) fun r hr => ?_
  · simpa only [exs, ex, ev, evs, evK, evT, evU, evW, evO, evP, seqM, Rf.andM, Rf.orM, isiM, asgM, negM, revM, callE, permM, prm, consO, consK, run_bind, run_pure, run_look, getSl, peek_val, take_val, own_val, move_val, pureV, newV, val0, List.map_cons, List.map_nil, List.getElem?_cons_zero, List.getElem?_cons_succ, truM, pure_bind', bind_assoc', truth, tyIs, lstE, tupE, run_assert, biM, peeks, partM, List.set_cons_zero, List.set_cons_succ, run_bindSl] using hk
  obtain ⟨g, rfl, hg⟩ := hr
  simp only [exs, ex, ev, evs, evK, evT, evU, evW, evO, evP, seqM, Rf.andM, Rf.orM, isiM, asgM, negM, revM, callE, permM, prm, consO, consK, run_bind, run_pure, run_look, getSl, peek_val, take_val, own_val, move_val, pureV, newV, val0, List.map_cons, List.map_nil, List.getElem?_cons_zero, List.getElem?_cons_succ, truM, pure_bind', bind_assoc', truth, tyIs, lstE, tupE, run_assert, biM, peeks, partM, List.set_cons_zero, List.set_cons_succ, run_bindSl]
  refine for_run (fun rest e => ∃ g p5 p6 p7 p8 p9 p10 p11, e = E14 (.list (ns.map .int)) (some ⟨.fz, .int j⟩) (some ⟨.top, g⟩) p5 p6 p7 p8 p9 p10 p11 ∧ ok11 p11 ∧ Gn (100 * rest.length) g) ?_ ?_ ?_
  · simp only [exs, ex, ev, evs, evK, evT, evU, evW, evO, evP, seqM, Rf.andM, Rf.orM, isiM, asgM, negM, revM, callE, permM, prm, consO, consK, run_bind, run_pure, run_look, getSl, peek_val, take_val, own_val, move_val, pureV, newV, val0, List.map_cons, List.map_nil, List.getElem?_cons_zero, List.getElem?_cons_succ, truM, pure_bind', bind_assoc', truth, tyIs, lstE, tupE, run_assert, biM, peeks, partM, List.set_cons_zero, List.set_cons_succ, run_bindSl, rng1M, intM]
    exact ⟨⟨by decide, by decide⟩, trivial, g, p5, p6, p7, p8, p9, p10, p11, rfl, h11, hg.mono (by rw [rng_len]; decide)⟩
  · rintro d rest e ⟨g, p5, p6, p7, p8, p9, p10, p11, rfl, u11, hg⟩
    simp only [List.length_cons] at hg
    unfold E14
    simp only [bindT, exs, ex, ev, evs, evK, evT, evU, evW, evO, evP, seqM, Rf.andM, Rf.orM, isiM, asgM, negM, revM, callE, permM, prm, consO, consK, run_bind, run_pure, run_look, getSl, peek_val, take_val, own_val, move_val, pureV, newV, val0, List.map_cons, List.map_nil, List.getElem?_cons_zero, List.getElem?_cons_succ, truM, pure_bind', bind_assoc', truth, tyIs, lstE, tupE, run_assert, biM, peeks, partM, List.set_cons_zero, List.set_cons_succ, run_bindSl]
    refine body5_run k (100 * rest.length) _ g _ _ p6 p7 p8 p9 p10 p11 (hg.mono (by omega)) _ _ u11 fun g' p6 p7 p8 p9 p10 p11 u h => ?_
    exact ⟨g', _, p6, p7, p8, p9, p10, p11, rfl, u, h⟩
  · rintro e ⟨g, p5, p6, p7, p8, p9, p10, p11, rfl, u11, hg⟩
    simp only [exs, ex, ev, evs, evK, evT, evU, evW, evO, evP, seqM, Rf.andM, Rf.orM, isiM, asgM, negM, revM, callE, permM, prm, consO, consK, run_bind, run_pure, run_look, getSl, peek_val, take_val, own_val, move_val, pureV, newV, val0, List.map_cons, List.map_nil, List.getElem?_cons_zero, List.getElem?_cons_succ, truM, pure_bind', bind_assoc', truth, tyIs, lstE, tupE, run_assert, biM, peeks, partM, List.set_cons_zero, List.set_cons_succ, run_bindSl]
    exact hK _ _ _ _ _ _ _ _ u11
end HD
end
section
set_option Elab.async false
set_option linter.all false
set_option maxRecDepth 100000
set_option maxHeartbeats 1600000
namespace HD
open PySem PySem.Spec L2 Rf
def t18a : S := match t18 with | .cons a _ => a | _ => .pass
def t18b : S := match t18 with | .cons _ (.cons a _) => a | _ => .pass
def t18c : S := match t18 with | .cons _ (.cons _ (.cons a _)) => a | _ => .pass
def t18d : S := match t18 with | .cons _ (.cons _ (.cons _ (.cons a _))) => a | _ => .pass
theorem e_t18 : t18 = .cons t18a (.cons t18b (.cons t18c (.cons t18d .nil))) := rfl
def E15 (a0 : D) (p1 p2 p3 p4 p5 p6 p7 p8 p9 p10 p11 : Option Sl) : En := [⟨false, some ⟨.fz, a0⟩⟩, ⟨false, p1⟩, ⟨false, p2⟩, ⟨false, p3⟩, ⟨false, p4⟩, ⟨false, p5⟩, ⟨false, p6⟩, ⟨false, p7⟩, ⟨false, p8⟩, ⟨false, p9⟩, ⟨false, p10⟩, ⟨false, p11⟩, ⟨false, none⟩, ⟨false, none⟩]
theorem rng60 : rngD 0 60 = (List.range 60).map fun i => PyData.int (i : Nat) := by
  unfold rngD
  show (List.range 60).map _ = _
  refine List.map_congr_left fun i _ => ?_
  rw [Int.zero_add]
/-- n10 to n69 -/
def nn : List D := (rngD 0 60).map fun d => match d with
  | .int i => .str ((⟨#[110]⟩ : Str) ++ ((toString (10 + i) : String) : Str))
  | _ => .none
theorem a_run (φ : Nat → Fn) (a0 : D) (p1 p4 p5 p6 p7 p8 p9 p10 p11 : Option Sl) (K : Flw → En → Prop) (x : Xc → En → Prop)
    (hK : K .nx (E15 a0 p1 (some ⟨.top, .list nn⟩) none p4 p5 p6 p7 p8 p9 p10 p11)) : (ex φ t18a).run (E15 a0 p1 none none p4 p5 p6 p7 p8 p9 p10 p11) K x := by
  have lz : sizeLine = 2 ^ 24 := by rw [sizeLine_eq]
  unfold E15 at hK ⊢
  simp only [t18a, t18, ir18, exs, ex, ev, evs, evK, evT, evU, evW, evO, evP, seqM, Rf.andM, Rf.orM, isiM, asgM, negM, revM, callE, permM, prm, consO, consK, run_bind, run_pure, run_look, getSl, peek_val, take_val, own_val, move_val, pureV, newV, val0, List.map_cons, List.map_nil, List.getElem?_cons_zero, List.getElem?_cons_succ, truM, pure_bind', bind_assoc', truth, tyIs, lstE, tupE, run_assert, biM, peeks, partM, List.set_cons_zero, List.set_cons_succ, run_bindSl]
  refine lc_pure (rows := rngD 0 60) (fun _ => true) (fun d => match d with
    | .int i => .str ((⟨#[110]⟩ : Str) ++ ((toString (10 + i) : String) : Str))
    | _ => .none) (.inl rfl) (fun K' hk => ?_) (by rw [rng_len, lz]; decide) (fun d hd K' hk => ?_) (fun d hd _ K' hk => ?_) ?_
  · simp only [exs, ex, ev, evs, evK, evT, evU, evW, evO, evP, seqM, Rf.andM, Rf.orM, isiM, asgM, negM, revM, callE, permM, prm, consO, consK, run_bind, run_pure, run_look, getSl, peek_val, take_val, own_val, move_val, pureV, newV, val0, List.map_cons, List.map_nil, List.getElem?_cons_zero, List.getElem?_cons_succ, truM, pure_bind', bind_assoc', truth, tyIs, lstE, tupE, run_assert, biM, peeks, partM, List.set_cons_zero, List.set_cons_succ, run_bindSl, rng1M, intM]
    exact ⟨⟨by decide, by decide⟩, hk⟩
  · simpa only [exs, ex, ev, evs, evK, evT, evU, evW, evO, evP, seqM, Rf.andM, Rf.orM, isiM, asgM, negM, revM, callE, permM, prm, consO, consK, run_bind, run_pure, run_look, getSl, peek_val, take_val, own_val, move_val, pureV, newV, val0, List.map_cons, List.map_nil, List.getElem?_cons_zero, List.getElem?_cons_succ, truM, pure_bind', bind_assoc', truth, tyIs, lstE, tupE, run_assert, biM, peeks, partM, List.set_cons_zero, List.set_cons_succ, run_bindSl] using hk
  · obtain ⟨i, rfl, h1, h2⟩ := rng_mem hd
    simp only [exs, ex, ev, evs, evK, evT, evU, evW, evO, evP, seqM, Rf.andM, Rf.orM, isiM, asgM, negM, revM, callE, permM, prm, consO, consK, run_bind, run_pure, run_look, getSl, peek_val, take_val, own_val, move_val, pureV, newV, val0, List.map_cons, List.map_nil, List.getElem?_cons_zero, List.getElem?_cons_succ, truM, pure_bind', bind_assoc', truth, tyIs, lstE, tupE, run_assert, biM, peeks, partM, List.set_cons_zero, List.set_cons_succ, run_bindSl, bopM, bop, biD, take]
    have b : Bt 7 (10 + i) := by unfold Bt; omega
    refine ⟨by have := b.lg; omega, ?_, hk⟩
    have q := PyData.shown_int_le (i := 10 + i) (by omega)
    have q2 : (((toString (10 + i) : String) : Str)).length ≤ 13 := q
    show 1 + _ ≤ _
    omega
  · rw [filt_t]
    simp only [exs, ex, ev, evs, evK, evT, evU, evW, evO, evP, seqM, Rf.andM, Rf.orM, isiM, asgM, negM, revM, callE, permM, prm, consO, consK, run_bind, run_pure, run_look, getSl, peek_val, take_val, own_val, move_val, pureV, newV, val0, List.map_cons, List.map_nil, List.getElem?_cons_zero, List.getElem?_cons_succ, truM, pure_bind', bind_assoc', truth, tyIs, lstE, tupE, run_assert, biM, peeks, partM, List.set_cons_zero, List.set_cons_succ, run_bindSl]
    exact hK
end HD
end
section
set_option Elab.async false
set_option linter.all false
set_option maxRecDepth 100000
set_option maxHeartbeats 1600000
namespace HD
open PySem PySem.Spec L2 Rf
theorem lc_pureX {i : Nat} {mi : M Rw} {ts : M Bool} {me : M Opd} {e0 : En} (e : En) {K : List D → En → Prop} {x : Xc → En → Prop} (rows : List D) (f : D → D) (he : wpb e i)
    (hm : ∀ K', K' ⟨none, rows⟩ e → mi.run e0 K' x) (hz : rows.length ≤ sizeLine)
    (ht : ∀ d ∈ rows, ∀ K', K' true (e.set i ⟨false, some ⟨.fz, d⟩⟩) → ts.run (e.set i ⟨false, some ⟨.fz, d⟩⟩) K' x)
    (hf : ∀ d ∈ rows, ∀ K', K' (f d) (e.set i ⟨false, some ⟨.fz, d⟩⟩) → (me >>= take).run (e.set i ⟨false, some ⟨.fz, d⟩⟩) K' x)
    (hK : K (rows.map f) e) : (lcM [i] mi (bindT (.nm i)) ts me).run e0 K x := by
  have hl := wpb_lt he
  have es : ∀ a : Slt, (e.set i ⟨false, none⟩).set i a = e.set i a := fun a => by rw [List.set_set]
  refine lc_run (fun rest acc e' => e' = e.set i ⟨false, none⟩ ∧ (∀ d ∈ rest, d ∈ rows) ∧ acc ++ rest.map f = rows.map f) (hm _ ⟨rfl, hz, he, ⟨rfl, fun _ h => h, by simp⟩, fun ds e' g w => ?_⟩) fun d rest acc e' g => ?_
  · obtain ⟨rfl, _, h⟩ := g
    have h : ds = rows.map f := by simpa using h
    subst h
    rw [es, List.getElem?_eq_getElem hl]
    have : e.set i e[i] = e := List.set_getElem_self hl
    show K _ (e.set i e[i])
    rw [this]
    exact hK
  · obtain ⟨rfl, h1, h2⟩ := g
    refine ⟨List.getElem?_set_self hl, ?_⟩
    rw [es]
    have hd := h1 d (by simp)
    refine ht d hd _ ?_
    have w : wpb (e.set i ⟨false, some ⟨.fz, d⟩⟩) i := .inr ⟨d, List.getElem?_set_self hl⟩
    have e2 : (e.set i (⟨false, some ⟨.fz, d⟩⟩ : Slt)).set i ⟨false, none⟩ = e.set i ⟨false, none⟩ := by rw [List.set_set]
    exact hf d hd _ ⟨w, e2, fun y hy => h1 y (List.mem_cons_of_mem _ hy), by rw [← h2]; simp⟩
theorem nn_ok : nn.all (gd 1) = true := by decide +kernel
theorem nn_len : nn.length = 60 := by simp [nn, rngD]
theorem atn (ds : List D) (n : Nat) (h : n < ds.length) : ∃ d, atI ds (n : Int) = some d ∧ d ∈ ds := ⟨ds[n], atI_nat h, List.getElem_mem h⟩
def wkB : Wk := match t18b with | .asg _ (.lc _ _ w _ _) => w | _ => .nev
theorem e_t18b : t18b = .asg 3 (.lc [11] (.nm 11) wkB .no (.call 17 1 (.cons (.var 11) .nil))) := rfl
def wL : Es := match wkB with | .e (.lst l) => l | _ => .nil
theorem e_wkB : wkB = .e (.lst wL) := rfl
def x2 : E := match wL with | .cons _ (.cons a _) => a | _ => .nev
def x3 : E := match wL with | .cons _ (.cons _ (.cons a _)) => a | _ => .nev
def x4 : E := match wL with | .cons _ (.cons _ (.cons _ (.cons a _))) => a | _ => .nev
theorem e_wL : wL = .cons (.var 2) (.cons x2 (.cons x3 (.cons x4 .nil))) := rfl
theorem x2_run {φ : Nat → Fn} {e : En} {l : List D} {a b : D} (he : getSl e 2 = some ⟨.fz, .list l⟩) (ha : atI l 59 = some a) (hb : atI l 58 = some b) (hl : l.length ≤ 1000) {K : Opd → En → Prop} {x : Xc → En → Prop} (hK : K (.val ⟨.top, .list (cutD l none (some 58) ++ [a, b])⟩) e) : (ev φ x2).run e K x := by
  have lz : sizeLine = 2 ^ 24 := by rw [sizeLine_eq]
  have z : (cutD l none (some 58)).length ≤ l.length := cut_len
  have e0 : x2 = .bin .add (.sl (.var 2) .no (.some (.c (.int 58)))) (.lst (.cons (.ix (.var 2) (.c (.int 59))) (.cons (.ix (.var 2) (.c (.int 58))) .nil))) := rfl
  rw [e0]
  simp only [ev, evK, evO, lstE, consK, run_bind, run_pure, look_fz he, partM, pureV, newV, val0, peek_val, take_val, slM, sl_lst, ixO, ixM, ha, hb, bopM, bop, run_assert, pure_bind', bind_assoc']
  exact ⟨by rw [lz]; simp, by rw [lz]; simp; omega, hK⟩
theorem x3_run {φ : Nat → Fn} {e : En} {l : List D} {b : D} (he : getSl e 2 = some ⟨.fz, .list l⟩) (hb : atI l 58 = some b) (hl : l.length ≤ 1000) {K : Opd → En → Prop} {x : Xc → En → Prop} (hK : K (.val ⟨.top, .list (cutD l none (some 59) ++ [b])⟩) e) : (ev φ x3).run e K x := by
  have lz : sizeLine = 2 ^ 24 := by rw [sizeLine_eq]
  have z : (cutD l none (some 59)).length ≤ l.length := cut_len
  have e0 : x3 = .bin .add (.sl (.var 2) .no (.some (.c (.int 59)))) (.lst (.cons (.ix (.var 2) (.c (.int 58))) .nil)) := rfl
  rw [e0]
  simp only [ev, evK, evO, lstE, consK, run_bind, run_pure, look_fz he, partM, pureV, newV, val0, peek_val, take_val, slM, sl_lst, ixO, ixM, hb, bopM, bop, run_assert, pure_bind', bind_assoc']
  exact ⟨by rw [lz]; simp, by rw [lz]; simp; omega, hK⟩
theorem x4_run {φ : Nat → Fn} {e : En} {l : List D} (he : getSl e 2 = some ⟨.fz, .list l⟩) (hl : l.length ≤ 1000) {K : Opd → En → Prop} {x : Xc → En → Prop} (hK : K (.val ⟨.top, .list (l ++ [.str ⟨#[65]⟩])⟩) e) : (ev φ x4).run e K x := by
  have lz : sizeLine = 2 ^ 24 := by rw [sizeLine_eq]
  have e0 : x4 = .bin .add (.var 2) (.lst (.cons (.c (.str ⟨#[65]⟩)) .nil)) := rfl
  rw [e0]
  simp only [ev, evK, evO, lstE, consK, run_bind, run_pure, look_fz he, pureV, newV, val0, peek_val, take_val, bopM, bop, run_assert, pure_bind', bind_assoc']
  exact ⟨by rw [lz]; simp, by rw [lz]; simp; omega, hK⟩
def rowsB (l : List D) (a b : D) : List D := [.list l, .list (cutD l none (some 58) ++ [a, b]), .list (cutD l none (some 59) ++ [b]), .list (l ++ [.str ⟨#[65]⟩])]
theorem wB_run {φ : Nat → Fn} {l : List D} {a b : D} (a0 : D) (p1 p3 p4 p5 p6 p7 p8 p9 p10 p11 : Option Sl) (ha : atI l 59 = some a) (hb : atI l 58 = some b) (hl : l.length ≤ 1000) {K : Rw → En → Prop} {x : Xc → En → Prop} (hK : K ⟨none, rowsB l a b⟩ (E15 a0 p1 (some ⟨.fz, .list l⟩) p3 p4 p5 p6 p7 p8 p9 p10 p11)) :
    (evW φ wkB).run (E15 a0 p1 (some ⟨.top, .list l⟩) p3 p4 p5 p6 p7 p8 p9 p10 p11) K x := by
  have lz : sizeLine = 2 ^ 24 := by rw [sizeLine_eq]
  have he : getSl (E15 a0 p1 (some ⟨.fz, .list l⟩) p3 p4 p5 p6 p7 p8 p9 p10 p11) 2 = some ⟨.fz, .list l⟩ := rfl
  rw [e_wkB, e_wL]
  simp only [evW, ev, evK, lstE, consK, run_bind, pure_bind', bind_assoc']
  show (ev φ x2).run (E15 a0 p1 (some ⟨.fz, .list l⟩) p3 p4 p5 p6 p7 p8 p9 p10 p11) _ _
  refine x2_run he ha hb hl ?_
  simp only [run_bind, take_val, run_pure]
  refine x3_run he hb hl ?_
  simp only [run_bind, take_val, run_pure]
  refine x4_run he hl ?_
  simp only [run_bind, take_val, run_pure, run_assert, newV, rowsM, itemsOf]
  exact ⟨by rw [lz]; simp, hK⟩
theorem b_run (k : Nat) (a0 : D) (p1 p4 p5 p6 p7 p8 p9 p10 p11 : Option Sl) (hp : p11 = none ∨ ∃ d, p11 = some ⟨.fz, d⟩) (K : Flw → En → Prop) (x : Xc → En → Prop)
    (hK : ∀ p2, K .nx (E15 a0 p1 p2 (some ⟨.top, .list [.bool true, .bool true, .bool true, .bool true]⟩) p4 p5 p6 p7 p8 p9 p10 p11)) : (ex (runL tx.ir (k + 4)) t18b).run (E15 a0 p1 (some ⟨.top, .list nn⟩) none p4 p5 p6 p7 p8 p9 p10 p11) K x := by
  have lz : sizeLine = 2 ^ 24 := by rw [sizeLine_eq]
  have nl := nn_len
  have ng : ∀ d ∈ nn, gd 1 d = true := List.all_eq_true.mp nn_ok
  have hK2 := hK (some ⟨.fz, .list nn⟩)
  clear hK
  revert hK2
  revert nl
  revert ng
  generalize nn = l
  intro ng nl hK2
  obtain ⟨d58, u1, u2⟩ := atn l 58 (by omega)
  obtain ⟨d59, u3, u4⟩ := atn l 59 (by omega)
  have z58 : (cutD l none (some 58)).length ≤ l.length := cut_len
  have z59 : (cutD l none (some 59)).length ≤ l.length := cut_len
  rw [e_t18b]
  simp only [ex, ev, evU, asgM, run_bind, bind_assoc', pure_bind']
  refine lc_pureX (E15 a0 p1 (some ⟨.fz, .list l⟩) none p4 p5 p6 p7 p8 p9 p10 p11) (rowsB l d59 d58) (fun _ => .bool true) ?_ (fun K' hk => wB_run a0 p1 none p4 p5 p6 p7 p8 p9 p10 p11 u3 u1 (by omega) hk) (by rw [lz]; simp [rowsB]) (fun d hd K' hk => ?_) (fun d hd K' hk => ?_) ?_
  · rcases hp with rfl | ⟨d, rfl⟩
    · exact .inl rfl
    · exact .inr ⟨d, rfl⟩
  · simpa only [run_pure] using hk
  · have jd : Jd d := by
      simp only [rowsB, List.mem_cons, List.not_mem_nil, or_false] at hd
      rcases hd with rfl | rfl | rfl | rfl
      · exact (jl ng (by omega)).1
      · refine (jl (fun y hy => ?_) (by simp; omega)).1
        rcases List.mem_append.mp hy with hy | hy
        · exact ng y (cut_mem hy)
        · simp at hy; rcases hy with rfl | rfl
          · exact ng _ u4
          · exact ng _ u2
      · refine (jl (fun y hy => ?_) (by simp; omega)).1
        rcases List.mem_append.mp hy with hy | hy
        · exact ng y (cut_mem hy)
        · simp at hy; subst hy
          exact ng _ u2
      · refine (jl (fun y hy => ?_) (by simp; omega)).1
        rcases List.mem_append.mp hy with hy | hy
        · exact ng y hy
        · simp at hy; subst hy
          decide +kernel
    simp only [run_bind]
    refine call_vals (g17 k d jd) rfl (fun K' hk => ?_) fun r hr => ?_
    · unfold E15
      simp only [exs, ex, ev, evs, evK, evT, evU, evW, evO, evP, seqM, Rf.andM, Rf.orM, isiM, asgM, negM, revM, callE, permM, prm, consO, consK, run_bind, run_pure, run_look, getSl, peek_val, take_val, own_val, move_val, pureV, newV, val0, List.map_cons, List.map_nil, List.getElem?_cons_zero, List.getElem?_cons_succ, truM, pure_bind', bind_assoc', truth, tyIs, lstE, tupE, run_assert, biM, peeks, partM, List.set_cons_zero, List.set_cons_succ, run_bindSl]
      exact hk
    · subst hr
      simp only [take_val, run_pure]
      exact hk
  · simp only [run_pure, newV, own_val, run_bindSl]
    exact hK2
theorem d_run (φ : Nat → Fn) (a0 : D) (l : List D) (hl : l.all (fun d => match d with | .bool true => true | _ => false) = true) (p1 p2 p4 p5 p6 p7 p8 p9 p10 p11 : Option Sl) (K : Flw → En → Prop) (x : Xc → En → Prop)
    (hK : K (.rt ⟨.fz, .bool true⟩) (E15 a0 p1 p2 (some ⟨.top, .list l⟩) p4 p5 p6 p7 p8 p9 p10 p11)) : (ex φ t18d).run (E15 a0 p1 p2 (some ⟨.top, .list l⟩) p4 p5 p6 p7 p8 p9 p10 p11) K x := by
  have hb : ∀ d ∈ l, d = .bool true := fun d hd => by
    have := List.all_eq_true.mp hl d hd
    split at this
    · rfl
    · cases this
  unfold E15 at hK ⊢
  simp only [t18d, t18, ir18, exs, ex, ev, evs, evK, evT, evU, evW, evO, evP, seqM, Rf.andM, Rf.orM, isiM, asgM, negM, revM, callE, permM, prm, consO, consK, run_bind, run_pure, run_look, getSl, peek_val, take_val, own_val, move_val, pureV, newV, val0, List.map_cons, List.map_nil, List.getElem?_cons_zero, List.getElem?_cons_succ, truM, pure_bind', bind_assoc', truth, tyIs, lstE, tupE, run_assert, biM, peeks, partM, List.set_cons_zero, List.set_cons_succ, run_bindSl, copB, cop, inM, peek]
  refine ⟨⟨rfl, shap_list fun d hd => by rw [hb d hd]; exact ⟨rfl, by decide⟩⟩, ?_⟩
  have e : (l.any fun z => PyData.eqv z (.bool false)) = false := by
    rw [List.any_eq_false]
    intro d hd
    rw [hb d hd]
    simp [PyData.eqv]
  rw [e]
  exact hK
end HD
end
section
set_option Elab.async false
set_option linter.all false
set_option maxRecDepth 100000
set_option maxHeartbeats 1600000
namespace HD
open PySem PySem.Spec L2 Rf
def wkC : Wk := match t18c with | .asg _ (.bin _ _ (.lc _ _ w _ _)) => w | _ => .nev
theorem e_t18c : t18c = .asg 3 (.bin .add (.var 3) (.lc [11] (.nm 11) wkC .no (.call 17 1 (.cons (.var 11) .nil)))) := rfl
def rowsC : List D := [.list [.int 0, .str ⟨#[97]⟩], .list [.str ⟨#[97]⟩, .int 0], .list [.none, .int 0], .list [.int 0, .list [.int 1]], .int 0, .int ((10 : Int) ^ Int.toNat 12), .bool true, .int (-1), .str (Txt.mul ⟨#[97]⟩ 8), .str (Txt.mul ⟨#[97]⟩ 9), .str ⟨#[97, 48]⟩, .str ⟨#[48, 97]⟩, .list [], .list [.int 0], .list [.int 0, .int ((10 : Int) ^ Int.toNat 12)], .list [.bool true], .list [.int 1, .int 1], .list [.int 2, .int 1]]
theorem rowsC_ok : rowsC.all (gd 2) = true := by decide +kernel
theorem wkC_run {φ : Nat → Fn} {e : En} {K : Rw → En → Prop} {x : Xc → En → Prop} (hK : K ⟨none, rowsC⟩ e) : (evW φ wkC).run e K x := by
  have lz : sizeLine = 2 ^ 24 := by rw [sizeLine_eq]
  simp only [wkC, t18c, t18, ir18, evW, ev, evK, lstE, consK, negM, run_bind, run_pure, take_val, peek_val, pureV, newV, val0, bopM, bop, run_assert, pure_bind', bind_assoc']
  repeat ((with_reducible refine And.intro ?sd ?_); (case sd => first | rfl | exact ⟨by decide, by decide +kernel⟩ | exact ⟨by decide, by decide, by decide⟩ | (rw [lz]; simp; done) | exact ⟨by decide, by simp [keyOkD]⟩))
  simp only [run_pure, rowsM, itemsOf]
  exact hK
theorem c_run (k : Nat) (a0 : D) (l : List D) (hl : l.length ≤ 100) (p1 p2 p4 p5 p6 p7 p8 p9 p10 p11 : Option Sl) (hp : p11 = none ∨ ∃ d, p11 = some ⟨.fz, d⟩) (K : Flw → En → Prop) (x : Xc → En → Prop)
    (hK : K .nx (E15 a0 p1 p2 (some ⟨.top, .list (l ++ rowsC.map fun _ => .bool true)⟩) p4 p5 p6 p7 p8 p9 p10 p11)) : (ex (runL tx.ir (k + 4)) t18c).run (E15 a0 p1 p2 (some ⟨.top, .list l⟩) p4 p5 p6 p7 p8 p9 p10 p11) K x := by
  have lz : sizeLine = 2 ^ 24 := by rw [sizeLine_eq]
  have rl : rowsC.length = 18 := rfl
  rw [e_t18c]
  simp only [ex, ev, evU, asgM, run_bind, bind_assoc', pure_bind']
  show (lcM [11] (evW (runL tx.ir (k + 4)) wkC) (bindT (.nm 11)) (pure true) (callE (runL tx.ir (k + 4) 17) 1 (evs (runL tx.ir (k + 4)) (.cons (.var 11) .nil)))).run (E15 a0 p1 p2 (some ⟨.top, .list l⟩) p4 p5 p6 p7 p8 p9 p10 p11) _ _
  have ok := List.all_eq_true.mp rowsC_ok
  revert ok rl
  have hW : ∀ (K : Rw → En → Prop) (x : Xc → En → Prop) (e : En), K ⟨none, rowsC⟩ e → (evW (runL tx.ir (k + 4)) wkC).run e K x := fun K x e h => wkC_run h
  revert hW hK
  generalize rowsC = rs
  intro hK hW rl ok
  refine lc_pureX (E15 a0 p1 p2 (some ⟨.top, .list l⟩) p4 p5 p6 p7 p8 p9 p10 p11) rs (fun _ => .bool true) ?_ (fun K' hk => hW _ _ _ hk) (by rw [lz]; omega) (fun d hd K' hk => ?_) (fun d hd K' hk => ?_) ?_
  · rcases hp with rfl | ⟨d, rfl⟩
    · exact .inl rfl
    · exact .inr ⟨d, rfl⟩
  · simpa only [run_pure] using hk
  · have jd : Jd d := gd_jd (ok d hd)
    simp only [run_bind]
    refine call_vals (g17 k d jd) rfl (fun K' hk => ?_) fun r hr => ?_
    · unfold E15
      simp only [exs, ex, ev, evs, evK, evT, evU, evW, evO, evP, seqM, Rf.andM, Rf.orM, isiM, asgM, negM, revM, callE, permM, prm, consO, consK, run_bind, run_pure, run_look, getSl, peek_val, take_val, own_val, move_val, pureV, newV, val0, List.map_cons, List.map_nil, List.getElem?_cons_zero, List.getElem?_cons_succ, truM, pure_bind', bind_assoc', truth, tyIs, lstE, tupE, run_assert, biM, peeks, partM, List.set_cons_zero, List.set_cons_succ, run_bindSl]
      exact hk
    · subst hr
      simp only [take_val, run_pure]
      exact hk
  · unfold E15 at hK ⊢
    simp only [exs, ex, ev, evs, evK, evT, evU, evW, evO, evP, seqM, Rf.andM, Rf.orM, isiM, asgM, negM, revM, callE, permM, prm, consO, consK, run_bind, run_pure, run_look, getSl, peek_val, take_val, own_val, move_val, pureV, newV, val0, List.map_cons, List.map_nil, List.getElem?_cons_zero, List.getElem?_cons_succ, truM, pure_bind', bind_assoc', truth, tyIs, lstE, tupE, run_assert, biM, peeks, partM, List.set_cons_zero, List.set_cons_succ, run_bindSl, bopM, peek, bop]
    refine ⟨by simp only [List.length_map]; rw [lz]; omega, ?_⟩
    exact hK
end HD
end
section
set_option Elab.async false
set_option linter.all false
set_option maxRecDepth 100000
set_option maxHeartbeats 1600000
namespace HD
open PySem PySem.Spec L2 Rf
theorem t18_run (k : Nat) (a0 : D) (p1 p4 p5 p6 p7 p8 p9 p10 p11 : Option Sl) (hp : ok11 p11) (K : Flw → En → Prop) (x : Xc → En → Prop)
    (hK : ∀ e, e[0]? = some (⟨false, some ⟨.fz, a0⟩⟩ : Slt) → K (.rt ⟨.fz, .bool true⟩) e) : (exs (runL tx.ir (k + 4)) t18).run (E15 a0 p1 none none p4 p5 p6 p7 p8 p9 p10 p11) K x := by
  rw [e_t18]
  simp only [exs, seqM, run_bind]
  refine a_run _ a0 p1 p4 p5 p6 p7 p8 p9 p10 p11 _ _ ?_
  simp only [run_bind]
  refine b_run k a0 p1 p4 p5 p6 p7 p8 p9 p10 p11 hp _ _ fun p2 => ?_
  simp only [run_bind]
  refine c_run k a0 _ (by simp) p1 p2 p4 p5 p6 p7 p8 p9 p10 p11 hp _ _ ?_
  simp only [run_bind]
  refine d_run _ a0 _ (by decide +kernel) p1 p2 p4 p5 p6 p7 p8 p9 p10 p11 _ _ ?_
  simp only [run_pure]
  exact hK _ rfl
end HD
end
section
set_option Elab.async false
set_option linter.all false
set_option maxRecDepth 100000
set_option maxHeartbeats 800000
namespace HD
open PySem PySem.Spec L2 Rf
theorem g18 (k : Nat) (ns : List Int) : Gives (runL tx.ir (k + 5) 18) [.list (ns.map .int)] (fun r => r.d = .bool true) := by
  intro K x hK
  rw [runL_eq ir_18, fnOf_run]
  refine ⟨rfl, ?_⟩
  have e0 : initEn ([.list (ns.map .int)].map fun d => (⟨.fz, d⟩ : Sl)) 14 = E14 (.list (ns.map .int)) none none none none none none none none none := rfl
  rw [e0]
  rw [e18]
  simp only [exs, seqM, run_bind]
  have e1 : ex (runL tx.ir (k + 4)) (.for_ (.nm 1) (.rng1 (.c (.int 3))) body1) = forM (evW (runL tx.ir (k + 4)) (.rng1 (.c (.int 3)))) (bindT (.nm 1)) (exs (runL tx.ir (k + 4)) body1) := rfl
  rw [e1]
  have fin : ∀ e : En, e[0]? = some (⟨false, some ⟨.fz, .list (ns.map .int)⟩⟩ : Slt) → K (finsOf 1 e) ⟨.fz, .bool true⟩ := fun e he => by
    cases e with
    | nil => simp at he
    | cons a e =>
      simp only [List.getElem?_cons_zero, Option.some.injEq] at he
      subst he
      exact hK _ rfl
  refine for_run (fun rest e => (∃ p1 p4 p5 p6 p7 p8 p9 p10 p11, e = E14 (.list (ns.map .int)) p1 p4 p5 p6 p7 p8 p9 p10 p11 ∧ ok11 p11) ∧ ∀ d ∈ rest, ∃ i : Int, d = .int i ∧ 0 ≤ i ∧ i < 3) ?_ ?_ ?_
  · simp only [exs, ex, ev, evs, evK, evT, evU, evW, evO, evP, seqM, Rf.andM, Rf.orM, isiM, asgM, negM, revM, callE, permM, prm, consO, consK, run_bind, run_pure, run_look, getSl, peek_val, take_val, own_val, move_val, pureV, newV, val0, List.map_cons, List.map_nil, List.getElem?_cons_zero, List.getElem?_cons_succ, truM, pure_bind', bind_assoc', truth, tyIs, lstE, tupE, run_assert, biM, peeks, partM, List.set_cons_zero, List.set_cons_succ, run_bindSl, rng1M, intM]
    exact ⟨⟨by decide, by decide⟩, trivial, ⟨none, none, none, none, none, none, none, none, none, rfl, .inl rfl⟩, fun d hd => rng_mem hd⟩
  · rintro d rest e ⟨⟨p1, p4, p5, p6, p7, p8, p9, p10, p11, rfl, u⟩, h⟩
    obtain ⟨j, rfl, j1, j2⟩ := h d (by simp)
    have e2 : ∀ K' x', (bindT (.nm 1) (.int j) >>= fun _ => exs (runL tx.ir (k + 4)) body1).run (E14 (.list (ns.map .int)) p1 p4 p5 p6 p7 p8 p9 p10 p11) K' x' = (exs (runL tx.ir (k + 4)) body1).run (E14 (.list (ns.map .int)) (some ⟨.fz, .int j⟩) p4 p5 p6 p7 p8 p9 p10 p11) K' x' := fun _ _ => rfl
    rw [e2]
    refine body1_run k ns j j1 (by omega) p4 p5 p6 p7 p8 p9 p10 p11 _ _ u fun p4 p5 p6 p7 p8 p9 p10 p11 u => ?_
    exact ⟨⟨_, p4, p5, p6, p7, p8, p9, p10, p11, rfl, u⟩, fun y hy => h y (List.mem_cons_of_mem _ hy)⟩
  · rintro e ⟨⟨p1, p4, p5, p6, p7, p8, p9, p10, p11, rfl, u⟩, h⟩
    dsimp only
    have e3 : E14 (.list (ns.map .int)) p1 p4 p5 p6 p7 p8 p9 p10 p11 = E15 (.list (ns.map .int)) p1 none none p4 p5 p6 p7 p8 p9 p10 p11 := rfl
    rw [e3]
    refine t18_run k _ p1 p4 p5 p6 p7 p8 p9 p10 p11 u _ _ ?_
    dsimp only
    exact fin
end HD
end
set_option Elab.async false
set_option linter.all false
set_option maxRecDepth 100000
set_option maxHeartbeats 0
namespace HD
open PySem PySem.Spec PyProof.Rows L2
theorem run (w : World) : HandSHeadRun.RunEq R (PySem.W.view R.prog [23]) hk ob 2000 loose w := by
  intro os
  kernel_rfl
end HD
open PySem PySem.W PySem.Calls PyProof.Rows
theorem PySem.Challenge.cw_escapehall_k01_names_and_lots_of_names_holds : PySem.Challenge.rw_escapehall_k01_names_and_lots_of_names.Holds := by
  w_on; o_law
  refine HandSHeadRun.head_any (r := OpenLaw.row PySem.Challenge.rw_escapehall_k01_names_and_lots_of_names) (q := view (OpenLaw.row PySem.Challenge.rw_escapehall_k01_names_and_lots_of_names).prog [23]) (H := HD.hk) (ob := HD.ob) (M := 2000) (loose := HD.loose) (d := HandSHeadRun.topDef (OpenLaw.row PySem.Challenge.rw_escapehall_k01_names_and_lots_of_names).prog 23) (kwd := []) HD.ob_eq
    (by kernel_rfl) (fun s => by kernel_rfl) HD.run (by kernel_rfl) (by kernel_rfl) (by kernel_rfl) (by rfl) (by first | assumption | decide +kernel) (by decide +kernel) ⟨rfl, rfl, rfl, rfl, rfl, by decide +kernel⟩ ?hw ?hc
  case hw => w_witness2
  case hc =>
    refine Rf.walk_tx (l := PySem.Challenge.rw_escapehall_k01_names_and_lots_of_names) (n := 63) (kk := 40) (i := 18) (t := HD.tx) (x := "script") (dl := HD.tx.fs[18]) rfl (by rw [sizeLine_eq]; decide) (by kernel_rfl) ⟨rfl, by decide, by decide⟩ (by kernel_rfl) ?hT HD.binds rfl (by kernel_rfl) (by kernel_rfl) ?plain
    case hT =>
      intro w h mg Y G
      obtain ⟨K, KX, c⟩ := Y
      exact ⟨K, KX, HD.facts c KX G⟩
    case plain =>
      intro ns _ _
      exact HD.g18 35 ns _ _ fun r hr => hr
